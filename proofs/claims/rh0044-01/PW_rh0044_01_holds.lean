import PyProof.Rows.All
import Wide.All
import OpenK.AllK
import Wide.FinOn
import KE.KLam
import KE.KNestM
import Lean
import PySem.Challenge.RW_rh0044_01
set_option Elab.async false

section
open PySem
namespace Mine
noncomputable section

/-! values, store, results -/
inductive AV where
  | int (i : Int)
  | boo (b : Bool)
  | str (k : Nat)
  | non
  | tup (l : List AV)
  | ref (k : Nat)
  | rng (a b : Int)
inductive O where
  | list (l : List AV)
  | cell (v : Option AV)
structure Store where
  n : Nat
  l : List O
inductive R (α : Type) where
  | ok (a : α) (σ : Store)
  /-- CasFail, its kind by number -/
  | ex (k : Nat) (σ : Store)
  | bad

/-! the kernel's own order: what is handed on is reckoned first -/
noncomputable def fN {β : Type} (n : Nat) (k : Nat → β) : β := Nat.rec (motive := fun _ => β) (k 0) (fun m _ => k (Nat.succ m)) n
noncomputable def fI {β : Type} (i : Int) (k : Int → β) : β := Int.rec (motive := fun _ => β) (fun n => fN n fun n => k (.ofNat n)) (fun n => fN n fun n => k (.negSucc n)) i
noncomputable def fL {α β : Type} (l : List α) : (List α → β) → β := List.rec (motive := fun _ => (List α → β) → β) (fun k => k []) (fun x _ ih k => ih fun r => k (x :: r)) l
theorem fN_eq {β : Type} (n : Nat) (k : Nat → β) : fN n k = k n := by cases n <;> rfl
theorem fI_eq {β : Type} (i : Int) (k : Int → β) : fI i k = k i := by
  cases i with
  | ofNat n => exact fN_eq n fun n => k (.ofNat n)
  | negSucc n => exact fN_eq n fun n => k (.negSucc n)
theorem fL_eq {α β : Type} (l : List α) (k : List α → β) : fL l k = k l := by
  induction l generalizing k with
  | nil => rfl
  | cons x r ih => exact ih _

noncomputable def ifB {β : Type} (b : Bool) (t f : β) : β := Bool.rec (motive := fun _ => β) f t b
noncomputable def onO {α β : Type} (o : Option α) (n : β) (k : α → β) : β := Option.rec (motive := fun _ => β) n k o
noncomputable def R.bind {α β : Type} (r : R α) (f : α → Store → R β) : R β := R.rec (motive := fun _ => R β) (fun a σ => f a σ) (fun k σ => .ex k σ) .bad r
/-- nothing is raised here -/
noncomputable def R.sure {α β : Type} (r : R α) (f : α → Store → R β) : R β := R.rec (motive := fun _ => R β) (fun a σ => f a σ) (fun _ _ => .bad) .bad r
noncomputable def nth {α β : Type} (l : List α) : Nat → (α → R β) → R β := List.rec (motive := fun _ => Nat → (α → R β) → R β) (fun _ _ => .bad) (fun x _ ih n k => Nat.rec (motive := fun _ => R β) (k x) (fun m _ => ih m k) n) l
noncomputable def setL {α : Type} (l : List α) : Nat → α → List α := List.rec (motive := fun _ => Nat → α → List α) (fun _ _ => []) (fun x r ih n v => Nat.rec (motive := fun _ => List α) (v :: r) (fun m _ => x :: ih m v) n) l

noncomputable def onInt {β : Type} (v : AV) (k : Int → R β) : R β := AV.rec (motive_1 := fun _ => R β) (motive_2 := fun _ => PUnit) k (fun _ => .bad) (fun _ => .bad) .bad (fun _ _ => .bad) (fun _ => .bad) (fun _ _ => .bad) ⟨⟩ (fun _ _ _ _ => ⟨⟩) v
noncomputable def onBoo {β : Type} (v : AV) (k : Bool → R β) : R β := AV.rec (motive_1 := fun _ => R β) (motive_2 := fun _ => PUnit) (fun _ => .bad) k (fun _ => .bad) .bad (fun _ _ => .bad) (fun _ => .bad) (fun _ _ => .bad) ⟨⟩ (fun _ _ _ _ => ⟨⟩) v
noncomputable def onStr {β : Type} (v : AV) (k : Nat → R β) : R β := AV.rec (motive_1 := fun _ => R β) (motive_2 := fun _ => PUnit) (fun _ => .bad) (fun _ => .bad) k .bad (fun _ _ => .bad) (fun _ => .bad) (fun _ _ => .bad) ⟨⟩ (fun _ _ _ _ => ⟨⟩) v
noncomputable def onNon {β : Type} (v : AV) (k : R β) : R β := AV.rec (motive_1 := fun _ => R β) (motive_2 := fun _ => PUnit) (fun _ => .bad) (fun _ => .bad) (fun _ => .bad) k (fun _ _ => .bad) (fun _ => .bad) (fun _ _ => .bad) ⟨⟩ (fun _ _ _ _ => ⟨⟩) v
noncomputable def onTup {β : Type} (v : AV) (k : List AV → R β) : R β := AV.rec (motive_1 := fun _ => R β) (motive_2 := fun _ => PUnit) (fun _ => .bad) (fun _ => .bad) (fun _ => .bad) .bad (fun l _ => k l) (fun _ => .bad) (fun _ _ => .bad) ⟨⟩ (fun _ _ _ _ => ⟨⟩) v
noncomputable def onRef {β : Type} (v : AV) (k : Nat → R β) : R β := AV.rec (motive_1 := fun _ => R β) (motive_2 := fun _ => PUnit) (fun _ => .bad) (fun _ => .bad) (fun _ => .bad) .bad (fun _ _ => .bad) k (fun _ _ => .bad) ⟨⟩ (fun _ _ _ _ => ⟨⟩) v
/-- a tuple, a list, a range -/
noncomputable def onSeq {β : Type} (v : AV) (t : List AV → R β) (l : Nat → R β) (r : Int → Int → R β) : R β := AV.rec (motive_1 := fun _ => R β) (motive_2 := fun _ => PUnit) (fun _ => .bad) (fun _ => .bad) (fun _ => .bad) .bad (fun l _ => t l) l r ⟨⟩ (fun _ _ _ _ => ⟨⟩) v

noncomputable def onList {β : Type} (o : O) (k : List AV → R β) : R β := O.rec (motive := fun _ => R β) k (fun _ => .bad) o
noncomputable def onCell {β : Type} (o : O) (k : Option AV → R β) : R β := O.rec (motive := fun _ => R β) (fun _ => .bad) k o

noncomputable def getO {β : Type} (σ : Store) (k : Nat) (f : O → R β) : R β := Store.rec (motive := fun _ => R β) (fun n l => ifB (Nat.blt k n) (nth l (n - 1 - k) f) .bad) σ
noncomputable def getL {β : Type} (σ : Store) (k : Nat) (f : List AV → R β) : R β := getO σ k fun o => onList o f
noncomputable def newO {β : Type} (σ : Store) (o : O) (f : Nat → Store → R β) : R β := Store.rec (motive := fun _ => R β) (fun n l => fN (n + 1) fun m => f n ⟨m, o :: l⟩) σ
noncomputable def setO {β : Type} (σ : Store) (k : Nat) (o : O) (f : Store → R β) : R β := Store.rec (motive := fun _ => R β) (fun n l => f ⟨n, setL l (n - 1 - k) o⟩) σ

/-! blocks -/
inductive Slot where
  | lv (v : Option AV)
  | cl (k : Nat)
  | gl
abbrev Vars := List Slot
inductive Fl where
  | nxt (φ : Vars)
  | ret (v : AV)
/-- the defs that call themselves -/
abbrev C := Nat → List AV → Store → R AV
abbrev DX := C → Vars → Store → R AV
abbrev DL := C → Vars → Store → R (List AV)
abbrev DS := C → Vars → Store → R Fl
abbrev DF := C → List AV → Store → R AV

noncomputable def onSlot {β : Type} (s : Slot) (l : Option AV → R β) (c : Nat → R β) : R β := Slot.rec (motive := fun _ => R β) l c .bad s
noncomputable def getV {β : Type} (φ : Vars) (i : Nat) (σ : Store) (k : AV → R β) : R β := nth φ i fun s => onSlot s (fun v => onO v .bad k) fun c => getO σ c fun o => onCell o fun v => onO v .bad k
noncomputable def putV {β : Type} (φ : Vars) (i : Nat) (v : AV) (σ : Store) (k : Vars → Store → R β) : R β := nth φ i fun s => onSlot s (fun _ => k (setL φ i (.lv (some v))) σ) fun c => getO σ c fun o => onCell o fun _ => setO σ c (.cell (some v)) fun σ => k φ σ

noncomputable def small (i : Int) : Bool := Nat.blt (Nat.log2 (Int.natAbs i)) 100000
noncomputable def okInt (i : Int) (σ : Store) : R AV := fI i fun i => ifB (small i) (.ok (.int i) σ) .bad

/-! expressions -/
noncomputable def xNon : DX := fun _ _ σ => .ok .non σ
noncomputable def xBoo (b : Bool) : DX := fun _ _ σ => .ok (.boo b) σ
noncomputable def xInt (i : Int) : DX := fun _ _ σ => .ok (.int i) σ
noncomputable def xStr (k : Nat) : DX := fun _ _ σ => .ok (.str k) σ
noncomputable def xVal (v : AV) : DX := fun _ _ σ => .ok v σ
noncomputable def xVar (i : Nat) : DX := fun _ φ σ => getV φ i σ fun v => .ok v σ
noncomputable def lNil : DL := fun _ _ σ => .ok [] σ
noncomputable def lCons (a : DX) (r : DL) : DL := fun c φ σ => (a c φ σ).bind fun v σ => (r c φ σ).bind fun vs σ => .ok (v :: vs) σ
noncomputable def xTup (l : DL) : DX := fun c φ σ => (l c φ σ).bind fun vs σ => .ok (.tup vs) σ
noncomputable def xLst (l : DL) : DX := fun c φ σ => (l c φ σ).bind fun vs σ => newO σ (.list vs) fun k σ => .ok (.ref k) σ
noncomputable def xTwo (f : AV → AV → Store → R AV) (a b : DX) : DX := fun c φ σ => (a c φ σ).bind fun u σ => (b c φ σ).bind fun v σ => f u v σ
noncomputable def xInts (f : Int → Int → Store → R AV) (a b : DX) : DX := fun c φ σ => (a c φ σ).bind fun u σ => (b c φ σ).bind fun v σ => onInt u fun x => onInt v fun y => f x y σ
noncomputable def xAdd := xInts fun x y σ => okInt (Int.add x y) σ
noncomputable def xSub := xInts fun x y σ => okInt (Int.sub x y) σ
noncomputable def xMul := xInts fun x y σ => okInt (Int.mul x y) σ
noncomputable def isNought (y : Int) : Bool := Int.rec (motive := fun _ => Bool) (fun n => Nat.beq n 0) (fun _ => false) y
noncomputable def xDiv := xInts fun x y σ => ifB (isNought y) .bad (ifB (Nat.blt (Nat.log2 (Int.natAbs y)) 9000) (okInt (Int.fdiv x y) σ) .bad)
noncomputable def xMod := xInts fun x y σ => ifB (isNought y) .bad (okInt (Int.fmod x y) σ)
noncomputable def xPow := xInts fun x y σ => Int.rec (motive := fun _ => R AV) (fun n => ifB (Nat.blt n 5000) (ifB (Nat.blt (Int.natAbs x) 18446744073709551616) (okInt (x ^ n) σ) .bad) .bad) (fun _ => .bad) y
noncomputable def iB (b : Bool) : Int := ifB b 1 0
noncomputable def xSubB := xTwo fun u v σ => onBoo u fun x => onBoo v fun y => okInt (Int.sub (iB x) (iB y)) σ
noncomputable def xCat := xTwo fun u v σ => onRef u fun x => onRef v fun y => getL σ x fun l => getL σ y fun m => ifB (Nat.blt (List.length l + List.length m) 100000) (fL (l ++ m) fun l => newO σ (.list l) fun k σ => .ok (.ref k) σ) .bad
noncomputable def inRange (i : Int) : Bool := ifB (decide (-1000000 < i)) (decide (i < 1000000)) false
/-- [a] * n -/
noncomputable def xRep := xTwo fun u v σ => onRef u fun x => onInt v fun y => getL σ x fun l => ifB (Nat.beq (List.length l) 1) (nth l 0 fun a => ifB (inRange y) (fL (List.replicate (Int.toNat y) a) fun l => newO σ (.list l) fun k σ => .ok (.ref k) σ) .bad) .bad
noncomputable def xNeg (a : DX) : DX := fun c φ σ => (a c φ σ).bind fun u σ => onInt u fun x => okInt (Int.neg x) σ
noncomputable def xNot (a : DX) : DX := fun c φ σ => (a c φ σ).bind fun u σ => onBoo u fun x => .ok (.boo (ifB x false true)) σ
noncomputable def xLt := xInts fun x y σ => .ok (.boo (decide (x < y))) σ
noncomputable def xLe := xInts fun x y σ => .ok (.boo (decide (x ≤ y))) σ
noncomputable def xGt := xInts fun x y σ => .ok (.boo (decide (y < x))) σ
noncomputable def xGe := xInts fun x y σ => .ok (.boo (decide (y ≤ x))) σ

/-- what can be read to the end: no range, not deeper than n -/
noncomputable def rdL (f : AV → Store → R PUnit) (σ : Store) (l : List AV) : R PUnit := List.rec (motive := fun _ => R PUnit) (.ok ⟨⟩ σ) (fun x _ ih => (f x σ).bind fun _ _ => ih) l
noncomputable def rdb (n : Nat) : AV → Store → R PUnit := Nat.rec (motive := fun _ => AV → Store → R PUnit) (fun _ _ => .bad)
  (fun _ f a σ => AV.rec (motive_1 := fun _ => R PUnit) (motive_2 := fun _ => PUnit) (fun _ => .ok ⟨⟩ σ) (fun _ => .ok ⟨⟩ σ) (fun _ => .ok ⟨⟩ σ) (.ok ⟨⟩ σ) (fun l _ => rdL f σ l) (fun k => getL σ k fun l => rdL f σ l) (fun _ _ => .bad) ⟨⟩ (fun _ _ _ _ => ⟨⟩) a) n
noncomputable def eqL (f : AV → AV → Store → R Bool) (σ : Store) (l : List AV) : List AV → R Bool := List.rec (motive := fun _ => List AV → R Bool) (fun m => List.rec (motive := fun _ => R Bool) (.ok true σ) (fun _ _ _ => .ok false σ) m)
  (fun x _ ih m => List.rec (motive := fun _ => R Bool) (.ok false σ) (fun y m _ => (f x y σ).bind fun b _ => ifB b (ih m) (.ok false σ)) m) l
noncomputable def veq (n : Nat) : AV → AV → Store → R Bool := Nat.rec (motive := fun _ => AV → AV → Store → R Bool) (fun _ _ _ => .bad)
  (fun _ f a b σ => AV.rec (motive_1 := fun _ => R Bool) (motive_2 := fun _ => PUnit)
    (fun x => AV.rec (motive_1 := fun _ => R Bool) (motive_2 := fun _ => PUnit) (fun y => .ok (decide (x = y)) σ) (fun _ => .bad) (fun _ => .ok false σ) (.ok false σ) (fun _ _ => .ok false σ) (fun _ => .bad) (fun _ _ => .bad) ⟨⟩ (fun _ _ _ _ => ⟨⟩) b)
    (fun x => onBoo b fun y => .ok (ifB x y (ifB y false true)) σ)
    (fun x => AV.rec (motive_1 := fun _ => R Bool) (motive_2 := fun _ => PUnit) (fun _ => .ok false σ) (fun _ => .bad) (fun y => .ok (Nat.beq x y) σ) (.ok false σ) (fun _ _ => .ok false σ) (fun _ => .bad) (fun _ _ => .bad) ⟨⟩ (fun _ _ _ _ => ⟨⟩) b)
    .bad
    (fun x _ => AV.rec (motive_1 := fun _ => R Bool) (motive_2 := fun _ => PUnit) (fun _ => .ok false σ) (fun _ => .bad) (fun _ => .ok false σ) (.ok false σ) (fun y _ => eqL f σ x y) (fun _ => .bad) (fun _ _ => .bad) ⟨⟩ (fun _ _ _ _ => ⟨⟩) b)
    (fun x => onRef b fun y => getL σ x fun l => getL σ y fun m => eqL f σ l m)
    (fun _ _ => .bad) ⟨⟩ (fun _ _ _ _ => ⟨⟩) a) n
noncomputable def eqv8 (a b : AV) (σ : Store) : R Bool := (rdb 8 a σ).bind fun _ _ => (rdb 8 b σ).bind fun _ _ => veq 8 a b σ
noncomputable def xEq := xTwo fun u v σ => (eqv8 u v σ).bind fun b σ => .ok (.boo b) σ
noncomputable def xNe := xTwo fun u v σ => (eqv8 u v σ).bind fun b σ => .ok (.boo (ifB b false true)) σ
noncomputable def isNon (v : AV) (σ : Store) : R AV := AV.rec (motive_1 := fun _ => R AV) (motive_2 := fun _ => PUnit) (fun _ => .bad) (fun _ => .bad) (fun _ => .bad) (.ok (.boo true) σ) (fun _ _ => .ok (.boo false) σ) (fun _ => .bad) (fun _ _ => .bad) ⟨⟩ (fun _ _ _ _ => ⟨⟩) v
noncomputable def xIsNon (a : DX) : DX := fun c φ σ => (a c φ σ).bind fun u σ => isNon u σ
noncomputable def isIn (u : AV) (σ : Store) (l : List AV) : R Bool := List.rec (motive := fun _ => R Bool) (.ok false σ) (fun x _ ih => (eqv8 x u σ).bind fun b _ => ih.bind fun b' _ => .ok (ifB b true b') σ) l
noncomputable def xIn := xTwo fun u v σ => onTup v fun l => ifB (Nat.blt 0 (List.length l)) ((isIn u σ l).bind fun b _ => .ok (.boo b) σ) .bad
noncomputable def xNotIn := xTwo fun u v σ => onTup v fun l => ifB (Nat.blt 0 (List.length l)) ((isIn u σ l).bind fun b _ => .ok (.boo (ifB b false true)) σ) .bad
noncomputable def xAnd (a b : DX) : DX := fun c φ σ => (a c φ σ).bind fun u σ => onBoo u fun x => ifB x (b c φ σ) (.ok (.boo false) σ)
noncomputable def xOr (a b : DX) : DX := fun c φ σ => (a c φ σ).bind fun u σ => onBoo u fun x => ifB x (.ok (.boo true) σ) (b c φ σ)
noncomputable def xIte (t a b : DX) : DX := fun c φ σ => (t c φ σ).bind fun u σ => onBoo u fun x => ifB x (a c φ σ) (b c φ σ)
noncomputable def xCall (f : DF) (l : DL) : DX := fun c φ σ => (l c φ σ).bind fun vs σ => f c vs σ
noncomputable def xRec (k : Nat) (l : DL) : DX := fun c φ σ => (l c φ σ).bind fun vs σ => c k vs σ
noncomputable def xOne (f : AV → Store → R AV) (a : DX) : DX := fun c φ σ => (a c φ σ).bind fun u σ => f u σ
noncomputable def xAbs := xOne fun u σ => onInt u fun x => fI (.ofNat (Int.natAbs x)) fun i => .ok (.int i) σ
noncomputable def xMin := xInts fun x y σ => ifB (decide (y < x)) (.ok (.int y) σ) (.ok (.int x) σ)
noncomputable def xMax := xInts fun x y σ => ifB (decide (x < y)) (.ok (.int y) σ) (.ok (.int x) σ)
noncomputable def xLen := xOne fun u σ => onSeq u (fun l => ifB (Nat.blt (List.length l) 100000) (.ok (.int (.ofNat (List.length l))) σ) .bad) (fun k => getL σ k fun l => ifB (Nat.blt (List.length l) 100000) (.ok (.int (.ofNat (List.length l))) σ) .bad) fun _ _ => .bad
noncomputable def sumI (l : List AV) : Int → Store → R AV := List.rec (motive := fun _ => Int → Store → R AV) (fun a σ => okInt a σ) (fun x _ ih a σ => onInt x fun i => fI (Int.add a i) fun a => ifB (small a) (ih a σ) .bad) l
noncomputable def xSum := xOne fun u σ => onRef u fun k => getL σ k fun l => sumI l 0 σ
noncomputable def xRan1 := xOne fun u σ => onInt u fun b => ifB (inRange b) (.ok (.rng 0 b) σ) .bad
noncomputable def xRan2 := xInts fun a b σ => ifB (inRange a) (ifB (inRange b) (.ok (.rng a b) σ) .bad) .bad
noncomputable def xList := xOne fun u σ => onRef u fun k => getL σ k fun l => ifB (Nat.blt (List.length l) 100000) (newO σ (.list l) fun k σ => .ok (.ref k) σ) .bad
noncomputable def atI {β : Type} (l : List AV) (i : Int) (k : AV → R β) : R β := Int.rec (motive := fun _ => R β) (fun n => ifB (Nat.blt n 100000) (nth l n k) .bad) (fun m => ifB (Nat.blt m (List.length l)) (ifB (Nat.blt m 100000) (nth l (List.length l - 1 - m) k) .bad) .bad) i
noncomputable def xIdx := xTwo fun u v σ => onInt v fun i => onSeq u (fun l => atI l i fun v => .ok v σ) (fun k => getL σ k fun l => atI l i fun v => .ok v σ) fun _ _ => .bad
/-- l[:n], l[n:], l[::-1] -/
noncomputable def xTake := xTwo fun u v σ => onRef u fun k => onInt v fun i => getL σ k fun l => Int.rec (motive := fun _ => R AV) (fun n => ifB (Nat.blt (List.length l) 100000) (fL (List.take n l) fun l => newO σ (.list l) fun k σ => .ok (.ref k) σ) .bad) (fun _ => .bad) i
noncomputable def xDrop := xTwo fun u v σ => onRef u fun k => onInt v fun i => getL σ k fun l => Int.rec (motive := fun _ => R AV) (fun n => ifB (Nat.blt (List.length l) 100000) (fL (List.drop n l) fun l => newO σ (.list l) fun k σ => .ok (.ref k) σ) .bad) (fun _ => .bad) i
noncomputable def xRev := xOne fun u σ => onRef u fun k => getL σ k fun l => ifB (Nat.blt (List.length l) 100000) (fL (List.reverse l) fun l => newO σ (.list l) fun k σ => .ok (.ref k) σ) .bad

/-! loops -/
/-- the i-th thing of what is walked -/
noncomputable def nextTup {β : Type} (l : List AV) (i : Nat) (e : R β) (k : AV → R β) : R β := ifB (Nat.blt i (List.length l)) (nth l i k) e
noncomputable def next {β : Type} (it : AV) (i : Nat) (σ : Store) (e : R β) (k : AV → R β) : R β := onSeq it (fun l => nextTup l i e k) (fun r => getL σ r fun l => nextTup l i e k) fun a b => fI (Int.add a (.ofNat i)) fun j => ifB (decide (j < b)) (k (.int j)) e
noncomputable def turns : Nat := 150
noncomputable def putMany (is : List Nat) : List AV → Vars → Store → R Vars := List.rec (motive := fun _ => List AV → Vars → Store → R Vars) (fun vs φ σ => List.rec (motive := fun _ => R Vars) (.ok φ σ) (fun _ _ _ => .bad) vs)
  (fun i _ ih vs φ σ => List.rec (motive := fun _ => R Vars) .bad (fun v vs _ => putV φ i v σ fun φ σ => ih vs φ σ) vs) is
/-- a target: one name, or several, or several from the last to the first -/
inductive T where
  | one (i : Nat)
  | many (l : List Nat)
  | swap (l : List Nat)
noncomputable def putT (t : T) (v : AV) (φ : Vars) (σ : Store) : R Vars := T.rec (motive := fun _ => R Vars) (fun i => putV φ i v σ fun φ σ => .ok φ σ) (fun is => onSeq v (fun l => putMany is l φ σ) (fun k => getL σ k fun l => putMany is l φ σ) fun _ _ => .bad) (fun is => onSeq v (fun l => putMany is.reverse l.reverse φ σ) (fun _ => .bad) fun _ _ => .bad) t

/-- a name of an inner block: a local, a cell of its own, one of the block around, a global -/
inductive NE where
  | loc
  | cel
  | up (j : Nat)
  | glo
noncomputable def inner (φ : Vars) (ns : List NE) : Store → R Vars := List.rec (motive := fun _ => Store → R Vars) (fun σ => .ok [] σ)
  (fun n _ ih σ => NE.rec (motive := fun _ => R Vars) ((ih σ).bind fun ψ σ => .ok (.lv none :: ψ) σ) (newO σ (.cell none) fun k σ => (ih σ).bind fun ψ σ => .ok (.cl k :: ψ) σ)
    (fun j => nth φ j fun s => onSlot s (fun _ => .bad) fun k => (ih σ).bind fun ψ σ => .ok (.cl k :: ψ) σ) ((ih σ).bind fun ψ σ => .ok (.gl :: ψ) σ) n) ns
noncomputable def compLoop (y : Vars → Store → R AV) (t : T) (it : AV) (acc : Nat) (n : Nat) : Nat → Vars → Store → R AV := Nat.rec (motive := fun _ => Nat → Vars → Store → R AV) (fun _ _ _ => .bad)
  (fun _ ih i ψ σ => next it i σ (.ok (.ref acc) σ) fun v => (putT t v ψ σ).bind fun ψ σ => (y ψ σ).sure fun u σ => getL σ acc fun l => ifB (Nat.blt (List.length l) 100000) (fL (l ++ [u]) fun l => setO σ acc (.list l) fun σ => fN (i + 1) fun i => ih i ψ σ) .bad) n
/-- what can be walked along -/
noncomputable def walk {β : Type} (u : AV) (σ : Store) (k : R β) : R β := onSeq u (fun _ => k) (fun r => getL σ r fun _ => k) fun _ _ => k
noncomputable def xComp (ns : List NE) (t : T) (it y : DX) : DX := fun c φ σ => (it c φ σ).bind fun u σ => walk u σ (newO σ (.list []) fun acc σ => (inner φ ns σ).bind fun ψ σ => compLoop (fun ψ σ => y c ψ σ) t u acc turns 0 ψ σ)
/-- _law_told(lambda: y) -/
noncomputable def xTold (ns : List NE) (y : DX) : DX := fun c φ σ => (inner φ ns σ).bind fun ψ σ => R.rec (motive := fun _ => R AV) (fun v σ => .ok v σ) (fun k σ => .ok (.str k) σ) .bad (y c ψ σ)

/-! statements -/
noncomputable def sEnd : DS := fun _ φ σ => .ok (.nxt φ) σ
noncomputable def sThen (a b : DS) : DS := fun c φ σ => (a c φ σ).bind fun r σ => Fl.rec (motive := fun _ => R Fl) (fun φ => b c φ σ) (fun v => .ok (.ret v) σ) r
noncomputable def sAsg (t : T) (x : DX) : DS := fun c φ σ => (x c φ σ).bind fun v σ => (putT t v φ σ).bind fun φ σ => .ok (.nxt φ) σ
/-- v[j] = x -/
noncomputable def sPut (i : Nat) (j x : DX) : DS := fun c φ σ => (x c φ σ).bind fun v σ => getV φ i σ fun u => onRef u fun k => (j c φ σ).bind fun w σ => onInt w fun n => Int.rec (motive := fun _ => R Fl) (fun n => getL σ k fun l => ifB (Nat.blt n (List.length l)) (ifB (Nat.blt n 100000) (fL (setL l n v) fun l => setO σ k (.list l) fun σ => .ok (.nxt φ) σ) .bad) .bad) (fun _ => .bad) n
/-- v.append(x) -/
noncomputable def sApp (i : Nat) (x : DX) : DS := fun c φ σ => getV φ i σ fun u => onRef u fun k => getL σ k fun _ => (x c φ σ).bind fun v σ => getL σ k fun l => ifB (Nat.blt (List.length l) 100000) (fL (l ++ [v]) fun l => setO σ k (.list l) fun σ => .ok (.nxt φ) σ) .bad
noncomputable def sExp (x : DX) : DS := fun c φ σ => (x c φ σ).bind fun v σ => onNon v (.ok (.nxt φ) σ)
noncomputable def sIf (t : DX) (a b : DS) : DS := fun c φ σ => (t c φ σ).bind fun u σ => onBoo u fun x => ifB x (a c φ σ) (b c φ σ)
noncomputable def whl (t : Vars → Store → R AV) (b : Vars → Store → R Fl) (n : Nat) : Vars → Store → R Fl := Nat.rec (motive := fun _ => Vars → Store → R Fl) (fun _ _ => .bad)
  (fun _ ih φ σ => (t φ σ).sure fun u σ => onBoo u fun x => ifB x ((b φ σ).sure fun r σ => Fl.rec (motive := fun _ => R Fl) (fun φ => ih φ σ) (fun v => .ok (.ret v) σ) r) (.ok (.nxt φ) σ)) n
noncomputable def sWhl (t : DX) (b : DS) : DS := fun c φ σ => whl (fun φ σ => t c φ σ) (fun φ σ => b c φ σ) turns φ σ
noncomputable def forLoop (b : Vars → Store → R Fl) (t : T) (it : AV) (n : Nat) : Nat → Vars → Store → R Fl := Nat.rec (motive := fun _ => Nat → Vars → Store → R Fl) (fun _ _ _ => .bad)
  (fun _ ih i φ σ => next it i σ (.ok (.nxt φ) σ) fun v => (putT t v φ σ).bind fun φ σ => (b φ σ).bind fun r σ => Fl.rec (motive := fun _ => R Fl) (fun φ => fN (i + 1) fun i => ih i φ σ) (fun v => .ok (.ret v) σ) r) n
noncomputable def sFor (t : T) (it : DX) (b : DS) : DS := fun c φ σ => (it c φ σ).bind fun u σ => walk u σ (forLoop (fun φ σ => b c φ σ) t u turns 0 φ σ)
noncomputable def sRet (x : DX) : DS := fun c φ σ => (x c φ σ).bind fun v σ => .ok (.ret v) σ
/-- raise CasFail(k, t) -/
noncomputable def sFail (k t : DX) : DS := fun c φ σ => (k c φ σ).bind fun u σ => (t c φ σ).bind fun v σ => onStr u fun k => onStr v fun _ => .ex k σ
/-- try: b; except CasFail as e: if e.kind != k: raise e -/
noncomputable def sTry (b : DS) (k : Nat) : DS := fun c φ σ => R.rec (motive := fun _ => R Fl) (fun r σ => .ok r σ) (fun k' σ => ifB (Nat.beq k k') .bad (.ex k' σ)) .bad (b c φ σ)
/-- what is never reached -/
noncomputable def xBad : DX := fun _ _ _ => .bad
noncomputable def sBad : DS := fun _ _ _ => .bad

/-! defs: the first names take the arguments -/
inductive NK where
  | loc
  | cel
  | glo
noncomputable def start (ns : List NK) : List AV → Store → R Vars := List.rec (motive := fun _ => List AV → Store → R Vars) (fun vs σ => List.rec (motive := fun _ => R Vars) (.ok [] σ) (fun _ _ _ => .bad) vs)
  (fun n _ ih vs σ => NK.rec (motive := fun _ => R Vars)
    (List.rec (motive := fun _ => R Vars) ((ih [] σ).bind fun ψ σ => .ok (.lv none :: ψ) σ) (fun v vs _ => (ih vs σ).bind fun ψ σ => .ok (.lv (some v) :: ψ) σ) vs)
    (List.rec (motive := fun _ => R Vars) (newO σ (.cell none) fun k σ => (ih [] σ).bind fun ψ σ => .ok (.cl k :: ψ) σ) (fun v vs _ => newO σ (.cell (some v)) fun k σ => (ih vs σ).bind fun ψ σ => .ok (.cl k :: ψ) σ) vs)
    (List.rec (motive := fun _ => R Vars) ((ih [] σ).bind fun ψ σ => .ok (.gl :: ψ) σ) (fun _ _ _ => .bad) vs) n) ns
noncomputable def dDef (m : Nat) (ns : List NK) (b : DS) : DF := fun c vs σ => ifB (Nat.beq (List.length vs) m) ((start ns vs σ).bind fun φ σ => (b c φ σ).bind fun r σ => Fl.rec (motive := fun _ => R AV) (fun _ => .ok .non σ) (fun v => .ok v σ) r) .bad
end
end Mine
end

section
open PySem
namespace Mine
noncomputable section
noncomputable def texts : List String := ["inf", "-inf", "sym", "x", "division by zero", "a ratio with the bottom 0", "limit", "a number of too many figures", "shape", "a trace of no square", "domain", "a continued fraction without numbers", "a series with too long numbers", "a series that begins with 0", "a series has to begin with ", "nothing is known of a series but noughts", "too few powers are known", "a root that has no series", "a root that is no ratio", "num", "an exponent that is no number", "another letter: ", "pow", "call", "sqrt", "sum", "prod", "no series of "]
noncomputable def g0 : AV := .tup [.int 0, .int 1]
noncomputable def g1 : AV := .tup [.int 1, .int 1]
noncomputable def g2 : AV := .int 200000
noncomputable def g3 : AV := .int 1000
noncomputable def g4 : AV := .tup [.int 0, .int 2, .int 4, .int 8, .int 16, .int 32, .int 64]
noncomputable def g5 : AV := .str 0
noncomputable def g6 : AV := .str 1
noncomputable def g7 : AV := .tup [.int 1, .int 5, .int 7, .int 11, .int 19, .int 35, .int 67]
noncomputable def g8 : AV := .tup [.str 2, .str 3]
noncomputable def d0 : DF := dDef 2 [.loc, .loc, .glo] (sThen (sAsg (.swap [0, 1]) (xTup (lCons (xAbs (xVar 0)) (lCons (xAbs (xVar 1)) lNil)))) (sThen (sWhl (xNe (xVar 1) (xInt 0)) (sThen (sAsg (.swap [0, 1]) (xTup (lCons (xVar 1) (lCons (xMod (xVar 0) (xVar 1)) lNil)))) sEnd)) (sThen (sRet (xVar 0)) sEnd)))
noncomputable def d1 : DF := dDef 1 [.loc, .loc, .loc, .loc] (sThen (sAsg (.one 1) (xInt 0)) (sThen (sFor (.one 2) (xTup (lCons (xInt 4096) (lCons (xInt 64) (lCons (xInt 1) lNil)))) (sThen (sAsg (.one 3) (xPow (xInt 2) (xVar 2))) (sThen (sWhl (xGe (xVar 0) (xVar 3)) (sThen (sAsg (.swap [0, 1]) (xTup (lCons (xDiv (xVar 0) (xVar 3)) (lCons (xAdd (xVar 1) (xVar 2)) lNil)))) sEnd)) sEnd))) (sThen (sRet (xAdd (xVar 1) (xVar 0))) sEnd)))
noncomputable def d2 : DF := dDef 2 [.loc, .loc, .loc, .loc, .loc, .glo, .glo] (sThen (sIf (xGe (xVar 1) (xCall d1 (lCons (xVar 0) lNil))) (sThen (sRet (xMin (xVar 0) (xInt 1))) sEnd) sEnd) (sThen (sAsg (.many [2, 3]) (xTup (lCons (xInt 0) (lCons (xInt 1) lNil)))) (sThen (sWhl (xLe (xPow (xVar 3) (xVar 1)) (xVar 0)) (sThen (sAsg (.swap [2, 3]) (xTup (lCons (xVar 3) (lCons (xMul (xInt 2) (xVar 3)) lNil)))) sEnd)) (sThen (sWhl (xGt (xSub (xVar 3) (xVar 2)) (xInt 1)) (sThen (sAsg (.one 4) (xDiv (xAdd (xVar 2) (xVar 3)) (xInt 2))) (sThen (sIf (xLe (xPow (xVar 4) (xVar 1)) (xVar 0)) (sThen (sAsg (.one 2) (xVar 4)) sEnd) (sThen (sAsg (.one 3) (xVar 4)) sEnd)) sEnd))) (sThen (sRet (xVar 2)) sEnd)))))
noncomputable def d3 : DF := dDef 2 [.loc, .loc, .loc, .glo, .glo] (sThen (sIf (xEq (xVar 1) (xInt 0)) (sThen (sFail (xStr 4) (xStr 5)) sEnd) sEnd) (sThen (sAsg (.one 2) (xIte (xGt (xVar 1) (xInt 0)) (xCall d0 (lCons (xVar 0) (lCons (xVar 1) lNil))) (xSub (xInt 0) (xCall d0 (lCons (xVar 0) (lCons (xVar 1) lNil)))))) (sThen (sRet (xTup (lCons (xDiv (xVar 0) (xVar 2)) (lCons (xDiv (xVar 1) (xVar 2)) lNil)))) sEnd)))
noncomputable def d4 : DF := dDef 2 [.loc, .loc, .glo] (sThen (sRet (xCall d3 (lCons (xAdd (xMul (xIdx (xVar 0) (xInt 0)) (xIdx (xVar 1) (xInt 1))) (xMul (xIdx (xVar 1) (xInt 0)) (xIdx (xVar 0) (xInt 1)))) (lCons (xMul (xIdx (xVar 0) (xInt 1)) (xIdx (xVar 1) (xInt 1))) lNil)))) sEnd)
noncomputable def d5 : DF := dDef 2 [.loc, .loc, .glo] (sThen (sRet (xCall d3 (lCons (xSub (xMul (xIdx (xVar 0) (xInt 0)) (xIdx (xVar 1) (xInt 1))) (xMul (xIdx (xVar 1) (xInt 0)) (xIdx (xVar 0) (xInt 1)))) (lCons (xMul (xIdx (xVar 0) (xInt 1)) (xIdx (xVar 1) (xInt 1))) lNil)))) sEnd)
noncomputable def d6 : DF := dDef 2 [.loc, .loc, .glo] (sThen (sRet (xCall d3 (lCons (xMul (xIdx (xVar 0) (xInt 0)) (xIdx (xVar 1) (xInt 0))) (lCons (xMul (xIdx (xVar 0) (xInt 1)) (xIdx (xVar 1) (xInt 1))) lNil)))) sEnd)
noncomputable def d7 : DF := dDef 2 [.loc, .loc, .glo] (sThen (sRet (xCall d3 (lCons (xMul (xIdx (xVar 0) (xInt 0)) (xIdx (xVar 1) (xInt 1))) (lCons (xMul (xIdx (xVar 0) (xInt 1)) (xIdx (xVar 1) (xInt 0))) lNil)))) sEnd)
noncomputable def d8 : DF := dDef 1 [.loc, .glo] (sThen (sRet (xCall d3 (lCons (xIdx (xVar 0) (xInt 1)) (lCons (xIdx (xVar 0) (xInt 0)) lNil)))) sEnd)
noncomputable def d9 : DF := dDef 2 [.loc, .loc, .loc, .glo, .glo, .glo, .glo, .glo, .glo] (sThen (sIf (xLt (xVar 1) (xInt 0)) (sThen (sAsg (.swap [0, 1]) (xTup (lCons (xCall d8 (lCons (xVar 0) lNil)) (lCons (xSub (xInt 0) (xVar 1)) lNil)))) sEnd) sEnd) (sThen (sAsg (.one 2) (xMax (xAbs (xIdx (xVar 0) (xInt 0))) (xIdx (xVar 0) (xInt 1)))) (sThen (sIf (xAnd (xGt (xVar 1) (xInt 1)) (xAnd (xGt (xVar 2) (xInt 1)) (xGt (xMul (xVar 1) (xCall d1 (lCons (xVar 2) lNil))) (xVal g2)))) (sThen (sFail (xStr 6) (xStr 7)) sEnd) sEnd) (sThen (sRet (xTup (lCons (xPow (xIdx (xVar 0) (xInt 0)) (xVar 1)) (lCons (xPow (xIdx (xVar 0) (xInt 1)) (xVar 1)) lNil)))) sEnd))))
noncomputable def d10 : DF := dDef 1 [.loc, .loc, .glo, .glo, .glo, .glo] (sThen (sAsg (.one 1) (xMax (xAbs (xIdx (xVar 0) (xInt 0))) (xIdx (xVar 0) (xInt 1)))) (sThen (sRet (xAnd (xGe (xVar 1) (xPow (xInt 2) (xInt 64))) (xGt (xCall d1 (lCons (xVar 1) lNil)) (xVal g2)))) sEnd))
noncomputable def d11 : DF := dDef 2 [.loc, .loc, .loc] (sThen (sAsg (.one 2) (xSub (xMul (xIdx (xVar 0) (xInt 0)) (xIdx (xVar 1) (xInt 1))) (xMul (xIdx (xVar 1) (xInt 0)) (xIdx (xVar 0) (xInt 1))))) (sThen (sRet (xSubB (xGt (xVar 2) (xInt 0)) (xLt (xVar 2) (xInt 0)))) sEnd))
noncomputable def d12 : DF := dDef 1 [.loc, .glo] (sThen (sRet (xTup (lCons (xLen (xVar 0)) (lCons (xIte (xGt (xLen (xVar 0)) (xInt 0)) (xLen (xIdx (xVar 0) (xInt 0))) (xInt 0)) lNil)))) sEnd)
noncomputable def d13 : DF := dDef 2 [.loc, .loc, .glo] (sThen (sIf (xNot (xVar 0)) (sThen (sFail (xStr 8) (xVar 1)) sEnd) sEnd) sEnd)
noncomputable def d14 : DF := dDef 1 [.loc, .loc, .loc, .glo, .glo, .glo, .glo, .glo, .glo] (sThen (sExp (xCall d13 (lCons (xEq (xLen (xVar 0)) (xIdx (xCall d12 (lCons (xVar 0) lNil)) (xInt 1))) (lCons (xStr 9) lNil)))) (sThen (sAsg (.one 1) (xVal g0)) (sThen (sFor (.one 2) (xRan1 (xLen (xVar 0))) (sThen (sAsg (.one 1) (xCall d4 (lCons (xVar 1) (lCons (xIdx (xIdx (xVar 0) (xVar 2)) (xVar 2)) lNil)))) sEnd)) (sThen (sRet (xVar 1)) sEnd))))
noncomputable def d15 : DF := dDef 1 [.loc, .loc, .loc, .loc, .loc] (sThen (sAsg (.swap [1, 2, 3]) (xTup (lCons (xLst lNil) (lCons (xTup (lCons (xInt 1) (lCons (xInt 0) lNil))) (lCons (xTup (lCons (xInt 0) (lCons (xInt 1) lNil))) lNil))))) (sThen (sFor (.one 4) (xVar 0) (sThen (sAsg (.swap [2, 3]) (xTup (lCons (xTup (lCons (xAdd (xMul (xVar 4) (xIdx (xVar 2) (xInt 0))) (xIdx (xVar 3) (xInt 0))) (lCons (xAdd (xMul (xVar 4) (xIdx (xVar 2) (xInt 1))) (xIdx (xVar 3) (xInt 1))) lNil))) (lCons (xVar 2) lNil)))) (sThen (sApp 1 (xIte (xGe (xIdx (xVar 2) (xInt 1)) (xInt 0)) (xVar 2) (xTup (lCons (xSub (xInt 0) (xIdx (xVar 2) (xInt 0))) (lCons (xSub (xInt 0) (xIdx (xVar 2) (xInt 1))) lNil))))) sEnd))) (sThen (sRet (xVar 1)) sEnd)))
noncomputable def d16 : DF := dDef 1 [.loc, .loc, .loc, .glo, .glo, .glo, .glo] (sThen (sIf (xEq (xLen (xVar 0)) (xInt 0)) (sThen (sFail (xStr 10) (xStr 11)) sEnd) sEnd) (sThen (sAsg (.many [1, 2]) (xIdx (xCall d15 (lCons (xVar 0) lNil)) (xNeg (xInt 1)))) (sThen (sRet (xCall d3 (lCons (xVar 1) (lCons (xVar 2) lNil)))) sEnd)))
noncomputable def d17 : DF := dDef 2 [.loc, .loc, .glo, .glo, .glo] (sThen (sRet (xCat (xList (xTake (xVar 0) (xVar 1))) (xRep (xLst (lCons (xVal g0) lNil)) (xSub (xVar 1) (xLen (xVar 0)))))) sEnd)
noncomputable def d18 : DF := dDef 1 [.loc, .glo, .glo] (sThen (sIf (xCall d10 (lCons (xVar 0) lNil)) (sThen (sFail (xStr 6) (xStr 12)) sEnd) sEnd) (sThen (sRet (xVar 0)) sEnd))
noncomputable def d19 : DF := dDef 2 [.cel, .cel, .glo, .glo, .glo] (sThen (sRet (xComp [.loc, .loc, .glo, .up 0, .up 1] (.one 1) (xRan1 (xMin (xLen (xVar 0)) (xLen (xVar 1)))) (xCall d4 (lCons (xIdx (xVar 3) (xVar 1)) (lCons (xIdx (xVar 4) (xVar 1)) lNil))))) sEnd)
noncomputable def d20 : DF := dDef 2 [.cel, .loc] (sThen (sRet (xComp [.loc, .loc, .glo, .up 0] (.one 1) (xVar 1) (xCall d6 (lCons (xVar 3) (lCons (xVar 1) lNil))))) sEnd)
noncomputable def d21 : DF := dDef 3 [.loc, .loc, .loc, .loc, .loc, .glo, .glo, .glo, .glo] (sThen (sAsg (.one 3) (xVal g0)) (sThen (sFor (.one 4) (xRan1 (xAdd (xVar 2) (xInt 1))) (sThen (sIf (xAnd (xNe (xIdx (xVar 0) (xVar 4)) (xVal g0)) (xNe (xIdx (xVar 1) (xSub (xVar 2) (xVar 4))) (xVal g0))) (sThen (sAsg (.one 3) (xCall d4 (lCons (xVar 3) (lCons (xCall d6 (lCons (xIdx (xVar 0) (xVar 4)) (lCons (xIdx (xVar 1) (xSub (xVar 2) (xVar 4))) lNil))) lNil)))) sEnd) sEnd) sEnd)) (sThen (sRet (xVar 3)) sEnd)))
noncomputable def d22 : DF := dDef 2 [.cel, .cel, .glo, .glo, .glo] (sThen (sRet (xComp [.loc, .loc, .glo, .glo, .up 0, .up 1] (.one 1) (xRan1 (xMin (xLen (xVar 0)) (xLen (xVar 1)))) (xCall d18 (lCons (xCall d21 (lCons (xVar 4) (lCons (xVar 5) (lCons (xVar 1) lNil)))) lNil)))) sEnd)
noncomputable def d23 : DF := dDef 1 [.loc, .loc, .loc, .loc, .loc, .glo, .glo, .glo, .glo, .glo, .glo, .glo, .glo, .glo] (sThen (sIf (xAnd (xGt (xLen (xVar 0)) (xInt 0)) (xEq (xIdx (xVar 0) (xInt 0)) (xVal g0))) (sThen (sFail (xStr 4) (xStr 13)) sEnd) sEnd) (sThen (sAsg (.one 1) (xLst lNil)) (sThen (sFor (.one 2) (xRan1 (xLen (xVar 0))) (sThen (sAsg (.one 3) (xIte (xEq (xVar 2) (xInt 0)) (xVal g1) (xVal g0))) (sThen (sFor (.one 4) (xRan2 (xInt 1) (xAdd (xVar 2) (xInt 1))) (sThen (sAsg (.one 3) (xCall d5 (lCons (xVar 3) (lCons (xCall d6 (lCons (xIdx (xVar 0) (xVar 4)) (lCons (xIdx (xVar 1) (xSub (xVar 2) (xVar 4))) lNil))) lNil)))) sEnd)) (sThen (sApp 1 (xCall d18 (lCons (xCall d7 (lCons (xVar 3) (lCons (xIdx (xVar 0) (xInt 0)) lNil))) lNil))) sEnd)))) (sThen (sRet (xVar 1)) sEnd))))
noncomputable def d24 : DF := dDef 2 [.loc, .loc, .glo, .glo, .glo, .glo] (sThen (sIf (xAnd (xGt (xLen (xVar 0)) (xInt 0)) (xNe (xCall d11 (lCons (xIdx (xVar 0) (xInt 0)) (lCons (xVar 1) lNil))) (xInt 0))) (sThen (sFail (xStr 10) xBad) sEnd) sEnd) sEnd)
noncomputable def d25 : DF := dDef 2 [.loc, .loc, .loc, .loc, .loc, .loc, .loc, .glo, .glo, .glo, .glo, .glo, .glo, .glo, .glo, .glo, .glo] (sThen (sExp (xCall d24 (lCons (xVar 0) (lCons (xVal g1) lNil)))) (sThen (sAsg (.one 2) (xLst lNil)) (sThen (sFor (.one 3) (xRan1 (xLen (xVar 0))) (sThen (sAsg (.one 4) (xVal g0)) (sThen (sFor (.one 5) (xRan2 (xInt 1) (xAdd (xVar 3) (xInt 1))) (sThen (sAsg (.one 6) (xCall d5 (lCons (xCall d6 (lCons (xVar 1) (lCons (xTup (lCons (xVar 5) (lCons (xInt 1) lNil))) lNil))) (lCons (xTup (lCons (xSub (xVar 3) (xVar 5)) (lCons (xInt 1) lNil))) lNil)))) (sThen (sAsg (.one 4) (xCall d4 (lCons (xVar 4) (lCons (xCall d6 (lCons (xCall d6 (lCons (xVar 6) (lCons (xIdx (xVar 0) (xVar 5)) lNil))) (lCons (xIdx (xVar 2) (xSub (xVar 3) (xVar 5))) lNil))) lNil)))) sEnd))) (sThen (sApp 2 (xIte (xEq (xVar 3) (xInt 0)) (xVal g1) (xCall d18 (lCons (xCall d7 (lCons (xVar 4) (lCons (xTup (lCons (xVar 3) (lCons (xInt 1) lNil))) lNil))) lNil)))) sEnd)))) (sThen (sRet (xVar 2)) sEnd))))
noncomputable def d26 : DF := dDef 2 [.loc, .loc, .loc, .loc, .loc, .glo, .glo, .glo, .glo, .glo, .glo] (sThen (sAsg (.one 2) (xIte (xLt (xVar 1) (xInt 0)) (xCall d23 (lCons (xVar 0) lNil)) (xVar 0))) (sThen (sAsg (.swap [3, 4]) (xTup (lCons (xCall d17 (lCons (xLst (lCons (xVal g1) lNil)) (lCons (xLen (xVar 0)) lNil))) (lCons (xAbs (xVar 1)) lNil)))) (sThen (sWhl (xGt (xVar 4) (xInt 0)) (sThen (sIf (xEq (xMod (xVar 4) (xInt 2)) (xInt 1)) (sThen (sAsg (.one 3) (xCall d22 (lCons (xVar 3) (lCons (xVar 2) lNil)))) sEnd) sEnd) (sThen (sAsg (.one 4) (xDiv (xVar 4) (xInt 2))) (sThen (sAsg (.one 2) (xIte (xGt (xVar 4) (xInt 0)) (xCall d22 (lCons (xVar 2) (lCons (xVar 2) lNil))) (xVar 2))) sEnd)))) (sThen (sRet (xVar 3)) sEnd))))
noncomputable def d27 : DF := dDef 2 [.loc, .loc, .glo] (sThen (sRet (xTup (lCons (xInt 0) (lCons (xCat (xLst (lCons (xVar 0) lNil)) (xRep (xLst (lCons (xVal g0) lNil)) (xSub (xVar 1) (xInt 1)))) lNil)))) sEnd)
noncomputable def d28 : DF := dDef 2 [.loc, .loc, .cel, .cel, .loc, .loc, .glo, .glo, .glo] (sThen (sAsg (.one 2) (xMin (xIdx (xVar 0) (xInt 0)) (xIdx (xVar 1) (xInt 0)))) (sThen (sAsg (.one 3) (xSub (xMin (xAdd (xIdx (xVar 0) (xInt 0)) (xLen (xIdx (xVar 0) (xInt 1)))) (xAdd (xIdx (xVar 1) (xInt 0)) (xLen (xIdx (xVar 1) (xInt 1))))) (xVar 2))) (sThen (sAsg (.many [4, 5]) (xComp [.loc, .loc, .glo, .glo, .up 2, .up 3] (.one 1) (xTup (lCons (xVar 0) (lCons (xVar 1) lNil))) (xTake (xCat (xRep (xLst (lCons (xVal g0) lNil)) (xMin (xSub (xIdx (xVar 1) (xInt 0)) (xVar 4)) (xVar 5))) (xIdx (xVar 1) (xInt 1))) (xVar 5)))) (sThen (sRet (xTup (lCons (xVar 2) (lCons (xCall d19 (lCons (xVar 4) (lCons (xVar 5) lNil))) lNil)))) sEnd))))
noncomputable def d29 : DF := dDef 2 [.loc, .loc, .glo] (sThen (sRet (xTup (lCons (xAdd (xIdx (xVar 0) (xInt 0)) (xIdx (xVar 1) (xInt 0))) (lCons (xCall d22 (lCons (xIdx (xVar 0) (xInt 1)) (lCons (xIdx (xVar 1) (xInt 1)) lNil))) lNil)))) sEnd)
noncomputable def d30 : DF := dDef 1 [.loc, .loc, .loc, .glo, .glo] (sThen (sAsg (.many [1, 2]) (xVar 0)) (sThen (sWhl (xAnd (xGt (xLen (xVar 2)) (xInt 0)) (xEq (xIdx (xVar 2) (xInt 0)) (xVal g0))) (sThen (sAsg (.swap [1, 2]) (xTup (lCons (xAdd (xVar 1) (xInt 1)) (lCons (xDrop (xVar 2) (xInt 1)) lNil)))) sEnd)) (sThen (sRet (xTup (lCons (xVar 1) (lCons (xVar 2) lNil)))) sEnd)))
noncomputable def d31 : DF := dDef 1 [.loc, .loc, .loc, .glo, .glo, .glo, .glo] (sThen (sAsg (.many [1, 2]) (xCall d30 (lCons (xVar 0) lNil))) (sThen (sIf (xEq (xLen (xVar 2)) (xInt 0)) (sThen (sFail (xStr 6) (xStr 15)) sEnd) sEnd) (sThen (sRet (xTup (lCons (xSub (xInt 0) (xVar 1)) (lCons (xCall d23 (lCons (xVar 2) lNil)) lNil)))) sEnd)))
noncomputable def d32 : DF := dDef 2 [.loc, .loc, .loc, .loc, .loc, .glo, .glo, .glo, .glo, .glo, .glo, .glo, .glo, .glo, .glo, .glo, .glo] (sThen (sIf (xEq (xVar 1) (xInt 0)) (sThen (sRet (xTup (lCons (xInt 0) (lCons (xCat (xLst (lCons (xVal g1) lNil)) (xRep (xLst (lCons (xVal g0) lNil)) (xSub (xLen (xIdx (xVar 0) (xInt 1))) (xInt 1)))) lNil)))) sEnd) sEnd) (sThen (sIf (xLt (xVar 1) (xInt 0)) (sThen (sRet (xRec 1 (lCons (xCall d31 (lCons (xVar 0) lNil)) (lCons (xSub (xInt 0) (xVar 1)) lNil)))) sEnd) sEnd) (sThen (sAsg (.many [2, 3]) (xCall d30 (lCons (xVar 0) lNil))) (sThen (sAsg (.one 4) (xIte (xGt (xLen (xVar 3)) (xInt 0)) (xCall d9 (lCons (xIdx (xVar 3) (xInt 0)) (lCons (xVar 1) lNil))) (xVal g1))) (sThen (sIf (xOr (xLe (xVar 1) (xVal g3)) (xEq (xLen (xVar 3)) (xInt 0))) (sThen (sRet (xTup (lCons (xMul (xVar 2) (xVar 1)) (lCons (xCall d26 (lCons (xVar 3) (lCons (xVar 1) lNil))) lNil)))) sEnd) sEnd) (sThen (sRet (xTup (lCons (xMul (xVar 2) (xVar 1)) (lCons (xCall d20 (lCons (xVar 4) (lCons (xCall d25 (lCons (xCall d20 (lCons (xCall d7 (lCons (xVal g1) (lCons (xIdx (xVar 3) (xInt 0)) lNil))) (lCons (xVar 3) lNil))) (lCons (xTup (lCons (xVar 1) (lCons (xInt 1) lNil))) lNil))) lNil))) lNil)))) sEnd))))))
noncomputable def d33 : DF := dDef 2 [.loc, .loc, .loc, .loc, .glo] (sThen (sAsg (.swap [2, 3]) (xTup (lCons (xCall d2 (lCons (xIdx (xVar 0) (xInt 0)) (lCons (xVar 1) lNil))) (lCons (xCall d2 (lCons (xIdx (xVar 0) (xInt 1)) (lCons (xVar 1) lNil))) lNil)))) (sThen (sRet (xIte (xAnd (xEq (xPow (xVar 2) (xVar 1)) (xIdx (xVar 0) (xInt 0))) (xEq (xPow (xVar 3) (xVar 1)) (xIdx (xVar 0) (xInt 1)))) (xTup (lCons (xVar 2) (lCons (xVar 3) lNil))) xNon)) sEnd))
noncomputable def d34 : DF := dDef 2 [.loc, .loc, .loc, .loc, .loc, .loc, .glo, .glo, .glo, .glo, .glo, .glo, .glo, .glo, .glo, .glo] (sThen (sAsg (.many [2, 3]) (xCall d30 (lCons (xVar 0) lNil))) (sThen (sIf (xEq (xLen (xVar 3)) (xInt 0)) (sThen (sFail (xStr 6) (xStr 16)) sEnd) sEnd) (sThen (sIf (xOr (xNe (xMod (xMul (xVar 2) (xIdx (xVar 1) (xInt 0))) (xIdx (xVar 1) (xInt 1))) (xInt 0)) (xLe (xIdx (xIdx (xVar 3) (xInt 0)) (xInt 0)) (xInt 0))) (sThen (sFail (xStr 10) (xStr 17)) sEnd) sEnd) (sThen (sAsg (.one 4) (xCall d33 (lCons (xIdx (xVar 3) (xInt 0)) (lCons (xIdx (xVar 1) (xInt 1)) lNil)))) (sThen (sIf (xIsNon (xVar 4)) (sThen (sFail (xStr 10) (xStr 18)) sEnd) sEnd) (sThen (sIf (xLt (xIdx (xVar 1) (xInt 0)) (xInt 0)) (sThen (sAsg (.one 4) (xCall d7 (lCons (xVal g1) (lCons (xVar 4) lNil)))) sEnd) sEnd) (sThen (sAsg (.one 5) (xCall d9 (lCons (xVar 4) (lCons (xAbs (xIdx (xVar 1) (xInt 0))) lNil)))) (sThen (sRet (xTup (lCons (xDiv (xMul (xVar 2) (xIdx (xVar 1) (xInt 0))) (xIdx (xVar 1) (xInt 1))) (lCons (xCall d20 (lCons (xVar 5) (lCons (xCall d25 (lCons (xCall d20 (lCons (xCall d7 (lCons (xVal g1) (lCons (xIdx (xVar 3) (xInt 0)) lNil))) (lCons (xVar 3) lNil))) (lCons (xVar 1) lNil))) lNil))) lNil)))) sEnd))))))))
noncomputable def d35 : DF := dDef 4 [.loc, .loc, .loc, .loc, .loc, .glo, .glo, .glo, .glo] (sThen (sIf (xNe (xIdx (xVar 1) (xInt 0)) (xStr 19)) (sThen (sFail (xStr 10) (xStr 20)) sEnd) sEnd) (sThen (sIf (xAnd (xEq (xVar 0) (xTup (lCons (xStr 19) (lCons (xInt 0) (lCons (xInt 1) lNil))))) (xNe (xIdx (xVar 1) (xInt 2)) (xInt 1))) (sThen (sFail (xStr 10) (xStr 17)) sEnd) sEnd) (sThen (sAsg (.one 4) (xRec 0 (lCons (xVar 0) (lCons (xVar 2) (lCons (xVar 3) lNil))))) (sThen (sIf (xEq (xIdx (xVar 1) (xInt 2)) (xInt 1)) (sThen (sRet (xCall d32 (lCons (xVar 4) (lCons (xIdx (xVar 1) (xInt 1)) lNil)))) sEnd) sEnd) (sThen (sRet (xCall d34 (lCons (xVar 4) (lCons (xTup (lCons (xIdx (xVar 1) (xInt 1)) (lCons (xIdx (xVar 1) (xInt 2)) lNil))) lNil)))) sEnd)))))
noncomputable def d36 : DF := dDef 2 [.loc, .loc, .loc, .loc, .glo, .glo, .glo, .glo] (sThen (sAsg (.one 2) (xIte (xGt (xLen (xVar 0)) (xInt 0)) (xIdx (xVar 0) (xInt 0)) (xCall d27 (lCons (xVal g0) (lCons (xVar 1) lNil))))) (sThen (sFor (.one 3) (xDrop (xVar 0) (xInt 1)) (sThen (sAsg (.one 2) (xCall d28 (lCons (xVar 2) (lCons (xVar 3) lNil)))) sEnd)) (sThen (sRet (xVar 2)) sEnd)))
noncomputable def d37 : DF := dDef 3 [.loc, .cel, .cel, .loc, .loc, .loc, .glo, .glo, .glo, .glo, .glo, .glo, .glo, .glo, .glo, .glo] (sThen (sIf (xEq (xIdx (xVar 0) (xInt 0)) (xStr 19)) (sThen (sRet (xCall d27 (lCons (xTup (lCons (xIdx (xVar 0) (xInt 1)) (lCons (xIdx (xVar 0) (xInt 2)) lNil))) (lCons (xVar 1) lNil)))) sEnd) sEnd) (sThen (sIf (xEq (xIdx (xVar 0) (xInt 0)) (xStr 2)) (sThen (sIf (xNe (xIdx (xVar 0) (xInt 1)) (xIdx (xVar 2) (xInt 0))) (sThen (sFail (xStr 10) (xAdd (xStr 21) (xIdx (xVar 0) (xInt 1)))) sEnd) sEnd) (sThen (sRet (xTup (lCons (xIdx (xIdx (xVar 2) (xInt 1)) (xInt 0)) (lCons (xCat (xIdx (xIdx (xVar 2) (xInt 1)) (xInt 1)) (xRep (xLst (lCons (xVal g0) lNil)) (xSub (xVar 1) (xLen (xIdx (xIdx (xVar 2) (xInt 1)) (xInt 1)))))) lNil)))) sEnd)) sEnd) (sThen (sIf (xEq (xIdx (xVar 0) (xInt 0)) (xStr 22)) (sThen (sRet (xCall d35 (lCons (xIdx (xVar 0) (xInt 1)) (lCons (xIdx (xVar 0) (xInt 2)) (lCons (xVar 1) (lCons (xVar 2) lNil)))))) sEnd) sEnd) (sThen (sIf (xAnd (xEq (xIdx (xVar 0) (xInt 0)) (xStr 23)) (xAnd (xEq (xIdx (xVar 0) (xInt 1)) (xStr 24)) (xEq (xLen (xIdx (xVar 0) (xInt 2))) (xInt 1)))) (sThen (sRet (xCall d35 (lCons (xIdx (xIdx (xVar 0) (xInt 2)) (xInt 0)) (lCons (xTup (lCons (xStr 19) (lCons (xInt 1) (lCons (xInt 2) lNil)))) (lCons (xVar 1) (lCons (xVar 2) lNil)))))) sEnd) sEnd) (sThen (sIf (xAnd (xEq (xIdx (xVar 0) (xInt 0)) (xStr 23)) (xEq (xLen (xIdx (xVar 0) (xInt 2))) (xInt 1))) (sThen (sRet xBad) sEnd) sEnd) (sThen (sIf (xNotIn (xIdx (xVar 0) (xInt 0)) (xTup (lCons (xStr 25) (lCons (xStr 26) lNil)))) (sThen (sFail (xStr 10) (xAdd (xStr 27) (xIdx (xVar 0) (xInt 0)))) sEnd) sEnd) (sThen (sAsg (.one 3) (xComp [.loc, .loc, .glo, .up 2, .up 1] (.one 1) (xIdx (xVar 0) (xInt 1)) (xRec 0 (lCons (xVar 1) (lCons (xVar 4) (lCons (xVar 3) lNil)))))) (sThen (sIf (xEq (xIdx (xVar 0) (xInt 0)) (xStr 25)) (sThen (sRet (xCall d36 (lCons (xVar 3) (lCons (xVar 1) lNil)))) sEnd) sEnd) (sThen (sAsg (.one 4) (xCall d27 (lCons (xVal g1) (lCons (xVar 1) lNil)))) (sThen (sFor (.one 5) (xVar 3) (sThen (sAsg (.one 4) (xCall d29 (lCons (xVar 4) (lCons (xVar 5) lNil)))) sEnd)) (sThen (sRet (xVar 4)) sEnd)))))))))))
noncomputable def d38 : DF := dDef 3 [.loc, .loc, .loc, .loc, .loc, .loc, .glo, .glo, .glo, .glo, .glo] (sThen (sFor (.one 3) (xVal g4) (sThen (sTry (sThen (sAsg (.one 4) (xRec 0 (lCons (xVar 0) (lCons (xAdd (xMax (xVar 2) (xInt 1)) (xVar 3)) (lCons (xVar 1) lNil))))) (sThen (sIf (xGe (xAdd (xIdx (xVar 4) (xInt 0)) (xLen (xIdx (xVar 4) (xInt 1)))) (xVar 2)) (sThen (sRet (xVar 4)) sEnd) sEnd) sEnd)) 6) sEnd)) (sThen (sFail (xStr 6) (xStr 16)) sEnd))
noncomputable def d39 : DF := dDef 2 [.loc, .loc, .loc, .loc, .loc, .loc, .glo, .glo, .glo, .glo, .glo] (sThen (sAsg (.many [2, 3]) (xCall d30 (lCons (xVar 0) lNil))) (sThen (sIf (xOr (xEq (xLen (xVar 3)) (xInt 0)) (xGt (xVar 2) (xInt 0))) (sThen (sRet (xVal g0)) sEnd) sEnd) (sThen (sIf (xEq (xVar 2) (xInt 0)) (sThen (sRet (xIdx (xVar 3) (xInt 0))) sEnd) sEnd) (sThen (sAsg (.one 4) (xEq (xMod (xVar 2) (xInt 2)) (xInt 1))) (sThen (sIf (xAnd (xVar 4) (xEq (xVar 1) (xInt 0))) (sThen (sRet xNon) sEnd) sEnd) (sThen (sAsg (.one 5) (xNe (xGt (xIdx (xIdx (xVar 3) (xInt 0)) (xInt 0)) (xInt 0)) (xAnd (xVar 4) (xLt (xVar 1) (xInt 0))))) (sThen (sRet (xIte (xVar 5) (xVal g5) (xVal g6))) sEnd)))))))
noncomputable def d40 : DF := dDef 2 [.loc, .loc, .loc, .loc, .loc, .glo, .glo, .glo, .glo, .glo] (sThen (sFor (.one 2) (xVal g7) (sThen (sTry (sThen (sAsg (.one 3) (xCall d30 (lCons (xRec 0 (lCons (xVar 0) (lCons (xVar 2) (lCons (xVar 1) lNil)))) lNil))) (sThen (sIf (xOr (xGt (xLen (xIdx (xVar 3) (xInt 1))) (xInt 0)) (xGt (xIdx (xVar 3) (xInt 0)) (xInt 0))) (sThen (sRet (xVar 3)) sEnd) sEnd) sEnd)) 6) sEnd)) (sThen (sFail (xStr 6) (xStr 16)) sEnd))
noncomputable def d41 : DF := dDef 4 [.loc, .loc, .loc, .loc, .loc, .loc, .loc, .glo, .glo, .glo, .glo] (sThen (sIf (xNe (xVar 3) (xInt 0)) (sThen (sAsg (.one 4) (xIte (xGt (xVar 3) (xInt 0)) (xVal g1) (xTup (lCons (xNeg (xInt 1)) (lCons (xInt 1) lNil))))) (sThen (sRet (xCall d39 (lCons (xCall d40 (lCons (xVar 0) (lCons (xTup (lCons (xVar 1) (lCons (xTup (lCons (xInt 0) (lCons (xLst (lCons (xVar 2) (lCons (xVar 4) lNil))) lNil))) lNil))) lNil))) (lCons (xInt 1) lNil)))) sEnd)) sEnd) (sThen (sAsg (.swap [5, 6]) (xTup (lCons xBad (lCons xBad lNil)))) (sThen (sRet (xIte (xEq (xVar 5) (xVar 6)) (xVar 5) xNon)) sEnd)))
noncomputable def d42 : DF := dDef 4 [.loc, .loc, .loc, .loc, .glo, .glo, .glo, .glo] (sThen (sIf (xOr (xEq (xVar 2) (xVal g5)) (xEq (xVar 2) (xVal g6))) (sThen (sRet xBad) sEnd) sEnd) (sThen (sRet (xCall d41 (lCons (xVar 0) (lCons (xVar 1) (lCons (xVar 2) (lCons (xVar 3) lNil)))))) sEnd))
noncomputable def d43 : DF := dDef 2 [.loc, .loc, .glo, .glo] (sThen (sPut 0 (xInt 1) (xAdd (xIdx (xVar 0) (xInt 1)) (xInt 1))) (sThen (sIf (xLe (xIdx (xVar 0) (xInt 1)) (xLen (xIdx (xVar 0) (xInt 0)))) (sThen (sRet (xMod (xAbs (xIdx (xIdx (xVar 0) (xInt 0)) (xSub (xIdx (xVar 0) (xInt 1)) (xInt 1)))) (xVar 1))) sEnd) sEnd) (sThen (sRet (xMod (xAdd (xMul (xInt 5) (xIdx (xVar 0) (xInt 1))) (xDiv (xIdx (xVar 0) (xInt 1)) (xInt 3))) (xVar 1))) sEnd)))
noncomputable def d44 : DF := dDef 1 [.loc, .loc, .cel, .cel, .loc, .cel, .glo, .glo, .glo, .glo] (sThen (sAsg (.many [1, 2, 3]) (xTup (lCons (xCall d43 (lCons (xVar 0) (lCons (xInt 4) lNil))) (lCons (xCall d43 (lCons (xVar 0) (lCons (xInt 4) lNil))) (lCons (xSub (xCall d43 (lCons (xVar 0) (lCons (xInt 9) lNil))) (xInt 4)) lNil))))) (sThen (sAsg (.one 5) (xComp [.loc, .cel, .glo, .up 3, .up 2] (.one 1) (xRan1 (xVar 1)) (xComp [.loc, .loc, .up 1, .up 3] (.one 1) (xRan1 (xVar 4)) (xTup (lCons (xSub (xAdd (xVar 3) (xMul (xInt 3) (xVar 2))) (xMul (xInt 2) (xVar 1))) (lCons (xInt 1) lNil)))))) (sThen (sAsg (.one 4) (xIte (xIn (xVar 1) (xTup (lCons (xInt 0) (lCons (xVar 2) lNil)))) (xTup (lCons (xSum (xComp [.loc, .loc, .up 3] (.one 1) (xRan1 (xVar 1)) (xAdd (xVar 2) (xVar 1)))) (lCons (xInt 1) lNil))) (xStr 8))) (sThen (sRet (xEq (xTold [.up 5, .glo] (xCall d14 (lCons (xVar 0) lNil))) (xVar 4))) sEnd))))
noncomputable def d45 : DF := dDef 1 [.cel, .loc, .loc, .loc, .loc, .loc, .cel, .glo, .glo, .glo, .glo, .glo] (sThen (sAsg (.many [6, 1]) (xTup (lCons (xComp [.loc, .loc, .glo, .up 0] (.one 1) (xRan1 (xAdd (xInt 1) (xCall d43 (lCons (xVar 0) (lCons (xInt 4) lNil))))) (xSub (xCall d43 (lCons (xVar 3) (lCons (xInt 7) lNil))) (xInt 3))) (lCons (xLst lNil) lNil)))) (sThen (sFor (.one 2) (xRan1 (xLen (xVar 6))) (sThen (sAsg (.swap [3, 4]) (xTup (lCons (xIdx (xVar 6) (xVar 2)) (lCons (xInt 1) lNil)))) (sThen (sFor (.one 5) (xRev (xTake (xVar 6) (xVar 2))) (sThen (sAsg (.swap [3, 4]) (xTup (lCons (xAdd (xMul (xVar 5) (xVar 3)) (xVar 4)) (lCons (xVar 3) lNil)))) sEnd)) (sThen (sApp 1 (xIte (xGe (xVar 4) (xInt 0)) (xTup (lCons (xVar 3) (lCons (xVar 4) lNil))) (xTup (lCons (xSub (xInt 0) (xVar 3)) (lCons (xSub (xInt 0) (xVar 4)) lNil))))) sEnd)))) (sThen (sIf (xNe (xCall d15 (lCons (xVar 6) lNil)) (xVar 1)) (sThen (sRet (xBoo false)) sEnd) sEnd) (sThen (sRet (xEq (xTold [.up 6, .glo] (xCall d16 (lCons (xVar 0) lNil))) (xIte (xGt (xIdx (xIdx (xVar 1) (xNeg (xInt 1))) (xInt 1)) (xInt 0)) (xIdx (xVar 1) (xNeg (xInt 1))) (xStr 4)))) sEnd))))
noncomputable def d46 : DF := dDef 1 [.loc, .loc, .loc, .loc, .loc, .loc, .loc, .loc, .cel, .cel, .glo, .glo, .glo, .glo] (sThen (sAsg (.swap [1, 2, 3]) (xTup (lCons (xIdx (xLst (lCons (xInt 80) (lCons (xInt 4) (lCons (xInt 0) (lCons (xInt 1) (lCons (xInt 20) (lCons (xNeg (xInt 2)) (lCons (xNeg (xInt 5)) (lCons (xInt 6) lNil))))))))) (xCall d43 (lCons (xVar 0) (lCons (xInt 8) lNil)))) (lCons (xAdd (xInt 1) (xCall d43 (lCons (xVar 0) (lCons (xInt 3) lNil)))) (lCons (xIdx (xLst (lCons (xInt 0) (lCons (xInt 1) (lCons (xNeg (xInt 2)) lNil)))) (xCall d43 (lCons (xVar 0) (lCons (xInt 3) lNil)))) lNil))))) (sThen (sAsg (.many [8, 4]) (xTup (lCons (xIdx (xLst (lCons (xInt 1) (lCons (xNeg (xInt 1)) lNil))) (xCall d43 (lCons (xVar 0) (lCons (xInt 2) lNil)))) (lCons (xTup (lCons (xStr 25) (lCons (xTup (lCons (xTup (lCons (xStr 19) (lCons (xInt 1) (lCons (xInt 1) lNil)))) (lCons (xTup (lCons (xStr 26) (lCons (xTup (lCons (xTup (lCons (xStr 19) (lCons (xVar 3) (lCons (xInt 1) lNil)))) (lCons (xVal g8) lNil))) lNil))) lNil))) lNil))) lNil)))) (sThen (sAsg (.one 9) (xTup (lCons (xStr 23) (lCons (xStr 24) (lCons (xTup (lCons (xTup (lCons (xStr 26) (lCons (xTup (lCons (xTup (lCons (xStr 19) (lCons (xMul (xVar 2) (xVar 2)) (lCons (xInt 1) lNil)))) (lCons (xTup (lCons (xStr 22) (lCons (xVal g8) (lCons (xTup (lCons (xStr 19) (lCons (xVar 1) (lCons (xInt 1) lNil)))) lNil)))) (lCons (xVar 4) lNil)))) lNil))) lNil)) lNil))))) (sThen (sAsg (.one 5) (xIte (xEq (xMod (xVar 1) (xInt 2)) (xInt 1)) (xStr 10) (xIte (xLt (xVar 1) (xInt 0)) (xStr 0) (xIte (xGt (xVar 1) (xInt 0)) (xTup (lCons (xInt 0) (lCons (xInt 1) lNil))) (xTup (lCons (xVar 2) (lCons (xInt 1) lNil))))))) (sThen (sIf (xNe (xTold [.up 8, .up 9, .glo] (xCall d42 (lCons (xVar 1) (lCons (xStr 3) (lCons (xTup (lCons (xInt 0) (lCons (xInt 1) lNil))) (lCons (xVar 0) lNil)))))) (xVar 5)) (sThen (sRet (xBoo false)) sEnd) sEnd) (sThen (sIf (xOr (xEq (xMod (xVar 1) (xInt 2)) (xInt 1)) (xGt (xVar 1) (xInt 6))) (sThen (sRet (xBoo true)) sEnd) sEnd) (sThen (sAsg (.one 6) (xCall d38 (lCons (xVar 9) (lCons (xTup (lCons (xStr 3) (lCons (xTup (lCons (xInt 0) (lCons (xLst (lCons (xTup (lCons (xInt 0) (lCons (xInt 1) lNil))) (lCons (xTup (lCons (xInt 1) (lCons (xInt 1) lNil))) lNil))) lNil))) lNil))) (lCons (xAdd (xDiv (xVar 1) (xInt 2)) (xInt 2)) lNil))))) (sThen (sAsg (.one 7) (xIte (xEq (xMod (xMul (xVar 2) (xVar 3)) (xInt 2)) (xInt 0)) (xTup (lCons (xDiv (xMul (xVar 2) (xVar 3)) (xInt 2)) (lCons (xInt 1) lNil))) (xTup (lCons (xMul (xVar 2) (xVar 3)) (lCons (xInt 2) lNil))))) (sThen (sRet (xAnd (xEq (xIdx (xVar 6) (xInt 0)) (xDiv (xVar 1) (xInt 2))) (xEq (xTake (xIdx (xVar 6) (xInt 1)) (xInt 2)) (xLst (lCons (xTup (lCons (xVar 2) (lCons (xInt 1) lNil))) (lCons (xVar 7) lNil)))))) sEnd)))))))))
noncomputable def d47 : DF := dDef 1 [.loc, .loc, .glo, .glo, .glo, .glo] (sThen (sAsg (.one 1) (xLst (lCons (xList (xTake (xVar 0) (xInt 16))) (lCons (xInt 0) lNil)))) (sThen (sRet (xAnd (xCall d44 (lCons (xVar 1) lNil)) (xAnd (xCall d45 (lCons (xVar 1) lNil)) (xCall d46 (lCons (xVar 1) lNil))))) sEnd))
noncomputable def cc (n : Nat) : C := Nat.rec (motive := fun _ => C) (fun _ _ _ => .bad) (fun _ c k => ifB (Nat.beq k 0) (d37 c) (ifB (Nat.beq k 1) (d32 c) (fun _ _ => .bad))) n
end
end Mine
end

section
open PySem PySem.W PyProof.Rows
namespace Mine
set_option maxRecDepth 100000

/-! what is seen of the heap when the top has run -/
noncomputable abbrev pw : Program := PySem.Challenge.pw_rh0044_01
noncomputable def keeps : List Nat := [99]
noncomputable def qv : Program := view pw keeps
noncomputable def looseL : List Str := [Str.ofString "CasFail", Str.ofString "gcd", Str.ofString "bits_of", Str.ofString "root_of", Str.ofString "R0", Str.ofString "R1", Str.ofString "MOST_BITS", Str.ofString "rat", Str.ofString "radd", Str.ofString "rsub", Str.ofString "rmul", Str.ofString "rdiv", Str.ofString "rneg", Str.ofString "rinv", Str.ofString "rpower", Str.ofString "is_vast", Str.ofString "rcompare", Str.ofString "shape", Str.ofString "need_shape", Str.ofString "trace", Str.ofString "convergents", Str.ofString "fraction_value", Str.ofString "STILL", Str.ofString "MOST_TURNS", Str.ofString "MOST_KINDS", Str.ofString "ginsert", Str.ofString "gadd", Str.ofString "poly_sum", Str.ofString "kind_product", Str.ofString "gmul", Str.ofString "kind_compare", Str.ofString "fastest", Str.ofString "exponent_of", Str.ofString "gpower", Str.ofString "gratio_power", Str.ofString "groot", Str.ofString "growth_of", Str.ofString "growth_of_other", Str.ofString "far_limit", Str.ofString "cut", Str.ofString "let", Str.ofString "sadd", Str.ofString "sscale", Str.ofString "mixed", Str.ofString "smul", Str.ofString "sinverse", Str.ofString "sderive", Str.ofString "sintegrate", Str.ofString "need_begin", Str.ofString "sexp", Str.ofString "slog", Str.ofString "ssin_cos", Str.ofString "ssin", Str.ofString "scos", Str.ofString "satan", Str.ofString "spower", Str.ofString "swhole_power", Str.ofString "MOST_SQUARED", Str.ofString "lplain", Str.ofString "ladd", Str.ofString "lmul", Str.ofString "ltrim", Str.ofString "linverse", Str.ofString "lpower", Str.ofString "MORE", Str.ofString "exact_root", Str.ofString "from_zero", Str.ofString "of_call", Str.ofString "of_root", Str.ofString "of_power", Str.ofString "of_sum", Str.ofString "of_term", Str.ofString "laurent_of", Str.ofString "FAR", Str.ofString "LOW", Str.ofString "TRIES", Str.ofString "from_begin", Str.ofString "begun_series", Str.ofString "limit_near", Str.ofString "mirrored", Str.ofString "limit_far", Str.ofString "limit", Str.ofString "_law_x", Str.ofString "_law_take", Str.ofString "_law_told", Str.ofString "_law_trace_right", Str.ofString "_law_cuts_right", Str.ofString "_law_roots_right"]
noncomputable abbrev txtB (k : Nat) : Str := Str.ofString (texts.getD k "")
/-- the things at some addresses, in hand -/
noncomputable def fragK {β : Type} (h : Heap) (d : β) : List Addr → (Frag → β) → β
  | [], k => k []
  | a :: as, k => match h.get? a with
    | some o => fragK h d as fun K => k ((a, o) :: K)
    | none => d
noncomputable def vrb (K : Frag) : Nat → Value → AV → Bool
  | 0, _, _ => false
  | _ + 1, .int i _, .int j => decide (i = j)
  | _ + 1, .str s _, .str k => Nat.blt k 28 && s == txtB k
  | n + 1, .ref a, .tup l => match K.lookup a with
    | some ⟨.type "tuple", _, .seq vs _, _⟩ => vs.toList.length == l.length && (vs.toList.zip l).all fun x => vrb K n x.1 x.2
    | _ => false
  | _ + 1, _, _ => false
abbrev FnVw := Arguments × FuncBody × Scope × Bool × Value
noncomputable def isNone (v : Value) : Bool := match v with
  | .none => true
  | _ => false
noncomputable def fnV (K : Frag) (a : Addr) : Option FnVw := match K.lookup a with
  | some ⟨.type "function", _, .func fd, _⟩ => some (fd.params, fd.body, fd.scope, fd.closure.isEmpty && Nat.beq fd.globals mainGlobals && Nat.beq fd.builtins builtinsNs && isNone fd.defaults && isNone fd.kwdefaults && codeIn K fd.code fd.qualname, fd.code)
  | _ => none
noncomputable def astV (i : Nat) (c : Addr) : Option FnVw := match pw.main.body[i]? with
  | some (.FunctionDef _ ps b _ _ _ sc _ _ _) => some (ps, .stmts b, sc, true, .ref c)
  | _ => none
noncomputable def iniV : Option FnVw := match pw.main.body[(1 : Nat)]? with
  | some (.ClassDef _ _ _ [.FunctionDef _ ps b _ _ _ sc _ _ _] _ _ _ _ _ _ _) => some (ps, .stmts b, sc, true, .ref 27)
  | _ => none
noncomputable def addrsL : List Addr := [2, 3, 27, 28, 30, 31, 40, 41, 47, 48, 54, 55, 56, 57, 63, 64, 70, 71, 77, 78, 84, 85, 91, 92, 105, 106, 112, 113, 119, 120, 126, 127, 133, 134, 140, 141, 147, 148, 154, 155, 161, 162, 260, 261, 267, 268, 272, 273, 277, 278, 284, 285, 289, 290, 296, 297, 313, 314, 362, 363, 369, 370, 376, 377, 381, 382, 388, 389, 395, 396, 402, 403, 409, 410, 411, 417, 418, 438, 439, 445, 446, 452, 453, 457, 458, 464, 465, 466, 472, 473, 479, 480, 486, 487, 505, 506, 507, 513, 514, 520, 521, 525, 526, 530, 531, 537, 538]
noncomputable def fnsL : List (Addr × Nat) := [(41, 3), (48, 4), (55, 5), (64, 10), (71, 11), (78, 12), (85, 13), (92, 14), (106, 16), (113, 17), (120, 18), (127, 19), (134, 21), (141, 22), (148, 23), (155, 25), (162, 26), (261, 46), (268, 47), (273, 48), (278, 49), (285, 50), (290, 51), (297, 52), (314, 55), (363, 62), (370, 63), (377, 66), (382, 67), (389, 68), (396, 69), (403, 70), (410, 71), (418, 74), (439, 77), (446, 78), (453, 79), (458, 80), (465, 81), (473, 86), (480, 87), (487, 88), (506, 91), (514, 94), (526, 96), (531, 97), (538, 98), (521, 95)]
noncomputable def glL : List (Str × Option Value) := [(Str.ofString "gcd", some (.ref 41)), (Str.ofString "bits_of", some (.ref 48)), (Str.ofString "root_of", some (.ref 55)), (Str.ofString "rat", some (.ref 64)), (Str.ofString "radd", some (.ref 71)), (Str.ofString "rsub", some (.ref 78)), (Str.ofString "rmul", some (.ref 85)), (Str.ofString "rdiv", some (.ref 92)), (Str.ofString "rinv", some (.ref 106)), (Str.ofString "rpower", some (.ref 113)), (Str.ofString "is_vast", some (.ref 120)), (Str.ofString "rcompare", some (.ref 127)), (Str.ofString "shape", some (.ref 134)), (Str.ofString "need_shape", some (.ref 141)), (Str.ofString "trace", some (.ref 148)), (Str.ofString "convergents", some (.ref 155)), (Str.ofString "fraction_value", some (.ref 162)), (Str.ofString "cut", some (.ref 261)), (Str.ofString "let", some (.ref 268)), (Str.ofString "sadd", some (.ref 273)), (Str.ofString "sscale", some (.ref 278)), (Str.ofString "mixed", some (.ref 285)), (Str.ofString "smul", some (.ref 290)), (Str.ofString "sinverse", some (.ref 297)), (Str.ofString "need_begin", some (.ref 314)), (Str.ofString "spower", some (.ref 363)), (Str.ofString "swhole_power", some (.ref 370)), (Str.ofString "lplain", some (.ref 377)), (Str.ofString "ladd", some (.ref 382)), (Str.ofString "lmul", some (.ref 389)), (Str.ofString "ltrim", some (.ref 396)), (Str.ofString "linverse", some (.ref 403)), (Str.ofString "lpower", some (.ref 410)), (Str.ofString "exact_root", some (.ref 418)), (Str.ofString "of_root", some (.ref 439)), (Str.ofString "of_power", some (.ref 446)), (Str.ofString "of_sum", some (.ref 453)), (Str.ofString "of_term", some (.ref 458)), (Str.ofString "laurent_of", some (.ref 465)), (Str.ofString "from_begin", some (.ref 473)), (Str.ofString "begun_series", some (.ref 480)), (Str.ofString "limit_near", some (.ref 487)), (Str.ofString "limit", some (.ref 506)), (Str.ofString "_law_take", some (.ref 514)), (Str.ofString "_law_trace_right", some (.ref 526)), (Str.ofString "_law_cuts_right", some (.ref 531)), (Str.ofString "_law_roots_right", some (.ref 538)), (Str.ofString "_law_told", some (.ref 521)), (Str.ofString "CasFail", some (.ref 31)), (Str.ofString "Exception", none), (Str.ofString "abs", none), (Str.ofString "min", none), (Str.ofString "max", none), (Str.ofString "len", none), (Str.ofString "sum", none), (Str.ofString "list", none), (Str.ofString "range", none)]
noncomputable def valsL : List (Str × AV) := [(Str.ofString "R0", g0), (Str.ofString "R1", g1), (Str.ofString "MOST_BITS", g2), (Str.ofString "MOST_SQUARED", g3), (Str.ofString "MORE", g4), (Str.ofString "FAR", g5), (Str.ofString "LOW", g6), (Str.ofString "TRIES", g7), (Str.ofString "_law_x", g8)]
noncomputable def nsL : List (Str × Option Value) := [(Str.ofString "__init__", some (.ref 28)), (Str.ofString "__setattr__", none), (Str.ofString "kind", none), (Str.ofString "text", none), (Str.ofString "__getattribute__", none)]
noncomputable def valOk (K : Frag) (x : Str × AV) : Bool := match nsIn K mainGlobals x.1 with
  | some (some v) => vrb K 4 v x.2
  | _ => false
noncomputable def casObj : Obj := excClassObj (Str.ofString "CasFail") (Str.ofString "CasFail") 31 30 [.type "Exception"] [.type "Exception", .type "BaseException", .type "object"] true [] [] false none none (some (.ref 15)) none (some (.str (Str.ofString "CasFail") 189)) (some (.str (Str.ofString "CasFail") 197)) (some (.bool true)) "Exception.__new__"
abbrev ObsK := List (Option FnVw) × Option FnVw × List (Option (Option Value)) × List Bool × Option Obj × List (Option (Option Value)) × (Option (Option Value) × Option (Option Value) × Option (Option Value)) × Bool
noncomputable def goodK (K : Frag) : ObsK := (fnsL.map fun x => fnV K x.1, fnV K 28, glL.map fun x => nsIn K mainGlobals x.1, valsL.map fun x => valOk K x, K.lookup 31, nsL.map fun x => nsIn K 30 x.1,
  (findIn K (.ref 31) "__getattribute__", findIn K (.ref 31) "__getattr__", findIn K (.ref 31) (Str.ofString "kind")), hasDictIn K 31 && nsOkIn K 30 && noTabs K && codeHdIn K 525 523 && codeHdIn K 530 528 && codeHdIn K 537 533)
noncomputable def goodV : ObsK := (fnsL.map fun x => astV x.2 (x.1 - 1), iniV, glL.map fun x => some x.2, valsL.map fun _ => true, some casObj, nsL.map fun x => some x.2, (some (some (.builtin "BaseException.__getattribute__")), some none, some none), true)
noncomputable def tabsL : List Addr := [533, 528, 523]
noncomputable def obs (s : Shared) : Option ObsK × List (Option Obj) := (fragK s.heap none addrsL fun K => some (goodK K), tabsL.map s.heap.get?)
noncomputable def val (_ : World) : Option ObsK × List (Option Obj) := (some goodV, tabsL.map fun _ => some (tabObj #[]))
end Mine
end

section
open PySem PySem.W PyProof.Rows
namespace Mine
set_option maxRecDepth 100000
theorem noRoad_cut {lk : Look} (n : Nat) {l : List Stmt} (h1 : PySem.W.Fast.tw8326940854005059898 lk (l.take n) = true) (h2 : PySem.W.Fast.tw8326940854005059898 lk (l.drop n) = true) : PySem.W.Fast.tw8326940854005059898 lk l = true := by
  rw [← PySem.W.Fast.te8326940854005059898] at h1 h2 ⊢
  induction n generalizing l with
  | zero => exact h2
  | succ n ih => cases l with
    | nil => exact h2
    | cons s r =>
      rw [List.take_succ_cons, noRoadLSs] at h1
      rw [noRoadLSs, (Bool.and_eq_true_iff.mp h1).1, ih (Bool.and_eq_true_iff.mp h1).2 h2]
      rfl
theorem noRoad_as {s : Bool} {b : List Str} {l : List Stmt} (hs : s = false) (hb : b = []) (h : PySem.W.Fast.tw8326940854005059898 { strict := false, foot := none, bare := [] } l = true) : PySem.W.Fast.tw8326940854005059898 { strict := s, foot := none, bare := b } l = true := by
  subst hs hb
  exact h
set_option profiler true
set_option maxHeartbeats 8000000 in
theorem said : PySem.Challenge.rw_rh0044_01.wellSaid = true := by
  rw [PySem.W.Fast.te9446332074065402090]
  delta PySem.W.Fast.tw9446332074065402090
  repeat' (with_reducible refine look_both ?_ ?_)
  · delta PySem.W.Fast.tw17960256430627541270
    repeat' (with_reducible refine look_both ?_ ?_)
    · delta PySem.W.Fast.tw2436336058641802641
      repeat' (with_reducible refine look_both ?_ ?_)
      · delta PySem.W.Fast.tw12908688711261696721
        repeat' (with_reducible refine look_both ?_ ?_)
        all_goals (try (with_reducible refine noRoad_as ?_ ?_ (noRoad_cut 25 ?_ (noRoad_cut 25 ?_ (noRoad_cut 25 ?_ ?_)))))
        all_goals decide +kernel
      all_goals decide +kernel
    all_goals decide +kernel
  all_goals decide +kernel
theorem opens_ok : (chainsOk qv && opensWell PySem.Challenge.rw_rh0044_01.row.prog && (frees PySem.Challenge.rw_rh0044_01.row.toRowW && PySem.Challenge.rw_rh0044_01.row.within.isEmpty)) = true := by decide +kernel
end Mine
end

section
open PySem PySem.W PyProof.Rows
namespace Mine
set_option maxRecDepth 100000

/-! the top's run over a tree of objects, from the state that every plain text opens with -/
noncomputable def runT (den : Code → Sem Fin) (p : Program) (w : World) (n₀ : Nat) (ann : Option Value) (n : Nat) : SharedT → Thread → Option SharedT :=
  Nat.rec (motive := fun _ => SharedT → Thread → Option SharedT) (fun _ _ => none)
    (fun _ ih s t => Bool.rec (motive := fun _ => Option SharedT)
      (Bool.rec (motive := fun _ => Option SharedT) none
        (Option.rec (motive := fun _ => Option SharedT) none (fun r => Prod.rec (motive := fun _ => Option SharedT) (fun s' t' => SharedT.rec (motive := fun _ => Option SharedT) (fun T n life gens drawn toks os => fN n fun n => ih ⟨T, n, life, gens, drawn, toks, os⟩ t') s') r) (PySem.W.Fast.tw10156331382660048174 den p w s t))
        (PySem.W.Fast.tw6613529449190102663 n₀ ann t))
      (some s) (through t)) n
theorem runT_of {tb : String → Option Builtin} {p : Program} {w : World} {n₀ : Nat} {ann : Option Value} : ∀ {n : Nat} {s s' : SharedT} {t : Thread}, runT (denote tb) p w n₀ ann n s t = some s' → topRun tb p w n₀ ann n s.abs t = some s'.abs
  | 0, _, _, _, h => by cases h
  | n + 1, s, s', t, h => by
    unfold topRun
    have h : Bool.rec (motive := fun _ => Option SharedT) (Bool.rec (motive := fun _ => Option SharedT) none
        (Option.rec (motive := fun _ => Option SharedT) none (fun r => Prod.rec (motive := fun _ => Option SharedT) (fun s' t' => SharedT.rec (motive := fun _ => Option SharedT) (fun T k life gens drawn toks os => fN k fun k => runT (denote tb) p w n₀ ann n ⟨T, k, life, gens, drawn, toks, os⟩ t') s') r) (PySem.W.Fast.tw10156331382660048174 (denote tb) p w s t))
        (PySem.W.Fast.tw6613529449190102663 n₀ ann t)) (some s) (through t) = some s' := h
    rw [← PySem.W.Fast.te10156331382660048174, ← PySem.W.Fast.te6613529449190102663] at h
    cases ht : through t with
    | true => rw [ht] at h; cases h; rfl
    | false =>
      rw [ht] at h
      cases hk : stepOk n₀ ann t with
      | false => rw [hk] at h; cases h
      | true =>
        rw [hk] at h
        cases hs : stepT (denote tb) p w s t with
        | none => rw [hs] at h; cases h
        | some r =>
          obtain ⟨⟨T, k, life, gens, drawn, toks, os⟩, t₂⟩ := r
          rw [hs] at h
          have h : fN k (fun k => runT (denote tb) p w n₀ ann n ⟨T, k, life, gens, drawn, toks, os⟩ t₂) = some s' := h
          rw [fN_eq] at h
          rw [stepT_spec hs]
          exact runT_of h
noncomputable def treeOf : List Obj → BT → Nat → BT
  | [], T, _ => T
  | o :: r, T, n => treeOf r (T.ins n o) (n + 1)
noncomputable def boot0 (w : World) (os : OsState) : SharedT := ⟨treeOf (boot_heap w.params).objs.toList .nil 0, (boot_heap w.params).objs.size, (boot_heap w.params).life, Array.mk [], boot_drawn, boot_toks, os⟩
theorem boot0_abs (w : World) (os : OsState) : (boot0 w os).abs = ⟨boot_heap w.params, Array.mk [], boot_drawn, boot_toks, os⟩ := by kernel_rfl
theorem bootSize (w : World) : ((boot_heap w.params).isNs mainGlobals && (Array.mk ([] : List GenState)).size == 0, (boot_heap w.params).objs.size, (boot_heap w.params).nsMap mainGlobals "__annotations__") = (true, 11, some (.ref 6)) := by kernel_rfl
/-- the tree as a list of things, told whole first -/
noncomputable def tl {β : Type} (T : BT) (n : Nat) : List Obj → (List Obj → β) → β := Nat.rec (motive := fun _ => List Obj → (List Obj → β) → β) (fun acc k => k acc)
  (fun n ih acc k => Option.rec (motive := fun _ => β) (ih (default :: acc) k) (fun o => ih (o :: acc) k) (T.get n)) n
theorem tl_eq {β : Type} (T : BT) : ∀ (n : Nat) (acc : List Obj) (k : List Obj → β), tl T n acc k = k (T.list n ++ acc)
  | 0, acc, k => rfl
  | n + 1, acc, k => by
    have e : tl T (n + 1) acc k = tl T n ((T.get n).getD default :: acc) k := by
      show Option.rec (motive := fun _ => β) (tl T n (default :: acc) k) (fun o => tl T n (o :: acc) k) (T.get n) = _
      cases T.get n <;> rfl
    rw [e, tl_eq T n]
    unfold BT.list
    rw [List.range_succ, List.map_append, List.append_assoc]
    rfl
noncomputable def told (s : SharedT) {β : Type} (k : Shared → β) : β := tl s.tree s.n [] fun l => k ⟨⟨⟨l⟩, s.life⟩, s.gens, s.drawn, s.toks, s.os⟩
theorem told_abs (s : SharedT) {β : Type} (k : Shared → β) : told s k = k s.abs := by
  unfold told
  rw [tl_eq, List.append_nil]
  rfl
noncomputable def onRun {β : Type} (r : Option SharedT) (d : β) (k : SharedT → β) : β := Option.rec (motive := fun _ => β) d k r
/-- the head, from a run over the tree -/
theorem left_gen {p q : Program} {loose : List Str} {Xt : Shared → Bool} {α : Type} {Yf : Shared → α} {Ya : World → α} {N : Nat} {H₀ : Params → Heap} {gs₀ : Array GenState} {d₀ : Drawn} {k₀ m₀ : Nat} {ann : Option Value} (B : World → OsState → SharedT)
    (open_ : ∀ w : World, (fencedOpening treeTable p w N).map (fun s => (s.heap, s.gens, s.drawn, s.toks)) = some (H₀ w.params, gs₀, d₀, k₀))
    (size : ∀ w : World, ((H₀ w.params).isNs mainGlobals && gs₀.size == 0, (H₀ w.params).objs.size, (H₀ w.params).nsMap mainGlobals "__annotations__") = (true, m₀, ann))
    (abs : ∀ w os, (B w os).abs = ⟨H₀ w.params, gs₀, d₀, k₀, os⟩)
    (look : ∀ w os, onRun (runT (PySem.W.Fast.tw11892475500146522536 PySem.W.Fast.tw14364793385576792824) p w m₀ ann N (B w os) (topStub p)) none (fun s => told s fun s =>
      some ((staticsOk (importedModules p.main.body) (H₀ w.params) s.heap && namesBound p s.heap && gensDone s && laidKept (H₀ w.params) s.heap), @PySem.W.Fast.tw4187177175401517315 q loose (importedModules p.main.body) Xt true s, Yf s)) = some (true, openGood q loose, Ya w)) : LeftO p q loose Xt Yf Ya N := by
  intro w
  obtain ⟨⟨h, gs, d, k, os⟩, e, e'⟩ := Option.map_eq_some_iff.mp (open_ w)
  obtain ⟨rfl, rfl, rfl, rfl⟩ : h = H₀ w.params ∧ gs = gs₀ ∧ d = d₀ ∧ k = k₀ := by simpa using e'
  obtain ⟨z1, z2, z3⟩ : _ ∧ _ ∧ _ := by simpa only [Prod.mk.injEq] using size w
  have hl := look w os
  rw [← PySem.W.Fast.te11892475500146522536, ← PySem.W.Fast.te14364793385576792824] at hl
  cases hr : runT (denote treeTable) p w m₀ ann N (B w os) (topStub p) with
  | none => rw [hr] at hl; cases hl
  | some s' =>
    rw [hr] at hl
    have hl : told s' (fun s => some ((staticsOk (importedModules p.main.body) (H₀ w.params) s.heap && namesBound p s.heap && gensDone s && laidKept (H₀ w.params) s.heap), @PySem.W.Fast.tw4187177175401517315 q loose (importedModules p.main.body) Xt true s, Yf s)) = some (true, openGood q loose, Ya w) := hl
    rw [told_abs, ← PySem.W.Fast.te4187177175401517315] at hl
    obtain ⟨l1, l2⟩ := Prod.mk.inj (Option.some.inj hl)
    have r := runT_of hr
    rw [abs] at r
    have t : topFrom treeTable p w N ⟨H₀ w.params, gs, d, k, os⟩ = some s'.abs := by
      unfold topFrom
      dsimp only
      rw [z1, z2, z3, r]
      show (match staticsOk (importedModules p.main.body) (H₀ w.params) s'.abs.heap && namesBound p s'.abs.heap && gensDone s'.abs && laidKept (H₀ w.params) s'.abs.heap with | true => _ | false => _) = _
      rw [l1]
    unfold openEnds
    rw [e]
    show (topFrom treeTable p w N _).map _ = _
    rw [t]
    exact congrArg some l2
end Mine
end

section
open PySem PySem.W PyProof.Rows
namespace Mine
set_option maxRecDepth 100000
noncomputable abbrev xtL (s : Shared) : Bool := xlAt qv [] s && recOk (RowW.records PySem.Challenge.rw_rh0044_01.row.toRowW) s
theorem opens_plain : opening pw = plainProg pw.main.scope.names := by kernel_rfl
theorem fence_none (s : Shared) : fenceModules? pw s = some s := by rfl
theorem look_all (w : World) (os : OsState) : onRun (runT (PySem.W.Fast.tw11892475500146522536 PySem.W.Fast.tw14364793385576792824) pw w 11 (some (.ref 6)) 5706 (boot0 w os) (topStub pw)) none (fun s => told s fun s =>
    some ((staticsOk (importedModules pw.main.body) (boot_heap w.params) s.heap && namesBound pw s.heap && gensDone s && laidKept (boot_heap w.params) s.heap), @PySem.W.Fast.tw4187177175401517315 qv looseL (importedModules pw.main.body) xtL true s, obs s)) = some (true, openGood qv looseL, val w) := by kernel_rfl
theorem left : LeftO pw qv looseL xtL obs val 5706 := left_gen boot0 (boot_open opens_plain (by rfl) fence_none) bootSize boot0_abs look_all
end Mine
end

section
open PySem PySem.W PyProof.Rows PySem.Calls PySem.Spec
namespace Mine

/-! what the small helpers say -/
theorem nth_eq {α β : Type} (k : α → R β) : ∀ (l : List α) (i : Nat), nth l i k = match l[i]? with | some x => k x | none => .bad
  | [], _ => rfl
  | _ :: _, 0 => rfl
  | _ :: l, i + 1 => nth_eq k l i
theorem setL_eq {α : Type} (v : α) : ∀ (l : List α) (i : Nat), setL l i v = l.set i v
  | [], _ => rfl
  | _ :: _, 0 => rfl
  | x :: l, i + 1 => congrArg (x :: ·) (setL_eq v l i)
theorem onO_some {α β : Type} (x : α) (n : β) (k : α → β) : onO (some x) n k = k x := rfl
theorem onO_none {α β : Type} (n : β) (k : α → β) : onO none n k = n := rfl
noncomputable def sget (σ : Store) (k : Nat) : Option O := if k < σ.n then σ.l[σ.n - 1 - k]? else none
theorem getO_eq {β : Type} (σ : Store) (k : Nat) (f : O → R β) : getO σ k f = match sget σ k with | some o => f o | none => .bad := by
  obtain ⟨n, l⟩ := σ
  show ifB (Nat.blt k n) (nth l (n - 1 - k) f) .bad = _
  unfold sget
  cases h : Nat.blt k n with
  | true =>
    have hk : k < n := Nat.le_of_ble_eq_true h
    simp only [if_pos hk]
    show nth l (n - 1 - k) f = _
    rw [nth_eq]
    cases l[n - 1 - k]? <;> rfl
  | false =>
    have hk : ¬ k < n := fun q => by rw [show Nat.blt k n = true from Nat.ble_eq_true_of_le q] at h; cases h
    simp only [if_neg hk]
    rfl
noncomputable def snew (σ : Store) (o : O) : Store := ⟨σ.n + 1, o :: σ.l⟩
noncomputable def sset (σ : Store) (k : Nat) (o : O) : Store := ⟨σ.n, σ.l.set (σ.n - 1 - k) o⟩
theorem newO_eq {β : Type} (σ : Store) (o : O) (f : Nat → Store → R β) : newO σ o f = f σ.n (snew σ o) := by
  obtain ⟨n, l⟩ := σ
  show fN (n + 1) (fun m => f n ⟨m, o :: l⟩) = _
  rw [fN_eq]; rfl
theorem setO_eq {β : Type} (σ : Store) (k : Nat) (o : O) (f : Store → R β) : setO σ k o f = f (sset σ k o) := by
  obtain ⟨n, l⟩ := σ
  show f ⟨n, setL l (n - 1 - k) o⟩ = _
  rw [setL_eq]; rfl
theorem bind_ok {α β : Type} (a : α) (σ : Store) (f : α → Store → R β) : (R.ok a σ).bind f = f a σ := by cases σ; rfl
theorem bind_ex {α β : Type} (k : Nat) (σ : Store) (f : α → Store → R β) : (R.ex k σ : R α).bind f = .ex k σ := rfl
theorem bind_bad {α β : Type} (f : α → Store → R β) : (R.bad : R α).bind f = .bad := rfl

theorem sget_lt {σ : Store} {k : Nat} {o : O} (h : sget σ k = some o) : k < σ.n := by
  unfold sget at h
  split at h
  · assumption
  · cases h
theorem sget_snew {σ : Store} (o : O) (k : Nat) : sget (snew σ o) k = if k = σ.n then some o else sget σ k := by
  unfold sget snew
  simp only
  by_cases h : k = σ.n
  · subst h
    simp
  · rw [if_neg h]
    by_cases h2 : k < σ.n
    · rw [if_pos (Nat.lt_succ_of_lt h2), if_pos h2]
      have : σ.n + 1 - 1 - k = (σ.n - 1 - k) + 1 := by omega
      rw [this, List.getElem?_cons_succ]
    · rw [if_neg h2, if_neg (by omega)]
theorem sget_sset {σ : Store} (hl : σ.l.length = σ.n) {j : Nat} (hj : j < σ.n) (o : O) (k : Nat) : sget (sset σ j o) k = if k = j then some o else sget σ k := by
  unfold sget sset
  simp only
  by_cases h : k = j
  · subst h
    rw [if_pos hj, if_pos rfl, List.getElem?_set_self (by omega)]
  · rw [if_neg h]
    by_cases h2 : k < σ.n
    · rw [if_pos h2, if_pos h2, List.getElem?_set_ne (by omega)]
    · rw [if_neg h2, if_neg h2]

/-! values on a heap -/
noncomputable def txt (k : Nat) : Str := Str.ofString (texts.getD k "")
mutual
inductive VR (h : Heap) (ρ : Nat → Addr) (n : Nat) : Value → AV → Prop
  | int (i t) : VR h ρ n (.int i t) (.int i)
  | boo (b) : VR h ρ n (.bool b) (.boo b)
  | str {k} (t) : k < 28 → VR h ρ n (.str (txt k) t) (.str k)
  | non : VR h ρ n .none .non
  | tup {a vs l} : h.IsTuple a vs → VRs h ρ n vs.toList l → VR h ρ n (.ref a) (.tup l)
  | ref {k} : k < n → VR h ρ n (.ref (ρ k)) (.ref k)
  | rng {a lo hi t u v} : IsRange h a lo hi 1 t u v → inRange lo = true → inRange hi = true → VR h ρ n (.ref a) (.rng lo hi)
inductive VRs (h : Heap) (ρ : Nat → Addr) (n : Nat) : List Value → List AV → Prop
  | nil : VRs h ρ n [] []
  | cons {v vs a as} : VR h ρ n v a → VRs h ρ n vs as → VRs h ρ n (v :: vs) (a :: as)
end
noncomputable def OV (h : Heap) (ρ : Nat → Addr) (n : Nat) : Option Value → Option AV → Prop
  | none, none => True
  | some v, some a => VR h ρ n v a
  | _, _ => False
theorem VRs.length {h : Heap} {ρ : Nat → Addr} {n : Nat} : ∀ {vs : List Value} {as : List AV}, VRs h ρ n vs as → vs.length = as.length
  | _, _, .nil => rfl
  | _, _, .cons _ r => congrArg (· + 1) r.length
theorem VRs.get {h : Heap} {ρ : Nat → Addr} {n : Nat} : ∀ {vs : List Value} {as : List AV}, VRs h ρ n vs as → ∀ {i : Nat} {a : AV}, as[i]? = some a → ∃ v, vs[i]? = some v ∧ VR h ρ n v a
  | _, _, .nil, i, a, e => by simp at e
  | _, _, .cons (v := v) x r, 0, a, e => by
    simp at e; subst e; exact ⟨v, rfl, x⟩
  | _, _, .cons x r, i + 1, a, e => by
    simp at e; exact r.get e
theorem VRs.append {h : Heap} {ρ : Nat → Addr} {n : Nat} : ∀ {vs ws : List Value} {as bs : List AV}, VRs h ρ n vs as → VRs h ρ n ws bs → VRs h ρ n (vs ++ ws) (as ++ bs)
  | _, _, _, _, .nil, y => y
  | _, _, _, _, .cons x r, y => .cons x (r.append y)
theorem VRs.set {h : Heap} {ρ : Nat → Addr} {n : Nat} {w : Value} {b : AV} (y : VR h ρ n w b) : ∀ {vs : List Value} {as : List AV}, VRs h ρ n vs as → ∀ i, VRs h ρ n (vs.set i w) (as.set i b)
  | _, _, .nil, _ => .nil
  | _, _, .cons _ r, 0 => .cons y r
  | _, _, .cons x r, i + 1 => .cons x (r.set y i)
theorem VRs.take {h : Heap} {ρ : Nat → Addr} {n : Nat} : ∀ (i : Nat) {vs : List Value} {as : List AV}, VRs h ρ n vs as → VRs h ρ n (vs.take i) (as.take i)
  | 0, _, _, _ => by simp; exact .nil
  | _ + 1, _, _, .nil => by simp; exact .nil
  | i + 1, _, _, .cons x r => by simp; exact .cons x (r.take i)
theorem VRs.drop {h : Heap} {ρ : Nat → Addr} {n : Nat} : ∀ (i : Nat) {vs : List Value} {as : List AV}, VRs h ρ n vs as → VRs h ρ n (vs.drop i) (as.drop i)
  | 0, _, _, y => by simpa using y
  | _ + 1, _, _, .nil => by simp; exact .nil
  | i + 1, _, _, .cons _ r => by simp; exact r.drop i
theorem VRs.reverse {h : Heap} {ρ : Nat → Addr} {n : Nat} : ∀ {vs : List Value} {as : List AV}, VRs h ρ n vs as → VRs h ρ n vs.reverse as.reverse
  | _, _, .nil => .nil
  | _, _, .cons x r => by
    rw [List.reverse_cons, List.reverse_cons]
    exact r.reverse.append (.cons x .nil)
theorem VRs.replicate {h : Heap} {ρ : Nat → Addr} {n : Nat} {v : Value} {a : AV} (x : VR h ρ n v a) : ∀ i, VRs h ρ n (List.replicate i v) (List.replicate i a)
  | 0 => .nil
  | i + 1 => by rw [List.replicate_succ, List.replicate_succ]; exact .cons x (VRs.replicate x i)

noncomputable def HO (h : Heap) (ρ : Nat → Addr) (n : Nat) (a : Addr) : O → Prop
  | .list l => ∃ vs, h.IsList a vs ∧ VRs h ρ n vs.toList l
  | .cell v => ∃ v', h.IsCell a v' ∧ OV h ρ n v' v

structure Pt where
  ρ : Nat → Addr
  σ : Store
  h : Heap
  t : Nat
abbrev frL (fr : List Env) : List Addr := fr.filterMap (·.frame)
noncomputable def Frs (B0 h : Heap) : List Env → Prop
  | [] => True
  | env :: r => env.scope.kind = .function ∧ (∃ L o es n, env.frame = some L ∧ B0.get? L = none ∧ h.get? L = some o ∧ o.data = .dict es n) ∧ Frs B0 h r

theorem ns_slots {h h' : Heap} {a : Addr} {m : Str → Option Value} (hn : h.Ns a m) (k : ∀ o, h.get? a = some o → ∃ sl, h'.get? a = some { o with slots := sl }) : h'.Ns a m :=
  let ⟨o, es, ep, e, r⟩ := hn
  let ⟨_, e'⟩ := k o e
  ⟨_, es, ep, e', r⟩
structure St (B0 : Heap) (fr : List Env) (p : Pt) : Prop where
  base : B0.StaysIn p.h
  len : p.σ.l.length = p.σ.n
  own : ∀ k o, sget p.σ k = some o → HO p.h p.ρ p.σ.n (p.ρ k) o
  inj : ∀ j k, j < p.σ.n → k < p.σ.n → p.ρ j = p.ρ k → j = k
  new : ∀ k, k < p.σ.n → B0.get? (p.ρ k) = none
  frs : Frs B0 p.h fr
  nod : ∀ k l, sget p.σ k = some (.list l) → ∃ o, p.h.get? (p.ρ k) = some o ∧ o.dict = none
  str : ∀ a, a ∈ frL fr → ∃ m, p.h.Ns a m

structure Step (X : Addr → Prop) (fr : List Env) (p q : Pt) : Prop where
  le : p.σ.n ≤ q.σ.n
  same : ∀ k, k < p.σ.n → q.ρ k = p.ρ k
  newR : ∀ k, p.σ.n ≤ k → k < q.σ.n → p.h.get? (q.ρ k) = none
  alive : ∀ a o, p.h.get? a = some o → ∃ o', q.h.get? a = some o'
  eff : ∀ a o, p.h.get? a = some o → ¬ X a → (∀ k, k < p.σ.n → a ≠ p.ρ k) → (a ∉ frL fr → q.h.get? a = some o) ∧ ∃ sl, q.h.get? a = some { o with slots := sl }

abbrev NoX : Addr → Prop := fun _ => False
theorem Step.refl (X : Addr → Prop) (fr : List Env) (p : Pt) : Step X fr p p :=
  ⟨Nat.le_refl _, fun _ _ => rfl, fun _ h1 h2 => absurd h2 (Nat.not_lt.mpr h1), fun _ o e => ⟨o, e⟩, fun _ o e _ _ => ⟨fun _ => e, o.slots, e⟩⟩
theorem Step.none_of {X : Addr → Prop} {fr : List Env} {p q : Pt} (s : Step X fr p q) {a : Addr} (e : q.h.get? a = none) : p.h.get? a = none := by
  cases h : p.h.get? a with
  | none => rfl
  | some o => obtain ⟨o', e'⟩ := s.alive a o h; rw [e] at e'; cases e'
theorem Step.trans {X Y : Addr → Prop} {fr : List Env} {p q r : Pt} (s : Step X fr p q) (s' : Step Y fr q r) (hy : ∀ a o, p.h.get? a = some o → ¬ X a → ¬ Y a) : Step X fr p r := by
  refine ⟨Nat.le_trans s.le s'.le, fun k hk => (s'.same k (Nat.lt_of_lt_of_le hk s.le)).trans (s.same k hk), fun k h1 h2 => ?_, fun a o e => ?_, fun a o e hx hk => ?_⟩
  · by_cases h3 : k < q.σ.n
    · rw [s'.same k h3]; exact s.newR k h1 h3
    · exact s.none_of (s'.newR k (Nat.not_lt.mp h3) h2)
  · obtain ⟨o', e'⟩ := s.alive a o e
    exact s'.alive a o' e'
  · obtain ⟨e1, sl, e2⟩ := s.eff a o e hx hk
    have hk' : ∀ k, k < q.σ.n → a ≠ q.ρ k := fun k h3 q' => by
      by_cases h4 : k < p.σ.n
      · exact hk k h4 (q'.trans (s.same k h4))
      · have := s.newR k (Nat.not_lt.mp h4) h3
        rw [← q', e] at this; cases this
    have hx' := hy a o e hx
    refine ⟨fun hf => (s'.eff a o (e1 hf) hx' hk').1 hf, ?_⟩
    obtain ⟨_, sl', e3⟩ := s'.eff a _ e2 hx' hk'
    exact ⟨sl', e3⟩
theorem Step.then {X : Addr → Prop} {fr : List Env} {p q r : Pt} (s : Step X fr p q) (s' : Step X fr q r) : Step X fr p r := s.trans s' fun _ _ _ h => h
theorem Step.mono {X Y : Addr → Prop} {fr : List Env} {p q : Pt} (s : Step X fr p q) (h : ∀ a o, p.h.get? a = some o → X a → Y a) : Step Y fr p q :=
  ⟨s.le, s.same, s.newR, s.alive, fun a o e hx hk => s.eff a o e (fun q => hx (h a o e q)) hk⟩
theorem Step.anyX {X : Addr → Prop} {fr : List Env} {p q : Pt} (s : Step NoX fr p q) : Step X fr p q := s.mono fun _ _ _ h => h.elim

/-! what stays -/
/-- what may be turned: a block's own names, a table of code -/
noncomputable def Loose (h : Heap) (X : Addr → Prop) : Prop := ∀ a o, h.get? a = some o → X a → (∃ es n, o.data = .dict es n) ∨ (o.cls = .none ∧ ∃ vs, o.data = .fields vs)
theorem Loose.no (h : Heap) : Loose h NoX := fun _ _ _ x => x.elim
/-- what is never turned: no list, no cell, no names of a block -/
noncomputable def Plain (o : Obj) : Prop := (∀ v, o.data ≠ .cell v) ∧ (∀ vs n, o.data = .seq vs n → o.cls ≠ .type "list") ∧ (∀ es n, o.data ≠ .dict es n) ∧ ∀ vs, o.data = .fields vs → o.cls ≠ .none
section
variable {B0 : Heap} {X : Addr → Prop} {fr : List Env} {p q : Pt}
theorem sget_of_lt (S : St B0 fr p) {k : Nat} (hk : k < p.σ.n) : ∃ x, sget p.σ k = some x := by
  unfold sget
  rw [if_pos hk]
  exact ⟨_, List.getElem?_eq_getElem (by rw [S.len]; omega)⟩
theorem St.notOwn (S : St B0 fr p) {a : Addr} {o : Obj} (e : p.h.get? a = some o) (hl : ∀ vs n, o.data = .seq vs n → o.cls ≠ .type "list") (hc : ∀ v, o.data ≠ .cell v) : ∀ k, k < p.σ.n → a ≠ p.ρ k := by
  intro k hk q
  obtain ⟨x, hx'⟩ := sget_of_lt S hk
  have H := S.own k x hx'
  rw [← q] at H
  cases x with
  | list l =>
    obtain ⟨vs, ⟨o', e', hc', n, hd⟩, _⟩ := H
    rw [e] at e'; cases e'
    exact hl _ _ hd hc'
  | cell v =>
    obtain ⟨v', ⟨o', e', hd⟩, _⟩ := H
    rw [e] at e'; cases e'
    exact hc _ hd
theorem frs_mem : ∀ {fr : List Env} {h : Heap}, Frs B0 h fr → ∀ {a : Addr}, a ∈ frL fr → B0.get? a = none ∧ ∃ o es n, h.get? a = some o ∧ o.data = .dict es n
  | env :: r, h, ⟨_, ⟨L, o, es, n, hf, hn, ho, hd⟩, hr⟩, a, hm => by
    rw [frL, List.filterMap_cons, hf] at hm
    rcases List.mem_cons.mp hm with rfl | hm
    · exact ⟨hn, o, es, n, ho, hd⟩
    · exact frs_mem hr hm
theorem St.notFrame (S : St B0 fr p) {a : Addr} {o : Obj} (e : p.h.get? a = some o) (hx : ∀ es n, o.data ≠ .dict es n) : a ∉ frL fr := by
  intro h
  obtain ⟨_, o', es, n, e', hd⟩ := frs_mem S.frs h
  rw [e] at e'; cases e'
  exact hx _ _ hd
theorem St.keep (S : St B0 fr p) (s : Step X fr p q) (hX : Loose p.h X) {a : Addr} {o : Obj} (e : p.h.get? a = some o) (k : Plain o) : q.h.get? a = some o := by
  obtain ⟨k1, k2, k3, k4⟩ := k
  refine (s.eff a o e (fun x => ?_) (S.notOwn e k2 k1)).1 (S.notFrame e k3)
  rcases hX a o e x with ⟨es, n, hd⟩ | ⟨hc, vs, hd⟩
  · exact k3 _ _ hd
  · exact k4 _ hd hc
theorem St.ns (S : St B0 fr p) (s : Step X fr p q) {a : Addr} {m : Str → Option Value} (hx : ¬ X a) (hn : p.h.Ns a m) : q.h.Ns a m := by
  obtain ⟨o, es, ep, e, hd, r⟩ := hn
  obtain ⟨_, sl, e'⟩ := s.eff a o e hx (S.notOwn e (fun vs n q => by rw [hd] at q; cases q) (fun v q => by rw [hd] at q; cases q))
  exact ⟨_, es, ep, e', hd, r⟩

/-- a tuple, a range -/
noncomputable def Hard (o : Obj) : Prop := (o.cls = .type "tuple" ∧ ∃ vs n, o.data = .seq vs n) ∨ (o.cls = .type "range" ∧ ∃ vs, o.data = .fields vs)
theorem Hard.plain {o : Obj} (x : Hard o) : Plain o := by
  rcases x with ⟨hc, vs, n, hd⟩ | ⟨hc, vs, hd⟩
  · exact ⟨fun v q => (by rw [hd] at q; cases q), fun _ _ _ q => (by rw [hc] at q; simp at q), fun es n q => (by rw [hd] at q; cases q), fun vs q => (by rw [hd] at q; cases q)⟩
  · exact ⟨fun v q => (by rw [hd] at q; cases q), fun _ _ _ q => (by rw [hc] at q; simp at q), fun es n q => (by rw [hd] at q; cases q), fun _ _ q => (by rw [hc] at q; cases q)⟩
end
mutual
theorem VR.ext {h h' : Heap} {ρ ρ' : Nat → Addr} {n n' : Nat} (k : ∀ a o, h.get? a = some o → Hard o → h'.get? a = some o) (hn : n ≤ n') (hr : ∀ j, j < n → ρ' j = ρ j) : ∀ {v : Value} {a : AV}, VR h ρ n v a → VR h' ρ' n' v a
  | _, _, .int i t => .int i t
  | _, _, .boo b => .boo b
  | _, _, .str t x => .str t x
  | _, _, .non => .non
  | _, _, .tup hx r => .tup (let ⟨o, e, hc, m, hd⟩ := hx; ⟨o, k _ _ e (.inl ⟨hc, _, m, hd⟩), hc, m, hd⟩) (VRs.ext k hn hr r)
  | _, _, .ref (k := j) x => by
    rw [← hr j x]; exact .ref (Nat.lt_of_lt_of_le x hn)
  | _, _, .rng hx h1 h2 => .rng (k _ _ hx (.inr ⟨rfl, _, rfl⟩)) h1 h2
theorem VRs.ext {h h' : Heap} {ρ ρ' : Nat → Addr} {n n' : Nat} (k : ∀ a o, h.get? a = some o → Hard o → h'.get? a = some o) (hn : n ≤ n') (hr : ∀ j, j < n → ρ' j = ρ j) : ∀ {vs : List Value} {as : List AV}, VRs h ρ n vs as → VRs h' ρ' n' vs as
  | _, _, .nil => .nil
  | _, _, .cons x r => .cons (VR.ext k hn hr x) (VRs.ext k hn hr r)
end
section
variable {B0 : Heap} {X : Addr → Prop} {fr : List Env} {p q : Pt}
theorem VR.step (S : St B0 fr p) (s : Step X fr p q) (hX : Loose p.h X) {v : Value} {a : AV} (x : VR p.h p.ρ p.σ.n v a) : VR q.h q.ρ q.σ.n v a := x.ext (fun _ _ e k => S.keep s hX e k.plain) s.le s.same
theorem VRs.step (S : St B0 fr p) (s : Step X fr p q) (hX : Loose p.h X) {v : List Value} {a : List AV} (x : VRs p.h p.ρ p.σ.n v a) : VRs q.h q.ρ q.σ.n v a := x.ext (fun _ _ e k => S.keep s hX e k.plain) s.le s.same
theorem OV.ext {h h' : Heap} {ρ ρ' : Nat → Addr} {n n' : Nat} (k : ∀ a o, h.get? a = some o → Hard o → h'.get? a = some o) (hn : n ≤ n') (hr : ∀ j, j < n → ρ' j = ρ j) : ∀ {v : Option Value} {a : Option AV}, OV h ρ n v a → OV h' ρ' n' v a
  | none, none, _ => trivial
  | some _, some _, x => VR.ext k hn hr x

/-- the same at every other place: what is own stays -/
theorem HO.ext {h h' : Heap} {ρ ρ' : Nat → Addr} {n n' : Nat} {a : Addr} (k : ∀ a o, h.get? a = some o → Hard o → h'.get? a = some o) (hn : n ≤ n') (hr : ∀ j, j < n → ρ' j = ρ j) (ha : ∀ o, h.get? a = some o → h'.get? a = some o) : ∀ {o : O}, HO h ρ n a o → HO h' ρ' n' a o
  | .list _, ⟨vs, ⟨o, e, r⟩, y⟩ => ⟨vs, ⟨o, ha o e, r⟩, y.ext k hn hr⟩
  | .cell _, ⟨v', ⟨o, e, r⟩, y⟩ => ⟨v', ⟨o, ha o e, r⟩, OV.ext k hn hr y⟩
theorem Frs.ext {h h' : Heap} : ∀ {fr : List Env}, (∀ a ∈ frL fr, ∀ o, h.get? a = some o → ∃ o', h'.get? a = some o' ∧ ∀ es n, o.data = .dict es n → ∃ es' n', o'.data = .dict es' n') → Frs B0 h fr → Frs B0 h' fr
  | [], _, _ => trivial
  | env :: r, k, ⟨hk, ⟨L, o, es, n, hf, hn, ho, hd⟩, hr⟩ => by
    have hL : L ∈ frL (env :: r) := by rw [frL, List.filterMap_cons, hf]; exact .head _
    obtain ⟨o', e', hd'⟩ := k L hL o ho
    obtain ⟨es', n', hd''⟩ := hd' es n hd
    exact ⟨hk, ⟨L, o', es', n', hf, hn, e', hd''⟩, Frs.ext (fun a ha => k a (by rw [frL, List.filterMap_cons, hf]; exact .tail _ ha)) hr⟩

/-! the moves -/
/-- a thing of no interest is made -/
theorem St.push (S : St B0 fr p) {h' : Heap} {t : Nat} (k : ∀ a o, p.h.get? a = some o → h'.get? a = some o) : St B0 fr { p with h := h', t := t } :=
  ⟨fun b o e => k b o (S.base b o e), S.len, fun j o e => (S.own j o e).ext (fun a o e _ => k a o e) (Nat.le_refl _) (fun _ _ => rfl) fun o e => k _ o e, S.inj, S.new, S.frs.ext fun a _ o e => ⟨o, k a o e, fun es n hd => ⟨es, n, hd⟩⟩, fun j l e => let ⟨o, e1, e2⟩ := S.nod j l e; ⟨o, k _ _ e1, e2⟩, fun a hm => let ⟨m, hn⟩ := S.str a hm; ⟨m, ns_slots hn fun o e => ⟨o.slots, k a o e⟩⟩⟩
theorem Step.push {h' : Heap} {t : Nat} (k : ∀ a o, p.h.get? a = some o → h'.get? a = some o) : Step X fr p { p with h := h', t := t } :=
  ⟨Nat.le_refl _, fun _ _ => rfl, fun _ h1 h2 => absurd h2 (Nat.not_lt.mpr h1), fun a o e => ⟨o, k a o e⟩, fun a o e _ _ => ⟨fun _ => k a o e, o.slots, k a o e⟩⟩

noncomputable def upd (ρ : Nat → Addr) (n : Nat) (a : Addr) : Nat → Addr := fun k => if k = n then a else ρ k
/-- a list or a cell is made -/
theorem St.alloc (S : St B0 fr p) {h' : Heap} {t : Nat} {a : Addr} {o : O} (k : ∀ a o, p.h.get? a = some o → h'.get? a = some o) (ha : p.h.get? a = none) (ho : HO h' (upd p.ρ p.σ.n a) (p.σ.n + 1) a o) (hnd : ∀ l, o = .list l → ∃ ob, h'.get? a = some ob ∧ ob.dict = none) :
    St B0 fr ⟨upd p.ρ p.σ.n a, snew p.σ o, h', t⟩ := by
  have hr : ∀ j, j < p.σ.n → upd p.ρ p.σ.n a j = p.ρ j := fun j hj => if_neg (Nat.ne_of_lt hj)
  have ne : ∀ j, j < p.σ.n → p.ρ j ≠ a := fun j hj e => by
    obtain ⟨x, hx⟩ := sget_of_lt S hj
    have H := S.own j x hx
    have : ∃ o, p.h.get? (p.ρ j) = some o := by
      cases x with
      | list l => obtain ⟨_, ⟨o, e, _⟩, _⟩ := H; exact ⟨o, e⟩
      | cell v => obtain ⟨_, ⟨o, e, _⟩, _⟩ := H; exact ⟨o, e⟩
    obtain ⟨o, e'⟩ := this
    rw [e, ha] at e'; cases e'
  have hb : B0.get? a = none := by
    cases e : B0.get? a with
    | none => rfl
    | some o => have := S.base a o e; rw [ha] at this; cases this
  refine ⟨fun b o e => k b o (S.base b o e), ?_, fun j o' e => ?_, fun i j h1 h2 e => ?_, fun j hj => ?_, S.frs.ext fun a _ o e => ⟨o, k a o e, fun es n hd => ⟨es, n, hd⟩⟩, fun j l e => ?_, fun a hm => let ⟨m, hn⟩ := S.str a hm; ⟨m, ns_slots hn fun o e => ⟨o.slots, k a o e⟩⟩⟩
  · show (o :: p.σ.l).length = p.σ.n + 1
    rw [List.length_cons, S.len]
  · rw [sget_snew] at e
    by_cases hj : j = p.σ.n
    · rw [if_pos hj] at e
      cases e
      show HO h' (upd p.ρ p.σ.n a) (p.σ.n + 1) (upd p.ρ p.σ.n a j) _
      rw [show upd p.ρ p.σ.n a j = a from if_pos hj]
      exact ho
    · rw [if_neg hj] at e
      have hlt := sget_lt e
      show HO h' (upd p.ρ p.σ.n a) (p.σ.n + 1) (upd p.ρ p.σ.n a j) _
      rw [hr j hlt]
      exact (S.own j o' e).ext (fun a o e _ => k a o e) (Nat.le_succ _) hr fun o e => k _ o e
  · have h1' : i < p.σ.n + 1 := h1
    have h2' : j < p.σ.n + 1 := h2
    have e' : upd p.ρ p.σ.n a i = upd p.ρ p.σ.n a j := e
    by_cases hi : i = p.σ.n
    · by_cases hj : j = p.σ.n
      · rw [hi, hj]
      · rw [show upd p.ρ p.σ.n a i = a from if_pos hi, hr j (by omega)] at e'
        exact absurd e'.symm (ne j (by omega))
    · by_cases hj : j = p.σ.n
      · rw [show upd p.ρ p.σ.n a j = a from if_pos hj, hr i (by omega)] at e'
        exact absurd e' (ne i (by omega))
      · rw [hr i (by omega), hr j (by omega)] at e'
        exact S.inj i j (by omega) (by omega) e'
  · have hj' : j < p.σ.n + 1 := hj
    show B0.get? (upd p.ρ p.σ.n a j) = none
    by_cases h : j = p.σ.n
    · rw [show upd p.ρ p.σ.n a j = a from if_pos h]; exact hb
    · rw [hr j (by omega)]; exact S.new j (by omega)
  · rw [sget_snew] at e
    by_cases hj : j = p.σ.n
    · rw [if_pos hj] at e
      cases e
      show ∃ o, h'.get? (upd p.ρ p.σ.n a j) = some o ∧ _
      rw [show upd p.ρ p.σ.n a j = a from if_pos hj]
      exact hnd l rfl
    · rw [if_neg hj] at e
      obtain ⟨ob, e1, e2⟩ := S.nod j l e
      show ∃ o, h'.get? (upd p.ρ p.σ.n a j) = some o ∧ _
      rw [hr j (sget_lt e)]
      exact ⟨ob, k _ _ e1, e2⟩
theorem Step.alloc {h' : Heap} {t : Nat} {a : Addr} {o : O} (k : ∀ a o, p.h.get? a = some o → h'.get? a = some o) (ha : p.h.get? a = none) : Step X fr p ⟨upd p.ρ p.σ.n a, snew p.σ o, h', t⟩ := by
  refine ⟨Nat.le_succ _, fun j hj => if_neg (Nat.ne_of_lt hj), fun j h1 h2 => ?_, fun a o e => ⟨o, k a o e⟩, fun a o e _ _ => ⟨fun _ => k a o e, o.slots, k a o e⟩⟩
  have h2' : j < p.σ.n + 1 := h2
  show p.h.get? (upd p.ρ p.σ.n a j) = none
  rw [show upd p.ρ p.σ.n a j = a from if_pos (by omega)]
  exact ha

theorem St.at_k (S : St B0 fr p) {k : Nat} (hk : k < p.σ.n) : ∃ o, p.h.get? (p.ρ k) = some o ∧ ((∃ vs n, o.data = .seq vs n ∧ o.cls = .type "list") ∨ ∃ v, o.data = .cell v) := by
  obtain ⟨x, hx⟩ := sget_of_lt S hk
  have H := S.own k x hx
  cases x with
  | list l => obtain ⟨vs, ⟨o, e, hc, n, hd⟩, _⟩ := H; exact ⟨o, e, .inl ⟨vs, n, hd, hc⟩⟩
  | cell v => obtain ⟨v', ⟨o, e, hd⟩, _⟩ := H; exact ⟨o, e, .inr ⟨v', hd⟩⟩
/-- a list or a cell is turned -/
theorem St.turn (S : St B0 fr p) {k : Nat} (hk : k < p.σ.n) {h' : Heap} {t : Nat} {o : O} (hs : Heap.SameBut (p.ρ k) p.h h') (ho : HO h' p.ρ p.σ.n (p.ρ k) o) (hnd : ∀ l, o = .list l → ∃ ob, h'.get? (p.ρ k) = some ob ∧ ob.dict = none) : St B0 fr ⟨p.ρ, sset p.σ k o, h', t⟩ := by
  obtain ⟨ok, ek, hk'⟩ := S.at_k hk
  have hard : ∀ a o, p.h.get? a = some o → Hard o → h'.get? a = some o := fun a o e x => by
    refine (hs.2 a fun q => ?_).trans e
    rw [q, ek] at e; cases e
    rcases hk' with ⟨vs, n, hd, hc⟩ | ⟨v, hd⟩
    · exact x.plain.2.1 _ _ hd hc
    · exact x.plain.1 _ hd
  refine ⟨fun b o e => (hs.2 b fun q => ?_).trans (S.base b o e), ?_, fun j o' e => ?_, S.inj, S.new, S.frs.ext fun a hm o e => ?_, fun j l e => ?_, fun a hm => let ⟨m, hn⟩ := S.str a hm; ⟨m, ns_slots hn fun o e => ⟨o.slots, (hs.2 a fun q => ?_).trans e⟩⟩⟩
  · have := S.new k hk; rw [← q, e] at this; cases this
  · show (p.σ.l.set _ o).length = p.σ.n
    rw [List.length_set, S.len]
  · rw [sget_sset S.len hk] at e
    by_cases hj : j = k
    · rw [if_pos hj] at e; cases e
      subst hj; exact ho
    · rw [if_neg hj] at e
      refine (S.own j o' e).ext hard (Nat.le_refl _) (fun _ _ => rfl) fun o e2 => (hs.2 _ fun q => hj (S.inj j k (sget_lt e) hk q)).trans e2
  · refine ⟨o, (hs.2 a fun q => ?_).trans e, fun es n hd => ⟨es, n, hd⟩⟩
    obtain ⟨_, o', es, n, e', hd⟩ := frs_mem S.frs hm
    rw [q, ek] at e'; cases e'
    rcases hk' with ⟨vs, n, hd', hc⟩ | ⟨v, hd'⟩ <;> (rw [hd] at hd'; cases hd')
  · rw [sget_sset S.len hk] at e
    by_cases hj : j = k
    · rw [if_pos hj] at e; cases e
      subst hj; exact hnd l rfl
    · rw [if_neg hj] at e
      obtain ⟨ob, e1, e2⟩ := S.nod j l e
      exact ⟨ob, (hs.2 _ fun q => hj (S.inj j k (sget_lt e) hk q)).trans e1, e2⟩
  · obtain ⟨_, o', es, n', e', hd⟩ := frs_mem S.frs hm
    rw [q, ek] at e'; cases e'
    rcases hk' with ⟨vs, n, hd', hc⟩ | ⟨v, hd'⟩ <;> (rw [hd] at hd'; cases hd')
theorem Step.turn {k : Nat} (hk : k < p.σ.n) {h' : Heap} {t : Nat} {o : O} (hs : Heap.SameBut (p.ρ k) p.h h') (ho : HO h' p.ρ p.σ.n (p.ρ k) o) : Step X fr p ⟨p.ρ, sset p.σ k o, h', t⟩ := by
  refine ⟨Nat.le_refl _, fun _ _ => rfl, fun _ h1 h2 => absurd h2 (Nat.not_lt.mpr h1), fun a o1 e => ?_, fun a o1 e _ hn => ⟨fun _ => (hs.2 a (hn k hk)).trans e, o1.slots, (hs.2 a (hn k hk)).trans e⟩⟩
  by_cases hq : a = p.ρ k
  · cases o with
    | list l => obtain ⟨_, ⟨o', e', _⟩, _⟩ := ho; exact ⟨o', hq ▸ e'⟩
    | cell v => obtain ⟨_, ⟨o', e', _⟩, _⟩ := ho; exact ⟨o', hq ▸ e'⟩
  · exact ⟨o1, (hs.2 a hq).trans e⟩
/-- a block's own names are turned -/
theorem St.names (S : St B0 fr p) {L : Addr} {m m' : Str → Option Value} {h' : Heap} {t : Nat} (hn : p.h.Ns L m) (hn0 : h'.Ns L m') (hb : B0.get? L = none) (hs : Heap.SameBut L p.h h') : St B0 fr { p with h := h', t := t } := by
  obtain ⟨oL, es, ep, eL, hd, _⟩ := hn
  obtain ⟨oL', es', ep', eL', hd', _⟩ := id hn0
  refine ⟨fun b o e => (hs.2 b fun q => ?_).trans (S.base b o e), S.len, fun j o e => (S.own j o e).ext (fun a o e x => (hs.2 a fun q => ?_).trans e) (Nat.le_refl _) (fun _ _ => rfl) fun o2 e2 => (hs.2 _ fun q => ?_).trans e2, S.inj, S.new, S.frs.ext fun a hm o e => ?_, fun j l e => ?_, fun a hm => ?_⟩
  · rw [q, hb] at e; cases e
  · rw [q, eL] at e; cases e; exact x.plain.2.2.1 _ _ hd
  · exact S.notOwn eL (fun vs n q => by rw [hd] at q; cases q) (fun v q => by rw [hd] at q; cases q) j (sget_lt e) q.symm
  · by_cases hq : a = L
    · subst hq
      rw [eL] at e; cases e
      exact ⟨oL', eL', fun _ _ _ => ⟨es', ep', hd'⟩⟩
    · exact ⟨o, (hs.2 a hq).trans e, fun es n hd => ⟨es, n, hd⟩⟩
  · obtain ⟨ob, e1, e2⟩ := S.nod j l e
    exact ⟨ob, (hs.2 _ fun q => S.notOwn eL (fun vs n q => by rw [hd] at q; cases q) (fun v q => by rw [hd] at q; cases q) j (sget_lt e) q.symm).trans e1, e2⟩
  · by_cases hq : a = L
    · subst hq; exact ⟨_, hn0⟩
    · obtain ⟨m2, hn2⟩ := S.str a hm
      exact ⟨m2, ns_slots hn2 fun o e => ⟨o.slots, (hs.2 a hq).trans e⟩⟩
theorem Step.names {L : Addr} {m' : Str → Option Value} {h' : Heap} {t : Nat} (hn' : h'.Ns L m') (hs : Heap.SameBut L p.h h') : Step (· = L) fr p { p with h := h', t := t } := by
  refine ⟨Nat.le_refl _, fun _ _ => rfl, fun _ h1 h2 => absurd h2 (Nat.not_lt.mpr h1), fun a o e => ?_, fun a o e hx _ => ⟨fun _ => (hs.2 a hx).trans e, o.slots, (hs.2 a hx).trans e⟩⟩
  by_cases hq : a = L
  · obtain ⟨o', _, _, e', _⟩ := hn'
    exact ⟨o', hq ▸ e'⟩
  · exact ⟨o, (hs.2 a hq).trans e⟩
end
end Mine
end

section
open PySem PySem.W PyProof.Rows PySem.Calls PySem.Spec
namespace Mine
set_option autoImplicit false

inductive NT where
  | loc | cel | fre | glo
abbrev Names := List (Str × NT)
noncomputable def ntOf : NameKind → NT
  | .local => .loc
  | .cell => .cel
  | .free => .fre
  | _ => .glo

abbrev sh (s₀ : Shared) (p : Pt) : Shared := ⟨p.h, s₀.gens, s₀.drawn, p.t, s₀.os⟩

structure EnvOK (B0 : Heap) (Γ : Names) (env : Env) (fr : List Env) : Prop where
  kind : env.scope.kind = .function
  glob : env.globals = mainGlobals
  blt : env.builtins = builtinsNs
  loc : ∀ (i : Nat) (x : Str), Γ[i]? = some (x, NT.loc) → env.kindOf x = some .local
  cel : ∀ (i : Nat) (x : Str), Γ[i]? = some (x, NT.cel) → env.kindOf x = some .cell
  fre : ∀ (i : Nat) (x : Str), Γ[i]? = some (x, NT.fre) → env.kindOf x = some .cell ∨ env.kindOf x = some .free
  glo : ∀ (i : Nat) (x : Str), Γ[i]? = some (x, NT.glo) → env.kindOf x = some .globalImplicit
  nodup : (Γ.map (·.1)).Nodup
  top : ∃ fe rest L, fr = fe :: rest ∧ env.frame = some L ∧ fe.frame = some L
  fresh : B0.get? env.locals = none

structure Vs (Γ : Names) (env : Env) (φ : Vars) (p : Pt) : Prop where
  len : φ.length = Γ.length
  ns : ∃ m, p.h.Ns env.locals m ∧ ∀ (i : Nat) (x : Str), Γ[i]? = some (x, NT.loc) → ∃ v, φ[i]? = some (Slot.lv v) ∧ OV p.h p.ρ p.σ.n (m x) v
  cells : ∀ (i : Nat) (x : Str) (k : NT), Γ[i]? = some (x, k) → k = NT.cel ∨ k = NT.fre → ∃ c, φ[i]? = some (Slot.cl c) ∧ c < p.σ.n ∧ env.cells.lookup x = some (p.ρ c)

noncomputable def Room (A : Around) (k : Nat) : Prop := A.handled = none ∧ A.depth + k ≤ 990 ∧ A.units + 8 * k ≤ 9000

abbrev casFail : Addr := 31
noncomputable def KindAt (h : Heap) (d : Addr) (k : Nat) : Prop := ∃ m t, h.Ns d m ∧ m (Str.ofString "kind") = some (.str (txt k) t)
abbrev frame0 (fr : List Env) : Option Addr := fr.head?.bind (·.frame)
/-- a CasFail of the kind k in flight, made behind p -/
noncomputable def Fly (L : Option Addr) (p q : Pt) (e : Addr) (k : Nat) : Prop :=
  k < 28 ∧ p.h.get? e = none ∧ ∃ o d vs, q.h.get? e = some o ∧ o.cls = .ref casFail ∧ o.dict = some d ∧ p.h.get? d = none ∧ KindAt q.h d k ∧ o.data = .fields vs ∧ vs.size = 6 ∧
    (vs[1]? = some .none ∨ ∃ T oT ts, vs[1]? = some (.ref T) ∧ T ≠ e ∧ p.h.get? T = none ∧ q.h.get? T = some oT ∧ oT.cls = .type "traceback" ∧ oT.data = .fields ts ∧ (ts[3]? = some .none ∨ ∃ l, L = some l ∧ ts[3]? = some (rawInt l)))

noncomputable def Post (B0 : Heap) (s₀ : Shared) (fr : List Env) (X : Addr → Prop) (EX : Pt → Prop) (p : Pt) {α β : Type} (Rel : Pt → α → β → Prop) (r : R α) (Q : β → Shared → Prop) (E : Value → Shared → Prop) : Prop := match r with
  | .ok a σ' => ∀ q b, q.σ = σ' → St B0 fr q → Step X fr p q → Rel q a b → Q b (sh s₀ q)
  | .ex k σ' => ∀ q e, q.σ = σ' → St B0 fr q → Step X fr p q → EX q → Fly (frame0 fr) p q e k → E (.ref e) (sh s₀ q)
  | .bad => False

theorem Fly.from {L : Option Addr} {X : Addr → Prop} {fr : List Env} {p p' q : Pt} {e : Addr} {k : Nat} (s : Step X fr p p') (f : Fly L p' q e k) : Fly L p q e k := by
  obtain ⟨h1, h2, o, d, vs, h3, h4, h5, h6, h7, h8, h9, h10⟩ := f
  refine ⟨h1, s.none_of h2, o, d, vs, h3, h4, h5, s.none_of h6, h7, h8, h9, h10.imp id ?_⟩
  rintro ⟨T, oT, ts, a, b, c, r⟩
  exact ⟨T, oT, ts, a, b, s.none_of c, r⟩

section
variable {B0 : Heap} {s₀ : Shared} {fr : List Env} {X : Addr → Prop} {EX : Pt → Prop} {p : Pt} {α β γ δ : Type} {Rel : Pt → α → β → Prop} {Rel2 : Pt → γ → δ → Prop} {E : Value → Shared → Prop}
/-- what is asked behind a step is asked before it -/
theorem Post.step {p' : Pt} {r : R α} {Q : β → Shared → Prop} (s : Step X fr p p') (hp : Post B0 s₀ fr X EX p Rel r Q E) : Post B0 s₀ fr X EX p' Rel r Q E := by
  cases r with
  | ok a σ => exact fun q b e S s' x => hp q b e S (s.then s') x
  | ex k σ => exact fun q b e S s' x f => hp q b e S (s.then s') x (f.from s)
  | bad => exact hp
theorem Post.bind {r : R α} {f : α → Store → R γ} {Q2 : δ → Shared → Prop} {Q : β → Shared → Prop} (hp : Post B0 s₀ fr X EX p Rel2 (r.bind f) Q2 E)
    (k : ∀ q a b, St B0 fr q → Step X fr p q → Rel q a b → Post B0 s₀ fr X EX q Rel2 (f a q.σ) Q2 E → Q b (sh s₀ q)) : Post B0 s₀ fr X EX p Rel r Q E := by
  cases r with
  | ok a σ =>
    rw [bind_ok] at hp
    intro q b e S s x
    subst e
    exact k q a b S s x (hp.step s)
  | ex k' σ => exact hp
  | bad => exact hp
/-- an expression's exceptions are a block's own -/
theorem Post.exX {r : R α} {Q : β → Shared → Prop} {EX' : Pt → Prop} {Y : Addr → Prop} (hp : Post B0 s₀ fr X EX p Rel r Q E) (hx : ∀ q, St B0 fr q → Step Y fr p q → EX' q → EX q) (hy : ∀ a o, p.h.get? a = some o → Y a → X a) : Post B0 s₀ fr Y EX' p Rel r Q E := by
  cases r with
  | ok a σ => exact fun q b e S s x => hp q b e S (s.mono hy) x
  | ex k σ => exact fun q b e S s x f => hp q b e S (s.mono hy) (hx q S s x) f
  | bad => exact hp
theorem Post.ok {a : α} {Q : β → Shared → Prop} {q : Pt} {b : β} (hp : Post B0 s₀ fr X EX p Rel (.ok a q.σ) Q E) (S : St B0 fr q) (s : Step X fr p q) (x : Rel q a b) : Q b (sh s₀ q) := hp q b rfl S s x
theorem Post.here {a : α} {Q : β → Shared → Prop} {b : β} (hp : Post B0 s₀ fr X EX p Rel (.ok a p.σ) Q E) (S : St B0 fr p) (x : Rel p a b) : Q b (sh s₀ p) := hp p b rfl S (.refl ..) x
theorem Post.toks {a : α} {Q : β → Shared → Prop} {b : β} {t : Nat} (hp : Post B0 s₀ fr X EX p Rel (.ok a p.σ) Q E) (S : St B0 fr p) (x : Rel { p with t := t } a b) : Q b (sh s₀ { p with t := t }) :=
  hp { p with t := t } b rfl (S.push fun _ _ e => e) (Step.push fun _ _ e => e) x
end

abbrev RV : Pt → AV → Value → Prop := fun q a v => VR q.h q.ρ q.σ.n v a
abbrev RVs : Pt → List AV → List Value → Prop := fun q a v => VRs q.h q.ρ q.σ.n v a
abbrev RVl (k : Nat) : Pt → List AV → List Value → Prop := fun q a v => VRs q.h q.ρ q.σ.n v a ∧ v.length = k
abbrev RB : Pt → Bool → Bool → Prop := fun _ a b => b = a
noncomputable abbrev tr (r : R AV) : R Bool := r.bind fun u σ => onBoo u fun b => .ok b σ
abbrev NoE : Pt → Prop := fun _ => True

/-- the defs that call themselves: of_term, lpower -/
noncomputable def recs : Nat → Option Addr
  | 0 => some 458
  | 1 => some 410
  | _ => none

/-- what stands around a call of the law: the program, the world, the heap that stays, the rest of the state -/
structure Wd where
  prog : Program
  w : World
  B0 : Heap
  K : Frag
  s₀ : Shared
  mg : Str → Option Value
  mb : Str → Option Value
structure Wd.Ok (D : Wd) : Prop where
  globs : D.B0.Ns mainGlobals D.mg
  bls : D.B0.Ns builtinsNs D.mb
  kin : D.K.In D.B0
  nolim : D.B0.NoLimit
section
variable (D : Wd)
noncomputable def SoundC (n : Nat) (c : C) : Prop := ∀ k addr, recs k = some addr → ∀ {A : Around} {fr : List Env} {p : Pt} {vs : List Value} {as : List AV} {R : Result → Shared → Prop}, Room A (24 * n) → A.frames = some fr → St D.B0 fr p → RVs p as vs →
  Post D.B0 D.s₀ fr NoX NoE p RV (c k as p.σ) (fun v s' => R (.ok (.ret v)) s') (fun e s' => R (.error e) s') → codeAny (model D.prog D.w) A (.call (.ref addr) ⟨vs, []⟩) R (sh D.s₀ p)
noncomputable def SoundF (m : Nat) (addr : Addr) (d : DF) : Prop := ∀ {n : Nat} {c : C}, SoundC D n c → ∀ {A : Around} {fr : List Env} {p : Pt} {vs : List Value} {as : List AV} {R : Result → Shared → Prop}, Room A (24 * n + m) → A.frames = some fr → St D.B0 fr p → RVs p as vs →
  Post D.B0 D.s₀ fr NoX NoE p RV (d c as p.σ) (fun v s' => R (.ok (.ret v)) s') (fun e s' => R (.error e) s') → codeAny (model D.prog D.w) A (.call (.ref addr) ⟨vs, []⟩) R (sh D.s₀ p)
noncomputable def SoundX (m : Nat) (Γ : Names) (e : Expr) (d : DX) : Prop := ∀ {n : Nat} {c : C}, SoundC D n c → ∀ {A : Around} {fr : List Env} {env : Env} {φ : Vars} {p : Pt} {Q : Value → Shared → Prop} {E : Value → Shared → Prop},
  Room A (24 * n + m) → A.frames = some fr → EnvOK D.B0 Γ env fr → St D.B0 fr p → Vs Γ env φ p → Post D.B0 D.s₀ fr NoX NoE p RV (d c φ p.σ) Q E → wpAny (model D.prog D.w) A (eval e env) Q E (sh D.s₀ p)
noncomputable def SoundT (m : Nat) (Γ : Names) (e : Expr) (d : DX) : Prop := ∀ {n : Nat} {c : C}, SoundC D n c → ∀ {A : Around} {fr : List Env} {env : Env} {φ : Vars} {p : Pt} {Q : Bool → Shared → Prop} {E : Value → Shared → Prop},
  Room A (24 * n + m) → A.frames = some fr → EnvOK D.B0 Γ env fr → St D.B0 fr p → Vs Γ env φ p → Post D.B0 D.s₀ fr NoX NoE p RB (tr (d c φ p.σ)) Q E → wpAny (model D.prog D.w) A (isTrue e env (eval e env)) Q E (sh D.s₀ p)
/-- expressions one after the other -/
noncomputable def SoundL (m : Nat) (Γ : Names) (es : List Expr) (d : DL) : Prop := ∀ {n : Nat} {c : C}, SoundC D n c → ∀ {A : Around} {fr : List Env} {env : Env} {φ : Vars} {p : Pt} {Q : List Value → Shared → Prop} {E : Value → Shared → Prop} {pos : Pos},
  Room A (24 * n + m) → A.frames = some fr → EnvOK D.B0 Γ env fr → St D.B0 fr p → Vs Γ env φ p → Post D.B0 D.s₀ fr NoX NoE p (RVl es.length) (d c φ p.σ) Q E → wpAny (model D.prog D.w) A (spliced (backTo pos (starEach es env))) Q E (sh D.s₀ p)
end

section
variable {B0 : Heap} {fr : List Env} {Γ : Names} {env : Env} {φ : Vars} {p q : Pt} {X : Addr → Prop}
theorem Vs.step (V : Vs Γ env φ p) (S : St B0 fr p) (s : Step X fr p q) (hL : Loose p.h X) (hx : ¬ X env.locals) : Vs Γ env φ q := by
  obtain ⟨m, hn, hm⟩ := V.ns
  refine ⟨V.len, ⟨m, S.ns s hx hn, fun i x e => ?_⟩, fun i x k e hk => ?_⟩
  · obtain ⟨v, e1, e2⟩ := hm i x e
    exact ⟨v, e1, e2.ext (fun _ _ e k => S.keep s hL e k.plain) s.le s.same⟩
  · obtain ⟨c, e1, e2, e3⟩ := V.cells i x k e hk
    exact ⟨c, e1, Nat.lt_of_lt_of_le e2 s.le, by rw [s.same c e2]; exact e3⟩
theorem Vs.on (V : Vs Γ env φ p) (S : St B0 fr p) (s : Step NoX fr p q) : Vs Γ env φ q := V.step S s (Loose.no _) id
theorem VR.on {v : Value} {a : AV} (x : VR p.h p.ρ p.σ.n v a) (S : St B0 fr p) (s : Step NoX fr p q) : VR q.h q.ρ q.σ.n v a := x.step S s (Loose.no _)
theorem VRs.on {v : List Value} {a : List AV} (x : VRs p.h p.ρ p.σ.n v a) (S : St B0 fr p) (s : Step NoX fr p q) : VRs q.h q.ρ q.σ.n v a := x.step S s (Loose.no _)
end

/-! expressions -/
section
variable {D : Wd} {m : Nat} {Γ : Names}

theorem s_bad {e : Expr} : SoundX D m Γ e xBad := fun _ _ _ _ _ _ _ _ _ _ _ _ _ hp => hp.elim
theorem t_bad {e : Expr} : SoundT D m Γ e xBad := fun _ _ _ _ _ _ _ _ _ _ _ _ _ hp => hp.elim
theorem s_non {k : Nat} {pos : Pos} : SoundX D m Γ (.Constant .none k pos) xNon := by
  intro n c hC A fr env φ p Q E hr hf he S V hp
  exact wpAny_pure (hp.here S .non)
theorem s_boo {b : Bool} {k : Nat} {pos : Pos} : SoundX D m Γ (.Constant (.bool b) k pos) (xBoo b) := by
  intro n c hC A fr env φ p Q E hr hf he S V hp
  exact wpAny_pure (hp.here S (.boo b))
theorem s_int {i : Int} {k : Nat} {pos : Pos} : SoundX D m Γ (.Constant (.int i) k pos) (xInt i) := by
  intro n c hC A fr env φ p Q E hr hf he S V hp
  show wpAny _ _ (mkInt i) _ _ _
  exact wpAny_mkInt (hp.toks S (.int i _))
theorem s_str {s : Str} {j k : Nat} {pos : Pos} (hj : j < 28 := by decide) (hs : s = txt j := by rfl) : SoundX D m Γ (.Constant (.str s) k pos) (xStr j) := by
  intro n c hC A fr env φ p Q E hr hf he S V hp
  subst hs
  show wpAny _ _ (mkText _) _ _ _
  exact wpAny_mkText (hp.toks S (.str _ hj))

/-! names -/
theorem getV_lv {β : Type} {φ : Vars} {i : Nat} {v : Option AV} (σ : Store) (k : AV → R β) (e : φ[i]? = some (Slot.lv v)) : getV φ i σ k = onO v .bad k := by
  unfold getV
  rw [nth_eq, e]
  rfl
theorem getV_cl {β : Type} {φ : Vars} {i c : Nat} {o : O} (σ : Store) (k : AV → R β) (e : φ[i]? = some (Slot.cl c)) (ho : sget σ c = some o) : getV φ i σ k = onCell o fun v => onO v .bad k := by
  unfold getV
  rw [nth_eq, e]
  show getO σ c _ = _
  rw [getO_eq, ho]
theorem dbg_of (x : Str) (h : (x == Str.ofString "__debug__") = false) : (x == ("__debug__" : Str)) = false := h
/-- a name of the block -/
theorem s_var {i : Nat} {x : Str} {k : NT} {pos : Pos} (hx : Γ[i]? = some (x, k) := by rfl) (hg : k ≠ .glo := by decide) (hd : (x == Str.ofString "__debug__") = false := by decide +kernel) (hc : (x == Str.ofString "__classdict__") = false := by decide +kernel) : SoundX D m Γ (.Name x pos) (xVar i) := by
  intro n c hC A fr env φ p Q E hr hf he S V hp
  unfold xVar at hp
  cases k with
  | loc =>
    obtain ⟨mm, hn, hm⟩ := V.ns
    obtain ⟨v, e1, e2⟩ := hm i x hx
    rw [getV_lv _ _ e1] at hp
    cases v with
    | none => exact hp.elim
    | some v =>
      cases hv : mm x with
      | none => rw [hv] at e2; exact e2.elim
      | some u =>
        rw [hv] at e2
        exact wpAny_Name (wpAny_loadName_local he.kind (he.loc i x hx) hn hv (hp.here S e2)) hd
  | glo =>
    exact absurd rfl hg
  | cel =>
    obtain ⟨c', e1, e2, e3⟩ := V.cells i x .cel hx (.inl rfl)
    obtain ⟨o, ho⟩ := sget_of_lt S e2
    have H := S.own c' o ho
    rw [getV_cl _ _ e1 ho] at hp
    cases o with
    | list l => exact hp.elim
    | cell v =>
      cases v with
      | none => exact hp.elim
      | some v =>
        obtain ⟨v', hcell, y⟩ := H
        cases v' with
        | none => exact y.elim
        | some u => exact wpAny_Name (wpAny_loadName_cell he.kind (he.cel i x hx) e3 hcell (hp.here S y)) hd
  | fre =>
    obtain ⟨c', e1, e2, e3⟩ := V.cells i x .fre hx (.inr rfl)
    obtain ⟨o, ho⟩ := sget_of_lt S e2
    have H := S.own c' o ho
    rw [getV_cl _ _ e1 ho] at hp
    cases o with
    | list l => exact hp.elim
    | cell v =>
      cases v with
      | none => exact hp.elim
      | some v =>
        obtain ⟨v', hcell, y⟩ := H
        cases v' with
        | none => exact y.elim
        | some u =>
          rcases he.fre i x hx with hk | hk
          · exact wpAny_Name (wpAny_loadName_cell he.kind hk e3 hcell (hp.here S y)) hd
          · exact wpAny_Name (wpAny_loadName_free he.kind hk e3 hcell (hp.here S y) hc) hd
end
end Mine
end

section
open PySem PySem.W PyProof.Rows PySem.Calls PySem.Spec
namespace Mine
set_option autoImplicit false

/-! what is compared -/
noncomputable def PD : Nat → Store → AV → PyData
  | 0, _, _ => .none
  | _ + 1, _, .int i => .int i
  | _ + 1, _, .boo b => .bool b
  | _ + 1, _, .str k => .str (txt k)
  | _ + 1, _, .non => .none
  | n + 1, σ, .tup l => .tuple (l.map (PD n σ))
  | n + 1, σ, .ref k => match sget σ k with
    | some (.list l) => .list (l.map (PD n σ))
    | _ => .none
  | _ + 1, _, .rng _ _ => .none
theorem bind_R {α β : Type} {r : R α} {f : α → Store → R β} {b : β} {σ : Store} (h : r.bind f = .ok b σ) : ∃ a σ', r = .ok a σ' ∧ f a σ' = .ok b σ := by
  cases r with
  | ok a σ' => rw [bind_ok] at h; exact ⟨a, σ', rfl, h⟩
  | ex k σ' => rw [bind_ex] at h; cases h
  | bad => rw [bind_bad] at h; cases h
theorem getL_R {β : Type} {σ : Store} {k : Nat} {f : List AV → R β} {b : β} {τ : Store} (h : getL σ k f = .ok b τ) : ∃ l, sget σ k = some (.list l) ∧ f l = .ok b τ := by
  unfold getL at h
  rw [getO_eq] at h
  cases e : sget σ k with
  | none => rw [e] at h; cases h
  | some o =>
    rw [e] at h
    cases o with
    | list l => exact ⟨l, rfl, h⟩
    | cell v => cases h
theorem txt_ok : ∀ k, k < 28 → PyData.strOk (txt k) = true := by decide +kernel
theorem txt_inj : ∀ j, j < 28 → ∀ k, k < 28 → (txt j == txt k) = Nat.beq j k := by decide +kernel

theorem rdL_all {f : AV → Store → R PUnit} {σ : Store} : ∀ {l : List AV} {τ : Store}, rdL f σ l = .ok ⟨⟩ τ → τ = σ ∧ ∀ x ∈ l, ∃ τ', f x σ = .ok ⟨⟩ τ'
  | [], τ, h => by
    have h' : (R.ok PUnit.unit σ : R PUnit) = .ok ⟨⟩ τ := h
    cases h'
    exact ⟨rfl, fun _ h => by cases h⟩
  | x :: l, τ, h => by
    have h' : ((f x σ).bind fun _ _ => rdL f σ l) = .ok ⟨⟩ τ := h
    obtain ⟨a, σ', h1, h2⟩ := bind_R h'
    obtain ⟨h3, h4⟩ := rdL_all h2
    refine ⟨h3, fun y hy => ?_⟩
    rcases List.mem_cons.mp hy with rfl | hy
    · exact ⟨σ', h1⟩
    · exact h4 y hy
theorem rdb_same {n : Nat} {a : AV} {σ τ : Store} (h : rdb n a σ = .ok ⟨⟩ τ) : τ = σ := by
  cases n with
  | zero => cases h
  | succ n =>
    cases a with
    | int i => cases (show (R.ok PUnit.unit σ : R PUnit) = .ok ⟨⟩ τ from h); rfl
    | boo i => cases (show (R.ok PUnit.unit σ : R PUnit) = .ok ⟨⟩ τ from h); rfl
    | str i => cases (show (R.ok PUnit.unit σ : R PUnit) = .ok ⟨⟩ τ from h); rfl
    | non => cases (show (R.ok PUnit.unit σ : R PUnit) = .ok ⟨⟩ τ from h); rfl
    | tup l => exact (rdL_all (show rdL (rdb n) σ l = _ from h)).1
    | ref k =>
      obtain ⟨l, _, h2⟩ := getL_R (show getL σ k (fun l => rdL (rdb n) σ l) = _ from h)
      exact (rdL_all h2).1
    | rng a b => cases h

section
variable {B0 : Heap} {fr : List Env} {p : Pt}
theorem reads_all (S : St B0 fr p) {n : Nat} (ih : ∀ {a : AV} {v : Value} {τ : Store}, rdb n a p.σ = .ok ⟨⟩ τ → VR p.h p.ρ p.σ.n v a → ∃ as, Reads p.h v (PD n p.σ a) as ∧ (PD n p.σ a).canLay0 = true ∧ (PD n p.σ a).depth ≤ n) :
    ∀ {l : List AV} {vs : List Value}, VRs p.h p.ρ p.σ.n vs l → (∀ x ∈ l, ∃ τ', rdb n x p.σ = .ok ⟨⟩ τ') → ∃ as, ReadsAll p.h vs (l.map (PD n p.σ)) as ∧ PyData.canLayAll0 (l.map (PD n p.σ)) = true ∧ PyData.depthAll (l.map (PD n p.σ)) ≤ n
  | _, _, .nil, _ => ⟨[], .nil, rfl, Nat.zero_le _⟩
  | _, _, .cons (a := a) (as := as) x r, h => by
    obtain ⟨τ, h1⟩ := h _ (List.mem_cons_self ..)
    obtain ⟨xs, y1, y2, y3⟩ := ih h1 x
    obtain ⟨ys, z1, z2, z3⟩ := reads_all S ih r fun x hx => h x (List.mem_cons_of_mem _ hx)
    refine ⟨_, .cons y1 z1, ?_, ?_⟩
    · show (PyData.canLay0 (PD n p.σ a) && PyData.canLayAll0 (as.map (PD n p.σ))) = true
      rw [y2, z2]; rfl
    · show max (PyData.depth (PD n p.σ a)) (PyData.depthAll (as.map (PD n p.σ))) ≤ n
      omega
theorem rdb_reads (S : St B0 fr p) : ∀ (n : Nat) {a : AV} {v : Value} {τ : Store}, rdb n a p.σ = .ok ⟨⟩ τ → VR p.h p.ρ p.σ.n v a → ∃ as, Reads p.h v (PD n p.σ a) as ∧ (PD n p.σ a).canLay0 = true ∧ (PD n p.σ a).depth ≤ n
  | 0, _, _, _, h, _ => by cases h
  | n + 1, a, v, τ, h, x => by
    cases x with
    | int i t => exact ⟨[], .int i t, rfl, Nat.zero_le _⟩
    | boo b => exact ⟨[], .bool b, rfl, Nat.zero_le _⟩
    | str t hk => exact ⟨[], .str _ t, (by show PyData.canLay0 (.str (txt _)) = true; rw [PyData.canLay0]; exact txt_ok _ hk), Nat.zero_le _⟩
    | non => exact ⟨[], .none, rfl, Nat.zero_le _⟩
    | @tup a vs l ht r =>
      obtain ⟨o, e, hc, m, hd⟩ := ht
      obtain ⟨_, h2⟩ := rdL_all (show rdL (rdb n) p.σ l = _ from h)
      obtain ⟨as, y1, y2, y3⟩ := reads_all S (rdb_reads S n) r h2
      exact ⟨_, .tuple e hc hd y1, y2, Nat.succ_le_succ y3⟩
    | @ref k hk =>
      obtain ⟨l, hg, h2⟩ := getL_R (show getL p.σ k (fun l => rdL (rdb n) p.σ l) = _ from h)
      obtain ⟨_, h3⟩ := rdL_all h2
      obtain ⟨vs, ⟨o, e, hc, m, hd⟩, r⟩ := S.own k _ hg
      obtain ⟨as, y1, y2, y3⟩ := reads_all S (rdb_reads S n) r h3
      have : PD (n + 1) p.σ (.ref k) = .list (l.map (PD n p.σ)) := by
        show (match sget p.σ k with | some (.list l) => PyData.list (l.map (PD n p.σ)) | _ => .none) = _
        rw [hg]
      rw [this]
      exact ⟨_, .list e hc hd y1, y2, Nat.succ_le_succ y3⟩
    | rng hx _ _ => cases h

theorem strs_lt {a : AV} {v : Value} {h : Heap} {ρ : Nat → Addr} {n : Nat} (x : VR h ρ n v a) {k : Nat} (e : a = .str k) : k < 28 := by
  subst e
  cases x with
  | str t hk => exact hk

theorem eqL_eqv {n : Nat} {σ : Store} (P : AV → Prop) (ih : ∀ {a b : AV} {r : Bool} {τ : Store}, P a → P b → veq n a b σ = .ok r τ → r = PyData.eqv (PD n σ a) (PD n σ b) ∧ τ = σ) :
    ∀ {l m : List AV} {r : Bool} {τ : Store}, (∀ x ∈ l, P x) → (∀ x ∈ m, P x) → eqL (veq n) σ l m = .ok r τ → r = PyData.eqvAll (l.map (PD n σ)) (m.map (PD n σ)) ∧ τ = σ
  | [], [], r, τ, _, _, h => by
    cases (show (R.ok true σ : R Bool) = .ok r τ from h); exact ⟨rfl, rfl⟩
  | [], _ :: _, r, τ, _, _, h => by
    cases (show (R.ok false σ : R Bool) = .ok r τ from h); exact ⟨rfl, rfl⟩
  | _ :: _, [], r, τ, _, _, h => by
    cases (show (R.ok false σ : R Bool) = .ok r τ from h); exact ⟨rfl, rfl⟩
  | x :: l, y :: m, r, τ, hl, hm, h => by
    obtain ⟨b, σ', h1, h2⟩ := bind_R (show ((veq n x y σ).bind fun b _ => ifB b (eqL (veq n) σ l m) (.ok false σ)) = .ok r τ from h)
    obtain ⟨h3, h4⟩ := ih (hl _ (List.mem_cons_self ..)) (hm _ (List.mem_cons_self ..)) h1
    have hr : PyData.eqvAll ((x :: l).map (PD n σ)) ((y :: m).map (PD n σ)) = (PyData.eqv (PD n σ x) (PD n σ y) && PyData.eqvAll (l.map (PD n σ)) (m.map (PD n σ))) := rfl
    rw [hr, ← h3]
    cases b with
    | true =>
      obtain ⟨h5, h6⟩ := eqL_eqv P ih (fun x hx => hl x (List.mem_cons_of_mem _ hx)) (fun x hx => hm x (List.mem_cons_of_mem _ hx)) (show eqL (veq n) σ l m = .ok r τ from h2)
      exact ⟨h5, h6⟩
    | false => cases (show (R.ok false σ : R Bool) = .ok r τ from h2); exact ⟨rfl, rfl⟩
/-- texts are known ones, all the way down -/
noncomputable def Known (σ : Store) : Nat → AV → Prop
  | 0, _ => True
  | _ + 1, .str k => k < 28
  | n + 1, .tup l => ∀ x ∈ l, Known σ n x
  | n + 1, .ref k => ∀ l, sget σ k = some (.list l) → ∀ x ∈ l, Known σ n x
  | _ + 1, _ => True
theorem knowns (S : St B0 fr p) {n : Nat} (ih : ∀ {a : AV} {v : Value}, VR p.h p.ρ p.σ.n v a → Known p.σ n a) : ∀ {l : List AV} {vs : List Value}, VRs p.h p.ρ p.σ.n vs l → ∀ x ∈ l, Known p.σ n x
  | _, _, .nil, _, h => by cases h
  | _, _, .cons x r, y, h => by
    rcases List.mem_cons.mp h with rfl | h
    · exact ih x
    · exact knowns S ih r y h
theorem known_of (S : St B0 fr p) : ∀ (n : Nat) {a : AV} {v : Value}, VR p.h p.ρ p.σ.n v a → Known p.σ n a
  | 0, _, _, _ => trivial
  | n + 1, a, v, x => by
    cases x with
    | int i t => trivial
    | boo b => trivial
    | str t hk => exact hk
    | non => trivial
    | tup ht r => exact knowns S (known_of S n) r
    | ref hk =>
      intro l hg
      obtain ⟨vs, _, r⟩ := S.own _ _ hg
      exact knowns S (known_of S n) r
    | rng hx _ _ => trivial
theorem veq_eqv {σ : Store} : ∀ (n : Nat) {a b : AV} {r : Bool} {τ : Store}, Known σ n a → Known σ n b → veq n a b σ = .ok r τ → r = PyData.eqv (PD n σ a) (PD n σ b) ∧ τ = σ
  | 0, _, _, _, _, _, _, h => by cases h
  | n + 1, a, b, r, τ, ka, kb, h => by
    cases a with
    | int i =>
      cases b with
      | int j =>
        cases (show (R.ok (decide (i = j)) σ : R Bool) = .ok r τ from h)
        exact ⟨rfl, rfl⟩
      | str j => cases (show (R.ok false σ : R Bool) = .ok r τ from h); exact ⟨rfl, rfl⟩
      | non => cases (show (R.ok false σ : R Bool) = .ok r τ from h); exact ⟨rfl, rfl⟩
      | tup j => cases (show (R.ok false σ : R Bool) = .ok r τ from h); exact ⟨rfl, rfl⟩
      | _ => cases h
    | boo i =>
      cases b with
      | boo j =>
        cases (show (R.ok (ifB i j (ifB j false true)) σ : R Bool) = .ok r τ from h)
        refine ⟨?_, rfl⟩
        show ifB i j (ifB j false true) = (i == j)
        cases i <;> cases j <;> rfl
      | _ => cases h
    | str i =>
      cases b with
      | str j =>
        cases (show (R.ok (Nat.beq i j) σ : R Bool) = .ok r τ from h)
        exact ⟨(txt_inj i ka j kb).symm, rfl⟩
      | int j => cases (show (R.ok false σ : R Bool) = .ok r τ from h); exact ⟨rfl, rfl⟩
      | non => cases (show (R.ok false σ : R Bool) = .ok r τ from h); exact ⟨rfl, rfl⟩
      | tup j => cases (show (R.ok false σ : R Bool) = .ok r τ from h); exact ⟨rfl, rfl⟩
      | _ => cases h
    | non => cases h
    | tup l =>
      cases b with
      | tup m => exact eqL_eqv (Known σ n) (veq_eqv n) ka kb (show eqL (veq n) σ l m = .ok r τ from h)
      | int j => cases (show (R.ok false σ : R Bool) = .ok r τ from h); exact ⟨rfl, rfl⟩
      | non => cases (show (R.ok false σ : R Bool) = .ok r τ from h); exact ⟨rfl, rfl⟩
      | str j => cases (show (R.ok false σ : R Bool) = .ok r τ from h); exact ⟨rfl, rfl⟩
      | _ => cases h
    | ref k =>
      cases b with
      | ref j =>
        obtain ⟨l, e1, h1⟩ := getL_R (show getL σ k (fun l => getL σ j fun m => eqL (veq n) σ l m) = .ok r τ from h)
        obtain ⟨m, e2, h2⟩ := getL_R h1
        obtain ⟨h3, h4⟩ := eqL_eqv (Known σ n) (veq_eqv n) (ka l e1) (kb m e2) h2
        refine ⟨?_, h4⟩
        show r = PyData.eqv (match sget σ k with | some (.list l) => PyData.list (l.map (PD n σ)) | _ => .none) (match sget σ j with | some (.list l) => PyData.list (l.map (PD n σ)) | _ => .none)
        rw [e1, e2]; exact h3
      | _ => cases h
    | rng i j => cases h

/-- what is said to be equal: as the model says it -/
theorem eqv8_of (S : St B0 fr p) {a b : AV} {v u : Value} {r : Bool} {τ : Store} (x : VR p.h p.ρ p.σ.n v a) (y : VR p.h p.ρ p.σ.n u b) (h : eqv8 a b p.σ = .ok r τ) :
    τ = p.σ ∧ ∃ da db as bs, Reads p.h v da as ∧ Reads p.h u db bs ∧ SeqAt.shaped da = true ∧ SeqAt.shaped db = true ∧ r = PyData.eqv da db := by
  obtain ⟨⟨⟩, σ1, h1, h2⟩ := bind_R (show ((rdb 8 a p.σ).bind fun _ _ => (rdb 8 b p.σ).bind fun _ _ => veq 8 a b p.σ) = .ok r τ from h)
  obtain ⟨⟨⟩, σ2, h3, h4⟩ := bind_R h2
  obtain ⟨as, ra, la, da⟩ := rdb_reads S 8 h1 x
  obtain ⟨bs, rb, lb, db⟩ := rdb_reads S 8 h3 y
  obtain ⟨e1, e2⟩ := veq_eqv 8 (known_of S 8 x) (known_of S 8 y) h4
  refine ⟨e2, _, _, as, bs, ra, rb, ?_, ?_, e1⟩
  · show (PyData.canLay0 _ && decide _) = true
    rw [la, Bool.true_and]; exact decide_eq_true (Nat.le_trans da (by decide))
  · show (PyData.canLay0 _ && decide _) = true
    rw [lb, Bool.true_and]; exact decide_eq_true (Nat.le_trans db (by decide))
theorem veq_noEx {σ : Store} : ∀ (n : Nat) {a b : AV} {k : Nat} {τ : Store}, veq n a b σ ≠ .ex k τ := by
  intro n
  have hL : ∀ (n : Nat), (∀ {a b : AV} {k : Nat} {τ : Store}, veq n a b σ ≠ .ex k τ) → ∀ {l m : List AV} {k : Nat} {τ : Store}, eqL (veq n) σ l m ≠ .ex k τ := by
    intro n ih l
    induction l with
    | nil => intro m k τ h; cases m <;> cases h
    | cons x l ihl =>
      intro m k τ h
      cases m with
      | nil => cases h
      | cons y m =>
        have h' : ((veq n x y σ).bind fun b _ => ifB b (eqL (veq n) σ l m) (.ok false σ)) = .ex k τ := h
        cases hv : veq n x y σ with
        | ok b σ' =>
          rw [hv, bind_ok] at h'
          cases b with
          | true => exact ihl h'
          | false => cases h'
        | ex k' σ' => exact ih hv
        | bad => rw [hv] at h'; cases h'
  induction n with
  | zero => intro a b k τ h; cases h
  | succ n ih =>
    intro a b k τ h
    cases a with
    | int i => cases b <;> cases h
    | boo i => cases b <;> cases h
    | str i => cases b <;> cases h
    | non => cases h
    | tup l =>
      cases b with
      | tup m => exact hL n ih (show eqL (veq n) σ l m = .ex k τ from h)
      | _ => cases h
    | ref i =>
      cases b with
      | ref j =>
        have h' : getL σ i (fun l => getL σ j fun m => eqL (veq n) σ l m) = .ex k τ := h
        unfold getL at h'
        rw [getO_eq] at h'
        cases e : sget σ i with
        | none => rw [e] at h'; cases h'
        | some o =>
          rw [e] at h'
          cases o with
          | cell c => cases h'
          | list l =>
            have h2 : getO σ j (fun o => onList o fun m => eqL (veq n) σ l m) = .ex k τ := h'
            rw [getO_eq] at h2
            cases e2 : sget σ j with
            | none => rw [e2] at h2; cases h2
            | some o =>
              rw [e2] at h2
              cases o with
              | cell c => cases h2
              | list m => exact hL n ih h2
      | _ => cases h
    | rng i j => cases h
end
end Mine
end

section
open PySem PySem.W PyProof.Rows PySem.Calls PySem.Spec
namespace Mine
set_option autoImplicit false

theorem Room.mono {A : Around} {j k : Nat} (h : Room A k) (hj : j ≤ k) : Room A j := ⟨h.1, Nat.le_trans (Nat.add_le_add_left hj _) h.2.1, Nat.le_trans (by omega) h.2.2⟩
theorem Room.units {A : Around} {k : Nat} (h : Room A k) : A.units ≤ 9000 := by
  have := h.2.2; omega
theorem Room.deeper {A : Around} {k : Nat} (h : Room A (k + 1)) (env : Env) : Room (A.deeper env) k := ⟨h.1, by have := h.2.1; show A.depth + 1 + k ≤ 990; omega, by have := h.2.2; show A.units + 3 + 8 * k ≤ 9000; omega⟩
theorem Room.le1 {A : Around} {k : Nat} (h : Room A (k + 1)) {B : Around} (hh : B.handled = none) (hd : B.depth ≤ A.depth + 1) (hu : B.units ≤ A.units + 8) : Room B k := ⟨hh, by have := h.2.1; omega, by have := h.2.2; omega⟩

section
variable {D : Wd} {m : Nat} {Γ : Names}

theorem base_ns {fr : List Env} {p : Pt} {a : Addr} {f : Str → Option Value} (S : St D.B0 fr p) (h : D.B0.Ns a f) : p.h.Ns a f := by
  obtain ⟨o, es, ep, e, r⟩ := h
  exact ⟨o, es, ep, S.base a o e, r⟩

theorem VR.base {fr : List Env} {p : Pt} (S : St D.B0 fr p) {v : Value} {a : AV} (x : VR D.B0 p.ρ 0 v a) : VR p.h p.ρ p.σ.n v a := x.ext (fun a o e _ => S.base a o e) (Nat.zero_le _) (fun _ h => absurd h (Nat.not_lt_zero _))
/-- a global that is a value -/
theorem s_val {x : Str} {v : Value} {a : AV} {pos : Pos} {i : Nat} (hD : D.Ok) (hx : Γ[i]? = some (x, .glo)) (hv : D.mg x = some v) (hr : ∀ ρ, VR D.B0 ρ 0 v a) (hd : (x == Str.ofString "__debug__") = false := by decide +kernel) : SoundX D m Γ (.Name x pos) (xVal a) := by
  intro n c hC A fr env φ p Q E hroom hf he S V hp
  refine Name_function_global he.kind (he.glo i x hx) ?_ hd
  refine loadGlobal_global (env := env) (mg := D.mg) ?_ hv (hp.here S (VR.base S (hr _)))
  rw [he.glob]; exact base_ns S hD.globs

/-! lists of expressions -/
theorem l_nil : SoundL D m Γ [] lNil := by
  intro n c hC A fr env φ p Q E pos hr hf he S V hp
  exact spliced_none (hp.here S ⟨.nil, rfl⟩)
theorem l_cons {e : Expr} {es : List Expr} {a : DX} {r : DL} (ha : SoundX D m Γ e a) (hl : SoundL D m Γ es r) (hs : ∀ env, starEach (e :: es) env = (false, eval e env) :: starEach es env := by intro _; rfl) : SoundL D m Γ (e :: es) (lCons a r) := by
  intro n c hC A fr env φ p Q E pos hr hf he S V hp
  refine spliced_more (ha hC hr hf he S V (Post.bind (r := a c φ p.σ) hp fun q u v S1 s1 x1 h1 => ?_)) (hs env)
  refine hl hC hr hf he S1 (V.on S s1) (Post.bind h1 fun q2 us vs S2 s2 x2 h2 => ?_)
  exact h2.here S2 ⟨.cons (x1.on S1 s2) x2.1, congrArg (· + 1) x2.2⟩

theorem sh_push (s₀ : Shared) (p : Pt) (o : Obj) : { sh s₀ p with heap := (sh s₀ p).heap.push o } = sh s₀ { p with h := p.h.push o } := rfl
theorem push_keep (h : Heap) (o : Obj) : ∀ a x, h.get? a = some x → (h.push o).get? a = some x := fun a x e => Heap.get?_push_of_some _ e
theorem push_at (h : Heap) (o : Obj) (ho : o.isFreed = false := by rfl) : (h.push o).get? h.objs.size = some o := Heap.get?_push_size _ ho
theorem size_none (h : Heap) : h.get? h.objs.size = none := by
  cases e : h.get? h.objs.size with
  | none => rfl
  | some o => exact absurd (Heap.lt_size e) (Nat.lt_irrefl _)

theorem new_tuple {A : Around} {fr : List Env} {p : Pt} {vs : List Value} {as : List AV} {Q : Value → Shared → Prop} {E : Value → Shared → Prop} (S : St D.B0 fr p) (x : RVs p as vs) (hs : vs.length ≤ sizeLine)
    (hp : Post D.B0 D.s₀ fr NoX NoE p RV (.ok (.tup as) p.σ) Q E) : wpAny (model D.prog D.w) A (newTuple vs) Q E (sh D.s₀ p) := by
  have k := push_keep p.h { cls := .type "tuple", data := .seq vs.toArray }
  refine wpAny_newObj_type ?_ (by show vs.toArray.size ≤ sizeLine; rw [List.size_toArray]; exact hs)
  refine hp.ok (q := { p with h := p.h.push { cls := .type "tuple", data := .seq vs.toArray }, t := p.t }) (S.push k) (Step.push k) ?_
  exact .tup ⟨_, push_at _ _, rfl, _, rfl⟩ (x.ext (fun a o e _ => k a o e) (Nat.le_refl _) (fun _ _ => rfl))
theorem new_list {A : Around} {fr : List Env} {p : Pt} {vs : List Value} {as : List AV} {Q : Value → Shared → Prop} {E : Value → Shared → Prop} (S : St D.B0 fr p) (x : RVs p as vs) (hs : vs.length ≤ sizeLine)
    (hp : Post D.B0 D.s₀ fr NoX NoE p RV (newO p.σ (.list as) fun k σ => .ok (.ref k) σ) Q E) : wpAny (model D.prog D.w) A (newList vs) Q E (sh D.s₀ p) := by
  have k := push_keep p.h { cls := .type "list", data := .seq vs.toArray }
  rw [newO_eq] at hp
  refine wpAny_newObj_type ?_ (by show vs.toArray.size ≤ sizeLine; rw [List.size_toArray]; exact hs)
  have x' : VRs (p.h.push { cls := .type "list", data := .seq vs.toArray }) (upd p.ρ p.σ.n p.h.objs.size) (p.σ.n + 1) vs as := x.ext (fun a o e _ => k a o e) (Nat.le_succ _) (fun j hj => if_neg (Nat.ne_of_lt hj))
  refine hp.ok (q := ⟨upd p.ρ p.σ.n p.h.objs.size, snew p.σ (.list as), p.h.push { cls := .type "list", data := .seq vs.toArray }, p.t⟩) (S.alloc k (size_none _) ⟨_, ⟨_, push_at _ _, rfl, _, rfl⟩, x'⟩ fun _ _ => ⟨_, push_at _ _, rfl⟩) (Step.alloc k (size_none _)) ?_
  have : (Value.ref p.h.objs.size) = .ref (upd p.ρ p.σ.n p.h.objs.size p.σ.n) := by rw [show upd p.ρ p.σ.n p.h.objs.size p.σ.n = _ from if_pos rfl]
  show VR _ _ _ (.ref p.h.objs.size) _
  rw [this]
  exact .ref (Nat.lt_succ_self _)

theorem s_tup {es : List Expr} {l : DL} {k : Nat} {pos : Pos} (hl : SoundL D m Γ es l) (hs : es.length ≤ sizeLine := by decide +kernel) : SoundX D m Γ (.Tuple es k pos) (xTup l) := by
  intro n c hC A fr env φ p Q E hr hf he S V hp
  exact Tuple_ (hl hC hr hf he S V (Post.bind hp fun q u v S1 s1 x1 h1 => new_tuple S1 x1.1 (x1.2 ▸ hs) h1))
theorem s_lst {es : List Expr} {l : DL} {pos : Pos} (hl : SoundL D m Γ es l) (hs : es.length ≤ sizeLine := by decide +kernel) : SoundX D m Γ (.List es pos) (xLst l) := by
  intro n c hC A fr env φ p Q E hr hf he S V hp
  exact List_ (hl hC hr hf he S V (Post.bind hp fun q u v S1 s1 x1 h1 => new_list S1 x1.1 (x1.2 ▸ hs) h1))

/-! operations on values -/
noncomputable def Op1 (D : Wd) (run : Value → Sem Value) (f : AV → Store → R AV) : Prop := ∀ {A : Around} {fr : List Env} {p : Pt} {v : Value} {a : AV} {Q : Value → Shared → Prop} {E : Value → Shared → Prop} {k : Nat},
  Room A k → A.frames = some fr → St D.B0 fr p → RV p a v → Post D.B0 D.s₀ fr NoX NoE p RV (f a p.σ) Q E → wpAny (model D.prog D.w) A (run v) Q E (sh D.s₀ p)
noncomputable def Op2 (D : Wd) (run : Value → Value → Sem Value) (f : AV → AV → Store → R AV) : Prop := ∀ {A : Around} {fr : List Env} {p : Pt} {v u : Value} {a b : AV} {Q : Value → Shared → Prop} {E : Value → Shared → Prop} {k : Nat},
  Room A k → A.frames = some fr → St D.B0 fr p → RV p a v → RV p b u → Post D.B0 D.s₀ fr NoX NoE p RV (f a b p.σ) Q E → wpAny (model D.prog D.w) A (run v u) Q E (sh D.s₀ p)
noncomputable abbrev onInts (f : Int → Int → Store → R AV) : AV → AV → Store → R AV := fun u v σ => onInt u fun x => onInt v fun y => f x y σ
theorem onInt_ok {α β : Type} {B0 : Heap} {s₀ : Shared} {fr : List Env} {X : Addr → Prop} {EX : Pt → Prop} {p : Pt} {Rel : Pt → α → β → Prop} {Q : β → Shared → Prop} {E : Value → Shared → Prop} {v : Value} {a : AV} {f : Int → R α} {h : Heap} {ρ : Nat → Addr} {n : Nat} (x : VR h ρ n v a)
    (hp : Post B0 s₀ fr X EX p Rel (onInt a f) Q E) : ∃ i t, v = .int i t ∧ a = .int i ∧ Post B0 s₀ fr X EX p Rel (f i) Q E := by
  cases x with
  | int i t => exact ⟨i, t, rfl, rfl, hp⟩
  | _ => exact hp.elim
theorem op_ints {run : Value → Value → Sem Value} {f : Int → Int → Store → R AV} (h : ∀ {A : Around} {fr : List Env} {p : Pt} {x y : Int} {t u : Tok} {Q : Value → Shared → Prop} {E : Value → Shared → Prop} {k : Nat},
    Room A k → A.frames = some fr → St D.B0 fr p → Post D.B0 D.s₀ fr NoX NoE p RV (f x y p.σ) Q E → wpAny (model D.prog D.w) A (run (Value.int x t) (Value.int y u)) Q E (sh D.s₀ p)) : Op2 D run (onInts f) := by
  intro A fr p v u a b Q E k hr hf S x y hp
  obtain ⟨i, t, rfl, rfl, hp⟩ := onInt_ok x hp
  obtain ⟨j, t', rfl, rfl, hp⟩ := onInt_ok y hp
  exact h hr hf S hp

section
variable {B0 : Heap} {s₀ : Shared} {fr : List Env} {p : Pt} {Q : Value → Shared → Prop} {E : Value → Shared → Prop}
theorem okInt_of {i : Int} {t : Tok} {k : Nat} (S : St B0 fr p) (hp : Post B0 s₀ fr NoX NoE p RV (okInt i p.σ) Q E) : Q (.int i t) (sh s₀ { p with t := k }) := by
  unfold okInt at hp
  rw [fI_eq] at hp
  cases h : small i with
  | true => rw [h] at hp; exact Post.toks (a := AV.int i) (b := Value.int i t) (Rel := RV) hp S (VR.int i t)
  | false => rw [h] at hp; exact hp.elim
theorem okInt_small {i : Int} (hp : Post B0 s₀ fr NoX NoE p RV (okInt i p.σ) Q E) : i.natAbs.log2 < 100000 := by
  unfold okInt at hp
  rw [fI_eq] at hp
  cases h : small i with
  | true => exact Nat.le_of_ble_eq_true h
  | false => rw [h] at hp; exact hp.elim
end
theorem op_add : Op2 D (binaryOp .Add) (onInts fun x y σ => okInt (Int.add x y) σ) := op_ints fun _ _ S hp => add_int (okInt_of S hp)
theorem op_sub : Op2 D (binaryOp .Sub) (onInts fun x y σ => okInt (Int.sub x y) σ) := op_ints fun _ _ S hp => sub_int (okInt_of S hp)
theorem mulOk {x y : Int} (h : (x * y).natAbs.log2 < 100000) : IntMulOk x y := by
  by_cases hx : x = 0
  · subst hx; exact .of_left (by decide)
  by_cases hy : y = 0
  · subst hy; exact .of_right (by decide)
  have hm : (x * y).natAbs = x.natAbs * y.natAbs := Int.natAbs_mul x y
  rw [hm] at h
  have h1 : x.natAbs ≠ 0 := Int.natAbs_ne_zero.mpr hx
  have h2 : y.natAbs ≠ 0 := Int.natAbs_ne_zero.mpr hy
  have hlt : x.natAbs * y.natAbs < 2 ^ 100000 := (Nat.log2_lt (Nat.mul_ne_zero h1 h2)).mp h
  have bits : ∀ z : Int, z ≠ 0 → z.natAbs < 2 ^ 100000 → Builtin.Int.intBits z ≤ 2 ^ 20 := fun z hz hl => by
    have := (Nat.log2_lt (Int.natAbs_ne_zero.mpr hz)).mpr hl
    unfold Builtin.Int.intBits
    split <;> omega
  exact .of_bits (bits x hx (Nat.lt_of_le_of_lt (Nat.le_mul_of_pos_right _ (Nat.pos_of_ne_zero h2)) hlt)) (bits y hy (Nat.lt_of_le_of_lt (Nat.le_mul_of_pos_left _ (Nat.pos_of_ne_zero h1)) hlt))
theorem op_mul : Op2 D (binaryOp .Mult) (onInts fun x y σ => okInt (Int.mul x y) σ) := op_ints fun _ _ S hp => mul_int (okInt_of S hp) (mulOk (okInt_small hp))
theorem nought_ne {y : Int} (h : isNought y = false) : y ≠ 0 := by
  rintro rfl; exact absurd h (by decide)
theorem op_div : Op2 D (binaryOp .FloorDiv) (onInts fun x y σ => ifB (isNought y) .bad (ifB (Nat.blt (Nat.log2 (Int.natAbs y)) 9000) (okInt (Int.fdiv x y) σ) .bad)) := op_ints fun {A fr p x y t u Q E k} _ _ S hp => by
  cases h : isNought y with
  | true => rw [h] at hp; exact hp.elim
  | false =>
    rw [h] at hp
    cases h2 : Nat.blt (Nat.log2 (Int.natAbs y)) 9000 with
    | false =>
      rw [h2] at hp; exact hp.elim
    | true =>
      rw [h2] at hp
      exact floordiv_int (nought_ne h) (okInt_of S hp) (.inl (PyProof.noPylong_of_log2 (Nat.le_of_ble_eq_true h2)))
theorem op_mod : Op2 D (binaryOp .Mod) (onInts fun x y σ => ifB (isNought y) .bad (okInt (Int.fmod x y) σ)) := op_ints fun {A fr p x y t u Q E k} _ _ S hp => by
  cases h : isNought y with
  | true => rw [h] at hp; exact hp.elim
  | false => rw [h] at hp; exact PyProof.Rows.mod_int (nought_ne h) (okInt_of S hp)
theorem op_pow : Op2 D (binaryOp .Pow) (onInts fun x y σ => Int.rec (motive := fun _ => R AV) (fun n => ifB (Nat.blt n 5000) (ifB (Nat.blt (Int.natAbs x) 18446744073709551616) (okInt (x ^ n) σ) .bad) .bad) (fun _ => .bad) y) := op_ints fun {A fr p x y t u Q E k} _ _ S hp => by
  cases y with
  | negSucc n => exact hp.elim
  | ofNat n =>
    have hp : Post D.B0 D.s₀ fr NoX NoE p RV (ifB (Nat.blt n 5000) (ifB (Nat.blt (Int.natAbs x) 18446744073709551616) (okInt (x ^ n) p.σ) .bad) .bad) Q E := hp
    cases h1 : Nat.blt n 5000 with
    | false => rw [h1] at hp; exact hp.elim
    | true =>
      cases h2 : Nat.blt (Int.natAbs x) 18446744073709551616 with
      | false => rw [h1, h2] at hp; exact hp.elim
      | true =>
        rw [h1, h2] at hp
        have h1' : n < 5000 := Nat.le_of_ble_eq_true h1
        exact pow_int_small (Int.natCast_nonneg n) (by show (n : Int) ≤ 1000000; omega) (Nat.le_of_ble_eq_true h2) (okInt_of S hp)
theorem op_neg : Op1 D (unaryOp .USub) (fun u σ => onInt u fun x => okInt (Int.neg x) σ) := by
  intro A fr p v a Q E k hr hf S x hp
  obtain ⟨i, t, rfl, rfl, hp⟩ := onInt_ok x hp
  exact PyProof.Rows.neg_int (okInt_of S hp)
theorem op_subB : Op2 D (binaryOp .Sub) (fun u v σ => onBoo u fun x => onBoo v fun y => okInt (Int.sub (iB x) (iB y)) σ) := by
  intro A fr p v u a b Q E k hr hf S x y hp
  cases x with
  | boo x =>
    cases y with
    | boo y =>
      refine sub_bool ?_
      have e : iB x - iB y = b2i x - b2i y := by cases x <;> cases y <;> rfl
      rw [← e]
      exact okInt_of S hp
    | _ => exact hp.elim
  | _ => exact hp.elim
theorem op_cmp {run : Value → Value → Sem Value} {f : Int → Int → Bool} (h : ∀ {A : Around} {s : Shared} {x y : Int} {t u : Tok} {Q : Value → Shared → Prop} {E : Value → Shared → Prop}, Q (.bool (f x y)) s → wpAny (model D.prog D.w) A (run (Value.int x t) (Value.int y u)) Q E s) :
    Op2 D run (onInts fun x y σ => .ok (.boo (f x y)) σ) := op_ints fun _ _ S hp => h (hp.here S (.boo _))
theorem op_lt : Op2 D (compareOp .Lt) (onInts fun x y σ => .ok (.boo (decide (x < y))) σ) := op_cmp PyProof.Rows.lt_int
theorem op_le : Op2 D (compareOp .LtE) (onInts fun x y σ => .ok (.boo (decide (x ≤ y))) σ) := op_cmp PyProof.Rows.le_int
theorem op_gt : Op2 D (compareOp .Gt) (onInts fun x y σ => .ok (.boo (decide (y < x))) σ) := op_cmp PyProof.Rows.gt_int
theorem op_ge : Op2 D (compareOp .GtE) (onInts fun x y σ => .ok (.boo (decide (y ≤ x))) σ) := op_cmp PyProof.Rows.ge_int
theorem rd_noEx {n : Nat} : ∀ {a : AV} {σ τ : Store} {k : Nat}, rdb n a σ ≠ .ex k τ := by
  have hL : ∀ (n : Nat), (∀ {a : AV} {σ τ : Store} {k : Nat}, rdb n a σ ≠ .ex k τ) → ∀ {l : List AV} {σ τ : Store} {k : Nat}, rdL (rdb n) σ l ≠ .ex k τ := by
    intro n ih l
    induction l with
    | nil => intro σ τ k h; cases h
    | cons x l ihl =>
      intro σ τ k h
      have h' : ((rdb n x σ).bind fun _ _ => rdL (rdb n) σ l) = .ex k τ := h
      cases hv : rdb n x σ with
      | ok b σ' => rw [hv, bind_ok] at h'; exact ihl h'
      | ex k' σ' => exact ih hv
      | bad => rw [hv] at h'; cases h'
  induction n with
  | zero => intro a σ τ k h; cases h
  | succ n ih =>
    intro a σ τ k h
    cases a with
    | tup l => exact hL n ih (show rdL (rdb n) σ l = .ex k τ from h)
    | ref i =>
      have h' : getO σ i (fun o => onList o fun l => rdL (rdb n) σ l) = .ex k τ := h
      rw [getO_eq] at h'
      cases e : sget σ i with
      | none => rw [e] at h'; cases h'
      | some o =>
        rw [e] at h'
        cases o with
        | cell c => cases h'
        | list l => exact hL n ih h'
    | _ => cases h
theorem eqv8_noEx {a b : AV} {σ τ : Store} {k : Nat} : eqv8 a b σ ≠ .ex k τ := by
  intro h
  have h' : ((rdb 8 a σ).bind fun _ _ => (rdb 8 b σ).bind fun _ _ => veq 8 a b σ) = .ex k τ := h
  cases h1 : rdb 8 a σ with
  | ex k' σ' => exact rd_noEx h1
  | bad => rw [h1] at h'; cases h'
  | ok u σ' =>
    rw [h1, bind_ok] at h'
    cases h2 : rdb 8 b σ with
    | ex k' σ' => exact rd_noEx h2
    | bad => rw [h2] at h'; cases h'
    | ok u σ' => rw [h2, bind_ok] at h'; exact veq_noEx 8 h'
theorem op_eq : Op2 D (compareOp .Eq) (fun u v σ => (eqv8 u v σ).bind fun b σ => .ok (.boo b) σ) := by
  intro A fr p v u a b Q E k hr hf S x y hp
  dsimp only at hp
  have hu : A.units + 64 < cLine := by have := hr.units; show _ < 9900; omega
  cases h : eqv8 a b p.σ with
  | ok r τ =>
    obtain ⟨rfl, da, db, as, bs, ra, rb, la, lb, e⟩ := eqv8_of S x y h
    rw [h, bind_ok] at hp
    exact eq_dataH (s := sh D.s₀ p) ra rb la lb hu (by rw [← e]; exact hp.here S (.boo _))
  | ex k τ => exact absurd h eqv8_noEx
  | bad => rw [h] at hp; exact hp.elim
theorem op_ne : Op2 D (compareOp .NotEq) (fun u v σ => (eqv8 u v σ).bind fun b σ => .ok (.boo (ifB b false true)) σ) := by
  intro A fr p v u a b Q E k hr hf S x y hp
  dsimp only at hp
  have hu : A.units + 64 < cLine := by have := hr.units; show _ < 9900; omega
  cases h : eqv8 a b p.σ with
  | ok r τ =>
    obtain ⟨rfl, da, db, as, bs, ra, rb, la, lb, e⟩ := eqv8_of S x y h
    rw [h, bind_ok] at hp
    have e' : ifB r false true = !r := by cases r <;> rfl
    rw [e'] at hp
    exact ne_dataH (s := sh D.s₀ p) ra rb la lb hu (by rw [← e]; exact hp.here S (.boo _))
  | ex k τ => exact absurd h eqv8_noEx
  | bad => rw [h] at hp; exact hp.elim

theorem s_bin {l r : Expr} {op : Operator} {pos : Pos} {f : AV → AV → Store → R AV} {a b : DX} (ho : Op2 D (binaryOp op) f) (ha : SoundX D m Γ l a) (hb : SoundX D m Γ r b) : SoundX D m Γ (.BinOp l op r pos) (xTwo f a b) := by
  intro n c hC A fr env φ p Q E hr hf he S V hp
  refine wpAny_BinOp (ha hC hr hf he S V (Post.bind hp fun q u v S1 s1 x1 h1 => ?_))
  refine hb hC hr hf he S1 (V.on S s1) (Post.bind h1 fun q2 u2 v2 S2 s2 x2 h2 => ?_)
  exact ho hr hf S2 (x1.on S1 s2) x2 h2
theorem s_cmp {l r : Expr} {op : CmpOp} {pos : Pos} {f : AV → AV → Store → R AV} {a b : DX} (ho : Op2 D (compareOp op) f) (ha : SoundX D m Γ l a) (hb : SoundX D m Γ r b) (hm : behindInMarks op r = false := by with_unfolding_all rfl) : SoundX D m Γ (.Compare l [op] [r] pos) (xTwo f a b) := by
  intro n c hC A fr env φ p Q E hr hf he S V hp
  refine wpAny_Compare1 (ha hC hr hf he S V (Post.bind hp fun q u v S1 s1 x1 h1 => ?_)) hm
  refine hb hC hr hf he S1 (V.on S s1) (Post.bind h1 fun q2 u2 v2 S2 s2 x2 h2 => ?_)
  exact ho hr hf S2 (x1.on S1 s2) x2 h2
theorem s_una {x : Expr} {op : UnaryOp} {pos : Pos} {f : AV → Store → R AV} {a : DX} (ho : Op1 D (unaryOp op) f) (ha : SoundX D m Γ x a) : SoundX D m Γ (.UnaryOp op x pos) (xOne f a) := by
  intro n c hC A fr env φ p Q E hr hf he S V hp
  refine wpAny_UnaryOp (ha hC hr hf he S V (Post.bind hp fun q u v S1 s1 x1 h1 => ?_))
  exact ho hr hf S1 x1 h1
end
end Mine
end

section
open PySem PySem.W PyProof.Rows PySem.Calls PySem.Spec
namespace Mine
set_option autoImplicit false

section
variable {D : Wd} {m : Nat} {Γ : Names}

/-! lists -/
section
variable {B0 : Heap} {s₀ : Shared} {fr : List Env} {X : Addr → Prop} {EX : Pt → Prop} {p : Pt} {α β : Type} {Rel : Pt → α → β → Prop} {Q : β → Shared → Prop} {E : Value → Shared → Prop} {v : Value} {a : AV}
theorem onRef_ok {f : Nat → R α} (x : VR p.h p.ρ p.σ.n v a) (hp : Post B0 s₀ fr X EX p Rel (onRef a f) Q E) : ∃ k, k < p.σ.n ∧ v = .ref (p.ρ k) ∧ a = .ref k ∧ Post B0 s₀ fr X EX p Rel (f k) Q E := by
  cases x with
  | ref hk => exact ⟨_, hk, rfl, rfl, hp⟩
  | _ => exact hp.elim
theorem getL_ok {k : Nat} {f : List AV → R α} (S : St B0 fr p) (hp : Post B0 s₀ fr X EX p Rel (getL p.σ k f) Q E) : ∃ l vs, sget p.σ k = some (.list l) ∧ p.h.IsList (p.ρ k) vs ∧ VRs p.h p.ρ p.σ.n vs.toList l ∧ Post B0 s₀ fr X EX p Rel (f l) Q E := by
  unfold getL at hp
  rw [getO_eq] at hp
  cases e : sget p.σ k with
  | none => rw [e] at hp; exact hp.elim
  | some o =>
    rw [e] at hp
    cases o with
    | cell c => exact hp.elim
    | list l =>
      obtain ⟨vs, h1, h2⟩ := S.own k _ e
      exact ⟨l, vs, rfl, h1, h2, hp⟩
theorem ifB_ok {b : Bool} {r : R α} (hp : Post B0 s₀ fr X EX p Rel (ifB b r .bad) Q E) : b = true ∧ Post B0 s₀ fr X EX p Rel r Q E := by
  cases b with
  | true => exact ⟨rfl, hp⟩
  | false => exact hp.elim
theorem nth_ok {γ : Type} {l : List γ} {i : Nat} {f : γ → R α} (hp : Post B0 s₀ fr X EX p Rel (nth l i f) Q E) : ∃ x, l[i]? = some x ∧ Post B0 s₀ fr X EX p Rel (f x) Q E := by
  rw [nth_eq] at hp
  cases e : l[i]? with
  | none => rw [e] at hp; exact hp.elim
  | some x => rw [e] at hp; exact ⟨x, rfl, hp⟩
/-- a list that has just been made -/
theorem made_list {l : List AV} {vs : List Value} {o : Obj} {h' : Heap} {t : Nat} {w : Addr} {Q : Value → Shared → Prop} (S : St B0 fr p) (k : ∀ a o, p.h.get? a = some o → h'.get? a = some o) (hw : p.h.get? w = none) (ho : h'.get? w = some o) (hc : o.cls = .type "list") (hd : ∃ n, o.data = .seq vs.toArray n) (hdn : o.dict = none) (x : VRs p.h p.ρ p.σ.n vs l)
    (hp : Post B0 s₀ fr NoX NoE p RV (newO p.σ (.list l) fun k σ => .ok (.ref k) σ) Q E) : Q (.ref w) (sh s₀ { p with h := h', t := t }) := by
  rw [newO_eq] at hp
  have hu : upd p.ρ p.σ.n w p.σ.n = w := if_pos rfl
  have x' : VRs h' (upd p.ρ p.σ.n w) (p.σ.n + 1) vs l := x.ext (fun a o e _ => k a o e) (Nat.le_succ _) (fun j hj => if_neg (Nat.ne_of_lt hj))
  refine hp.ok (q := ⟨upd p.ρ p.σ.n w, snew p.σ (.list l), h', t⟩) (S.alloc k hw ⟨vs.toArray, ⟨o, ho, hc, hd⟩, x'⟩ fun _ _ => ⟨o, ho, hdn⟩) (Step.alloc k hw) ?_
  show VR _ _ _ (.ref w) _
  have : (Value.ref w) = .ref (upd p.ρ p.σ.n w p.σ.n) := by rw [hu]
  rw [this]
  exact .ref (Nat.lt_succ_self _)
end

theorem op_cat : Op2 D (binaryOp .Add) (fun u v σ => onRef u fun x => onRef v fun y => getL σ x fun l => getL σ y fun m => ifB (Nat.blt (List.length l + List.length m) 100000) (fL (l ++ m) fun l => newO σ (.list l) fun k σ => .ok (.ref k) σ) .bad) := by
  intro A fr p v u a b Q E k hr hf S x y hp
  obtain ⟨i, hi, rfl, rfl, hp⟩ := onRef_ok x hp
  obtain ⟨j, hj, rfl, rfl, hp⟩ := onRef_ok y hp
  obtain ⟨l, vs, _, hl, xl, hp⟩ := getL_ok S hp
  obtain ⟨l2, ws, _, hl2, yl, hp⟩ := getL_ok S hp
  obtain ⟨hb, hp⟩ := ifB_ok hp
  rw [fL_eq] at hp
  have hlen : l.length + l2.length < 100000 := Nat.le_of_ble_eq_true hb
  obtain ⟨⟨cls, dd, data, sl⟩, ho, hc, n, hd⟩ := id hl
  obtain ⟨⟨cls2, dd2, data2, sl2⟩, ho2, hc2, n2, hd2⟩ := id hl2
  simp only at hc hd hc2 hd2
  subst hc hd hc2 hd2
  have h1 := xl.length
  have h2 := yl.length
  rw [Array.length_toList] at h1 h2
  refine concat_meets ⟨_, ho, rfl⟩ ⟨_, ho2, rfl⟩ noFill_list_add seq_list_add PySem.F.slot_list_add PySem.F.entry_list_add (PySem.F.args_list_add_2 _ _) (list_addW (p.ρ i) (p.ρ j) vs ws n n2 dd dd2 sl sl2 (by rw [h1, h2]; exact Nat.le_of_lt (Nat.lt_of_lt_of_le hlen (by decide +kernel)))) ⟨ho, ho2, ?_⟩
  exact made_list (s₀ := D.s₀) (vs := vs.toList ++ ws.toList) (t := p.t) S (push_keep _ _) (size_none _) (push_at _ _) rfl ⟨0, by simp⟩ rfl (xl.append yl) hp
theorem flat1 {α : Type} (x : α) : ∀ n : Nat, (List.replicate n [x]).flatten = List.replicate n x
  | 0 => rfl
  | n + 1 => by rw [List.replicate_succ, List.flatten_cons, flat1 x n, List.replicate_succ]; rfl
theorem inRange_of {i : Int} (h : inRange i = true) : -1000000 < i ∧ i < 1000000 := by
  unfold inRange at h
  by_cases h1 : -1000000 < i
  · rw [decide_eq_true h1] at h
    exact ⟨h1, of_decide_eq_true h⟩
  · rw [decide_eq_false h1] at h
    cases h
theorem op_rep : Op2 D (binaryOp .Mult) (fun u v σ => onRef u fun x => onInt v fun y => getL σ x fun l => ifB (Nat.beq (List.length l) 1) (nth l 0 fun a => ifB (inRange y) (fL (List.replicate (Int.toNat y) a) fun l => newO σ (.list l) fun k σ => .ok (.ref k) σ) .bad) .bad) := by
  intro A fr p v w a b Q E k hr hf S x y hp
  obtain ⟨i, hi, rfl, rfl, hp⟩ := onRef_ok x hp
  obtain ⟨j, u, rfl, rfl, hp⟩ := onInt_ok y hp
  obtain ⟨l, vs, _, hl, xl, hp⟩ := getL_ok S hp
  obtain ⟨hb, hp⟩ := ifB_ok hp
  obtain ⟨e, he, hp⟩ := nth_ok hp
  obtain ⟨hb2, hp1⟩ := ifB_ok hp
  clear hp
  rw [fL_eq] at hp1
  have hlen := inRange_of hb2
  have h1 : l.length = 1 := Nat.eq_of_beq_eq_true hb
  obtain ⟨e', rfl⟩ : ∃ e', l = [e'] := by
    cases l with
    | nil => cases h1
    | cons e' r => cases r with
      | nil => exact ⟨e', rfl⟩
      | cons _ _ => cases h1
  cases he
  obtain ⟨vs⟩ := vs
  cases xl with
  | cons xe r =>
  cases r with
  | nil =>
  rename_i ve
  obtain ⟨⟨cls, d, data, sl⟩, ho, hcl, k, hd⟩ := id hl
  simp only at hcl hd
  subst hcl hd
  have hsz' : ([ve].toArray).size * j.toNat ≤ 2 ^ 24 := by simp; omega
  have h2 : j < 2 ^ 63 := by omega
  refine wpAny_binaryOp_repeat_ref (T := "list") (U := "int") (by decide) ⟨_, ho, rfl⟩ (fun s' => typeIs_int s' j u) noFill_list_mul F.fills_int_mul F.slot_int_rmul repeat_list F.slot_int_index.lookup
    (call_meets F.slot_int_rmul (typeIs_int (sh D.s₀ p) j u) F.entry_int_rmul (F.args_int_rmul_2 _ _) (lm_int_rmul_list_any j u (p.ρ i) [ve].toArray k d sl)
      ⟨ho, rfl, ⟨_, ho, rfl⟩, call_meets F.slot_list_mul ⟨_, ho, rfl⟩ F.entry_list_mul (F.args_list_mul_2 _ _)
        (lm_list_mul_any (p.ρ i) [ve].toArray k d sl j u (by simp [Builtin.List.listFitsIndex]; omega) (by omega) (by simp [Builtin.List.listTooLong, sizeLine]; omega))
        ⟨ho, ?_⟩⟩)
  exact made_list (s₀ := D.s₀) (vs := List.replicate j.toNat ve) (t := p.t) S (push_keep _ _) (size_none _) (push_at _ _) rfl ⟨0, by rw [listMul_foldl_if, flat1]⟩ rfl (VRs.replicate xe _) hp1
end
end Mine
end

section
open PySem PySem.W PyProof.Rows PySem.Calls PySem.Spec
namespace Mine
set_option autoImplicit false

section
variable {D : Wd} {m : Nat} {Γ : Names}

/-! subscripts -/
theorem sub_tail {A : Around} {s : Shared} {value slice : Expr} {o i : Value} {T id : String} {ops : List Value} {Q : Value → Shared → Prop} {E : Value → Shared → Prop} (hT : s.TypeIs o T)
    (hl : typeLookup (.type T) "__getitem__" = pure (some (.builtin id))) (h : wpAny (model D.prog D.w) A (getItem o i) Q E s)
    (hs : subscripted slice false o i = operate ops (getItem o i)) : wpAny (model D.prog D.w) A (subscriptTail value slice o i) Q E s := by
  unfold subscriptTail
  refine wpAny_bind ?_
  rw [getitemInPython_of_ne hT.not_modules]
  refine wpAny_bind (wpAny_specialOf hT hl ?_)
  have fin : wpAny (model D.prog D.w) A (subscripted slice false o i) (fun r s₃ => wpAny (model D.prog D.w) A (letTemporaryGo value o r >>= fun _ => pure r) Q E s₃) E s := by
    rw [hs]
    exact wpAny_operating (wpAny_mono h (fun r s₃ h₃ => wpAny_bind (wpAny_letTemporaryGo (wpAny_pure h₃))) fun _ _ x => x)
  first
    | exact wpAny_pure (wpAny_bind fin)
    | exact wpAny_bind (wpAny_pure (wpAny_bind fin))
    | exact wpAny_bind fin
section
variable {B0 : Heap} {s₀ : Shared} {fr : List Env} {X : Addr → Prop} {EX : Pt → Prop} {p : Pt} {α β : Type} {Rel : Pt → α → β → Prop} {Q : β → Shared → Prop} {E : Value → Shared → Prop}
theorem atI_ok {l : List AV} {i : Int} {f : AV → R α} (hp : Post B0 s₀ fr X EX p Rel (atI l i f) Q E) : -(2 ^ 63) ≤ i ∧ i < 2 ^ 63 ∧ ∃ j x, seqIndex? i l.length = some j ∧ l[j]? = some x ∧ Post B0 s₀ fr X EX p Rel (f x) Q E := by
  cases i with
  | ofNat n =>
    obtain ⟨hb, hp⟩ := ifB_ok (show Post B0 s₀ fr X EX p Rel (ifB (Nat.blt n 100000) (nth l n f) .bad) Q E from hp)
    obtain ⟨x, hx, hp⟩ := nth_ok hp
    have hn : n < 100000 := Nat.le_of_ble_eq_true hb
    have hl : n < l.length := by
      rw [List.getElem?_eq_some_iff] at hx
      exact hx.1
    refine ⟨by show _ ≤ (n : Int); omega, by show (n : Int) < _; omega, n, x, ?_, hx, hp⟩
    show seqIndex? (n : Int) l.length = some n
    unfold seqIndex?
    have h0 : ¬ ((n : Int) < 0) := by omega
    simp only [h0, if_false]
    have : ((n : Int) < (l.length : Int)) := by omega
    simp [this]
  | negSucc n =>
    obtain ⟨hb, hp⟩ := ifB_ok (show Post B0 s₀ fr X EX p Rel (ifB (Nat.blt n (List.length l)) (ifB (Nat.blt n 100000) (nth l (List.length l - 1 - n) f) .bad) .bad) Q E from hp)
    obtain ⟨hb2, hp⟩ := ifB_ok hp
    obtain ⟨x, hx, hp⟩ := nth_ok hp
    have hn : n < l.length := Nat.le_of_ble_eq_true hb
    have hn2 : n < 100000 := Nat.le_of_ble_eq_true hb2
    refine ⟨by omega, by omega, l.length - 1 - n, x, ?_, hx, hp⟩
    unfold seqIndex?
    have h0 : (Int.negSucc n < 0) := by omega
    simp only [h0, if_true]
    have e : Int.negSucc n + (l.length : Int) = ((l.length - 1 - n : Nat) : Int) := by omega
    rw [e]
    have h1 : (((l.length - 1 - n : Nat) : Int) < (l.length : Int)) := by omega
    simp [h1]
    try omega
end
theorem getItem_list_any {A : Around} {s : Shared} {l : Addr} {items : Array Value} {k : Int} {t : Tok} {j : Nat} {x : Value} {Q : Value → Shared → Prop} {E : Value → Shared → Prop} (hl : s.heap.IsList l items)
    (hlo : -(2 ^ 63) ≤ k) (hhi : k < 2 ^ 63) (hj : seqIndex? k items.size = some j) (hx : items[j]? = some x) (h : Q x s) : wpAny (model D.prog D.w) A (getItem (.ref l) (.int k t)) Q E s := by
  unfold seqIndex? at hj
  by_cases h0 : k < 0
  · simp only [h0, if_true] at hj
    split at hj
    · rename_i hc
      have hc' : (0 ≤ k + items.size) ∧ (k + items.size < items.size) := by simpa using hc
      refine wpAny_getItem_list_neg hl h0 (by omega) hlo ?_ h
      cases hj; exact hx
    · cases hj
  · simp only [h0, if_false] at hj
    split at hj
    · refine wpAny_getItem_list hl (by omega) hhi ?_ h
      cases hj; exact hx
    · cases hj
noncomputable abbrev fIdx : AV → AV → Store → R AV := fun u v σ => onInt v fun i => onSeq u (fun l => atI l i fun v => .ok v σ) (fun k => getL σ k fun l => atI l i fun v => .ok v σ) fun _ _ => .bad
theorem op_idx {value slice : Expr} (hs : ∀ o i, subscripted slice false o i = operate [o, i] (getItem o i)) : Op2 D (subscriptTail value slice) fIdx := by
  intro A fr p v u a b Q E k hr hf S x y hp
  obtain ⟨i, t, rfl, rfl, hp⟩ := onInt_ok y hp
  cases x with
  | tup ht r =>
    rename_i w vs l _
    obtain ⟨h1, h2, j, z, hj, hz, hp⟩ := atI_ok (show Post D.B0 D.s₀ fr NoX NoE p RV (atI l i fun v => .ok v p.σ) Q E from hp)
    obtain ⟨y, hy, ry⟩ := r.get hz
    have e : l.length = vs.size := by rw [← r.length, Array.length_toList]
    refine sub_tail (s := sh D.s₀ p) (IsTup.typeIs ht) slot_tuple_getitem.lookup (PyProof.Rows.getItem_tuple (s := sh D.s₀ p) ht h1 h2 (e ▸ hj) (by simpa using hy) (hp.here S ry)) (hs ..)
  | ref hk =>
    rename_i w _
    obtain ⟨l, vs, _, hl, xl, hp⟩ := getL_ok S (show Post D.B0 D.s₀ fr NoX NoE p RV (getL p.σ w fun l => atI l i fun v => .ok v p.σ) Q E from hp)
    obtain ⟨h1, h2, j, z, hj, hz, hp⟩ := atI_ok hp
    obtain ⟨y, hy, ry⟩ := xl.get hz
    have e : l.length = vs.size := by rw [← xl.length, Array.length_toList]
    refine sub_tail (s := sh D.s₀ p) (Heap.IsList.typeIs (s := sh D.s₀ p) hl) list_getitem_lookup (getItem_list_any (s := sh D.s₀ p) hl h1 h2 (e ▸ hj) (by simpa using hy) (hp.here S ry)) (hs ..)
  | _ => exact hp.elim
theorem s_idx {value slice : Expr} {pos : Pos} {a b : DX} (ha : SoundX D m Γ value a) (hb : SoundX D m Γ slice b) (hs : ∀ o i, subscripted slice false o i = operate [o, i] (getItem o i) := by intro _ _; with_unfolding_all rfl) : SoundX D m Γ (.Subscript value slice pos) (xTwo fIdx a b) := by
  intro n c hC A fr env φ p Q E hr hf he S V hp
  refine Subscript_ (ha hC hr hf he S V (Post.bind hp fun q u v S1 s1 x1 h1 => ?_))
  refine hb hC hr hf he S1 (V.on S s1) (Post.bind h1 fun q2 u2 v2 S2 s2 x2 h2 => ?_)
  exact op_idx hs hr hf S2 (x1.on S1 s2) x2 h2

/-! slices -/
theorem take_like {A : Around} {fr : List Env} {p : Pt} {value slice : Expr} {i : Nat} {l' : List AV} {vs : Array Value} {vl vu vst : Value} {lo hi st : Option Int} {Q : Value → Shared → Prop} {E : Value → Shared → Prop} {ops : List Value}
    (S : St D.B0 fr p) (hl : p.h.IsList (p.ρ i) vs) (hz : vs.size ≤ sizeLine) (pl : IsPart vl lo) (pu : IsPart vu hi) (ps : IsPart vst st) (h0 : st ≠ some 0) (hpick : VRs p.h p.ρ p.σ.n (slicePick vs lo hi st).toList l')
    (hs : subscripted slice false (.ref (p.ρ i)) (.ref p.h.objs.size) = operate ops (getItem (.ref (p.ρ i)) (.ref p.h.objs.size)))
    (hp : Post D.B0 D.s₀ fr NoX NoE p RV (newO p.σ (.list l') fun k σ => .ok (.ref k) σ) Q E) :
    wpAny (model D.prog D.w) A (subscriptTail value slice (.ref (p.ρ i)) (.ref p.h.objs.size)) Q E (sh D.s₀ { p with h := p.h.push { cls := .type "slice", data := .fields #[vl, vu, vst] } }) := by
  have hl' : (p.h.push { cls := .type "slice", data := .fields #[vl, vu, vst] }).IsList (p.ρ i) vs := hl.push _
  refine sub_tail (s := sh D.s₀ { p with h := p.h.push { cls := .type "slice", data := .fields #[vl, vu, vst] } }) (Heap.IsList.typeIs (s := sh D.s₀ { p with h := p.h.push { cls := .type "slice", data := .fields #[vl, vu, vst] } }) hl') list_getitem_lookup ?_ hs
  refine wpAny_getItem_list_slice hl' (Heap.IsSliceOf.new ..) pl pu ps h0 ?_ hz
  have k1 := push_keep p.h { cls := .type "slice", data := .fields #[vl, vu, vst] }
  have hk := push_keep (p.h.push { cls := .type "slice", data := .fields #[vl, vu, vst] }) { cls := .type "list", data := .seq (slicePick vs lo hi st) }
  refine made_list (s₀ := D.s₀) (vs := (slicePick vs lo hi st).toList) (t := p.t) S (fun a o e => hk a o (k1 a o e)) ?_ (push_at _ _) rfl ⟨0, by simp⟩ rfl hpick hp
  cases e : p.h.get? (p.h.push { cls := .type "slice", data := .fields #[vl, vu, vst] }).objs.size with
  | none => rfl
  | some o =>
    have := Heap.lt_size (k1 _ _ e)
    exact absurd this (Nat.lt_irrefl _)
noncomputable abbrev fTake : AV → AV → Store → R AV := fun u v σ => onRef u fun k => onInt v fun i => getL σ k fun l => Int.rec (motive := fun _ => R AV) (fun n => ifB (Nat.blt (List.length l) 100000) (fL (List.take n l) fun l => newO σ (.list l) fun k σ => .ok (.ref k) σ) .bad) (fun _ => .bad) i
noncomputable abbrev fDrop : AV → AV → Store → R AV := fun u v σ => onRef u fun k => onInt v fun i => getL σ k fun l => Int.rec (motive := fun _ => R AV) (fun n => ifB (Nat.blt (List.length l) 100000) (fL (List.drop n l) fun l => newO σ (.list l) fun k σ => .ok (.ref k) σ) .bad) (fun _ => .bad) i
noncomputable abbrev fRev : AV → Store → R AV := fun u σ => onRef u fun k => getL σ k fun l => ifB (Nat.blt (List.length l) 100000) (fL (List.reverse l) fun l => newO σ (.list l) fun k σ => .ok (.ref k) σ) .bad
theorem s_take {value up : Expr} {p₀ pos : Pos} {a b : DX} (ha : SoundX D m Γ value a) (hb : SoundX D m Γ up b) : SoundX D m Γ (.Subscript value (.Slice none (some up) none p₀) pos) (xTwo fTake a b) := by
  intro n c hC A fr env φ p Q E hr hf he S V hp
  refine Subscript_ (ha hC hr hf he S V (Post.bind hp fun q u v S1 s1 x1 h1 => ?_))
  refine wpAny_Slice (wpAny_pure ?_)
  show wpAny _ _ (eval up env) _ _ _
  refine hb hC hr hf he S1 (V.on S s1) (Post.bind h1 fun q2 u2 v2 S2 s2 x2 h2 => wpAny_pure ?_)
  obtain ⟨i, hi, rfl, rfl, h3⟩ := onRef_ok (x1.on S1 s2) h2
  obtain ⟨j, t, rfl, rfl, h4⟩ := onInt_ok x2 h3
  obtain ⟨l, vs, _, hl, xl, h5⟩ := getL_ok S2 h4
  cases j with
  | negSucc j => exact h5.elim
  | ofNat j =>
    obtain ⟨hb, h6⟩ := ifB_ok (show Post D.B0 D.s₀ fr NoX NoE q2 RV (ifB (Nat.blt (List.length l) 100000) (fL (List.take j l) fun l => newO q2.σ (.list l) fun k σ => .ok (.ref k) σ) .bad) Q E from h5)
    rw [fL_eq] at h6
    have hz : vs.size ≤ sizeLine := by
      have : l.length < 100000 := Nat.le_of_ble_eq_true hb
      rw [← Array.length_toList, xl.length]
      exact Nat.le_of_lt (Nat.lt_of_lt_of_le this (by decide +kernel))
    refine take_like S2 hl hz .none (.int j t) .none (by simp) ?_ (by with_unfolding_all rfl) h6
    rw [slicePick_upto']
    exact xl.take j
theorem s_drop {value lo : Expr} {p₀ pos : Pos} {a b : DX} (ha : SoundX D m Γ value a) (hb : SoundX D m Γ lo b) : SoundX D m Γ (.Subscript value (.Slice (some lo) none none p₀) pos) (xTwo fDrop a b) := by
  intro n c hC A fr env φ p Q E hr hf he S V hp
  refine Subscript_ (ha hC hr hf he S V (Post.bind hp fun q u v S1 s1 x1 h1 => ?_))
  refine wpAny_Slice ?_
  show wpAny _ _ (eval lo env) _ _ _
  refine hb hC hr hf he S1 (V.on S s1) (Post.bind h1 fun q2 u2 v2 S2 s2 x2 h2 => wpAny_pure (wpAny_pure ?_))
  obtain ⟨i, hi, rfl, rfl, h3⟩ := onRef_ok (x1.on S1 s2) h2
  obtain ⟨j, t, rfl, rfl, h4⟩ := onInt_ok x2 h3
  obtain ⟨l, vs, _, hl, xl, h5⟩ := getL_ok S2 h4
  cases j with
  | negSucc j => exact h5.elim
  | ofNat j =>
    obtain ⟨hb, h6⟩ := ifB_ok (show Post D.B0 D.s₀ fr NoX NoE q2 RV (ifB (Nat.blt (List.length l) 100000) (fL (List.drop j l) fun l => newO q2.σ (.list l) fun k σ => .ok (.ref k) σ) .bad) Q E from h5)
    rw [fL_eq] at h6
    have hz : vs.size ≤ sizeLine := by
      have : l.length < 100000 := Nat.le_of_ble_eq_true hb
      rw [← Array.length_toList, xl.length]
      exact Nat.le_of_lt (Nat.lt_of_lt_of_le this (by decide +kernel))
    refine take_like S2 hl hz (.int j t) .none .none (by simp) ?_ (by with_unfolding_all rfl) h6
    rw [slicePick_from']
    exact xl.drop j
theorem range_rev {α : Type} (l : List α) : ((List.range l.length).map fun k => l.length - 1 - k).filterMap (l[·]?) = l.reverse := by
  apply List.ext_getElem?
  intro i
  rw [List.filterMap_map]
  have : ∀ n, n ≤ l.length → (List.range n).filterMap ((l[·]?) ∘ fun k => l.length - 1 - k) = (l.reverse).take n := by
    intro n
    induction n with
    | zero => intro _; simp
    | succ n ih =>
      intro hn
      rw [List.range_succ, List.filterMap_append, ih (by omega)]
      have h1 : l[l.length - 1 - n]? = some l[l.length - 1 - n] := List.getElem?_eq_getElem (by omega)
      have h2 : l.reverse[n]? = some l[l.length - 1 - n] := by
        rw [List.getElem?_reverse (by omega)]; exact h1
      rw [List.take_add_one, h2]
      simp [h1]
  rw [this l.length (Nat.le_refl _), List.take_of_length_le (by simp)]
theorem slicePick_rev (vs : Array Value) : slicePick vs none none (some (-1)) = vs.toList.reverse.toArray := by
  unfold slicePick
  congr 1
  have hb : sliceBounds none none (some (-1)) vs.size = ((vs.size : Int) - 1, -1, -1) := by
    simp [sliceBounds]
  rw [hb]
  rw [← range_rev]
  have : sliceRange ((vs.size : Int) - 1) (-1) (-1) = (List.range vs.toList.length).map fun k => vs.toList.length - 1 - k := by
    unfold sliceRange
    have hc : ((if ((vs.size : Int) - 1) > -1 then (((vs.size : Int) - 1) - -1 - -1 - 1) / - -1 else 0 : Int)).toNat = vs.toList.length := by
      rw [Array.length_toList]
      have e : (((vs.size : Int) - 1) - -1 - -1 - 1) / - -1 = vs.size := by
        rw [show (- -1 : Int) = 1 from rfl, Int.ediv_one]; omega
      rw [e]
      split <;> omega
    simp only [show ¬ ((-1 : Int) > 0) by decide, if_false, hc]
    refine List.map_congr_left fun k hk => ?_
    have := List.mem_range.mp hk
    rw [Array.length_toList] at this ⊢
    omega
  rw [this]
  simp
theorem s_rev {value : Expr} {p₀ p₁ p₂ pos : Pos} {k : Nat} {a : DX} (ha : SoundX D m Γ value a) : SoundX D m Γ (.Subscript value (.Slice none none (some (.UnaryOp .USub (.Constant (.int 1) k p₁) p₂)) p₀) pos) (xOne fRev a) := by
  intro n c hC A fr env φ p Q E hr hf he S V hp
  refine Subscript_ (ha hC hr hf he S V (Post.bind hp fun q u v S1 s1 x1 h1 => ?_))
  refine wpAny_Slice (wpAny_pure (wpAny_pure ?_))
  show wpAny _ _ (eval (.UnaryOp .USub (.Constant (.int 1) k p₁) p₂) env) _ _ _
  refine wpAny_UnaryOp (wpAny_Constant_int (PyProof.Rows.neg_int ?_))
  obtain ⟨i, hi, rfl, rfl, h3⟩ := onRef_ok x1 h1
  obtain ⟨l, vs, _, hl, xl, h5⟩ := getL_ok S1 h3
  obtain ⟨hb, h6⟩ := ifB_ok h5
  rw [fL_eq] at h6
  have hz : vs.size ≤ sizeLine := by
    have : l.length < 100000 := Nat.le_of_ble_eq_true hb
    rw [← Array.length_toList, xl.length]
    exact Nat.le_of_lt (Nat.lt_of_lt_of_le this (by decide +kernel))
  have hk : ∀ a o, q.h.get? a = some o → q.h.get? a = some o := fun _ _ e => e
  refine take_like (p := { q with t := q.t + 2 }) (S1.push (t := q.t + 2) hk) hl hz .none .none (.int (-1) (q.t + 1)) (by decide) ?_ (by with_unfolding_all rfl) (h6.step (Step.push (t := q.t + 2) hk))
  rw [slicePick_rev]
  exact xl.reverse
end
end Mine
end

section
open PySem PySem.W PyProof.Rows PySem.Calls PySem.Spec
namespace Mine
set_option autoImplicit false

section
variable {D : Wd} {m : Nat} {Γ : Names}

/-! truth -/
section
variable {B0 : Heap} {s₀ : Shared} {fr : List Env} {p : Pt} {E : Value → Shared → Prop}
theorem Post.truth {D : Wd} {A : Around} {r : R AV} {Q : Bool → Shared → Prop} (hp : Post B0 s₀ fr NoX NoE p RB (r.bind fun u σ => onBoo u fun b => .ok b σ) Q E) : Post B0 s₀ fr NoX NoE p RV r (fun v s' => wpAny (model D.prog D.w) A (truthy v) Q E s') E := by
  cases r with
  | ok a σ =>
    intro q v e S s x
    rw [bind_ok] at hp
    cases x with
    | boo b => exact wpAny_truthy_bool (hp q b e S s rfl)
    | _ => exact hp.elim
  | ex k σ => exact hp
  | bad => exact hp
theorem Post.split {α β : Type} {Rel : Pt → α → β → Prop} {r : R AV} {f : Bool → Store → R α} {Q2 : β → Shared → Prop} {Q : Bool → Shared → Prop}
    (hp : Post B0 s₀ fr NoX NoE p Rel (r.bind fun u σ => onBoo u fun b => f b σ) Q2 E)
    (k : ∀ q b, St B0 fr q → Step NoX fr p q → Post B0 s₀ fr NoX NoE q Rel (f b q.σ) Q2 E → Q b (sh s₀ q)) : Post B0 s₀ fr NoX NoE p RB (r.bind fun u σ => onBoo u fun b => .ok b σ) Q E := by
  have e : (r.bind fun u σ => onBoo u fun b => f b σ) = (r.bind fun u σ => onBoo u fun b => .ok b σ).bind fun b σ => f b σ := by
    cases r with
    | ok a σ =>
      rw [bind_ok, bind_ok]
      cases a with
      | boo b => exact (bind_ok b σ fun b σ => f b σ).symm
      | _ => rfl
    | ex k σ => rfl
    | bad => rfl
  rw [e] at hp
  exact Post.bind hp fun q a b S s x h => by cases x; exact k q a S s h
end

theorem t_of {e : Expr} {d : DX} (hd : SoundX D m Γ e d) (he : ∀ env whole, isTrue e env whole = (do let v ← whole; standAt e.pos; holding [v] (truthy v)) := by intro _ _; rfl) : SoundT D m Γ e d := by
  intro n c hC A fr env φ p Q E hr hf h S V hp
  exact isTrue_plain (hd hC hr hf h S V (Post.truth hp)) (he _ _)
theorem t_cmp {l r : Expr} {op : CmpOp} {pos : Pos} {f : AV → AV → Store → R AV} {a b : DX} (ho : Op2 D (compareOp op) f) (ha : SoundX D m Γ l a) (hb : SoundX D m Γ r b) (hm : behindInMarks op r = false := by with_unfolding_all rfl) : SoundT D m Γ (.Compare l [op] [r] pos) (xTwo f a b) := by
  intro n c hC A fr env φ p Q E hr hf he S V hp
  have hp := Post.truth (D := D) (A := A) hp
  refine wpAny_isTrue_Compare1 (ha hC hr hf he S V (Post.bind hp fun q u v S1 s1 x1 h1 => ?_)) hm
  refine hb hC hr hf he S1 (V.on S s1) (Post.bind h1 fun q2 u2 v2 S2 s2 x2 h2 => ?_)
  exact ho hr hf S2 (x1.on S1 s2) x2 h2
theorem t_not {x : Expr} {a : DX} {pos : Pos} (ha : SoundT D m Γ x a) : SoundT D m Γ (.UnaryOp .Not x pos) (xNot a) := by
  intro n c hC A fr env φ p Q E hr hf he S V hp
  refine isTrue_not (ha hC hr hf he S V (Post.split (f := fun b σ => .ok (ifB b false true) σ) (Q2 := Q) (Rel := RB) ?_ fun q b S1 s1 h => ?_))
  · have : ((xNot a c φ p.σ).bind fun u σ => onBoo u fun b => .ok b σ) = ((a c φ p.σ).bind fun u σ => onBoo u fun b => .ok (ifB b false true) σ) := by
      show (((a c φ p.σ).bind fun u σ => onBoo u fun x => .ok (.boo (ifB x false true)) σ).bind fun u σ => onBoo u fun b => .ok b σ) = _
      cases a c φ p.σ with
      | ok u σ => rw [bind_ok, bind_ok]; cases u <;> rfl
      | ex k σ => rfl
      | bad => rfl
    rw [← this]; exact hp
  · have e : ifB b false true = !b := by cases b <;> rfl
    rw [e] at h
    exact h.here S1 rfl
theorem t_one {op : BoolOp} {x : Expr} {a : DX} {pos : Pos} (ha : SoundT D m Γ x a) : SoundT D m Γ (.BoolOp op [x] pos) a := by
  intro n c hC A fr env φ p Q E hr hf he S V hp
  cases op with
  | And => exact isTrue_and (wpAny_mono (ha hC hr hf he S V hp) (fun b s h => by
      cases b
      · exact h
      · exact isTrue_and_nil h) fun _ _ e => e)
  | Or => exact isTrue_or (wpAny_mono (ha hC hr hf he S V hp) (fun b s h => by
      cases b
      · exact isTrue_or_nil h
      · exact h) fun _ _ e => e)
theorem t_and {x : Expr} {r : List Expr} {a b : DX} {pos : Pos} (ha : SoundT D m Γ x a) (hb : SoundT D m Γ (.BoolOp .And r pos) b) : SoundT D m Γ (.BoolOp .And (x :: r) pos) (xAnd a b) := by
  intro n c hC A fr env φ p Q E hr hf he S V hp
  refine isTrue_and (ha hC hr hf he S V (Post.split (f := fun x σ => ifB x ((b c φ σ).bind fun u σ => onBoo u fun b => .ok b σ) (.ok false σ)) (Q2 := Q) (Rel := RB) ?_ fun q y S1 s1 h => ?_))
  · have : ((xAnd a b c φ p.σ).bind fun u σ => onBoo u fun b => .ok b σ) = ((a c φ p.σ).bind fun u σ => onBoo u fun x => ifB x ((b c φ σ).bind fun u σ => onBoo u fun b => .ok b σ) (.ok false σ)) := by
      show (((a c φ p.σ).bind fun u σ => onBoo u fun x => ifB x (b c φ σ) (.ok (.boo false) σ)).bind fun u σ => onBoo u fun b => .ok b σ) = _
      cases a c φ p.σ with
      | ok u σ =>
        rw [bind_ok, bind_ok]
        cases u with
        | boo x => cases x <;> rfl
        | _ => rfl
      | ex k σ => rfl
      | bad => rfl
    rw [← this]; exact hp
  · cases y with
    | false => exact Post.here (a := false) (Rel := RB) h S1 rfl
    | true => exact hb hC hr hf he S1 (V.on S s1) h
theorem t_or {x : Expr} {r : List Expr} {a b : DX} {pos : Pos} (ha : SoundT D m Γ x a) (hb : SoundT D m Γ (.BoolOp .Or r pos) b) : SoundT D m Γ (.BoolOp .Or (x :: r) pos) (xOr a b) := by
  intro n c hC A fr env φ p Q E hr hf he S V hp
  refine isTrue_or (ha hC hr hf he S V (Post.split (f := fun x σ => ifB x (.ok true σ) ((b c φ σ).bind fun u σ => onBoo u fun b => .ok b σ)) (Q2 := Q) (Rel := RB) ?_ fun q y S1 s1 h => ?_))
  · have : ((xOr a b c φ p.σ).bind fun u σ => onBoo u fun b => .ok b σ) = ((a c φ p.σ).bind fun u σ => onBoo u fun x => ifB x (.ok true σ) ((b c φ σ).bind fun u σ => onBoo u fun b => .ok b σ)) := by
      show (((a c φ p.σ).bind fun u σ => onBoo u fun x => ifB x (.ok (.boo true) σ) (b c φ σ)).bind fun u σ => onBoo u fun b => .ok b σ) = _
      cases a c φ p.σ with
      | ok u σ =>
        rw [bind_ok, bind_ok]
        cases u with
        | boo x => cases x <;> rfl
        | _ => rfl
      | ex k σ => rfl
      | bad => rfl
    rw [← this]; exact hp
  · cases y with
    | true => exact Post.here (a := true) (Rel := RB) h S1 rfl
    | false => exact hb hC hr hf he S1 (V.on S s1) h

theorem s_not {x : Expr} {a : DX} {pos : Pos} (ha : SoundX D m Γ x a) : SoundX D m Γ (.UnaryOp .Not x pos) (xNot a) := by
  intro n c hC A fr env φ p Q E hr hf he S V hp
  refine wpAny_UnaryOp (ha hC hr hf he S V (Post.bind hp fun q u v S1 s1 x1 h1 => not_of ?_))
  cases x1 with
  | boo b =>
    refine wpAny_truthy_bool ?_
    have e : ifB b false true = !b := by cases b <;> rfl
    exact (e ▸ h1 : Post D.B0 D.s₀ fr NoX NoE q RV (.ok (.boo (!b)) q.σ) Q E).here S1 (.boo _)
  | _ => exact h1.elim
theorem s_one {op : BoolOp} {x : Expr} {a : DX} {pos : Pos} (ha : SoundX D m Γ x a) : SoundX D m Γ (.BoolOp op [x] pos) a := by
  intro n c hC A fr env φ p Q E hr hf he S V hp
  exact BoolOp_one (ha hC hr hf he S V hp)
theorem s_and {x y : Expr} {r : List Expr} {a b : DX} {pos : Pos} (ha : SoundX D m Γ x a) (hb : SoundX D m Γ (.BoolOp .And (y :: r) pos) b) : SoundX D m Γ (.BoolOp .And (x :: y :: r) pos) (xAnd a b) := by
  intro n c hC A fr env φ p Q E hr hf he S V hp
  refine BoolOp_and (ha hC hr hf he S V (Post.bind hp fun q u v S1 s1 x1 h1 => ?_))
  cases x1 with
  | boo t =>
    refine wpAny_truthy_bool ?_
    cases t with
    | true => exact hb hC hr hf he S1 (V.on S s1) h1
    | false => exact Post.here (a := AV.boo false) (Rel := RV) h1 S1 (.boo _)
  | _ => exact h1.elim
theorem s_or {x y : Expr} {r : List Expr} {a b : DX} {pos : Pos} (ha : SoundX D m Γ x a) (hb : SoundX D m Γ (.BoolOp .Or (y :: r) pos) b) : SoundX D m Γ (.BoolOp .Or (x :: y :: r) pos) (xOr a b) := by
  intro n c hC A fr env φ p Q E hr hf he S V hp
  refine BoolOp_or (ha hC hr hf he S V (Post.bind hp fun q u v S1 s1 x1 h1 => ?_))
  cases x1 with
  | boo t =>
    refine wpAny_truthy_bool ?_
    cases t with
    | true => exact Post.here (a := AV.boo true) (Rel := RV) h1 S1 (.boo _)
    | false => exact hb hC hr hf he S1 (V.on S s1) h1
  | _ => exact h1.elim
theorem s_ite {t x y : Expr} {d a b : DX} {pos : Pos} (ht : SoundT D m Γ t d) (ha : SoundX D m Γ x a) (hb : SoundX D m Γ y b) : SoundX D m Γ (.IfExp t x y pos) (xIte d a b) := by
  intro n c hC A fr env φ p Q E hr hf he S V hp
  refine IfExp_ (ht hC hr hf he S V (Post.split (f := fun x σ => ifB x (a c φ σ) (b c φ σ)) (Q2 := Q) (Rel := RV) hp fun q y S1 s1 h => ?_))
  cases y with
  | true => exact ha hC hr hf he S1 (V.on S s1) h
  | false => exact hb hC hr hf he S1 (V.on S s1) h

/-! is None, in -/
theorem none_ne {v : Value} (h : v ≠ .none) : (v == Value.none) = false := by simpa using h
theorem s_isNon {x : Expr} {k : Nat} {p₀ pos : Pos} {a : DX} (ha : SoundX D m Γ x a) : SoundX D m Γ (.Compare x [.Is] [.Constant .none k p₀] pos) (xIsNon a) := by
  intro n c hC A fr env φ p Q E hr hf he S V hp
  refine wpAny_Compare1 (ha hC hr hf he S V (Post.bind hp fun q u v S1 s1 x1 h1 => wpAny_pure (is_none_gen ?_))) (by with_unfolding_all rfl)
  cases x1 with
  | non => exact Post.here (a := AV.boo true) (Rel := RV) h1 S1 (.boo _)
  | tup ht r => exact Post.here (a := AV.boo false) (Rel := RV) h1 S1 (.boo _)
  | _ => exact h1.elim
theorem t_isNon {x : Expr} {k : Nat} {p₀ pos : Pos} {a : DX} (ha : SoundX D m Γ x a) : SoundT D m Γ (.Compare x [.Is] [.Constant .none k p₀] pos) (xIsNon a) := by
  intro n c hC A fr env φ p Q E hr hf he S V hp
  have hp := Post.truth (D := D) (A := A) hp
  refine wpAny_isTrue_Compare1 (ha hC hr hf he S V (Post.bind hp fun q u v S1 s1 x1 h1 => wpAny_pure (is_none_gen ?_))) (by with_unfolding_all rfl)
  cases x1 with
  | non => exact Post.here (a := AV.boo true) (Rel := RV) h1 S1 (.boo _)
  | tup ht r => exact Post.here (a := AV.boo false) (Rel := RV) h1 S1 (.boo _)
  | _ => exact h1.elim
theorem isIn_of {fr : List Env} {p : Pt} (S : St D.B0 fr p) {b : AV} {u : Value} (y : VR p.h p.ρ p.σ.n u b) : ∀ {l : List AV} {vs : List Value} {r : Bool} {τ : Store}, VRs p.h p.ρ p.σ.n vs l → isIn b p.σ l = .ok r τ →
    τ = p.σ ∧ ∃ xs as, ReadsAll p.h vs xs as ∧ PyData.canLayAll0 xs = true ∧ PyData.depthAll xs ≤ 64 ∧ ((l = [] ∧ r = false) ∨ ∃ d bs, Reads p.h u d bs ∧ SeqAt.shaped d = true ∧ r = xs.any fun y => PyData.eqv y d)
  | _, _, r, τ, .nil, h => by
    cases (show (R.ok false p.σ : R Bool) = .ok r τ from h)
    exact ⟨rfl, [], [], .nil, rfl, Nat.zero_le _, .inl ⟨rfl, rfl⟩⟩
  | _, _, r, τ, .cons (a := a) (as := as) x rs, h => by
    obtain ⟨e, σ1, h1, h2⟩ := bind_R (show ((eqv8 a b p.σ).bind fun e _ => (isIn b p.σ as).bind fun e' _ => .ok (ifB e true e') p.σ) = .ok r τ from h)
    obtain ⟨e', σ2, h3, h4⟩ := bind_R h2
    cases h4
    obtain ⟨_, da, db, xs, ys, ra, rb, la, lb, he⟩ := eqv8_of S x y h1
    obtain ⟨_, zs, ws, rz, lz, dz, hr⟩ := isIn_of S y rs h3
    refine ⟨rfl, da :: zs, _, .cons ra rz, ?_, ?_, .inr ⟨db, ys, rb, lb, ?_⟩⟩
    · show (PyData.canLay0 da && PyData.canLayAll0 zs) = true
      rw [SeqAt.canLay_of_shaped la, lz]; rfl
    · have := SeqAt.depth_of_shaped la
      show max (PyData.depth da) (PyData.depthAll zs) ≤ 64
      omega
    · rw [List.any_cons, ← he]
      have : e' = zs.any fun y => PyData.eqv y db := by
        rcases hr with ⟨rfl, rfl⟩ | ⟨d, bs, r1, r2, r3⟩
        · cases rs
          cases rz
          rfl
        · obtain rfl := SeqAt.Reads.unique d db u bs ys (SeqAt.canLay_of_shaped r2) r1 rb
          exact r3
      rw [← this]
      cases e <;> rfl
end
end Mine
end

section
open PySem PySem.W PyProof.Rows PySem.Calls PySem.Spec
namespace Mine
set_option autoImplicit false

section
variable {D : Wd} {m : Nat} {Γ : Names}
section
variable {B0 : Heap} {s₀ : Shared} {fr : List Env} {X : Addr → Prop} {EX : Pt → Prop} {p : Pt} {α β : Type} {Rel : Pt → α → β → Prop} {Q : β → Shared → Prop} {E : Value → Shared → Prop} {v : Value} {a : AV}
theorem onTup_ok {f : List AV → R α} (x : VR p.h p.ρ p.σ.n v a) (hp : Post B0 s₀ fr X EX p Rel (onTup a f) Q E) : ∃ w vs l, p.h.IsTuple w vs ∧ VRs p.h p.ρ p.σ.n vs.toList l ∧ v = .ref w ∧ a = .tup l ∧ Post B0 s₀ fr X EX p Rel (f l) Q E := by
  cases x with
  | tup ht r => exact ⟨_, _, _, ht, r, rfl, rfl, hp⟩
  | _ => exact hp.elim
end
theorem isIn_noEx {b : AV} {σ τ : Store} {k : Nat} : ∀ {l : List AV}, isIn b σ l ≠ .ex k τ
  | [], h => by cases h
  | x :: l, h => by
    have h' : ((eqv8 x b σ).bind fun e _ => (isIn b σ l).bind fun e' _ => .ok (ifB e true e') σ) = .ex k τ := h
    cases h1 : eqv8 x b σ with
    | ex k' σ' => exact eqv8_noEx h1
    | bad => rw [h1] at h'; cases h'
    | ok u σ' =>
      rw [h1, bind_ok] at h'
      cases h2 : isIn b σ l with
      | ex k' σ' => exact isIn_noEx h2
      | bad => rw [h2] at h'; cases h'
      | ok u σ' => rw [h2, bind_ok] at h'; cases h'
theorem in_facts {A : Around} {fr : List Env} {p : Pt} {v u : Value} {a b : AV} {Q : Value → Shared → Prop} {E : Value → Shared → Prop} {k : Nat} {f : Bool → Bool}
    (hr : Room A k) (S : St D.B0 fr p) (x : RV p a v) (y : RV p b u) (hp : Post D.B0 D.s₀ fr NoX NoE p RV (onTup b fun l => ifB (Nat.blt 0 (List.length l)) ((isIn a p.σ l).bind fun b _ => .ok (.boo (f b)) p.σ) .bad) Q E) :
    ∃ xs d as bs, Reads p.h u (.tuple xs) as ∧ Reads p.h v d bs ∧ PyData.canLayAll0 xs = true ∧ d.canLay0 = true ∧ A.units + 1 + min (PyData.depthAll xs) d.depth < cLine ∧ Q (.bool (f (xs.any fun y => PyData.eqv y d))) (sh D.s₀ p) := by
  obtain ⟨w, vs, l, ht, r, rfl, rfl, h1⟩ := onTup_ok y hp
  obtain ⟨hl, h2⟩ := ifB_ok h1
  cases h : isIn a p.σ l with
  | ex k τ => exact absurd h isIn_noEx
  | bad => rw [h] at h2; exact h2.elim
  | ok e τ =>
    rw [h, bind_ok] at h2
    obtain ⟨_, xs, as, rx, lx, dx, hd⟩ := isIn_of S x r h
    rcases hd with ⟨rfl, _⟩ | ⟨d, bs, r1, r2, rfl⟩
    · cases hl
    obtain ⟨o, e, hc, n, hd⟩ := ht
    refine ⟨xs, d, as, bs, .tuple e hc hd rx, r1, lx, SeqAt.canLay_of_shaped r2, ?_, Post.here (Rel := RV) h2 S (.boo _)⟩
    have := hr.units
    have : min (PyData.depthAll xs) d.depth ≤ 64 := Nat.le_trans (Nat.min_le_left _ _) dx
    show _ < 9900
    omega
theorem op_in : Op2 D (compareOp .In) (fun u v σ => onTup v fun l => ifB (Nat.blt 0 (List.length l)) ((isIn u σ l).bind fun b _ => .ok (.boo b) σ) .bad) := by
  intro A fr p v u a b Q E k hr hf S x y hp
  obtain ⟨xs, d, as, bs, h1, h2, h3, h4, h5, h6⟩ := in_facts (f := id) hr S x y hp
  exact SeqAt.in_tuple_reads (s := sh D.s₀ p) h1 h2 h3 h4 h5 h6
theorem op_notIn : Op2 D (compareOp .NotIn) (fun u v σ => onTup v fun l => ifB (Nat.blt 0 (List.length l)) ((isIn u σ l).bind fun b _ => .ok (.boo (ifB b false true)) σ) .bad) := by
  intro A fr p v u a b Q E k hr hf S x y hp
  obtain ⟨xs, d, as, bs, h1, h2, h3, h4, h5, h6⟩ := in_facts (f := fun b => ifB b false true) hr S x y hp
  refine SeqAt.notIn_tuple_reads (s := sh D.s₀ p) h1 h2 h3 h4 h5 ?_
  have e : ∀ b : Bool, ifB b false true = !b := by intro b; cases b <;> rfl
  rw [e] at h6
  exact h6

/-! calls of builtins -/
noncomputable def Op1' (D : Wd) (run : Value → Sem Value) (f : AV → Store → R AV) : Prop := Op1 D run f
/-- a builtin of one argument, of two -/
theorem bi_load {A : Around} {fr : List Env} {env : Env} {p : Pt} {x : Str} {v : Value} {Q : Value → Shared → Prop} {E : Value → Shared → Prop} {i : Nat} {np : Pos} (hD : D.Ok) (he : EnvOK D.B0 Γ env fr) (S : St D.B0 fr p) (hx : Γ[i]? = some (x, .glo)) (hm : D.mg x = none) (hb : D.mb x = some v) (h : Q v (sh D.s₀ p))
    (hd : (x == Str.ofString "__debug__") = false := by decide +kernel) : wpAny (model D.prog D.w) A (eval (.Name x np) env) Q E (sh D.s₀ p) := by
  refine Name_function_global he.kind (he.glo i x hx) ?_ hd
  exact loadGlobal_builtin (env := env) (mg := D.mg) (mb := D.mb) (by rw [he.glob]; exact base_ns S hD.globs) hm (by rw [he.blt]; exact base_ns S hD.bls) hb h
theorem s_bi1 {x : Str} {id : String} {i : Nat} {e : Expr} {np pos : Pos} {a : DX} {f : AV → Store → R AV} (hD : D.Ok) (ho : Op1 D (fun v => call (.builtin id) [v]) f) (ha : SoundX D m Γ e a) (hx : Γ[i]? = some (x, .glo)) (hm : D.mg x = none) (hb : D.mb x = some (.builtin id))
    (hd : (x == Str.ofString "__debug__") = false := by decide +kernel) (hs : ∀ env, starEach [e] env = [(false, eval e env)] := by intro _; rfl) : SoundX D m Γ (.Call (.Name x np) [e] [] pos) (xOne f a) := by
  intro n c hC A fr env φ p Q E hr hf he S V hp
  refine Call_Name1 (bi_load hD he S hx hm hb ?_ hd) (hs env)
  refine callWith_builtin rfl (evalArgs_plain (spliced_cons (ha hC hr hf he S V (Post.bind hp fun q u v S1 s1 x1 h1 => spliced_nil ?_))))
  exact ho hr hf S1 x1 h1
theorem s_bi2 {x : Str} {id : String} {i : Nat} {e e' : Expr} {np pos : Pos} {a b : DX} {f : AV → AV → Store → R AV} (hD : D.Ok) (ho : Op2 D (fun v u => call (.builtin id) [v, u]) f) (ha : SoundX D m Γ e a) (hb' : SoundX D m Γ e' b) (hx : Γ[i]? = some (x, .glo)) (hm : D.mg x = none) (hb : D.mb x = some (.builtin id))
    (hd : (x == Str.ofString "__debug__") = false := by decide +kernel) (hs : ∀ env, starEach [e, e'] env = [(false, eval e env), (false, eval e' env)] := by intro _; rfl) : SoundX D m Γ (.Call (.Name x np) [e, e'] [] pos) (xTwo f a b) := by
  intro n c hC A fr env φ p Q E hr hf he S V hp
  refine Call_Name2 (bi_load hD he S hx hm hb ?_ hd) (hs env)
  refine callWith_builtin rfl (evalArgs_plain (spliced_cons (ha hC hr hf he S V (Post.bind hp fun q u v S1 s1 x1 h1 => ?_))))
  refine spliced_cons (hb' hC hr hf he S1 (V.on S s1) (Post.bind h1 fun q2 u2 v2 S2 s2 x2 h2 => spliced_nil ?_))
  exact ho hr hf S2 (x1.on S1 s2) x2 h2
theorem s_ty1 {x : Str} {T : String} {i : Nat} {e : Expr} {np pos : Pos} {a : DX} {f : AV → Store → R AV} (hD : D.Ok) (ho : Op1 D (fun v => call (.type T) [v]) f) (ha : SoundX D m Γ e a) (hx : Γ[i]? = some (x, .glo)) (hm : D.mg x = none) (hb : D.mb x = some (.type T))
    (hd : (x == Str.ofString "__debug__") = false := by decide +kernel) (hs : ∀ env, starEach [e] env = [(false, eval e env)] := by intro _; rfl) : SoundX D m Γ (.Call (.Name x np) [e] [] pos) (xOne f a) := by
  intro n c hC A fr env φ p Q E hr hf he S V hp
  refine Call_Name1 (bi_load hD he S hx hm hb ?_ hd) (hs env)
  refine PySem.callWith_type rfl (evalArgs_plain (spliced_cons (ha hC hr hf he S V (Post.bind hp fun q u v S1 s1 x1 h1 => spliced_nil ?_))))
  exact ho hr hf S1 x1 h1
theorem s_ty2 {x : Str} {T : String} {i : Nat} {e e' : Expr} {np pos : Pos} {a b : DX} {f : AV → AV → Store → R AV} (hD : D.Ok) (ho : Op2 D (fun v u => call (.type T) [v, u]) f) (ha : SoundX D m Γ e a) (hb' : SoundX D m Γ e' b) (hx : Γ[i]? = some (x, .glo)) (hm : D.mg x = none) (hb : D.mb x = some (.type T))
    (hd : (x == Str.ofString "__debug__") = false := by decide +kernel) (hs : ∀ env, starEach [e, e'] env = [(false, eval e env), (false, eval e' env)] := by intro _; rfl) : SoundX D m Γ (.Call (.Name x np) [e, e'] [] pos) (xTwo f a b) := by
  intro n c hC A fr env φ p Q E hr hf he S V hp
  refine Call_Name2 (bi_load hD he S hx hm hb ?_ hd) (hs env)
  refine PySem.callWith_type rfl (evalArgs_plain (spliced_cons (ha hC hr hf he S V (Post.bind hp fun q u v S1 s1 x1 h1 => ?_))))
  refine spliced_cons (hb' hC hr hf he S1 (V.on S s1) (Post.bind h1 fun q2 u2 v2 S2 s2 x2 h2 => spliced_nil ?_))
  exact ho hr hf S2 (x1.on S1 s2) x2 h2

section
variable {B0 : Heap} {s₀ : Shared} {fr : List Env} {p : Pt} {Q : Value → Shared → Prop} {E : Value → Shared → Prop}
theorem okInt_push {i : Int} {t : Tok} {k : Nat} {h' : Heap} (S : St B0 fr p) (hk : ∀ a o, p.h.get? a = some o → h'.get? a = some o) (hp : Post B0 s₀ fr NoX NoE p RV (okInt i p.σ) Q E) : Q (.int i t) (sh s₀ { p with h := h', t := k }) := by
  unfold okInt at hp
  rw [fI_eq] at hp
  cases h : small i with
  | true =>
    rw [h] at hp
    exact Post.ok (a := AV.int i) (b := Value.int i t) (Rel := RV) (q := { p with h := h', t := k }) hp (S.push hk) (Step.push hk) (VR.int i t)
  | false => rw [h] at hp; exact hp.elim
theorem val_push {a : AV} {v : Value} {k : Nat} {h' : Heap} (S : St B0 fr p) (hk : ∀ a o, p.h.get? a = some o → h'.get? a = some o) (x : VR h' p.ρ p.σ.n v a) (hp : Post B0 s₀ fr NoX NoE p RV (.ok a p.σ) Q E) : Q v (sh s₀ { p with h := h', t := k }) :=
  Post.ok (a := a) (b := v) (Rel := RV) (q := { p with h := h', t := k }) hp (S.push hk) (Step.push hk) x
end
theorem op_abs : Op1 D (fun v => call (.builtin "abs") [v]) (fun u σ => onInt u fun x => fI (.ofNat (Int.natAbs x)) fun i => .ok (.int i) σ) := by
  intro A fr p v a Q E k hr hf S x hp
  obtain ⟨i, t, rfl, rfl, hp⟩ := onInt_ok x hp
  refine call_abs_int fun u tk => ?_
  have e : (if i < 0 then -i else i) = Int.ofNat i.natAbs := by
    show _ = (i.natAbs : Int)
    split <;> omega
  rw [e]
  have hp : Post D.B0 D.s₀ fr NoX NoE p RV (fI (.ofNat i.natAbs) fun i => .ok (.int i) p.σ) Q E := hp
  rw [fI_eq] at hp
  exact Post.toks (s₀ := D.s₀) (Rel := RV) (EX := NoE) (E := E) (p := p) (a := .int (.ofNat i.natAbs)) (b := .int (.ofNat i.natAbs) u) (t := tk) hp S (.int _ _)
theorem op_max : Op2 D (fun v u => call (.builtin "max") [v, u]) (onInts fun x y σ => ifB (decide (x < y)) (.ok (.int y) σ) (.ok (.int x) σ)) := op_ints (D := D) (run := fun v u => call (.builtin "max") [v, u]) fun {A fr p x y t u Q E k} hr hf S hp => by
  refine max_two_ints (s := sh D.s₀ p) hr.1 fun h' tk hk => ?_
  by_cases h : y > x
  · rw [decide_eq_true (show x < y from h)] at hp
    rw [if_pos h]
    exact val_push (s₀ := D.s₀) S hk (.int _ _) hp
  · rw [decide_eq_false (show ¬ x < y from h)] at hp
    rw [if_neg h]
    exact val_push (s₀ := D.s₀) S hk (.int _ _) hp
theorem op_min : Op2 D (fun v u => call (.builtin "min") [v, u]) (onInts fun x y σ => ifB (decide (y < x)) (.ok (.int y) σ) (.ok (.int x) σ)) := op_ints (D := D) (run := fun v u => call (.builtin "min") [v, u]) fun {A fr p x y t u Q E k} hr hf S hp => by
  refine min_two_ints (s := sh D.s₀ p) hr.1 fun h' tk hk => ?_
  by_cases h : y < x
  · rw [decide_eq_true h] at hp
    rw [if_pos h]
    exact val_push (s₀ := D.s₀) S hk (.int _ _) hp
  · rw [decide_eq_false h] at hp
    rw [if_neg h]
    exact val_push (s₀ := D.s₀) S hk (.int _ _) hp
theorem len_fits {n : Nat} {B0 : Heap} {s₀ : Shared} {fr : List Env} {p : Pt} {Q : Value → Shared → Prop} {E : Value → Shared → Prop} (hp : Post B0 s₀ fr NoX NoE p RV (ifB (Nat.blt n 100000) (.ok (.int (.ofNat n)) p.σ) .bad) Q E) : n < 100000 ∧ Post B0 s₀ fr NoX NoE p RV (.ok (.int (.ofNat n)) p.σ) Q E := by
  obtain ⟨h, hp⟩ := ifB_ok hp
  exact ⟨Nat.le_of_ble_eq_true h, hp⟩
noncomputable abbrev fLen : AV → Store → R AV := fun u σ => onSeq u (fun l => ifB (Nat.blt (List.length l) 100000) (.ok (.int (.ofNat (List.length l))) σ) .bad) (fun k => getL σ k fun l => ifB (Nat.blt (List.length l) 100000) (.ok (.int (.ofNat (List.length l))) σ) .bad) fun _ _ => .bad
theorem op_len : Op1 D (fun v => call (.builtin "len") [v]) fLen := by
  intro A fr p v a Q E k hr hf S x hp
  cases x with
  | tup ht r =>
    rename_i w vs l
    obtain ⟨hn, hp⟩ := len_fits (show Post D.B0 D.s₀ fr NoX NoE p RV (ifB (Nat.blt (List.length l) 100000) (.ok (.int (.ofNat (List.length l))) p.σ) .bad) Q E from hp)
    have e : vs.size = l.length := by rw [← r.length, Array.length_toList]
    refine PyProof.Rows.len_tuple (s := sh D.s₀ p) ht (by rw [e]; omega) ?_
    rw [e]
    exact Post.toks (s₀ := D.s₀) (Rel := RV) hp S (.int _ _)
  | ref hk =>
    rename_i w
    obtain ⟨l, vs, _, hl, xl, hp⟩ := getL_ok S (show Post D.B0 D.s₀ fr NoX NoE p RV (getL p.σ w fun l => ifB (Nat.blt (List.length l) 100000) (.ok (.int (.ofNat (List.length l))) p.σ) .bad) Q E from hp)
    obtain ⟨hn, hp⟩ := len_fits hp
    have e : vs.size = l.length := by rw [← xl.length, Array.length_toList]
    refine PyProof.Rows.len_list (s := sh D.s₀ p) hl (by rw [e]; omega) ?_
    rw [e]
    exact Post.toks (s₀ := D.s₀) (Rel := RV) hp S (.int _ _)
  | _ => exact hp.elim
theorem op_ran1 : Op1 D (fun v => call (.type "range") [v]) (fun u σ => onInt u fun b => ifB (inRange b) (.ok (.rng 0 b) σ) .bad) := by
  intro A fr p v a Q E k hr hf S x hp
  obtain ⟨i, t, rfl, rfl, hp⟩ := onInt_ok x hp
  obtain ⟨h1, hp⟩ := ifB_ok hp
  exact call_range_1 (s := sh D.s₀ p) (val_push (s₀ := D.s₀) S (push_keep _ _) (.rng (IsRange.new ..) rfl h1) hp)
theorem op_ran2 : Op2 D (fun v u => call (.type "range") [v, u]) (onInts fun a b σ => ifB (inRange a) (ifB (inRange b) (.ok (.rng a b) σ) .bad) .bad) := op_ints (D := D) (run := fun v u => call (.type "range") [v, u]) fun {A fr p x y t u Q E k} hr hf S hp => by
  obtain ⟨h1, hp⟩ := ifB_ok hp
  obtain ⟨h2, hp⟩ := ifB_ok hp
  exact call_range_2 (s := sh D.s₀ p) (val_push (s₀ := D.s₀) S (push_keep _ _) (.rng (IsRange.new ..) h1 h2) hp)
theorem op_list : Op1 D (fun v => call (.type "list") [v]) (fun u σ => onRef u fun k => getL σ k fun l => ifB (Nat.blt (List.length l) 100000) (newO σ (.list l) fun k σ => .ok (.ref k) σ) .bad) := by
  intro A fr p v a Q E k hr hf S x hp
  obtain ⟨i, hi, rfl, rfl, hp⟩ := onRef_ok x hp
  obtain ⟨l, vs, _, hl, xl, hp⟩ := getL_ok S hp
  obtain ⟨hb, hp⟩ := ifB_ok hp
  have hz : vs.size ≤ sizeLine := by
    have : l.length < 100000 := Nat.le_of_ble_eq_true hb
    rw [← Array.length_toList, xl.length]
    exact Nat.le_of_lt (Nat.lt_of_lt_of_le this (by decide +kernel))
  obtain ⟨o, ho, hc, n, hd⟩ := hl
  refine call_list_seq (s := sh D.s₀ p) (p.ρ i) (.inl rfl) ho hc hd (fun h' c' hk hq => ?_) hz
  exact made_list (s₀ := D.s₀) (vs := vs.toList) (t := p.t) S hk (size_none _) hq rfl ⟨c', by simp⟩ rfl xl hp
theorem sumI_of {B0 : Heap} {s₀ : Shared} {fr : List Env} {p : Pt} {Q : Value → Shared → Prop} {E : Value → Shared → Prop} : ∀ {l : List AV} {vs : List Value} {a : Int}, VRs p.h p.ρ p.σ.n vs l → Post B0 s₀ fr NoX NoE p RV (sumI l a p.σ) Q E →
    ∃ ys : List (Int × Tok), vs = ys.map (fun y => Value.int y.1 y.2) ∧ Post B0 s₀ fr NoX NoE p RV (okInt (a + (ys.map (·.1)).sum) p.σ) Q E
  | _, _, a, .nil, hp => ⟨[], rfl, by
    have hp : Post B0 s₀ fr NoX NoE p RV (okInt a p.σ) Q E := hp
    simpa using hp⟩
  | _, _, a, .cons (a := x) (as := l) xv r, hp => by
    obtain ⟨i, t, rfl, rfl, hp1⟩ := onInt_ok xv (show Post B0 s₀ fr NoX NoE p RV (onInt x fun i => fI (Int.add a i) fun a => ifB (small a) (sumI l a p.σ) .bad) Q E from hp)
    rw [fI_eq] at hp1
    obtain ⟨_, hp2⟩ := ifB_ok hp1
    obtain ⟨ys, rfl, hp3⟩ := sumI_of r hp2
    refine ⟨(i, t) :: ys, rfl, ?_⟩
    have e : a + (List.map (·.1) ((i, t) :: ys)).sum = Int.add a i + (List.map (·.1) ys).sum := by
      rw [List.map_cons, List.sum_cons]
      show a + (i + _) = a + i + _
      rw [Int.add_assoc]
    rw [e]; exact hp3
theorem op_sum : Op1 D (fun v => call (.builtin "sum") [v]) (fun u σ => onRef u fun k => getL σ k fun l => sumI l 0 σ) := by
  intro A fr p v a Q E k hr hf S x hp
  obtain ⟨i, hi, rfl, rfl, hp⟩ := onRef_ok x hp
  obtain ⟨l, vs, _, hl, xl, hp⟩ := getL_ok S hp
  obtain ⟨ys, e, hp⟩ := sumI_of xl hp
  obtain ⟨vs⟩ := vs
  cases e
  have hl' : (sh D.s₀ p).heap.IsList (p.ρ i) (intItems ys.toArray) := by
    have : intItems ys.toArray = ⟨ys.map (fun y => Value.int y.1 y.2)⟩ := by simp [intItems]
    rw [this]; exact hl
  refine sum_intListG (s := sh D.s₀ p) hr.1 hl' fun h' tk t' hk => ?_
  have : preSum (numAt ys.toArray) ys.toArray.size = 0 + (ys.map (·.1)).sum := by
    rw [preSum_eq, List.take_of_length_le (by simp)]; simp
  rw [this]
  exact okInt_push (s₀ := D.s₀) S hk hp

/-! calls of defs -/
noncomputable def FnAt (D : Wd) (a : Addr) : Prop := ∃ o fd, D.B0.get? a = some o ∧ o.data = .func fd
theorem call_res {A : Around} {fr : List Env} {p q : Pt} {f : Addr} {vs : List Value} {r : R AV} {Q : Value → Shared → Prop} {E : Value → Shared → Prop} (hp : Post D.B0 D.s₀ fr NoX NoE p RV r Q E) :
    Post D.B0 D.s₀ fr NoX NoE p RV r (fun v s' => (fun r s' => match r with | .ok (.ret v) => Q v s' | .ok _ => False | .error e => E e s' : Result → Shared → Prop) (.ok (.ret v)) s') (fun e s' => (fun r s' => match r with | .ok (.ret v) => Q v s' | .ok _ => False | .error e => E e s' : Result → Shared → Prop) (.error e) s') := hp
theorem s_call {x : Str} {f : Addr} {i : Nat} {e : Expr} {es : List Expr} {np pos : Pos} {l : DL} {d : DF} {m' : Nat} (hD : D.Ok) (hf : SoundF D m' f d) (hl : SoundL D m Γ (e :: es) l) (hx : Γ[i]? = some (x, .glo)) (hm : D.mg x = some (.ref f)) (hfn : FnAt D f) (hle : m' ≤ m := by decide)
    (hd : (x == Str.ofString "__debug__") = false := by decide +kernel) (hs : ∀ env, starEach (e :: es) env = (false, eval e env) :: starEach es env := by intro _; rfl) : SoundX D m Γ (.Call (.Name x np) (e :: es) [] pos) (xCall d l) := by
  intro n c hC A fr env φ p Q E hr hfr he S V hp
  obtain ⟨o, fd, ho, hdt⟩ := hfn
  refine PyProof.Rows.Call_ ?_ rfl
  refine Name_function_global he.kind (he.glo i x hx) ?_ hd
  refine loadGlobal_global (env := env) (mg := D.mg) (by rw [he.glob]; exact base_ns S hD.globs) hm ?_
  have hl' := hl hC hr hfr he (pos := pos) (Q := fun vs s => (s.heap.get? f = some o ∧ o.data = .func fd) ∧ wpAny (model D.prog D.w) A (call (.ref f) vs []) Q E s) S V (Post.bind (r := l c φ p.σ) hp fun q us vs S1 s1 x1 h1 => ⟨⟨S1.base f o ho, hdt⟩, wpAny_call (hf hC (hr.mono (Nat.add_le_add_left hle _)) hfr S1 x1.1 (call_res (f := f) (vs := vs) (q := q) (A := A) h1))⟩)
  refine callWith_function (o := o) (fd := fd) ?_
  rw [hs env] at hl' ⊢
  exact evalArgs_plain hl'
theorem s_rec {x : Str} {f : Addr} {k i : Nat} {e : Expr} {es : List Expr} {np pos : Pos} {l : DL} (hD : D.Ok) (hk : recs k = some f) (hl : SoundL D m Γ (e :: es) l) (hx : Γ[i]? = some (x, .glo)) (hm : D.mg x = some (.ref f)) (hfn : FnAt D f)
    (hd : (x == Str.ofString "__debug__") = false := by decide +kernel) (hs : ∀ env, starEach (e :: es) env = (false, eval e env) :: starEach es env := by intro _; rfl) : SoundX D m Γ (.Call (.Name x np) (e :: es) [] pos) (xRec k l) := by
  intro n c hC A fr env φ p Q E hr hfr he S V hp
  obtain ⟨o, fd, ho, hdt⟩ := hfn
  refine PyProof.Rows.Call_ ?_ rfl
  refine Name_function_global he.kind (he.glo i x hx) ?_ hd
  refine loadGlobal_global (env := env) (mg := D.mg) (by rw [he.glob]; exact base_ns S hD.globs) hm ?_
  have hl' := hl hC hr hfr he (pos := pos) (Q := fun vs s => (s.heap.get? f = some o ∧ o.data = .func fd) ∧ wpAny (model D.prog D.w) A (call (.ref f) vs []) Q E s) S V (Post.bind (r := l c φ p.σ) hp fun q us vs S1 s1 x1 h1 => ⟨⟨S1.base f o ho, hdt⟩, wpAny_call (hC k f hk (hr.mono (Nat.le_add_right _ _)) hfr S1 x1.1 (call_res (f := f) (vs := vs) (q := q) (A := A) h1))⟩)
  refine callWith_function (o := o) (fd := fd) ?_
  rw [hs env] at hl' ⊢
  exact evalArgs_plain hl'
end
end Mine
end

section
open PySem PySem.W PyProof.Rows PySem.Calls PySem.Spec
namespace Mine
set_option autoImplicit false

theorem bind_assoc {α β γ : Type} (r : R α) (f : α → Store → R β) (g : β → Store → R γ) : (r.bind f).bind g = r.bind fun a σ => (f a σ).bind g := by
  cases r with
  | ok a σ => rw [bind_ok, bind_ok]
  | ex k σ => rfl
  | bad => rfl
theorem sure_ok {α β : Type} (a : α) (σ : Store) (f : α → Store → R β) : (R.ok a σ).sure f = f a σ := by cases σ; rfl

section
variable {B0 : Heap} {s₀ : Shared} {fr : List Env} {X : Addr → Prop} {EX : Pt → Prop} {p q : Pt} {α β γ δ : Type} {Rel : Pt → α → β → Prop} {Rel2 : Pt → γ → δ → Prop} {E : Value → Shared → Prop}
/-- what raises nothing -/
theorem Post.sure {r : R α} {f : α → Store → R γ} {Q2 : δ → Shared → Prop} {Q : β → Shared → Prop} {E' : Value → Shared → Prop} {EX' : Pt → Prop} {p' : Pt} {Y : Addr → Prop} {EX : Pt → Prop} (hp : Post B0 s₀ fr X EX p Rel2 (r.sure f) Q2 E)
    (k : ∀ q a b, St B0 fr q → Step Y fr p' q → Rel q a b → Post B0 s₀ fr X EX p Rel2 (f a q.σ) Q2 E → Q b (sh s₀ q)) : Post B0 s₀ fr Y EX' p' Rel r Q E' := by
  cases r with
  | ok a σ =>
    rw [sure_ok] at hp
    intro q b e S s x
    subst e
    exact k q a b S s x hp
  | ex k' σ => exact hp.elim
  | bad => exact hp
/-- what a thing's answer is asked for, from afar: p is the start, q is here -/
theorem Post.bindAt {r : R α} {f : α → Store → R γ} {Q2 : δ → Shared → Prop} {Q : β → Shared → Prop} (hp : Post B0 s₀ fr X EX p Rel2 (r.bind f) Q2 E) {Y : Addr → Prop} {EY : Pt → Prop} (s : Step X fr p q) (hy : ∀ a o, p.h.get? a = some o → ¬ X a → ¬ Y a) (hE : ∀ q', St B0 fr q' → Step Y fr q q' → EY q' → EX q')
    (k : ∀ q' a b, St B0 fr q' → Step Y fr q q' → Step X fr p q' → Rel q' a b → Post B0 s₀ fr X EX p Rel2 (f a q'.σ) Q2 E → Q b (sh s₀ q')) : Post B0 s₀ fr Y EY q Rel r Q E := by
  cases r with
  | ok a σ =>
    rw [bind_ok] at hp
    intro q' b e S s' x
    subst e
    exact k q' a b S s' (s.trans s' hy) x hp
  | ex k' σ =>
    intro q' e he S s' hx f
    exact hp q' e he S (s.trans s' hy) (hE q' S s' hx) (f.from s)
  | bad => exact hp

/-! one thing is turned, or let go -/
theorem Step.off {h' : Heap} {t : Nat} {a : Addr} (s : Step X fr p q) (ha : ∀ o, p.h.get? a = some o → X a ∧ ∃ o', h'.get? a = some o') (hk : Heap.ExtBut a q.h h') : Step X fr p { q with h := h', t := t } := by
  refine ⟨s.le, s.same, s.newR, fun b o e => ?_, fun b o e hx hn => ?_⟩
  · by_cases hb : b = a
    · subst hb; exact (ha o e).2
    · obtain ⟨o', e'⟩ := s.alive b o e
      exact ⟨o', hk b o' hb e'⟩
  · have hb : b ≠ a := fun hb => hx (by subst hb; exact (ha o e).1)
    obtain ⟨h1, sl, h2⟩ := s.eff b o e hx hn
    exact ⟨fun hf => hk b _ hb (h1 hf), sl, hk b _ hb h2⟩
theorem St.off {h' : Heap} {t : Nat} {a : Addr} (S : St B0 fr q) (hb : B0.get? a = none) (hn : ∀ k, k < q.σ.n → q.ρ k ≠ a) (hh : ∀ o, q.h.get? a = some o → ¬ Hard o) (hk : Heap.ExtBut a q.h h')
    (hf0 : a ∈ frL fr → ∃ m, h'.Ns a m) : St B0 fr { q with h := h', t := t } := by
  refine ⟨fun b o e => hk b o (fun x => by subst x; rw [hb] at e; cases e) (S.base b o e), S.len, fun k o e => ?_, S.inj, S.new, S.frs.ext fun b hm o e => ?_, fun k l e => let ⟨ob, e1, e2⟩ := S.nod k l e; ⟨ob, hk _ _ (hn k (sget_lt e)) e1, e2⟩, fun b hm => ?_⟩
  · have hne : q.ρ k ≠ a := hn k (sget_lt e)
    exact (S.own k o e).ext (fun b o e x => hk b o (fun y => hh o (y ▸ e) x) e) (Nat.le_refl _) (fun _ _ => rfl) fun o e => hk _ o hne e
  · by_cases hba : b = a
    · subst hba
      obtain ⟨m, o', es, n, e', hd, _⟩ := hf0 hm
      exact ⟨o', e', fun _ _ _ => ⟨es, n, hd⟩⟩
    · exact ⟨o, hk b o hba e, fun es n hd => ⟨es, n, hd⟩⟩
  · by_cases hba : b = a
    · subst hba; exact hf0 hm
    · obtain ⟨m, hn2⟩ := S.str b hm
      exact ⟨m, ns_slots hn2 fun o e => ⟨o.slots, hk b o hba e⟩⟩
theorem not_hard_dict {o : Obj} {es : Array DictEntry} {n : Nat} (h : o.data = .dict es n) : ¬ Hard o := fun x => x.plain.2.2.1 _ _ h

/-! walking along a tuple, a list, a range -/
noncomputable def ItAt (h : Heap) (ρ : Nat → Addr) (n : Nat) (it : Addr) : AV → Nat → Prop
  | .tup l, i => ∃ t vs, h.IsTupleIter it t i ∧ h.IsTuple t vs ∧ VRs h ρ n vs.toList l
  | .ref k, i => k < n ∧ h.IsListIter it (ρ k) i
  | .rng a b, i => IsRangeIter h it (a + i) (((b - a).toNat : Int) - i) 1
  | _, _ => False
theorem ItAt.obj {h : Heap} {ρ : Nat → Addr} {n : Nat} {it : Addr} {u : AV} {i : Nat} (x : ItAt h ρ n it u i) : ∃ o, h.get? it = some o ∧ (∃ vs, o.data = .fields vs) ∧ o.cls ≠ .none ∧ ¬ Hard o := by
  have plain : ∀ (o : Obj) (T : String), T ≠ "tuple" → T ≠ "range" → o.cls = .type T → (∃ vs, o.data = .fields vs) → o.cls ≠ .none ∧ ¬ Hard o := by
    intro o T h1 h2 hc ⟨vs, hd⟩
    refine ⟨by rw [hc]; simp, fun x => ?_⟩
    rcases x with ⟨hc', _⟩ | ⟨hc', _⟩
    · rw [hc] at hc'; injection hc' with e; exact h1 e
    · rw [hc] at hc'; injection hc' with e; exact h2 e
  cases u with
  | tup l =>
    obtain ⟨t, vs, ⟨o, e, hc, hd⟩, _⟩ := x
    exact ⟨o, e, ⟨_, hd⟩, plain o _ (by decide) (by decide) hc ⟨_, hd⟩⟩
  | ref k =>
    obtain ⟨_, ⟨o, e, hc, hd⟩⟩ := x
    exact ⟨o, e, ⟨_, hd⟩, plain o _ (by decide) (by decide) hc ⟨_, hd⟩⟩
  | rng a b => exact ⟨_, x, ⟨_, rfl⟩, plain _ _ (by decide) (by decide) rfl ⟨_, rfl⟩⟩
  | _ => exact x.elim
theorem ItAt.notOwn {it : Addr} {u : AV} {i : Nat} (S : St B0 fr q) (x : ItAt q.h q.ρ q.σ.n it u i) : ∀ k, k < q.σ.n → q.ρ k ≠ it := by
  obtain ⟨o, e, ⟨vs, hd⟩, _⟩ := x.obj
  exact fun k hk y => S.notOwn e (fun _ _ z => by rw [hd] at z; cases z) (fun _ z => by rw [hd] at z; cases z) k hk y.symm
theorem ItAt.notFrame {it : Addr} {u : AV} {i : Nat} (S : St B0 fr q) (x : ItAt q.h q.ρ q.σ.n it u i) : it ∉ frL fr := by
  obtain ⟨o, e, ⟨vs, hd⟩, _⟩ := x.obj
  exact S.notFrame e fun _ _ z => by rw [hd] at z; cases z
theorem ItAt.keep {it : Addr} {u : AV} {i : Nat} {q' : Pt} (x : ItAt q.h q.ρ q.σ.n it u i) (S : St B0 fr q) (s : Step X fr q q') (hL : Loose q.h X) : ItAt q'.h q'.ρ q'.σ.n it u i := by
  have keep : ∀ {T : String} {o : Obj}, q.h.get? it = some o → o.cls = .type T → (∃ vs, o.data = .fields vs) → q'.h.get? it = some o := fun {T o} e hc ⟨vs, hd⟩ =>
    S.keep s hL e ⟨fun _ z => (by rw [hd] at z; cases z), fun _ _ z => (by rw [hd] at z; cases z), fun _ _ z => (by rw [hd] at z; cases z), fun _ _ z => (by rw [hc] at z; cases z)⟩
  cases u with
  | tup l =>
    obtain ⟨t, vs, ⟨o, e, hc, hd⟩, ⟨o', e', hc', n', hd'⟩, r⟩ := x
    exact ⟨t, vs, ⟨o, keep e hc ⟨_, hd⟩, hc, hd⟩, ⟨o', S.keep s hL e' (Hard.plain (.inl ⟨hc', _, _, hd'⟩)), hc', n', hd'⟩, r.step S s hL⟩
  | ref k =>
    obtain ⟨hk, ⟨o, e, hc, hd⟩⟩ := x
    exact ⟨Nat.lt_of_lt_of_le hk s.le, by rw [s.same k hk]; exact ⟨o, keep e hc ⟨_, hd⟩, hc, hd⟩⟩
  | rng a b => exact keep (show q.h.get? it = some _ from x) rfl ⟨_, rfl⟩
  | _ => exact x.elim
/-- a walk begins -/
theorem it_begin {D : Wd} {A : Around} {u : Value} {a : AV} {Q : Value → Shared → Prop} {E' : Value → Shared → Prop} (S : St D.B0 fr q) (x : VR q.h q.ρ q.σ.n u a) {Q2 : δ → Shared → Prop} {r : R γ} {X : Addr → Prop} {p : Pt}
    (hp : Post D.B0 s₀ fr X EX p Rel2 (walk a q.σ r) Q2 E)
    (h : ∀ it h', q.h.get? it = none → (∀ b o, q.h.get? b = some o → h'.get? b = some o) → ItAt h' q.ρ q.σ.n it a 0 → Post D.B0 s₀ fr X EX p Rel2 r Q2 E → Q (.ref it) (sh D.s₀ { q with h := h' })) : wpAny (model D.prog D.w) A (pyIter u) Q E' (sh D.s₀ q) := by
  cases x with
  | tup ht r =>
    rename_i w vs l
    refine wpAny_pyIter_tuple (s := sh D.s₀ q) ht ?_
    have k := push_keep q.h { cls := .type "tuple_iterator", data := .fields #[.ref w, .int 0 0] }
    refine h q.h.objs.size _ (size_none _) k ⟨w, vs, ⟨_, push_at _ _, rfl, rfl⟩, ?_, r.ext (fun a o e _ => k a o e) (Nat.le_refl _) (fun _ _ => rfl)⟩ hp
    obtain ⟨o, e, r⟩ := ht
    exact ⟨o, k _ _ e, r⟩
  | ref hk =>
    rename_i j
    have hp' : Post D.B0 s₀ fr X EX p Rel2 (getL q.σ j fun _ => r) Q2 E := hp
    unfold getL at hp'
    rw [getO_eq] at hp'
    cases eq : sget q.σ j with
    | none => rw [eq] at hp'; exact hp'.elim
    | some o =>
      cases o with
      | cell c => rw [eq] at hp'; exact hp'.elim
      | list l =>
        rw [eq] at hp'
        obtain ⟨vs, hl, r⟩ := S.own j _ eq
        refine wpAny_pyIter_list (s := sh D.s₀ q) hl ?_
        exact h q.h.objs.size _ (size_none _) (push_keep _ _) ⟨hk, ⟨_, push_at _ _, rfl, rfl⟩⟩ hp'
  | rng hx h1 h2 =>
    rename_i lo hi t u' v
    have h1 := inRange_of h1
    have h2 := inRange_of h2
    have hs : Builtin.Range.rangeSize lo hi 1 = ((hi - lo).toNat : Int) := rangeSize_nat lo hi
    refine wpAny_pyIter_range (s := sh D.s₀ q) hx ?_ ?_
    · unfold Builtin.Range.small
      rw [hs]
      have f : ∀ i : Int, -3000000 < i → i < 3000000 → Builtin.Range.rangeFitsLong i = true := by
        intro i a b
        unfold Builtin.Range.rangeFitsLong
        simp
        omega
      have hn : ((hi - lo).toNat : Int) < 3000000 := by omega
      rw [f lo (by omega) (by omega), f hi (by omega) (by omega), f 1 (by omega) (by omega), f _ (by omega) hn]
      simp only [show ((1 : Int) > 0) by decide, if_true]
      rw [f (hi + (1 - 1)) (by omega) (by omega)]
      simp
    · rw [hs]
      refine h q.h.objs.size _ (size_none _) (push_keep _ _) ?_ hp
      have e := push_at q.h { cls := .type "range_iterator", data := .fields #[rawInt lo, rawInt ↑(hi - lo).toNat, rawInt 1] }
      show Heap.get? _ _ = some _
      have e1 : lo + ((0 : Nat) : Int) = lo := by omega
      have e2 : ((hi - lo).toNat : Int) - ((0 : Nat) : Int) = ((hi - lo).toNat : Int) := by omega
      rw [e1, e2]
      exact e
  | _ => exact hp.elim
theorem it_self {D : Wd} {A : Around} {it : Addr} {a : AV} {i : Nat} {s : Shared} {ρ : Nat → Addr} {n : Nat} {Q : Value → Shared → Prop} {E' : Value → Shared → Prop} (x : ItAt s.heap ρ n it a i) (h : Q (.ref it) s) : wpAny (model D.prog D.w) A (pyIter (.ref it)) Q E' s := by
  cases a with
  | tup l =>
    obtain ⟨t, vs, hi, _⟩ := x
    exact wpAny_pyIter_tupleiter hi h
  | ref k => exact wpAny_pyIter_listiter x.2 h
  | rng a b => exact wpAny_pyIter_rangeiter (show IsRangeIter s.heap it _ _ 1 from x) h
  | _ => exact x.elim
end
end Mine
end

section
open PySem PySem.W PyProof.Rows PySem.Calls PySem.Spec
namespace Mine
set_option autoImplicit false

section
variable {D : Wd} {s₀ : Shared} {fr : List Env} {X : Addr → Prop} {EX : Pt → Prop} {p q : Pt} {γ δ : Type} {Rel2 : Pt → γ → δ → Prop} {E : Value → Shared → Prop}
/-- one step of a walk -/
theorem it_next {A : Around} {it : Addr} {a : AV} {i : Nat} {k : Nat} {e : R γ} {f : AV → R γ} {Q2 : δ → Shared → Prop} {Q : Option Value → Shared → Prop} {E' : Value → Shared → Prop} (hr : Room A k) (S : St D.B0 fr q) (s : Step X fr p q) (hpi : p.h.get? it = none) (hbi : D.B0.get? it = none)
    (hit : ItAt q.h q.ρ q.σ.n it a i) (hp : Post D.B0 s₀ fr X EX p Rel2 (next a i q.σ e f) Q2 E)
    (hend : ∀ h', Heap.ExtBut it q.h h' → St D.B0 fr { q with h := h' } → Step X fr p { q with h := h' } → Post D.B0 s₀ fr X EX p Rel2 e Q2 E → Q none (sh D.s₀ { q with h := h' }))
    (hmore : ∀ h' t v b, Heap.ExtBut it q.h h' → St D.B0 fr { q with h := h', t := t } → Step X fr p { q with h := h', t := t } → ItAt h' q.ρ q.σ.n it a (i + 1) → VR h' q.ρ q.σ.n v b → Post D.B0 s₀ fr X EX p Rel2 (f b) Q2 E → Q (some v) (sh D.s₀ { q with h := h', t := t })) :
    wpAny (model D.prog D.w) A (pyNext (.ref it)) Q E' (sh D.s₀ q) := by
  have hno := hit.notOwn S
  have hnf := hit.notFrame S
  obtain ⟨o₀, e₀, _, _, hh₀⟩ := hit.obj
  have hh : ∀ o, q.h.get? it = some o → ¬ Hard o := fun o e => by rw [e₀] at e; cases e; exact hh₀
  have off : ∀ h' (t : Nat), Heap.ExtBut it q.h h' → St D.B0 fr { q with h := h', t := t } ∧ Step X fr p { q with h := h', t := t } := fun h' t hk =>
    ⟨S.off hbi hno hh hk fun hf => absurd hf hnf, s.off (fun o e => by rw [hpi] at e; cases e) hk⟩
  cases a with
  | tup l =>
    obtain ⟨t, vs, hti, ht, r⟩ := id hit
    have hp' : Post D.B0 s₀ fr X EX p Rel2 (ifB (Nat.blt i (List.length l)) (nth l i f) e) Q2 E := hp
    have hne : t ≠ it := fun y => by
      obtain ⟨o, e, hc, m, hd⟩ := ht
      exact hh o (y ▸ e) (.inl ⟨hc, _, _, hd⟩)
    have hlen : vs.size = l.length := by rw [← r.length, Array.length_toList]
    cases hb : Nat.blt i l.length with
    | true =>
      rw [hb] at hp'
      obtain ⟨x, hx, hp2⟩ := nth_ok (show Post D.B0 s₀ fr X EX p Rel2 (nth l i f) Q2 E from hp')
      obtain ⟨v, hv, rv⟩ := r.get hx
      refine wpAny_pyNext_tuple_item (s := sh D.s₀ q) hti ht (by simpa using hv) fun h' hi' hs => ?_
      obtain ⟨S', s'⟩ := off h' q.t hs.extBut
      have hard : ∀ a o, q.h.get? a = some o → Hard o → h'.get? a = some o := fun a o e x => (hs.2 a fun y => hh o (y ▸ e) x).trans e
      exact hmore h' q.t v x hs.extBut S' s' ⟨t, vs, hi', ht.extBut hs.extBut hne, r.ext hard (Nat.le_refl _) fun _ _ => rfl⟩ (rv.ext hard (Nat.le_refl _) fun _ _ => rfl) hp2
    | false =>
      rw [hb] at hp'
      have hge : l.length ≤ i := Nat.not_lt.mp fun y => by rw [show Nat.blt i l.length = true from Nat.ble_eq_true_of_le y] at hb; cases hb
      refine wpAny_pyNext_tuple_end (s := sh D.s₀ q) hr.1 hti ht (by rw [Array.getElem?_eq_none_iff]; omega) fun h' hk => ?_
      obtain ⟨S', s'⟩ := off h' q.t hk
      exact hend h' hk S' s' hp'
  | ref j =>
    obtain ⟨hj, hli⟩ := id hit
    have hp' : Post D.B0 s₀ fr X EX p Rel2 (getL q.σ j fun l => nextTup l i e f) Q2 E := hp
    unfold getL at hp'
    rw [getO_eq] at hp'
    cases eq : sget q.σ j with
    | none => rw [eq] at hp'; exact hp'.elim
    | some o =>
      cases o with
      | cell c => rw [eq] at hp'; exact hp'.elim
      | list l =>
        rw [eq] at hp'
        have hp' : Post D.B0 s₀ fr X EX p Rel2 (ifB (Nat.blt i (List.length l)) (nth l i f) e) Q2 E := hp'
        obtain ⟨vs, hl, r⟩ := S.own j _ eq
        have hlen : vs.size = l.length := by rw [← r.length, Array.length_toList]
        cases hb : Nat.blt i l.length with
        | true =>
          rw [hb] at hp'
          obtain ⟨x, hx, hp2⟩ := nth_ok (show Post D.B0 s₀ fr X EX p Rel2 (nth l i f) Q2 E from hp')
          obtain ⟨v, hv, rv⟩ := r.get hx
          refine wpAny_pyNext_list_item (s := sh D.s₀ q) hli hl (by simpa using hv) fun h' hi' hs => ?_
          obtain ⟨S', s'⟩ := off h' q.t hs.extBut
          have hard : ∀ a o, q.h.get? a = some o → Hard o → h'.get? a = some o := fun a o e x => (hs.2 a fun y => hh o (y ▸ e) x).trans e
          exact hmore h' q.t v x hs.extBut S' s' ⟨hj, hi'⟩ (rv.ext hard (Nat.le_refl _) fun _ _ => rfl) hp2
        | false =>
          rw [hb] at hp'
          have hge : l.length ≤ i := Nat.not_lt.mp fun y => by rw [show Nat.blt i l.length = true from Nat.ble_eq_true_of_le y] at hb; cases hb
          refine wpAny_pyNext_list_end (s := sh D.s₀ q) hr.1 hli hl (by rw [Array.getElem?_eq_none_iff]; omega) fun h' hk => ?_
          obtain ⟨S', s'⟩ := off h' q.t hk
          exact hend h' hk S' s' hp'
  | rng lo hi =>
    have hri : IsRangeIter (sh D.s₀ q).heap it (lo + i) (((hi - lo).toNat : Int) - i) 1 := hit
    have hp' : Post D.B0 s₀ fr X EX p Rel2 (fI (Int.add lo (.ofNat i)) fun j => ifB (decide (j < hi)) (f (.int j)) e) Q2 E := hp
    rw [fI_eq] at hp'
    by_cases hb : Int.add lo (.ofNat i) < hi
    · rw [decide_eq_true hb] at hp'
      have hb' : lo + (i : Int) < hi := hb
      refine wpAny_pyNext_range_item hri (by omega) fun h' hi' hs => ?_
      obtain ⟨S', s'⟩ := off h' (q.t + 1) hs.extBut
      refine hmore h' (q.t + 1) _ _ hs.extBut S' s' ?_ (.int (Int.add lo (.ofNat i)) _) hp'
      have e1 : lo + ((i + 1 : Nat) : Int) = lo + i + 1 := by omega
      have e2 : ((hi - lo).toNat : Int) - ((i + 1 : Nat) : Int) = ((hi - lo).toNat : Int) - i - 1 := by omega
      show IsRangeIter h' it (lo + ((i + 1 : Nat) : Int)) (((hi - lo).toNat : Int) - ((i + 1 : Nat) : Int)) 1
      rw [e1, e2]
      exact hi'
    · rw [decide_eq_false hb] at hp'
      have hb' : ¬ lo + (i : Int) < hi := hb
      refine wpAny_pyNext_range_end hr.1 hri (by omega) fun h' hk => ?_
      obtain ⟨S', s'⟩ := off h' q.t hk
      exact hend h' hk S' s' hp'
  | _ => exact hit.elim

/-! a name is put -/
theorem nodup_inj {α : Type} : ∀ {l : List α} (_ : l.Nodup) {i j : Nat} (hi : i < l.length) (hj : j < l.length), l[i] = l[j] → i = j
  | [], _, i, _, hi, _, _ => absurd hi (Nat.not_lt_zero _)
  | x :: l, hn, 0, 0, _, _, _ => rfl
  | x :: l, hn, 0, j + 1, _, hj, e => by
    have := (List.nodup_cons.mp hn).1
    rw [List.getElem_cons_zero, List.getElem_cons_succ] at e
    exact absurd (e ▸ List.getElem_mem _) this
  | x :: l, hn, i + 1, 0, hi, _, e => by
    have := (List.nodup_cons.mp hn).1
    rw [List.getElem_cons_zero, List.getElem_cons_succ] at e
    exact absurd (e ▸ List.getElem_mem _) this
  | x :: l, hn, i + 1, j + 1, hi, hj, e => by
    rw [List.getElem_cons_succ, List.getElem_cons_succ] at e
    exact congrArg (· + 1) (nodup_inj (List.nodup_cons.mp hn).2 (Nat.lt_of_succ_lt_succ hi) (Nat.lt_of_succ_lt_succ hj) e)
theorem set_get {α : Type} (l : List α) (i j : Nat) (v : α) : (l.set i v)[j]? = if i = j then (if i < l.length then some v else none) else l[j]? := by
  rw [List.getElem?_set]
/-- what is put into a name: a local, a cell -/
theorem put_ok {A : Around} {Γ : Names} {env : Env} {φ : Vars} {i : Nat} {x : Str} {k : NT} {v : Value} {a : AV} {f : Vars → Store → R γ} {Q2 : δ → Shared → Prop} {Q : Unit → Shared → Prop} {E' : Value → Shared → Prop}
    (he : EnvOK D.B0 Γ env fr) (S : St D.B0 fr q) (s : Step X fr p q) (V : Vs Γ env φ q) (r : VR q.h q.ρ q.σ.n v a) (hx : Γ[i]? = some (x, k)) (hk : k = .loc ∨ k = .cel) (hX : ∀ o, p.h.get? env.locals = some o → X env.locals)
    (hp : Post D.B0 s₀ fr X EX p Rel2 (putV φ i a q.σ f) Q2 E)
    (h : ∀ q' φ', St D.B0 fr q' → Step X fr p q' → Step (· = env.locals) fr q q' → Vs Γ env φ' q' → Post D.B0 s₀ fr X EX p Rel2 (f φ' q'.σ) Q2 E → Q () (sh D.s₀ q')) : wpAny (model D.prog D.w) A (storeName env x v) Q E' (sh D.s₀ q) := by
  unfold putV at hp
  rw [nth_eq] at hp
  rcases hk with rfl | rfl
  · obtain ⟨mm, hn, hm⟩ := V.ns
    obtain ⟨v0, e1, e2⟩ := hm i x hx
    rw [e1] at hp
    have hp : Post D.B0 s₀ fr X EX p Rel2 (f (setL φ i (.lv (some a))) q.σ) Q2 E := hp
    rw [setL_eq] at hp
    refine wpAny_storeName_local (s := sh D.s₀ q) (he.loc i x hx) hn (fun h' hn' hs => ?_) (by rw [he.kind]; rfl)
    have hh : ∀ o, q.h.get? env.locals = some o → ¬ Hard o := fun o e => by
      obtain ⟨o', es, ep, e', hd, _⟩ := hn
      rw [e'] at e; cases e
      exact not_hard_dict hd
    have hno : ∀ k, k < q.σ.n → q.ρ k ≠ env.locals := fun k hk y => by
      obtain ⟨o', es, ep, e', hd, _⟩ := hn
      exact S.notOwn e' (fun _ _ z => by rw [hd] at z; cases z) (fun _ z => by rw [hd] at z; cases z) k hk y.symm
    obtain ⟨o2, es2, ep2, e2', hd2, hr2⟩ := id hn'
    have S' : St D.B0 fr { q with h := h', t := q.t + 1 } := S.off he.fresh hno hh hs.extBut fun _ => ⟨_, hn'⟩
    have s' : Step X fr p { q with h := h', t := q.t + 1 } := s.off (fun o e => ⟨hX o e, o2, e2'⟩) hs.extBut
    have sq : Step (· = env.locals) fr q { q with h := h', t := q.t + 1 } := (Step.refl _ _ _).off (fun o e => ⟨rfl, o2, e2'⟩) hs.extBut
    have hard : ∀ a o, q.h.get? a = some o → Hard o → h'.get? a = some o := fun a o e x => (hs.2 a fun y => hh o (y ▸ e) x).trans e
    refine h _ (φ.set i (.lv (some a))) S' s' sq ⟨by rw [List.length_set]; exact V.len, ⟨_, hn', fun j y hy => ?_⟩, fun j y k hy hk => ?_⟩ hp
    · rw [set_get]
      by_cases hij : i = j
      · subst hij
        rw [hx] at hy; cases hy
        have hlt : i < φ.length := by
          rw [List.getElem?_eq_some_iff] at e1
          exact e1.1
        rw [if_pos rfl, if_pos hlt]
        refine ⟨some a, rfl, ?_⟩
        rw [if_pos rfl]
        exact r.ext hard (Nat.le_refl _) fun _ _ => rfl
      · rw [if_neg hij]
        obtain ⟨w, f1, f2⟩ := hm j y hy
        refine ⟨w, f1, ?_⟩
        have hne : y ≠ x := fun e => by
          subst e
          have h1 : (Γ.map (·.1))[i]? = some y := by rw [List.getElem?_map, hx]; rfl
          have h2 : (Γ.map (·.1))[j]? = some y := by rw [List.getElem?_map, hy]; rfl
          rw [List.getElem?_eq_some_iff] at h1 h2
          obtain ⟨b1, g1⟩ := h1
          obtain ⟨b2, g2⟩ := h2
          exact hij (nodup_inj he.nodup b1 b2 (g1.trans g2.symm))
        rw [if_neg hne]
        exact OV.ext hard (Nat.le_refl _) (fun _ _ => rfl) f2
    · obtain ⟨c, f1, f2, f3⟩ := V.cells j y k hy hk
      refine ⟨c, ?_, f2, f3⟩
      rw [set_get]
      have hij : i ≠ j := fun e => by
        subst e
        rw [hx] at hy
        rcases hk with rfl | rfl <;> cases hy
      rw [if_neg hij]; exact f1
  · obtain ⟨c, e1, e2, e3⟩ := V.cells i x .cel hx (.inl rfl)
    rw [e1] at hp
    have hp : Post D.B0 s₀ fr X EX p Rel2 (getO q.σ c fun o => onCell o fun _ => setO q.σ c (.cell (some a)) fun σ => f φ σ) Q2 E := hp
    rw [getO_eq] at hp
    cases eq : sget q.σ c with
    | none => rw [eq] at hp; exact hp.elim
    | some o =>
      rw [eq] at hp
      cases o with
      | list l => exact hp.elim
      | cell v0 =>
        have hp : Post D.B0 s₀ fr X EX p Rel2 (setO q.σ c (.cell (some a)) fun σ => f φ σ) Q2 E := hp
        rw [setO_eq] at hp
        obtain ⟨w0, hcell, _⟩ := S.own c _ eq
        refine wpAny_storeName_cell he.kind (he.cel i x hx) e3 hcell fun h' hc' hs => ?_
        obtain ⟨o1, eo, hd⟩ := id hcell
        have hard : ∀ a o, q.h.get? a = some o → Hard o → h'.get? a = some o := fun a o e x => (hs.2 a fun y => by
          rw [y] at e
          have : o1 = o := by rw [eo] at e; cases e; rfl
          subst this
          exact x.plain.1 _ hd).trans e
        have ho : HO h' q.ρ q.σ.n (q.ρ c) (.cell (some a)) := ⟨some v, hc', r.ext hard (Nat.le_refl _) fun _ _ => rfl⟩
        have sq : Step (· = env.locals) fr q ⟨q.ρ, sset q.σ c (.cell (some a)), h', q.t⟩ := Step.turn e2 hs ho
        have sx : Step X fr q ⟨q.ρ, sset q.σ c (.cell (some a)), h', q.t⟩ := Step.turn e2 hs ho
        have hnx : q.ρ c ≠ env.locals := fun y => by
          obtain ⟨mm, ⟨o', es, ep, e', hd', _⟩, _⟩ := V.ns
          rw [← y] at e'
          have : o1 = o' := by rw [show q.h.get? (q.ρ c) = some o1 from eo] at e'; cases e'; rfl
          subst this
          rw [hd] at hd'; cases hd'
        refine h _ φ (S.turn e2 hs ho fun _ z => by cases z) (s.then sx) sq ⟨V.len, ?_, fun j y k hy hk => V.cells j y k hy hk⟩ hp
        obtain ⟨mm, hn, hm⟩ := V.ns
        refine ⟨mm, hn.sameBut hs (Ne.symm hnx), fun j y hy => ?_⟩
        obtain ⟨w, f1, f2⟩ := hm j y hy
        exact ⟨w, f1, OV.ext hard (Nat.le_refl _) (fun _ _ => rfl) f2⟩
theorem putV_bind {α β : Type} (φ : Vars) (i : Nat) (v : AV) (σ : Store) (k : Vars → Store → R α) (g : α → Store → R β) : (putV φ i v σ k).bind g = putV φ i v σ fun φ σ => (k φ σ).bind g := by
  unfold putV
  rw [nth_eq, nth_eq]
  cases φ[i]? with
  | none => rfl
  | some s =>
    cases s with
    | lv w =>
      rfl
    | gl => rfl
    | cl c =>
      show (getO σ c fun o => onCell o fun _ => setO σ c (.cell (some v)) fun σ => k φ σ).bind g = getO σ c fun o => onCell o fun _ => setO σ c (.cell (some v)) fun σ => (k φ σ).bind g
      rw [getO_eq, getO_eq]
      cases sget σ c with
      | none => rfl
      | some o =>
        cases o with
        | list l => rfl
        | cell w =>
          show (setO σ c (.cell (some v)) fun σ => k φ σ).bind g = setO σ c (.cell (some v)) fun σ => (k φ σ).bind g
          rw [setO_eq, setO_eq]
theorem getL_okAt {B0 : Heap} {k : Nat} {f : List AV → R γ} {Q : δ → Shared → Prop} (S : St B0 fr q) (hp : Post B0 s₀ fr X EX p Rel2 (getL q.σ k f) Q E) : ∃ l vs, sget q.σ k = some (.list l) ∧ q.h.IsList (q.ρ k) vs ∧ VRs q.h q.ρ q.σ.n vs.toList l ∧ Post B0 s₀ fr X EX p Rel2 (f l) Q E := by
  unfold getL at hp
  rw [getO_eq] at hp
  cases e : sget q.σ k with
  | none => rw [e] at hp; exact hp.elim
  | some o =>
    rw [e] at hp
    cases o with
    | cell c => exact hp.elim
    | list l =>
      obtain ⟨vs, h1, h2⟩ := S.own k _ e
      exact ⟨l, vs, rfl, h1, h2, hp⟩
end
end Mine
end

section
open PySem PySem.W PyProof.Rows PySem.Calls PySem.Spec
namespace Mine
set_option autoImplicit false

/-- the names of an inner block, and where they come from -/
inductive InN (Γ : Names) : List (Str × NameKind) → List NE → Prop
  | nil : InN Γ [] []
  | loc {x r ns} : InN Γ r ns → InN Γ ((x, .local) :: r) (.loc :: ns)
  | cel {x r ns} : InN Γ r ns → InN Γ ((x, .cell) :: r) (.cel :: ns)
  | up {x r ns j k} : Γ[j]? = some (x, k) → k = NT.cel ∨ k = NT.fre → InN Γ r ns → InN Γ ((x, .free) :: r) (.up j :: ns)
  | glo {x r ns} : InN Γ r ns → InN Γ ((x, .globalImplicit) :: r) (.glo :: ns)
noncomputable def namesOf (l : List (Str × NameKind)) : Names := l.map fun x => (x.1, ntOf x.2)

theorem cellsFrom_not : ∀ {r : List (Str × NameKind)} {n : Nat} {acc : List (Str × Addr)} {x : Str}, x ∉ r.map (·.1) → (cellsFrom n r acc).lookup x = acc.lookup x
  | [], _, _, _, _ => rfl
  | (y, k) :: r, n, acc, x, h => by
    have hy : (x == y) = false := by
      have : x ≠ y := fun e => h (by rw [e]; exact .head _)
      simpa using this
    have hr : x ∉ r.map (·.1) := fun e => h (.tail _ e)
    show (if (k == .cell) = true then cellsFrom (n + 1) r ((y, n) :: acc) else cellsFrom n r acc).lookup x = _
    split
    · rw [cellsFrom_not hr, List.lookup_cons, hy]
    · exact cellsFrom_not hr

noncomputable def closL (cells : List (Str × Addr)) : List (Str × NameKind) → List (Str × Addr) → List (Str × Addr)
  | [], acc => acc
  | (n, k) :: r, acc => closL cells r (if k == .free then (n, (cells.lookup n).getD 0) :: acc else acc)
theorem closL_not {cells : List (Str × Addr)} : ∀ {r : List (Str × NameKind)} {acc : List (Str × Addr)} {x : Str}, x ∉ r.map (·.1) → (closL cells r acc).lookup x = acc.lookup x
  | [], _, _, _ => rfl
  | (y, k) :: r, acc, x, h => by
    have hy : (x == y) = false := by
      have : x ≠ y := fun e => h (by rw [e]; exact .head _)
      simpa using this
    have hr : x ∉ r.map (·.1) := fun e => h (.tail _ e)
    show (closL cells r _).lookup x = _
    rw [closL_not hr]
    split
    · rw [List.lookup_cons, hy]
    · rfl
theorem closL_free {cells : List (Str × Addr)} : ∀ {r : List (Str × NameKind)} {acc : List (Str × Addr)} {x : Str} {i : Nat}, (r.map (·.1)).Nodup → r[i]? = some (x, .free) → (closL cells r acc).lookup x = some ((cells.lookup x).getD 0)
  | [], _, _, i, _, h => by simp at h
  | (y, k) :: r, acc, x, 0, hn, h => by
    simp at h
    obtain ⟨rfl, rfl⟩ := h
    have := (List.nodup_cons.mp hn).1
    show (closL cells r _).lookup y = _
    rw [closL_not this]
    simp
  | (y, k) :: r, acc, x, i + 1, hn, h => by
    have h : r[i]? = some (x, .free) := by simpa using h
    have hn2 : (r.map (·.1)).Nodup := (List.nodup_cons.mp hn).2
    show (closL cells r _).lookup x = _
    exact closL_free hn2 h
theorem closure_eq {env : Env} (f : Str × NameKind → List (Str × Addr) → Sem (ForInStep (List (Str × Addr))))
    (hf : ∀ n k cs, f (n, k) cs = if k == .free then (do let a ← cellOf env n; pure (.yield ((n, a) :: cs))) else pure (.yield cs)) :
    ∀ (r : List (Str × NameKind)) (acc : List (Str × Addr)), (∀ x, (x, NameKind.free) ∈ r → ∃ c, env.cells.lookup x = some c) → forIn r acc f = pure (closL env.cells r acc)
  | [], acc, _ => by rw [List.forIn_nil]; rfl
  | (n, k) :: r, acc, h => by
    rw [List.forIn_cons, hf]
    have ih := closure_eq f hf r
    cases hk : (k == NameKind.free) with
    | true =>
      obtain ⟨c, hc⟩ := h n (by rw [beq_iff_eq.mp hk]; exact .head _)
      have e : cellOf env n = pure c := by unfold cellOf; rw [hc]
      simp only [if_true, e, pure_bind]
      rw [ih _ fun x hx => h x (.tail _ hx)]
      simp only [closL, hk, if_true, hc, Option.getD_some]
    | false =>
      simp only [Bool.false_eq_true, if_false, pure_bind]
      rw [ih _ fun x hx => h x (.tail _ hx)]
      simp only [closL, hk, Bool.false_eq_true, if_false]
theorem closureFor_eq {scope : Scope} {env : Env} (h : ∀ x, (x, NameKind.free) ∈ scope.names → ∃ c, env.cells.lookup x = some c) : closureFor scope env = pure (closL env.cells scope.names []) := by
  have e := closure_eq (env := env) (fun (x : Str × NameKind) cs => match x with
    | (n, k) => if k == .free then (do let a ← cellOf env n; pure (.yield ((n, a) :: cs))) else pure (.yield cs)) (fun _ _ _ => rfl) scope.names [] h
  unfold closureFor
  refine (congrArg (fun m : Sem (List (Str × Addr)) => m >>= fun cs => pure cs) e).trans ?_
  rfl

section
variable {D : Wd} {s₀ : Shared} {fr : List Env} {X : Addr → Prop} {EX : Pt → Prop} {p : Pt} {γ δ : Type} {Rel2 : Pt → γ → δ → Prop} {E : Value → Shared → Prop} {Γ : Names} {env : Env} {φ : Vars}
theorem inner_ok {names : List (Str × NameKind)} {ns : List NE} (hI : InN Γ names ns) : ∀ {q : Pt} {f : Vars → Store → R γ} {acc : List (Str × Addr)} {Q2 : δ → Shared → Prop}, (names.map (·.1)).Nodup → St D.B0 fr q → Step X fr p q → Vs Γ env φ q → Post D.B0 s₀ fr X EX p Rel2 ((inner φ ns q.σ).bind f) Q2 E →
    ∃ ψ q', q'.h = pushCells q.h names ∧ q'.t = q.t ∧ St D.B0 fr q' ∧ Step X fr p q' ∧ Step NoX fr q q' ∧ Vs Γ env φ q' ∧ ψ.length = names.length ∧
      (∀ (i : Nat) (x : Str) (k : NameKind), names[i]? = some (x, k) → (k = .local → ψ[i]? = some (Slot.lv none)) ∧
        (k = .cell → ∃ c, ψ[i]? = some (Slot.cl c) ∧ c < q'.σ.n ∧ (cellsFrom q.h.objs.size names acc).lookup x = some (q'.ρ c)) ∧
        (k = .free → ∃ c, ψ[i]? = some (Slot.cl c) ∧ c < q'.σ.n ∧ env.cells.lookup x = some (q'.ρ c))) ∧
      Post D.B0 s₀ fr X EX p Rel2 (f ψ q'.σ) Q2 E := by
  induction hI with
  | nil =>
    intro q f acc Q2 hn S s V hp
    have hp : Post D.B0 s₀ fr X EX p Rel2 ((R.ok [] q.σ).bind f) Q2 E := hp
    rw [bind_ok] at hp
    exact ⟨[], q, rfl, rfl, S, s, .refl .., V, rfl, fun i x k h => by simp at h, hp⟩
  | @loc x r ns hI ih =>
    intro q f acc Q2 hn S s V hp
    have hp : Post D.B0 s₀ fr X EX p Rel2 (((inner φ ns q.σ).bind fun ψ σ => R.ok (Slot.lv none :: ψ) σ).bind f) Q2 E := hp
    rw [bind_assoc] at hp
    obtain ⟨ψ, q', h1, h2, h3, h4, h5, h6, h7, h8, h9⟩ := ih (acc := acc) (List.nodup_cons.mp hn).2 S s V hp
    rw [bind_ok] at h9
    refine ⟨Slot.lv none :: ψ, q', h1, h2, h3, h4, h5, h6, congrArg (· + 1) h7, fun i y k h => ?_, h9⟩
    cases i with
    | zero =>
      simp at h
      obtain ⟨rfl, rfl⟩ := h
      exact ⟨fun _ => rfl, fun e => (by cases e), fun e => (by cases e)⟩
    | succ i => exact h8 i y k (by simpa using h)
  | @glo x r ns hI ih =>
    intro q f acc Q2 hn S s V hp
    have hp : Post D.B0 s₀ fr X EX p Rel2 (((inner φ ns q.σ).bind fun ψ σ => R.ok (Slot.gl :: ψ) σ).bind f) Q2 E := hp
    rw [bind_assoc] at hp
    obtain ⟨ψ, q', h1, h2, h3, h4, h5, h6, h7, h8, h9⟩ := ih (acc := acc) (List.nodup_cons.mp hn).2 S s V hp
    rw [bind_ok] at h9
    refine ⟨Slot.gl :: ψ, q', h1, h2, h3, h4, h5, h6, congrArg (· + 1) h7, fun i y k h => ?_, h9⟩
    cases i with
    | zero =>
      simp at h
      obtain ⟨rfl, rfl⟩ := h
      exact ⟨fun e => (by cases e), fun e => (by cases e), fun e => (by cases e)⟩
    | succ i => exact h8 i y k (by simpa using h)
  | @up x r ns j k hj hk hI ih =>
    intro q f acc Q2 hn S s V hp
    obtain ⟨c, e1, e2, e3⟩ := V.cells j x k hj hk
    have hp : Post D.B0 s₀ fr X EX p Rel2 ((nth φ j fun s => onSlot s (fun _ => .bad) fun k => (inner φ ns q.σ).bind fun ψ σ => R.ok (Slot.cl k :: ψ) σ).bind f) Q2 E := hp
    rw [nth_eq, e1] at hp
    have hp : Post D.B0 s₀ fr X EX p Rel2 (((inner φ ns q.σ).bind fun ψ σ => R.ok (Slot.cl c :: ψ) σ).bind f) Q2 E := hp
    rw [bind_assoc] at hp
    obtain ⟨ψ, q', h1, h2, h3, h4, h5, h6, h7, h8, h9⟩ := ih (acc := acc) (List.nodup_cons.mp hn).2 S s V hp
    rw [bind_ok] at h9
    refine ⟨Slot.cl c :: ψ, q', h1, h2, h3, h4, h5, h6, congrArg (· + 1) h7, fun i y k h => ?_, h9⟩
    cases i with
    | zero =>
      simp at h
      obtain ⟨rfl, rfl⟩ := h
      exact ⟨fun e => (by cases e), fun e => (by cases e), fun _ => ⟨c, rfl, Nat.lt_of_lt_of_le e2 h5.le, by rw [h5.same c e2]; exact e3⟩⟩
    | succ i => exact h8 i y k (by simpa using h)
  | @cel x r ns hI ih =>
    intro q f acc Q2 hn S s V hp
    have hp : Post D.B0 s₀ fr X EX p Rel2 ((newO q.σ (.cell none) fun k σ => (inner φ ns σ).bind fun ψ σ => R.ok (Slot.cl k :: ψ) σ).bind f) Q2 E := hp
    rw [newO_eq, bind_assoc] at hp
    have kk := push_keep q.h { cls := .type "cell", data := .cell none }
    have hcell : (q.h.push { cls := .type "cell", data := .cell none }).IsCell q.h.objs.size none := ⟨_, push_at _ _, rfl⟩
    have ho : HO (q.h.push { cls := .type "cell", data := .cell none }) (upd q.ρ q.σ.n q.h.objs.size) (q.σ.n + 1) q.h.objs.size (.cell none) := ⟨none, hcell, trivial⟩
    have S1 : St D.B0 fr ⟨upd q.ρ q.σ.n q.h.objs.size, snew q.σ (.cell none), q.h.push { cls := .type "cell", data := .cell none }, q.t⟩ := S.alloc kk (size_none _) ho fun _ z => by cases z
    have s1 : Step X fr q ⟨upd q.ρ q.σ.n q.h.objs.size, snew q.σ (.cell none), q.h.push { cls := .type "cell", data := .cell none }, q.t⟩ := Step.alloc kk (size_none _)
    have s1' : Step NoX fr q ⟨upd q.ρ q.σ.n q.h.objs.size, snew q.σ (.cell none), q.h.push { cls := .type "cell", data := .cell none }, q.t⟩ := Step.alloc kk (size_none _)
    obtain ⟨ψ, q', h1, h2, h3, h4, h5, h6, h7, h8, h9⟩ := ih (q := ⟨upd q.ρ q.σ.n q.h.objs.size, snew q.σ (.cell none), q.h.push { cls := .type "cell", data := .cell none }, q.t⟩) (acc := (x, q.h.objs.size) :: acc) (List.nodup_cons.mp hn).2 S1 (s.then s1) (V.on S s1') hp
    rw [bind_ok] at h9
    have hsz : (q.h.push { cls := .type "cell", data := .cell none }).objs.size = q.h.objs.size + 1 := Heap.size_push ..
    refine ⟨Slot.cl q.σ.n :: ψ, q', h1, h2, h3, h4, s1'.then h5, h6, congrArg (· + 1) h7, fun i y k h => ?_, h9⟩
    have hce : ∀ z, (cellsFrom q.h.objs.size ((x, .cell) :: r) acc).lookup z = (cellsFrom (q.h.push { cls := .type "cell", data := .cell none }).objs.size r ((x, q.h.objs.size) :: acc)).lookup z := fun z => by rw [hsz]; rfl
    cases i with
    | zero =>
      simp at h
      obtain ⟨rfl, rfl⟩ := h
      refine ⟨fun e => (by cases e), fun _ => ⟨q.σ.n, rfl, Nat.lt_of_lt_of_le (Nat.lt_succ_self _) h5.le, ?_⟩, fun e => by cases e⟩
      rw [hce, cellsFrom_not (List.nodup_cons.mp hn).1, h5.same q.σ.n (Nat.lt_succ_self _)]
      simp [upd]
    | succ i =>
      obtain ⟨g1, g2, g3⟩ := h8 i y k (by simpa using h)
      refine ⟨g1, fun e => ?_, g3⟩
      obtain ⟨c, a1, a2, a3⟩ := g2 e
      exact ⟨c, a1, a2, (hce y).trans a3⟩
end
end Mine
end

section
open PySem PySem.W PyProof.Rows PySem.Calls PySem.Spec
namespace Mine
set_option autoImplicit false

theorem lookup_of_get {α : Type} : ∀ {l : List (Str × α)} {i : Nat} {x : Str} {v : α}, (l.map (·.1)).Nodup → l[i]? = some (x, v) → l.lookup x = some v
  | [], i, _, _, _, h => by simp at h
  | (y, w) :: l, 0, x, v, hn, h => by
    simp at h
    obtain ⟨rfl, rfl⟩ := h
    simp
  | (y, w) :: l, i + 1, x, v, hn, h => by
    have h : l[i]? = some (x, v) := by simpa using h
    have hm : x ∈ l.map (·.1) := by
      have := List.mem_of_getElem? h
      exact List.mem_map.mpr ⟨_, this, rfl⟩
    have hne : (x == y) = false := by
      have : x ≠ y := fun e => (List.nodup_cons.mp hn).1 (e ▸ hm)
      simpa using this
    rw [List.lookup_cons, hne]
    exact lookup_of_get (List.nodup_cons.mp hn).2 h
theorem relabel_get {scope : Scope} {env : Env} (hn : (scope.names.map (·.1)).Nodup) {i : Nat} {x : Str} {k : NameKind} (h : scope.names[i]? = some (x, k)) :
    (relabel scope env).names.lookup x = some (if (k == .free && env.scope.kind == .function && env.kindOf x == some .cell) then .cell else k) := by
  have e : (relabel scope env).names = scope.names.map fun y => (y.1, if (y.2 == .free && env.scope.kind == .function && env.kindOf y.1 == some .cell) then .cell else y.2) := by
    unfold relabel
    refine List.map_congr_left fun y _ => ?_
    obtain ⟨n, k⟩ := y
    dsimp only
    split <;> rfl
  rw [e]
  refine lookup_of_get (i := i) ?_ ?_
  · rw [List.map_map]; exact hn
  · rw [List.getElem?_map, h]; rfl
theorem names_get {l : List (Str × NameKind)} {i : Nat} {x : Str} {t : NT} (h : (namesOf l)[i]? = some (x, t)) : ∃ k, l[i]? = some (x, k) ∧ ntOf k = t := by
  unfold namesOf at h
  rw [List.getElem?_map] at h
  cases e : l[i]? with
  | none => rw [e] at h; cases h
  | some y => rw [e] at h; cases h; exact ⟨y.2, rfl, rfl⟩
theorem InN.kinds {Γ : Names} {l : List (Str × NameKind)} {ns : List NE} (h : InN Γ l ns) : ∀ y ∈ l, y.2 = .local ∨ y.2 = .cell ∨ y.2 = .free ∨ y.2 = .globalImplicit := by
  induction h with
  | nil => intro y h; cases h
  | loc _ ih => intro y h; exact (List.mem_cons.mp h).elim (fun e => by subst e; exact .inl rfl) (ih y)
  | cel _ ih => intro y h; exact (List.mem_cons.mp h).elim (fun e => by subst e; exact .inr (.inl rfl)) (ih y)
  | up _ _ _ ih => intro y h; exact (List.mem_cons.mp h).elim (fun e => by subst e; exact .inr (.inr (.inl rfl))) (ih y)
  | glo _ ih => intro y h; exact (List.mem_cons.mp h).elim (fun e => by subst e; exact .inr (.inr (.inr rfl))) (ih y)
theorem InN.free {B0 : Heap} {Γ : Names} {env : Env} {φ : Vars} {q : Pt} {l : List (Str × NameKind)} {ns : List NE} (h : InN Γ l ns) (V : Vs Γ env φ q) : ∀ x, (x, NameKind.free) ∈ l → ∃ c, env.cells.lookup x = some c := by
  induction h with
  | nil => intro y h; cases h
  | loc _ ih => intro y h; exact (List.mem_cons.mp h).elim (fun e => by cases e) (ih y)
  | cel _ ih => intro y h; exact (List.mem_cons.mp h).elim (fun e => by cases e) (ih y)
  | @up x r ns j k hj hk _ ih =>
    intro y h
    rcases List.mem_cons.mp h with h | h
    · cases h
      obtain ⟨c, _, _, e⟩ := V.cells j _ k hj hk
      exact ⟨_, e⟩
    · exact ih y h
  | glo _ ih => intro y h; exact (List.mem_cons.mp h).elim (fun e => by cases e) (ih y)

section
variable {D : Wd} {m : Nat} {Γ : Names}
theorem inner_env {fr : List Env} {env : Env} {scope : Scope} {L : Addr} {ns : List NE} (he : EnvOK D.B0 Γ env fr) (hI : InN Γ scope.names ns) (hn : (scope.names.map (·.1)).Nodup) (hk : scope.kind = .function) (hL : D.B0.get? L = none) (cells : List (Str × Addr)) (qual : Str) (func : Option Addr) (code : Value) :
    EnvOK D.B0 (namesOf scope.names) { scope := relabel scope env, locals := L, globals := env.globals, cells := cells, qual := qual, func := func, code := code, frame := env.frame, builtins := env.builtins } fr := by
  have kk : ∀ (i : Nat) (x : Str) (t : NT), (namesOf scope.names)[i]? = some (x, t) → ∃ k, scope.names[i]? = some (x, k) ∧ ntOf k = t ∧ (k = .local ∨ k = .cell ∨ k = .free ∨ k = .globalImplicit) := fun i x t h => by
    obtain ⟨k, h1, h2⟩ := names_get h
    exact ⟨k, h1, h2, hI.kinds _ (List.mem_of_getElem? h1)⟩
  refine ⟨hk, he.glob, he.blt, fun i x h => ?_, fun i x h => ?_, fun i x h => ?_, fun i x h => ?_, ?_, he.top, hL⟩
  · obtain ⟨k, h1, h2, h3⟩ := kk i x _ h
    rcases h3 with rfl | rfl | rfl | rfl <;> cases h2
    exact (relabel_get hn h1).trans rfl
  · obtain ⟨k, h1, h2, h3⟩ := kk i x _ h
    rcases h3 with rfl | rfl | rfl | rfl <;> cases h2
    exact (relabel_get hn h1).trans rfl
  · obtain ⟨k, h1, h2, h3⟩ := kk i x _ h
    rcases h3 with rfl | rfl | rfl | rfl <;> cases h2
    have e := relabel_get (env := env) hn h1
    split at e
    · exact .inl e
    · exact .inr e
  · obtain ⟨k, h1, h2, h3⟩ := kk i x _ h
    rcases h3 with rfl | rfl | rfl | rfl <;> cases h2
    exact (relabel_get hn h1).trans rfl
  · unfold namesOf
    rw [List.map_map]; exact hn
/-- the names of an inner block, when it begins -/
theorem inner_vs {env cenv : Env} {φ ψ : Vars} {q₁ q : Pt} {scope : Scope} {ns : List NE} {L : Addr} {n : Nat} (hI : InN Γ scope.names ns) (hn : (scope.names.map (·.1)).Nodup) (V : Vs Γ env φ q) (hψ : ψ.length = scope.names.length)
    (hc : cenv.cells = cellsFrom n scope.names (closL env.cells scope.names [])) (hl : q.h.Ns cenv.locals (fun _ => none))
    (h : ∀ (i : Nat) (x : Str) (k : NameKind), scope.names[i]? = some (x, k) → (k = .local → ψ[i]? = some (Slot.lv none)) ∧
        (k = .cell → ∃ c, ψ[i]? = some (Slot.cl c) ∧ c < q.σ.n ∧ (cellsFrom n scope.names (closL env.cells scope.names [])).lookup x = some (q.ρ c)) ∧
        (k = .free → ∃ c, ψ[i]? = some (Slot.cl c) ∧ c < q.σ.n ∧ env.cells.lookup x = some (q.ρ c))) : Vs (namesOf scope.names) cenv ψ q := by
  have kk : ∀ (i : Nat) (x : Str) (t : NT), (namesOf scope.names)[i]? = some (x, t) → ∃ k, scope.names[i]? = some (x, k) ∧ ntOf k = t ∧ (k = .local ∨ k = .cell ∨ k = .free ∨ k = .globalImplicit) := fun i x t h => by
    obtain ⟨k, h1, h2⟩ := names_get h
    exact ⟨k, h1, h2, hI.kinds _ (List.mem_of_getElem? h1)⟩
  refine ⟨by rw [hψ]; simp [namesOf], ⟨_, hl, fun i x hx => ?_⟩, fun i x t hx ht => ?_⟩
  · obtain ⟨k, h1, h2, h3⟩ := kk i x _ hx
    rcases h3 with rfl | rfl | rfl | rfl <;> cases h2
    exact ⟨none, (h i x _ h1).1 rfl, trivial⟩
  · obtain ⟨k, h1, h2, h3⟩ := kk i x _ hx
    rcases h3 with rfl | rfl | rfl | rfl
    · rw [← h2] at ht; rcases ht with e | e <;> cases e
    · obtain ⟨c, a1, a2, a3⟩ := (h i x _ h1).2.1 rfl
      exact ⟨c, a1, a2, by rw [hc]; exact a3⟩
    · obtain ⟨c, a1, a2, a3⟩ := (h i x _ h1).2.2 rfl
      refine ⟨c, a1, a2, ?_⟩
      rw [hc]
      have : ∀ (r : List (Str × NameKind)) (n : Nat) (acc : List (Str × Addr)) (i : Nat), (r.map (·.1)).Nodup → r[i]? = some (x, .free) → (cellsFrom n r acc).lookup x = acc.lookup x := by
        intro r
        induction r with
        | nil => intro n acc i _ h; simp at h
        | cons y r ih =>
          intro n acc i hn h
          obtain ⟨y, k⟩ := y
          cases i with
          | zero =>
            simp at h
            obtain ⟨rfl, rfl⟩ := h
            have hnot : y ∉ r.map (·.1) := (List.nodup_cons.mp hn).1
            show (cellsFrom n r acc).lookup y = _
            exact cellsFrom_not hnot
          | succ i =>
            have h : r[i]? = some (x, .free) := by simpa using h
            have hm : x ∈ r.map (·.1) := List.mem_map.mpr ⟨_, List.mem_of_getElem? h, rfl⟩
            have hne : (x == y) = false := by
              have : x ≠ y := fun e => (List.nodup_cons.mp hn).1 (e ▸ hm)
              simpa using this
            show (if (k == .cell) = true then cellsFrom (n + 1) r ((y, n) :: acc) else cellsFrom n r acc).lookup x = _
            split
            · rw [ih _ _ i (List.nodup_cons.mp hn).2 h, List.lookup_cons, hne]
            · exact ih _ _ i (List.nodup_cons.mp hn).2 h
      rw [this scope.names _ _ i hn h1, closL_free hn h1, a3]; rfl
    · rw [← h2] at ht; rcases ht with e | e <;> cases e

theorem pushCells_size : ∀ (names : List (Str × NameKind)) (h : Heap), h.objs.size ≤ (pushCells h names).objs.size
  | [], _ => Nat.le_refl _
  | (_, kind) :: r, h => by
    show h.objs.size ≤ (if kind == .cell then pushCells (h.push { cls := .type "cell", data := .cell none }) r else pushCells h r).objs.size
    split
    · refine Nat.le_trans ?_ (pushCells_size r _)
      rw [Heap.size_push]; exact Nat.le_succ _
    · exact pushCells_size r h

/-- the list of a comprehension, and what is done with it -/
theorem comp_run {elt iter : Expr} {scope : Scope} {pos xp : Pos} {x : Str} {i : Nat} {ns : List NE} {a y : DX} {n : Nat} {c : C} {A : Around} {fr : List Env} {env : Env} {φ : Vars} {p : Pt} {Q Q0 : Value → Shared → Prop} {E : Value → Shared → Prop} {use : Option (Value → Sem Unit)} {ipos : Pos} (ha : SoundX D m Γ iter a) (hy : SoundX D m (namesOf scope.names) elt y) (hI : InN Γ scope.names ns) (hx : (namesOf scope.names)[i]? = some (x, .loc) ∨ (namesOf scope.names)[i]? = some (x, .cel))
    (hn : (scope.names.map (·.1)).Nodup := by decide +kernel) (hk : scope.kind = .function := by rfl) (hs : ∀ env v, foldedSetIterable iter env v = pure v := by intro _ _; rfl)
    (hC : SoundC D n c) (hr : Room A (24 * n + m)) (hf : A.frames = some fr) (he : EnvOK D.B0 Γ env fr) (S : St D.B0 fr p) (V : Vs Γ env φ p)
    (hend : ∀ (q : Pt) (C : Addr) (v : Value) (acc : AV), St D.B0 fr q → Step NoX fr p q → p.h.get? C = none → D.B0.get? C = none → C ∉ frL fr → (∃ mm, q.h.Ns C mm) → VR q.h q.ρ q.σ.n v acc →
      Post D.B0 D.s₀ fr NoX NoE p RV (.ok acc q.σ) Q0 E → compPost (model D.prog D.w) A E use Q v C (.ok .next) (sh D.s₀ q))
    (hp : Post D.B0 D.s₀ fr NoX NoE p RV (xComp ns (.one i) a y c φ p.σ) Q0 E) :
    wpAny (model D.prog D.w) A (comprehension (.ListComp elt [⟨.Name x xp, iter, [], 0⟩] scope pos) scope env ipos (newList []) false (eval iter env) use) Q E (sh D.s₀ p) := by
  refine wpAny_comprehension_free (cl := closL env.cells scope.names []) rfl (hs env) (closureFor_eq (hI.free (B0 := D.B0) V)) hk (fun z hz hl => ?_) ?_
  · obtain ⟨j, hj⟩ := List.getElem?_of_mem hz
    obtain ⟨z1, z2⟩ := z
    cases hl
    exact lookup_of_get hn hj
  refine ha hC hr hf he S V (Post.bindAt hp (Step.refl NoX fr p) (fun _ _ _ h => h) (fun _ _ _ _ => trivial) fun q1 u v S1 s1 _ x1 h1 => ?_)
  refine it_begin (X := NoX) (p := p) S1 x1 h1 fun it h2 hit01 hk2 hit2 hp2 => ?_
  have hit0 := s1.none_of hit01
  have S2 : St D.B0 fr { q1 with h := h2 } := S1.push hk2
  have s2 : Step NoX fr q1 { q1 with h := h2 } := Step.push hk2
  -- the list
  rw [newO_eq] at hp2
  refine wpAny_newObj_type ?_ (by show (#[] : Array Value).size ≤ sizeLine; decide +kernel)
  have k3 := push_keep h2 { cls := .type "list", data := .seq #[] }
  have hl3 : (h2.push { cls := .type "list", data := .seq #[] }).IsList h2.objs.size #[] := ⟨_, push_at _ _, rfl, _, rfl⟩
  have S3 : St D.B0 fr ⟨upd q1.ρ q1.σ.n h2.objs.size, snew q1.σ (.list []), h2.push { cls := .type "list", data := .seq #[] }, q1.t⟩ := S2.alloc k3 (size_none _) ⟨#[], hl3, .nil⟩ fun _ _ => ⟨_, push_at _ _, rfl⟩
  have s3 : Step NoX fr { q1 with h := h2 } ⟨upd q1.ρ q1.σ.n h2.objs.size, snew q1.σ (.list []), h2.push { cls := .type "list", data := .seq #[] }, q1.t⟩ := Step.alloc k3 (size_none _)
  generalize hq3 : (⟨upd q1.ρ q1.σ.n h2.objs.size, snew q1.σ (.list []), h2.push { cls := .type "list", data := .seq #[] }, q1.t⟩ : Pt) = q3 at S3 s3
  have hacc : Value.ref h2.objs.size = .ref (q3.ρ q1.σ.n) := by rw [← hq3]; simp [upd]
  have hlt3 : q1.σ.n < q3.σ.n := by rw [← hq3]; exact Nat.lt_succ_self _
  have hσ3 : snew q1.σ (.list []) = q3.σ := by rw [← hq3]
  have hsh3 : sh D.s₀ { q1 with h := h2.push { cls := .type "list", data := .seq #[] } } = sh D.s₀ q3 := by rw [← hq3]
  rw [hσ3] at hp2
  have hit3 : ItAt q3.h q3.ρ q3.σ.n it u 0 := hit2.keep (q := { q1 with h := h2 }) S2 s3 (Loose.no _)
  show wpAny _ _ (newFunctionEnv scope env.globals (closL env.cells scope.names []) [] env.qual none .none (some env)) _ _ (sh D.s₀ { q1 with h := h2.push { cls := .type "list", data := .seq #[] } })
  rw [hsh3]
  -- the block
  simp only [newFunctionEnv, Option.isSome_some, if_true]
  refine wpAny_bind (wpAny_alloc ?_)
  refine wpAny_bind (wpAny_layCells _ (fun name kind cells => by cases hkc : kind == NameKind.cell <;> simp [hkc]) _ _ _ _ ?_)
  refine wpAny_bind (wpAny_pure (wpAny_pure ?_))
  have k4 := push_keep q3.h { cls := .type "dict", data := .dict #[] }
  have S4 : St D.B0 fr { q3 with h := q3.h.push { cls := .type "dict", data := .dict #[] } } := S3.push k4
  have s4 : Step NoX fr q3 { q3 with h := q3.h.push { cls := .type "dict", data := .dict #[] } } := Step.push k4
  have hns4 : (q3.h.push { cls := .type "dict", data := .dict #[] }).Ns q3.h.objs.size (fun _ => none) := Heap.Ns.new q3.h (.type "dict")
  have s14' : Step NoX fr q1 { q3 with h := q3.h.push { cls := .type "dict", data := .dict #[] } } := (s2.then s3).then s4
  have V4 : Vs Γ env φ { q3 with h := q3.h.push { cls := .type "dict", data := .dict #[] } } := (V.on S s1).on S1 s14'
  have s14 := s1.then s14'
  obtain ⟨ψ, q5, e5, t5, S5, s15, s45, V5, l5, g5, hp5⟩ := inner_ok (q := { q3 with h := q3.h.push { cls := .type "dict", data := .dict #[] } }) (acc := closL env.cells scope.names []) hI hn S4 s14 V4 hp2
  have hL3 : q3.h.get? q3.h.objs.size = none := size_none _
  have hL1 : p.h.get? q3.h.objs.size = none := s1.none_of ((s2.then s3).none_of hL3)
  have hLb : D.B0.get? q3.h.objs.size = none := by
    cases e : D.B0.get? q3.h.objs.size with
    | none => rfl
    | some o => have := S.base _ o e; rw [hL1] at this; cases this
  have hns5 : q5.h.Ns q3.h.objs.size (fun _ => none) := S4.ns s45 id hns4
  have hit5 : ItAt q5.h q5.ρ q5.σ.n it u 0 := (hit3.keep S3 s4 (Loose.no _)).keep (q := { q3 with h := q3.h.push { cls := .type "dict", data := .dict #[] } }) S4 s45 (Loose.no _)
  have hitb : D.B0.get? it = none := by
    cases e : D.B0.get? it with
    | none => rfl
    | some o => have := S.base _ o e; rw [hit0] at this; cases this
  have hsh5 : ({ (sh D.s₀ q3) with heap := pushCells ((sh D.s₀ q3).heap.push { cls := .type "dict", data := .dict #[] }) scope.names } : Shared) = sh D.s₀ q5 := by
    show _ = (⟨q5.h, D.s₀.gens, D.s₀.drawn, q5.t, D.s₀.os⟩ : Shared)
    rw [e5, t5]
  show codeAny _ _ _ _ ({ (sh D.s₀ q3) with heap := pushCells ((sh D.s₀ q3).heap.push { cls := .type "dict", data := .dict #[] }) scope.names } : Shared)
  rw [hsh5]
  have hρ5 : q5.ρ q1.σ.n = q3.ρ q1.σ.n := s45.same _ hlt3
  have hlt5 : q1.σ.n < q5.σ.n := Nat.lt_of_lt_of_le hlt3 s45.le
  rw [show (Value.ref h2.objs.size) = .ref (q5.ρ q1.σ.n) by rw [hacc, hρ5]]
  generalize hcenv : (({ scope := relabel scope env, locals := (sh D.s₀ q3).heap.objs.size, globals := env.globals, cells := cellsFrom ((sh D.s₀ q3).heap.push { cls := .type "dict", data := .dict #[] }).objs.size scope.names (closL env.cells scope.names []), qual := env.qual, func := none, code := env.code, frame := env.frame, builtins := env.builtins } : Env)) = cenv
  have hloc : cenv.locals = q3.h.objs.size := by rw [← hcenv]
  have he5 : EnvOK D.B0 (namesOf scope.names) cenv fr := by
    rw [← hcenv]
    exact inner_env he hI hn hk hLb ..
  have V5' : Vs (namesOf scope.names) cenv ψ q5 := inner_vs (q₁ := q5) (L := 0) hI hn V5 l5 (by rw [← hcenv]) (by rw [hloc]; exact hns5) g5
  -- the loop
  have go : codeAny (model D.prog D.w) A (.compLoop (.ListComp elt [⟨.Name x xp, iter, [], 0⟩] scope pos) 0 (.ref it) (.ref (q5.ρ q1.σ.n)) cenv) (compPost (model D.prog D.w) A E use Q (.ref (q5.ρ q1.σ.n)) cenv.locals) (sh D.s₀ q5) := by
    refine codeAny_compLoop_list (fun k s => ∃ q j ψ, s = sh D.s₀ q ∧ St D.B0 fr q ∧ Step NoX fr p q ∧ q.ρ q1.σ.n = q5.ρ q1.σ.n ∧ q1.σ.n < q.σ.n ∧ ItAt q.h q.ρ q.σ.n it u j ∧ Vs (namesOf scope.names) cenv ψ q ∧
      Post D.B0 D.s₀ fr NoX NoE p RV (compLoop (fun ψ σ => y c ψ σ) (.one i) u q1.σ.n k j ψ q.σ) Q0 E) (fun k s hI => ?_) turns ⟨q5, 0, ψ, rfl, S5, s15, rfl, hlt5, hit5, V5', hp5⟩ (by intro v; rfl)
    obtain ⟨q, j, ψ, rfl, S', s', hρ, hlt, hit', V', hpk⟩ := hI
    cases k with
    | zero => exact hpk.elim
    | succ k =>
      have hpk : Post D.B0 D.s₀ fr NoX NoE p RV (next u j q.σ (.ok (.ref q1.σ.n) q.σ) fun v => (putT (.one i) v ψ q.σ).bind fun ψ σ => (y c ψ σ).sure fun w σ => getL σ q1.σ.n fun l => ifB (Nat.blt (List.length l) 100000) (fL (l ++ [w]) fun l => setO σ q1.σ.n (.list l) fun σ => fN (j + 1) fun j => compLoop (fun ψ σ => y c ψ σ) (.one i) u q1.σ.n k j ψ σ) .bad) Q0 E := hpk
      refine it_next hr S' s' hit0 hitb hit' hpk (fun h6 hk6 S6 s6 hp6 => ?_) fun h6 t6 v6 b6 hk6 S6 s6 hit6 r6 hp6 => ?_
      · -- the end
        obtain ⟨mm, hn6, _⟩ := V'.ns
        have hne : cenv.locals ≠ it := fun e => by
          obtain ⟨o, e1, ⟨vs, e2⟩, _⟩ := hit'.obj
          obtain ⟨o', es, ep, e3, e4, _⟩ := hn6
          rw [e, e1] at e3; cases e3
          rw [e2] at e4; cases e4
        have hnf : cenv.locals ∉ frL fr := fun hm => by
          obtain ⟨_, o', es', n', e', _⟩ := frs_mem S.frs hm
          rw [hloc, hL1] at e'; cases e'
        have x6 : VR h6 q.ρ q.σ.n (.ref (q5.ρ q1.σ.n)) (.ref q1.σ.n) := by rw [← hρ]; exact .ref hlt
        exact hend { q with h := h6 } cenv.locals _ _ S6 s6 (by rw [hloc]; exact hL1) he5.fresh hnf ⟨mm, hn6.extBut hk6 hne⟩ x6 hp6
      · -- one more
        have V6 : Vs (namesOf scope.names) cenv ψ { q with h := h6, t := t6 } := by
          obtain ⟨mm, hn6, hm6⟩ := V'.ns
          obtain ⟨o₀, e₀, ⟨vs₀, d₀⟩, _, hh₀⟩ := hit'.obj
          have hne : cenv.locals ≠ it := fun e => by
            obtain ⟨o', es, ep, e3, e4, _⟩ := hn6
            rw [e, e₀] at e3; cases e3
            rw [d₀] at e4; cases e4
          have hard : ∀ a o, q.h.get? a = some o → Hard o → h6.get? a = some o := fun a o e z => hk6 a o (fun w => by subst w; rw [e₀] at e; cases e; exact hh₀ z) e
          exact ⟨V'.len, ⟨mm, hn6.extBut hk6 hne, fun i x hx => let ⟨v, f1, f2⟩ := hm6 i x hx; ⟨v, f1, OV.ext hard (Nat.le_refl _) (fun _ _ => rfl) f2⟩⟩, V'.cells⟩
        refine wpAny_assign_Name ?_
        have hput : Post D.B0 D.s₀ fr NoX NoE p RV ((putV ψ i b6 q.σ fun φ σ => .ok φ σ).bind fun ψ σ => (y c ψ σ).sure fun w σ => getL σ q1.σ.n fun l => ifB (Nat.blt (List.length l) 100000) (fL (l ++ [w]) fun l => setO σ q1.σ.n (.list l) fun σ => fN (j + 1) fun j => compLoop (fun ψ σ => y c ψ σ) (.one i) u q1.σ.n k j ψ σ) .bad) Q0 E := hp6
        rw [putV_bind] at hput
        have loc : ∃ k', (namesOf scope.names)[i]? = some (x, k') ∧ (k' = .loc ∨ k' = .cel) := hx.elim (fun h => ⟨_, h, .inl rfl⟩) fun h => ⟨_, h, .inr rfl⟩
        obtain ⟨k', hx', hk'⟩ := loc
        refine put_ok (p := p) (q := { q with h := h6, t := t6 }) he5 S6 s6 V6 r6 hx' hk' (fun o e => by rw [hloc, hL1] at e; cases e) hput fun q7 ψ7 S7 s7 sq7 V7 hp7 => ?_
        rw [bind_ok] at hp7
        have hL7 : Loose ({ q with h := h6, t := t6 } : Pt).h (· = cenv.locals) := fun a o e w => by
          subst w
          obtain ⟨mm, ⟨o', es, ep, e', hd, _⟩, _⟩ := V6.ns
          rw [e'] at e; cases e
          exact .inl ⟨es, ep, hd⟩
        have hit7 : ItAt q7.h q7.ρ q7.σ.n it u (j + 1) := hit6.keep (q := { q with h := h6, t := t6 }) S6 sq7 hL7
        refine hy hC hr hf he5 S7 V7 (Post.sure hp7 fun q8 w v8 S8 s8 x8 hp8 => ?_)
        obtain ⟨l8, vs8, g8, hl8, xl8, hp9⟩ := getL_okAt S8 hp8
        obtain ⟨hb9, hp10⟩ := ifB_ok hp9
        rw [fL_eq, setO_eq] at hp10
        rw [fN_eq] at hp10
        have hz : vs8.size ≤ sizeLine := by
          have : l8.length < 100000 := Nat.le_of_ble_eq_true hb9
          rw [← Array.length_toList, xl8.length]
          exact Nat.le_of_lt (Nat.lt_of_lt_of_le this (by decide +kernel))
        have hlt7 : q1.σ.n < q7.σ.n := Nat.lt_of_lt_of_le hlt (show q.σ.n ≤ q7.σ.n from sq7.le)
        have hρ7 : q7.ρ q1.σ.n = q.ρ q1.σ.n := sq7.same _ hlt
        have hρ8 : q8.ρ q1.σ.n = q5.ρ q1.σ.n := (s8.same _ hlt7).trans (hρ7.trans hρ)
        have hlt8 : q1.σ.n < q8.σ.n := Nat.lt_of_lt_of_le hlt7 s8.le
        rw [← hρ8]
        obtain ⟨ob8, eb8, db8⟩ := S8.nod _ _ g8
        have hpl8 : PlainL (sh D.s₀ q8).heap (q8.ρ q1.σ.n) vs8 := by
          obtain ⟨o, e, hc, n, hd⟩ := id hl8
          rw [e] at eb8; cases eb8
          exact ⟨_, n, e, hc, db8, hd⟩
        refine list_append_plainL (s := sh D.s₀ q8) hpl8 (fun h9 hpl9 hs9 => ?_) hz
        have hl9 := hpl9.isList
        obtain ⟨o8, e8, c8, n8, d8⟩ := id hl8
        have hard : ∀ a o, q8.h.get? a = some o → Hard o → h9.get? a = some o := fun a o e z => (hs9.2 a fun w => by
          subst w; rw [e8] at e; cases e; exact z.plain.2.1 _ _ d8 c8).trans e
        have ho9 : HO h9 q8.ρ q8.σ.n (q8.ρ q1.σ.n) (.list (l8 ++ [w])) := by
          refine ⟨_, hl9, ?_⟩
          have : (vs8.push v8).toList = vs8.toList ++ [v8] := by simp
          rw [this]
          exact (xl8.append (.cons x8 .nil)).ext hard (Nat.le_refl _) fun _ _ => rfl
        have S9 := S8.turn (t := q8.t) hlt8 hs9 ho9 fun _ _ => let ⟨o, _, e, _, dn, _⟩ := hpl9; ⟨o, e, dn⟩
        have s9 : Step NoX fr q8 ⟨q8.ρ, sset q8.σ q1.σ.n (.list (l8 ++ [w])), h9, q8.t⟩ := Step.turn hlt8 hs9 ho9
        refine ⟨k, Nat.lt_succ_self _, ⟨q8.ρ, sset q8.σ q1.σ.n (.list (l8 ++ [w])), h9, q8.t⟩, j + 1, ψ7, rfl, S9, (s7.then s8).then s9, rfl, hlt8, ?_, ?_, hp10⟩
        · exact ((hit7.keep S7 s8 (Loose.no _)).keep S8 s9 (Loose.no _))
        · exact (V7.on S7 s8).on S8 s9
  show codeAny _ _ _ (compPost _ _ _ _ _ _ q3.h.objs.size) _
  rw [← hloc]
  refine codeAny_compStart_list ?_ ?_
  · exact go
  · exact it_self hit5 go
/-- the names of an inner block are let go -/
theorem let_go {fr : List Env} {p q : Pt} {X : Addr → Prop} {C : Addr} {h7 : Heap} (S : St D.B0 fr q) (s : Step X fr p q) (hC1 : p.h.get? C = none) (hC2 : D.B0.get? C = none) (hnf : C ∉ frL fr) (hn : ∃ mm, q.h.Ns C mm) (hs7 : Heap.SameBut C q.h h7) :
    St D.B0 fr { q with h := h7 } ∧ Step X fr p { q with h := h7 } ∧ ∀ a o, q.h.get? a = some o → Hard o → h7.get? a = some o := by
  obtain ⟨mm, o', es, ep, e', hd, _⟩ := hn
  have hh : ∀ o, q.h.get? C = some o → ¬ Hard o := fun o e => by
    rw [e'] at e; cases e
    exact not_hard_dict hd
  have hno : ∀ k, k < q.σ.n → q.ρ k ≠ C := fun k hk y => S.notOwn e' (fun _ _ z => by rw [hd] at z; cases z) (fun _ z => by rw [hd] at z; cases z) k hk y.symm
  exact ⟨S.off (t := q.t) hC2 hno hh hs7.extBut fun hm => absurd hm hnf, s.off (t := q.t) (fun o e => by rw [hC1] at e; cases e) hs7.extBut, fun a o e z => (hs7.2 a fun w => hh o (w ▸ e) z).trans e⟩
theorem s_comp {elt iter : Expr} {scope : Scope} {pos xp : Pos} {x : Str} {i : Nat} {ns : List NE} {a y : DX} (ha : SoundX D m Γ iter a) (hy : SoundX D m (namesOf scope.names) elt y) (hI : InN Γ scope.names ns) (hx : (namesOf scope.names)[i]? = some (x, .loc) ∨ (namesOf scope.names)[i]? = some (x, .cel))
    (hn : (scope.names.map (·.1)).Nodup := by decide +kernel) (hk : scope.kind = .function := by rfl) (hs : ∀ env v, foldedSetIterable iter env v = pure v := by intro _ _; rfl) :
    SoundX D m Γ (.ListComp elt [⟨.Name x xp, iter, [], 0⟩] scope pos) (xComp ns (.one i) a y) := by
  intro n c hC A fr env φ p Q E hr hf he S V hp
  rw [eval_ListComp]
  refine comp_run (Q0 := Q) ha hy hI hx hn hk hs hC hr hf he S V (fun q C v acc S' s' h1 h2 h3 h4 h5 hp => ?_) hp
  obtain ⟨mm, hn4⟩ := id h4
  refine ⟨mm, hn4, fun h7 hs7 => ?_⟩
  obtain ⟨S7, s7, hard⟩ := let_go S' s' h1 h2 h3 h4 hs7
  exact hp.ok (q := { q with h := h7 }) S7 s7 (VR.ext hard (Nat.le_refl _) (fun _ _ => rfl) h5)
end
end Mine
end

section
open PySem PySem.W PyProof.Rows PySem.Calls PySem.Spec
namespace Mine
set_option autoImplicit false

theorem Frs.fun {B0 h : Heap} : ∀ {fr : List Env}, Frs B0 h fr → h.FunFrames B0 fr
  | [], _ => trivial
  | env :: r, ⟨hk, ⟨L, o, es, n, h1, h2, h3, h4⟩, hr⟩ => ⟨by rw [hk]; decide, ⟨L, o, h1, h2, h3, fun vs q => by rw [h4] at q; cases q⟩, Frs.fun hr⟩

/-- in flight, with a traceback whose mark is x -/
noncomputable def FlyT (p q : Pt) (e : Addr) (k : Nat) (x : Value) : Prop :=
  k < 28 ∧ p.h.get? e = none ∧ ∃ o d vs T oT ts, q.h.get? e = some o ∧ o.cls = .ref casFail ∧ o.dict = some d ∧ p.h.get? d = none ∧ KindAt q.h d k ∧ o.data = .fields vs ∧ vs.size = 6 ∧
    vs[1]? = some (.ref T) ∧ T ≠ e ∧ p.h.get? T = none ∧ q.h.get? T = some oT ∧ oT.cls = .type "traceback" ∧ oT.data = .fields ts ∧ ts[3]? = some x
theorem FlyT.fly {L : Option Addr} {p q : Pt} {e : Addr} {k : Nat} {x : Value} (f : FlyT p q e k x) (hx : x = .none ∨ ∃ l, L = some l ∧ x = rawInt l) : Fly L p q e k := by
  obtain ⟨h1, h2, o, d, vs, T, oT, ts, h3, h4, h5, h6, h7, h8, h9, h10, h11, h12, h13, h14, h15, h16⟩ := f
  refine ⟨h1, h2, o, d, vs, h3, h4, h5, h6, h7, h8, h9, .inr ⟨T, oT, ts, h10, h11, h12, h13, h14, h15, ?_⟩⟩
  rcases hx with rfl | ⟨l, rfl, rfl⟩
  · exact .inl h16
  · exact .inr ⟨l, rfl, h16⟩

section
variable {B0 : Heap} {s₀ : Shared} {fr : List Env} {X : Addr → Prop} {p q : Pt}
/-- things of a flight are turned, frames are looked at -/
theorem St.exc {M : Addr → Prop} {h' : Heap} (S : St B0 fr q) (s : Step X fr p q) (hM : ∀ b, M b → p.h.get? b = none) (hMB : ∀ b, M b → B0.get? b = none) (hMf : ∀ b o, M b → q.h.get? b = some o → (∃ vs, o.data = .fields vs) ∧ ¬ Hard o)
    (hk : ∀ b o, ¬ M b → q.h.get? b = some o → (b ∉ frL fr → h'.get? b = some o) ∧ ∃ sl, h'.get? b = some { o with slots := sl }) : St B0 fr { q with h := h' } ∧ Step X fr p { q with h := h' } := by
  have hard : ∀ a o, q.h.get? a = some o → Hard o → h'.get? a = some o := fun a o e x => (hk a o (fun m => (hMf a o m e).2 x) e).1 (S.notFrame e x.plain.2.2.1)
  refine ⟨⟨fun b o e => ?_, S.len, fun k o e => ?_, S.inj, S.new, S.frs.ext fun a hm o e => ?_, fun k l e => ?_, fun a hm => ?_⟩, s.le, s.same, s.newR, fun a o e => ?_, fun a o e hx hn => ?_⟩
  · have hnm : ¬ M b := fun m => by rw [hMB b m] at e; cases e
    refine (hk b o hnm (S.base b o e)).1 fun hm => ?_
    rw [(frs_mem S.frs hm).1] at e; cases e
  · refine (S.own k o e).ext hard (Nat.le_refl _) (fun _ _ => rfl) fun o2 e2 => ?_
    obtain ⟨ok, ek, hk'⟩ := S.at_k (sget_lt e)
    have : ok = o2 := by rw [ek] at e2; cases e2; rfl
    subst this
    refine (hk _ ok (fun m => ?_) e2).1 (S.notFrame e2 fun es n z => ?_)
    · obtain ⟨⟨vs, hd⟩, _⟩ := hMf _ _ m e2
      rcases hk' with ⟨_, _, hd', _⟩ | ⟨_, hd'⟩ <;> (rw [hd] at hd'; cases hd')
    · rcases hk' with ⟨_, _, hd', _⟩ | ⟨_, hd'⟩ <;> (rw [z] at hd'; cases hd')
  · obtain ⟨_, o', es, n, e', hd⟩ := frs_mem S.frs hm
    rw [e'] at e; cases e
    obtain ⟨sl, h2⟩ := (hk a _ (fun m => by
      obtain ⟨⟨vs, hd'⟩, _⟩ := hMf _ _ m e'
      rw [hd] at hd'; cases hd') e').2
    exact ⟨_, h2, fun es n h => ⟨es, n, h⟩⟩
  · obtain ⟨ob, e1, e2⟩ := S.nod k l e
    obtain ⟨ok, ek, hk'⟩ := S.at_k (sget_lt e)
    have : ok = ob := by rw [ek] at e1; cases e1; rfl
    subst this
    refine ⟨ok, (hk _ ok (fun m => ?_) e1).1 (S.notFrame e1 fun es n z => ?_), e2⟩
    · obtain ⟨⟨vs, hd⟩, _⟩ := hMf _ _ m e1
      rcases hk' with ⟨_, _, hd', _⟩ | ⟨_, hd'⟩ <;> (rw [hd] at hd'; cases hd')
    · rcases hk' with ⟨_, _, hd', _⟩ | ⟨_, hd'⟩ <;> (rw [z] at hd'; cases hd')
  · obtain ⟨m, hn2⟩ := S.str a hm
    refine ⟨m, ns_slots hn2 fun o e => (hk a o (fun mm => ?_) e).2⟩
    obtain ⟨_, o', es, n, e', hd⟩ := frs_mem S.frs hm
    obtain ⟨⟨vs, hd'⟩, _⟩ := hMf _ _ mm e'
    rw [hd] at hd'; cases hd'
  · obtain ⟨o', e'⟩ := s.alive a o e
    obtain ⟨sl, h2⟩ := (hk a o' (fun m => by rw [hM a m] at e; cases e) e').2
    exact ⟨_, h2⟩
  · have hnm : ¬ M a := fun m => by rw [hM a m] at e; cases e
    obtain ⟨h1, sl, h2⟩ := s.eff a o e hx hn
    refine ⟨fun hf => (hk a o hnm (h1 hf)).1 hf, ?_⟩
    obtain ⟨_, sl', h3⟩ := hk a _ hnm h2
    exact ⟨sl', h3⟩
theorem kind_keep {h h' : Heap} {d : Addr} {k : Nat} (x : KindAt h d k) (hk : ∀ o es n, h.get? d = some o → o.data = .dict es n → ∃ sl, h'.get? d = some { o with slots := sl }) : KindAt h' d k := by
  obtain ⟨m, t, ⟨o, es, ep, e, hd, r⟩, hm⟩ := x
  obtain ⟨sl, e'⟩ := hk o es ep e hd
  exact ⟨m, t, ⟨_, es, ep, e', hd, r⟩, hm⟩

section
variable {M : Model} {A : Around} {E : Value → Shared → Prop} {s : Shared}
/-- a new entry of the traceback -/
theorem entry_raw {base : Heap} {env : Env} {outer : List Env} {L e : Addr} {oe : Obj} {vs : Array Value} {head : Value} {hadNext : Bool} {Q : Unit → Shared → Prop}
    (hfr : A.frames = some (env :: outer)) (hl : s.heap.FunFrames base (env :: outer)) (hf : env.frame = some L)
    (he : s.heap.get? e = some oe) (hd : oe.data = .fields vs) (hsz : 1 < vs.size)
    (h : ∀ h' T ts, s.heap.get? T = none → T ≠ e → h'.get? T = some { cls := .type "traceback", data := .fields ts } → ts[3]? = some (rawInt L) →
      h'.get? e = some (oe.mapFields (·.setIfInBounds 1 (.ref T))) →
      (∀ b o, b ≠ e → s.heap.get? b = some o → (b ∉ (env :: outer).filterMap (·.frame) → h'.get? b = some o) ∧ ∃ sl, h'.get? b = some { o with slots := sl }) → Q () { s with heap := h' }) :
    wpAny M A (do let a ← frameOf env; let pl ← entryPlaceOf L hadNext; let b ← EntryCells.newEntry head a .none (rawInt L) .none pl; setField (.ref e) 1 b) Q E s := by
  have hene : e ∉ (env :: outer).filterMap (·.frame) := fun hm => by
    obtain ⟨_, o, ho, hnf⟩ := hl.mem hm
    rw [he] at ho; injection ho with ho; subst ho; exact hnf vs hd
  refine wpAny_bind (wpAny_frameOf_fun hfr hl hf fun h₁ hs₁ => ?_)
  refine wpAny_bind (wpAny_entryPlaceOf fun pl hpl => ?_)
  unfold EntryCells.newEntry newFields
  refine wpAny_bind (wpAny_newObj_type ?_ (hpl.sizeOk5 _ _ _ _ _))
  have he₁ : h₁.get? e = some oe := (hs₁.2.1 e hene).trans he
  generalize htr : ({ cls := .type "traceback", dict := none, data := .fields ([head, .ref L, .none, rawInt L, .none] ++ (if pl.isEmpty then List.replicate 6 Value.none else pl)).toArray } : Obj) = tr
  have hfreed : tr.isFreed = false := by rw [← htr]; rfl
  have he₂ := Heap.get?_push_of_some (h := h₁) tr he₁
  refine wpAny_setField he₂ hd hsz ?_
  have hTe : h₁.objs.size ≠ e := Nat.ne_of_gt (Heap.lt_size he₁)
  have hd₃ := Obj.data_mapFields hd (·.setIfInBounds 1 (Value.ref h₁.objs.size))
  have he₃ := Heap.get?_update_self (Obj.mapFields (·.setIfInBounds 1 (Value.ref h₁.objs.size))) he₂ (Obj.isFreed_of_fields hd₃)
  have hT₃ := (Heap.get?_update_other (h₁.push tr) (Obj.mapFields (·.setIfInBounds 1 (Value.ref h₁.objs.size))) (Ne.symm hTe)).trans (Heap.get?_push_size h₁ hfreed)
  have hTn : s.heap.get? h₁.objs.size = none := by
    cases e' : s.heap.get? h₁.objs.size with
    | none => rfl
    | some o =>
      obtain ⟨sl, h2⟩ := hs₁.2.2 _ o e'
      exact absurd (Heap.lt_size h2) (Nat.lt_irrefl _)
  have keep : ∀ b o, b ≠ e → h₁.get? b = some o → ((h₁.push tr).update e (Obj.mapFields (·.setIfInBounds 1 (Value.ref h₁.objs.size)))).get? b = some o := fun b o hbe hb => by
    rw [Heap.get?_update_other _ _ (Ne.symm hbe)]
    exact Heap.get?_push_of_some _ hb
  refine h _ h₁.objs.size _ hTn hTe (by rw [hT₃, ← htr]) (by simp) he₃ fun b o hbe hb => ⟨fun hnf => keep b o hbe ((hs₁.2.1 b hnf).trans hb), ?_⟩
  obtain ⟨sl, h2⟩ := hs₁.2.2 b o hb
  exact ⟨sl, keep b _ hbe h2⟩
end

theorem rawInt_ne {L : Addr} : ¬ ((Value.none == rawInt L) = true) := by simp [rawInt]
theorem exc_obj {o : Obj} {vs : Array Value} (hd : o.data = .fields vs) (hc : o.cls = .ref casFail) : (∃ vs, o.data = .fields vs) ∧ ¬ Hard o :=
  ⟨⟨vs, hd⟩, fun x => by rcases x with ⟨h, _⟩ | ⟨h, _⟩ <;> (rw [hc] at h; cases h)⟩
theorem tb_obj {o : Obj} {vs : Array Value} (hd : o.data = .fields vs) (hc : o.cls = .type "traceback") : (∃ vs, o.data = .fields vs) ∧ ¬ Hard o :=
  ⟨⟨vs, hd⟩, fun x => by rcases x with ⟨h, _⟩ | ⟨h, _⟩ <;> (rw [hc] at h; injection h with h; revert h; decide)⟩

/-- a frame notes what flies through it -/
theorem note_ok {M : Model} {A : Around} {E : Value → Shared → Prop} {env : Env} {outer : List Env} {L e : Addr} {k : Nat} {Q : Unit → Shared → Prop} (hfr : A.frames = some (env :: outer)) (hf : env.frame = some L) (hfe : fr = env :: outer)
    (hB : ∀ b o, B0.get? b = some o → ∃ o', p.h.get? b = some o') (S : St B0 fr q) (s : Step X fr p q) (F : Fly (some L) p q e k)
    (h : ∀ h', St B0 fr { q with h := h' } → Step X fr p { q with h := h' } → FlyT p { q with h := h' } e k (rawInt L) → Q () (sh s₀ { q with h := h' })) : wpAny M A (noteFrame (.ref e) env) Q E (sh s₀ q) := by
  subst hfe
  have nb : ∀ b, p.h.get? b = none → B0.get? b = none := fun b e => by
    cases h : B0.get? b with
    | none => rfl
    | some o => obtain ⟨o', e'⟩ := hB b o h; rw [e] at e'; cases e'
  obtain ⟨h1, h2, o, d, vs, h3, h4, h5, h6, h7, h8, h9, h10⟩ := F
  unfold noteFrame
  simp only [hf]
  have hsz : 1 < vs.size := by rw [h9]; decide
  have hde : ∀ (h' : Heap) (T : Addr) (M : Addr → Prop), (∀ b o, M b → q.h.get? b = some o → ∃ vs, o.data = .fields vs) → (∀ b o, ¬ M b → q.h.get? b = some o → (b ∉ frL (env :: outer) → h'.get? b = some o) ∧ ∃ sl, h'.get? b = some { o with slots := sl }) → KindAt h' d k := fun h' T M hM hk =>
    kind_keep h7 fun od es n e1 e2 => (hk d od (fun m => by obtain ⟨vs, e3⟩ := hM d od m e1; rw [e2] at e3; cases e3) e1).2
  rcases h10 with h10 | ⟨T, oT, ts, g1, g2, g3, g4, g5, g6, g7⟩
  · refine wpAny_bind (wpAny_field (s := sh s₀ q) h3 h8 h10 ?_)
    rw [if_neg (by decide)]
    refine entry_raw (s := sh s₀ q) (base := B0) hfr S.frs.fun hf h3 h8 hsz fun h' T ts a1 a2 a3 a4 a5 a6 => ?_
    obtain ⟨S', s'⟩ := St.exc (M := (· = e)) (h' := h') S s (fun b m => m ▸ h2) (fun b m => nb b (m ▸ h2)) (fun b o' m e' => by subst m; rw [h3] at e'; cases e'; exact exc_obj h8 h4) a6
    refine h h' S' s' ⟨h1, h2, _, d, _, T, _, ts, a5, ?_, ?_, h6, hde h' T (· = e) (fun b o' m e' => by subst m; rw [h3] at e'; cases e'; exact ⟨_, h8⟩) a6, Obj.data_mapFields h8 _, by simp [h9], by simp [hsz], a2, s.none_of a1, a3, rfl, rfl, a4⟩
    · rw [Obj.cls_mapFields]; exact h4
    · obtain ⟨c, dd, dt, sl⟩ := o
      cases h8
      exact h5
  · have hsz3 : 3 < ts.size := by
      rcases g7 with g | ⟨_, _, g⟩ <;> exact (Array.getElem?_eq_some_iff.mp g).1
    refine wpAny_bind (wpAny_field (s := sh s₀ q) h3 h8 g1 ?_)
    rw [if_pos (show (Value.ref T != Value.none) = true from by simp)]
    rcases g7 with g7 | ⟨l, gl, g7⟩
    · refine wpAny_bind (wpAny_field (s := sh s₀ q) g4 g6 g7 ?_)
      rw [if_neg rawInt_ne]
      refine wpAny_bind (wpAny_setField (s := sh s₀ q) g4 g6 hsz3 ?_)
      generalize hH : ((sh s₀ q).heap.update T (Obj.mapFields (·.setIfInBounds 3 Value.none))) = H
      have other : ∀ b, b ≠ T → H.get? b = q.h.get? b := fun b hb => by rw [← hH]; exact Heap.get?_update_other _ _ (Ne.symm hb)
      have noT : ∀ b o, q.h.get? b = some o → (∀ vs, o.data ≠ .fields vs) → b ≠ T := fun b o hb hn y => by subst y; rw [g4] at hb; cases hb; exact hn _ g6
      have hl' : H.FunFrames B0 (env :: outer) := (Frs.fun S.frs).of_keeps fun b o hb hnf => ⟨o, (other b (noT b o hb hnf)).trans hb, rfl⟩
      refine entry_raw (s := { (sh s₀ q) with heap := H }) (base := B0) hfr hl' hf ((other e (Ne.symm g2)).trans h3) h8 hsz fun h' T' ts' a1 a2 a3 a4 a5 a6 => ?_
      have a6' : ∀ b o, ¬ (b = e ∨ b = T) → q.h.get? b = some o → (b ∉ frL (env :: outer) → h'.get? b = some o) ∧ ∃ sl, h'.get? b = some { o with slots := sl } := fun b o hm e' =>
        a6 b o (fun y => hm (.inl y)) ((other b fun y => hm (.inr y)).trans e')
      obtain ⟨S', s'⟩ := St.exc (M := fun b => b = e ∨ b = T) (h' := h') S s (fun b m => m.elim (fun y => y ▸ h2) (fun y => y ▸ g3)) (fun b m => nb b (m.elim (fun y => y ▸ h2) (fun y => y ▸ g3)))
        (fun b o' m e' => by
          rcases m with rfl | rfl
          · rw [h3] at e'; cases e'; exact exc_obj h8 h4
          · rw [g4] at e'; cases e'; exact tb_obj g6 g5) a6'
      have hTn : p.h.get? T' = none := by
        by_cases hTT : T' = T
        · rw [hTT]; exact g3
        · exact s.none_of ((other T' hTT).symm.trans a1)
      refine h h' S' s' ⟨h1, h2, _, d, _, T', _, ts', a5, ?_, ?_, h6, hde h' T (fun b => b = e ∨ b = T) (fun b o' m e' => by
        rcases m with rfl | rfl
        · rw [h3] at e'; cases e'; exact ⟨_, h8⟩
        · rw [g4] at e'; cases e'; exact ⟨_, g6⟩) a6', Obj.data_mapFields h8 _, by simp [h9], by simp [hsz], a2, hTn, a3, rfl, rfl, a4⟩
      · rw [Obj.cls_mapFields]; exact h4
      · obtain ⟨c, dd, dt, sl⟩ := o
        cases h8
        exact h5
    · cases gl
      refine wpAny_bind (wpAny_field (s := sh s₀ q) g4 g6 g7 ?_)
      rw [if_pos (show (rawInt L == rawInt L) = true from by simp)]
      refine wpAny_pure (h q.h S s ⟨h1, h2, o, d, vs, T, oT, ts, h3, h4, h5, h6, h7, h8, h9, g1, g2, g3, g4, g5, g6, g7⟩)

/-- the mark of what flies -/
theorem flight_ok {M : Model} {A : Around} {E : Value → Shared → Prop} {e : Addr} {k : Nat} {x : Value} {f : Option Addr} {Q : Unit → Shared → Prop}
    (hB : ∀ b o, B0.get? b = some o → ∃ o', p.h.get? b = some o') (S : St B0 fr q) (s : Step X fr p q) (F : FlyT p q e k x)
    (h : ∀ h', St B0 fr { q with h := h' } → Step X fr p { q with h := h' } → FlyT p { q with h := h' } e k (f.elim .none fun f => rawInt f) → Q () (sh s₀ { q with h := h' })) : wpAny M A (setFlight (.ref e) f) Q E (sh s₀ q) := by
  have nb : ∀ b, p.h.get? b = none → B0.get? b = none := fun b e => by
    cases h : B0.get? b with
    | none => rfl
    | some o => obtain ⟨o', e'⟩ := hB b o h; rw [e] at e'; cases e'
  obtain ⟨h1, h2, o, d, vs, T, oT, ts, h3, h4, h5, h6, h7, h8, h9, g1, g2, g3, g4, g5, g6, g7⟩ := F
  have hsz3 : 3 < ts.size := (Array.getElem?_eq_some_iff.mp g7).1
  unfold setFlight
  refine wpAny_bind (wpAny_field (s := sh s₀ q) h3 h8 g1 ?_)
  rw [if_pos (show (Value.ref T != Value.none) = true from by simp)]
  refine wpAny_setField (s := sh s₀ q) g4 g6 hsz3 ?_
  generalize hH : ((sh s₀ q).heap.update T (Obj.mapFields (·.setIfInBounds 3 (f.elim Value.none fun f => rawInt f)))) = H
  have other : ∀ b, b ≠ T → H.get? b = q.h.get? b := fun b hb => by rw [← hH]; exact Heap.get?_update_other _ _ (Ne.symm hb)
  have hT : H.get? T = some (oT.mapFields (·.setIfInBounds 3 (f.elim Value.none fun f => rawInt f))) := by
    rw [← hH]; exact Heap.get?_update_self _ g4 (Obj.isFreed_of_fields (Obj.data_mapFields g6 _))
  have hk : ∀ b o, ¬ (b = T) → q.h.get? b = some o → (b ∉ frL fr → H.get? b = some o) ∧ ∃ sl, H.get? b = some { o with slots := sl } := fun b o hm e' => ⟨fun _ => (other b hm).trans e', o.slots, (other b hm).trans e'⟩
  obtain ⟨S', s'⟩ := St.exc (M := (· = T)) (h' := H) S s (fun b m => m ▸ g3) (fun b m => nb b (m ▸ g3)) (fun b o' m e' => by subst m; rw [g4] at e'; cases e'; exact tb_obj g6 g5) hk
  refine h H S' s' ⟨h1, h2, o, d, vs, T, _, _, (other e (Ne.symm g2)).trans h3, h4, h5, h6, ?_, h8, h9, g1, g2, g3, hT, ?_, Obj.data_mapFields g6 _, by simp [hsz3]⟩
  · exact kind_keep h7 fun od es n e1 e2 => (hk d od (fun m => by subst m; rw [g4] at e1; cases e1; rw [e2] at g6; cases g6) e1).2
  · rw [Obj.cls_mapFields]; exact g5

/-- what flies leaves a block -/
theorem leave_ok {M : Model} {A : Around} {E : Value → Shared → Prop} {env : Env} {outer : List Env} {L e : Addr} {k : Nat} {Q : Unit → Shared → Prop} (hfr : A.frames = some (env :: outer)) (hf : env.frame = some L) (hfe : fr = env :: outer)
    (hB : ∀ b o, B0.get? b = some o → ∃ o', p.h.get? b = some o') (S : St B0 fr q) (s : Step X fr p q) (F : Fly (some L) p q e k)
    (h : ∀ h', St B0 fr { q with h := h' } → Step X fr p { q with h := h' } → FlyT p { q with h := h' } e k .none → Q () (sh s₀ { q with h := h' })) : wpAny M A (leaving env (.ref e)) Q E (sh s₀ q) := by
  unfold leaving
  refine wpAny_bind (note_ok hfr hf hfe hB S s F fun h' S' s' F' => ?_)
  exact flight_ok (q := { q with h := h' }) hB S' s' F' fun h'' S'' s'' F'' => h h'' S'' s'' F''
/-- a part of a block gives back what flies -/
theorem back_ok {M : Model} {A : Around} {E : Value → Shared → Prop} {env : Env} {L e : Addr} {k : Nat} {x : Value} (hf : env.frame = some L)
    (hB : ∀ b o, B0.get? b = some o → ∃ o', p.h.get? b = some o') (S : St B0 fr q) (s : Step X fr p q) (F : FlyT p q e k x)
    (h : ∀ h', St B0 fr { q with h := h' } → Step X fr p { q with h := h' } → FlyT p { q with h := h' } e k (rawInt L) → E (.ref e) (sh s₀ { q with h := h' })) : cameBackBy M A env E (.ref e) (sh s₀ q) := by
  obtain ⟨h1, h2, o, d, vs, T, oT, ts, h3, h4, h5, h6, h7, h8, h9, g1, g2, g3, g4, g5, g6, g7⟩ := id F
  unfold cameBackBy
  refine wpAny_bind (wpAny_field (s := sh s₀ q) h3 h8 g1 ?_)
  rw [if_neg (show ¬ ((Value.ref T == Value.none) = true) from by simp)]
  rw [hf]
  exact flight_ok hB S s F fun h' S' s' F' => h h' S' s' F'
end
end Mine
end

section
open PySem PySem.W PyProof.Rows PySem.Calls PySem.Spec
namespace Mine
set_option autoImplicit false

noncomputable def RF (Γ : Names) (env : Env) : Pt → Fl → Flow → Prop := fun q fl f => match fl, f with
  | .nxt φ, .next => Vs Γ env φ q
  | .ret a, .ret v => VR q.h q.ρ q.σ.n v a
  | _, _ => False
abbrev Loc (env : Env) : Addr → Prop := (· = env.locals)

section
variable (D : Wd)
/-- statements one after the other; one statement -/
noncomputable def SoundS (m : Nat) (Γ : Names) (ss : List Stmt) (d : DS) : Prop := ∀ {n : Nat} {c : C}, SoundC D n c → ∀ {A : Around} {outer : List Env} {env : Env} {φ : Vars} {p : Pt} {Q : Flow → Shared → Prop} {E : Value → Shared → Prop},
  Room A (24 * n + m) → A.frames = some (env :: outer) → env.frame = some env.locals → EnvOK D.B0 Γ env (env :: outer) → St D.B0 (env :: outer) p → Vs Γ env φ p → Post D.B0 D.s₀ (env :: outer) (Loc env) NoE p (RF Γ env) (d c φ p.σ) Q E → wpAny (model D.prog D.w) A (execs ss env) Q E (sh D.s₀ p)
noncomputable def Sound1 (m : Nat) (Γ : Names) (s : Stmt) (d : DS) : Prop := ∀ {n : Nat} {c : C}, SoundC D n c → ∀ {A : Around} {outer : List Env} {env : Env} {φ : Vars} {p : Pt} {Q : Flow → Shared → Prop} {E : Value → Shared → Prop},
  Room A (24 * n + m) → A.frames = some (env :: outer) → env.frame = some env.locals → EnvOK D.B0 Γ env (env :: outer) → St D.B0 (env :: outer) p → Vs Γ env φ p → Post D.B0 D.s₀ (env :: outer) (Loc env) NoE p (RF Γ env) (d c φ p.σ) Q E → wpAny (model D.prog D.w) A (exec s env) Q E (sh D.s₀ p)
end

section
variable {D : Wd} {m : Nat} {Γ : Names}
section
variable {B0 : Heap} {s₀ : Shared} {fr : List Env} {env : Env} {p : Pt} {α β γ δ : Type} {Rel : Pt → α → β → Prop} {Rel2 : Pt → γ → δ → Prop} {E : Value → Shared → Prop}
/-- an expression in a statement -/
theorem Post.expr {r : R α} {f : α → Store → R γ} {Q2 : δ → Shared → Prop} {Q : β → Shared → Prop} (hp : Post B0 s₀ fr (Loc env) NoE p Rel2 (r.bind f) Q2 E)
    (k : ∀ q a b, St B0 fr q → Step NoX fr p q → Rel q a b → Post B0 s₀ fr (Loc env) NoE q Rel2 (f a q.σ) Q2 E → Q b (sh s₀ q)) : Post B0 s₀ fr NoX NoE p Rel r Q E :=
  Post.bindAt hp (Step.refl _ _ _) (fun _ _ _ _ h => h) (fun _ _ _ _ => trivial) fun q a b S s s' x h => k q a b S s x (h.step s')
theorem Post.exprT {r : R AV} {f : Bool → Store → R γ} {Q2 : δ → Shared → Prop} {Q : Bool → Shared → Prop} (hp : Post B0 s₀ fr (Loc env) NoE p Rel2 (r.bind fun u σ => onBoo u fun b => f b σ) Q2 E)
    (k : ∀ q b, St B0 fr q → Step NoX fr p q → Post B0 s₀ fr (Loc env) NoE q Rel2 (f b q.σ) Q2 E → Q b (sh s₀ q)) : Post B0 s₀ fr NoX NoE p RB (tr r) Q E := by
  have e : (r.bind fun u σ => onBoo u fun b => f b σ) = (tr r).bind fun b σ => f b σ := by
    cases r with
    | ok a σ =>
      show ((R.ok a σ).bind _) = ((R.ok a σ).bind _).bind _
      rw [bind_ok, bind_ok]
      cases a with
      | boo b => exact (bind_ok b σ fun b σ => f b σ).symm
      | _ => rfl
    | ex k σ => rfl
    | bad => rfl
  rw [e] at hp
  exact Post.expr hp fun q a b S s x h => by cases x; exact k q _ S s h
theorem Vs.loose {Γ : Names} {φ : Vars} (V : Vs Γ env φ p) : Loose p.h (Loc env) := fun a o e w => by
  subst w
  obtain ⟨mm, ⟨o', es, ep, e', hd, _⟩, _⟩ := V.ns
  rw [e'] at e; cases e
  exact .inl ⟨es, ep, hd⟩
end

theorem ss_end : SoundS D m Γ [] sEnd := by
  intro n c hC A outer env φ p Q E hr hf hfl he S V hp
  exact wpAny_execs_nil (Post.here (Rel := RF Γ env) (a := Fl.nxt φ) (b := Flow.next) hp S V)
theorem ss_then {s : Stmt} {ss : List Stmt} {a b : DS} (ha : Sound1 D m Γ s a) (hb : SoundS D m Γ ss b) : SoundS D m Γ (s :: ss) (sThen a b) := by
  intro n c hC A outer env φ p Q E hr hf hfl he S V hp
  refine wpAny_execs_cons (ha hC hr hf hfl he S V (Post.bind hp fun q fl f S1 s1 x h1 => ?_))
  cases fl with
  | nxt φ' =>
    cases f with
    | next => exact hb hC hr hf hfl he S1 x h1
    | _ => exact x.elim
  | ret v =>
    cases f with
    | ret w => exact Post.here (Rel := RF Γ env) (a := Fl.ret v) (b := Flow.ret w) h1 S1 x
    | _ => exact x.elim
theorem bad_stmt {s : Stmt} : Sound1 D m Γ s sBad := fun _ _ _ _ _ _ _ _ _ _ _ _ _ _ hp => hp.elim

/-! one name -/
theorem st_asg {x : Str} {px pos : Pos} {value : Expr} {i : Nat} {a : DX} {k : NT} (ha : SoundX D m Γ value a) (hx : Γ[i]? = some (x, k)) (hk : k = .loc ∨ k = .cel)
    (hs : ∀ env fr, EnvOK D.B0 Γ env fr → swapsWith value (some (.Name x px)) pos.line env = pure false) : Sound1 D m Γ (.Assign [.Name x px] value pos) (sAsg (.one i) a) := by
  intro n c hC A outer env φ p Q E hr hf hfl he S V hp
  refine wpAny_Assign_Name ?_ (hs env _ he)
  refine ha hC hr hf he S V (Post.expr hp fun q u v S1 s1 x1 h1 => ?_)
  have h1 : Post D.B0 D.s₀ (env :: outer) (Loc env) NoE q (RF Γ env) ((putV φ i u q.σ fun φ σ => .ok φ σ).bind fun φ σ => .ok (.nxt φ) σ) Q E := h1
  rw [putV_bind] at h1
  refine put_ok (X := Loc env) (p := q) (q := q) he S1 (Step.refl _ _ _) (V.on S s1) x1 hx hk (fun _ _ => rfl) h1 fun q2 φ2 S2 s2 _ V2 h2 => ?_
  rw [bind_ok] at h2
  exact h2.ok (q := q2) (b := Flow.next) S2 s2 V2
/-- a comprehension that is put into a local of the same line -/
theorem st_asgC {x : Str} {px pos cpos : Pos} {elt iter : Expr} {scope : Scope} {xp : Pos} {y : Str} {i j : Nat} {ns : List NE} {a b : DX} (ha : SoundX D m Γ iter a) (hy : SoundX D m (namesOf scope.names) elt b) (hI : InN Γ scope.names ns) (hj : (namesOf scope.names)[j]? = some (y, .loc) ∨ (namesOf scope.names)[j]? = some (y, .cel))
    (hx : Γ[i]? = some (x, .loc)) (hsw : ∀ env fr, EnvOK D.B0 Γ env fr → swapsWith (.ListComp elt [⟨.Name y xp, iter, [], 0⟩] scope cpos) (some (.Name x px)) pos.line env = pure true)
    (hn : (scope.names.map (·.1)).Nodup := by decide +kernel) (hk : scope.kind = .function := by rfl) (hs : ∀ env v, foldedSetIterable iter env v = pure v := by intro _ _; rfl) :
    Sound1 D m Γ (.Assign [.Name x px] (.ListComp elt [⟨.Name y xp, iter, [], 0⟩] scope cpos) pos) (sAsg (.one i) (xComp ns (.one j) a b)) := by
  intro n c hC A outer env φ p Q E hr hf hfl he S V hp
  rw [exec_Assign]
  refine wpAny_bind (wpAny_standAt ?_)
  rw [show swapsWithSole [.Name x px] (.ListComp elt [⟨.Name y xp, iter, [], 0⟩] scope cpos) pos.line env = pure true from hsw env _ he]
  refine wpAny_bind (wpAny_pure ?_)
  rw [if_pos rfl]
  refine wpAny_bind ?_
  show wpAny _ _ (comprehension (.ListComp elt [⟨.Name y xp, iter, [], 0⟩] scope cpos) scope env _ (newList []) false (eval iter env) (some _) >>= fun _ => pure ()) _ _ _
  refine wpAny_bind ?_
  refine comp_run (Q0 := fun v s => ∃ q u, s = sh D.s₀ q ∧ St D.B0 (env :: outer) q ∧ Step NoX (env :: outer) p q ∧ VR q.h q.ρ q.σ.n v u ∧ Post D.B0 D.s₀ (env :: outer) (Loc env) NoE p (RF Γ env) ((putT (.one i) u φ q.σ).bind fun φ σ => .ok (.nxt φ) σ) Q E)
    ha hy hI hj hn hk hs hC hr hf he S V (fun q C v acc S1 s1 h1 h2 h3 h4 h5 hp1 => ?_) (Post.bindAt hp (Step.refl _ _ _) (fun _ _ _ _ h => h) (fun _ _ _ _ => trivial) fun q u v S1 s1 _ x1 h1 => ⟨q, u, rfl, S1, s1, x1, h1⟩)
  obtain ⟨q', u, e, S2, s2, x2, h6⟩ := Post.ok (Rel := RV) (a := acc) (b := v) hp1 S1 s1 h5
  have hh : q'.h = q.h := (congrArg Shared.heap e).symm
  obtain ⟨mm, hn4⟩ := h4
  have hn4' : q'.h.Ns C mm := by rw [hh]; exact hn4
  show wpAny _ _ _ _ _ (sh D.s₀ q)
  rw [e]
  show wpAny _ _ (assignAll v [assign (.Name x px) env]) _ _ _
  have h6 : Post D.B0 D.s₀ (env :: outer) (Loc env) NoE p (RF Γ env) ((putV φ i u q'.σ fun φ σ => .ok φ σ).bind fun φ σ => .ok (.nxt φ) σ) Q E := h6
  rw [putV_bind] at h6
  refine wpAny_assign_Name ?_
  refine put_ok (X := Loc env) (p := p) (q := q') he S2 s2.anyX (V.on S s2) x2 hx (.inl rfl) (fun _ _ => rfl) h6 fun q3 φ3 S3 s3 sq3 V3 h7 => ?_
  rw [bind_ok] at h7
  have hne : ¬ Loc env C := fun w => by
    obtain ⟨m2, ⟨o, _, _, e2, _⟩, _⟩ := V.ns
    rw [w, e2] at h1; cases h1
  have hn5 : q3.h.Ns C mm := S2.ns sq3 hne hn4'
  refine ⟨mm, hn5, fun h8 hs8 => ?_⟩
  obtain ⟨S8, s8, hard⟩ := let_go (p := p) (X := Loc env) S3 s3 h1 h2 h3 ⟨mm, hn5⟩ hs8
  refine wpAny_pure (wpAny_pure (h7.ok (q := { q3 with h := h8 }) (b := Flow.next) S8 s8 ?_))
  obtain ⟨m3, hn3, hm3⟩ := V3.ns
  exact ⟨V3.len, ⟨m3, hn3.sameBut hs8 (Ne.symm hne), fun i x hx => let ⟨v, f1, f2⟩ := hm3 i x hx; ⟨v, f1, OV.ext hard (Nat.le_refl _) (fun _ _ => rfl) f2⟩⟩, V3.cells⟩
end
end Mine
end

section
open PySem PySem.W PyProof.Rows PySem.Calls PySem.Spec
namespace Mine
set_option autoImplicit false

section
variable {prog : Program} {w : World} {A : Around} {E : Value → Shared → Prop} {s : Shared}
theorem draw_list {it t : Addr} {items : Array Value} (hne : t ≠ it) : ∀ (n i : Nat) (s : Shared) (Q : List Value → Shared → Prop), s.heap.IsListIter it t i → s.heap.IsList t items → i + n ≤ items.size →
    (∀ h', h'.IsListIter it t (i + n) → Heap.SameBut it s.heap h' → Q ((items.toList.drop i).take n) { s with heap := h' }) → wpAny (model prog w) A (draw (.ref it) n) Q E s
  | 0, i, s, Q, hit, _, _, hQ => by
    show wpAny _ _ (pure []) Q E s
    exact wpAny_pure (by simpa using hQ s.heap hit (Heap.SameBut.refl ..))
  | n + 1, i, s, Q, hit, ht, hle, hQ => by
    have hlt : i < items.size := by omega
    show wpAny _ _ (pyNext (.ref it) >>= _) Q E s
    refine wpAny_bind (wpAny_pyNext_list_item hit ht (x := items[i]) (by simp [hlt]) fun h₁ hit₁ hs₁ => ?_)
    refine wpAny_bind (wpAny_holding (draw_list hne n (i + 1) _ _ hit₁ (ht.extBut hs₁.extBut hne) (by omega) fun h₂ hit₂ hs₂ => wpAny_pure ?_))
    have hd : items.toList.drop i = items[i] :: items.toList.drop (i + 1) := by simp [List.drop_eq_getElem_cons, hlt]
    have := hQ h₂ (by rw [show i + (n + 1) = i + 1 + n by omega]; exact hit₂) (hs₁.trans hs₂)
    rw [hd, List.take_succ_cons] at this
    exact this
theorem unpack_list {t : Addr} {items : Array Value} {Q : List Value → Shared → Prop} (hh : A.handled = none) (ht : s.heap.IsList t items)
    (hQ : ∀ h', Heap.ExtBut s.heap.objs.size s.heap h' → Q items.toList { s with heap := h' }) : wpAny (model prog w) A (unpackItems (.ref t) items.size none) Q E s := by
  have hlt : t ≠ s.heap.objs.size := by obtain ⟨o, ho, _⟩ := ht; exact Nat.ne_of_lt (Heap.lt_size ho)
  unfold unpackItems
  refine wpAny_bind ?_
  unfold notIterableAtAll
  refine wpAny_bind (wpAny_specialOf ht.typeIs slot_list_iter.lookup ?_)
  refine wpAny_pure ?_
  simp only [Bool.false_eq_true, if_false]
  refine wpAny_bind (wpAny_holding (wpAny_pyIter_list ht ?_))
  refine wpAny_bind (wpAny_holding (draw_list hlt items.size 0 _ _ ⟨_, Heap.get?_push_size _ rfl, rfl, rfl⟩ (ht.push _) (by omega) fun h₁ hit₁ hs₁ => ?_))
  have hall : List.take items.size (List.drop 0 items.toList) = items.toList := by
    rw [List.drop_zero]; exact List.take_of_length_le (by simp)
  rw [hall]
  rw [if_neg (by simp)]
  have ht₁ : h₁.IsList t items := (ht.push _).extBut hs₁.extBut hlt
  refine wpAny_bind (wpAny_holding (wpAny_pyNext_list_end hh hit₁ ht₁ (by simp) fun h₂ he₂ => ?_))
  simp only [Option.isSome_none, Bool.false_eq_true, if_false]
  refine wpAny_pure (hQ h₂ fun b o hb e => he₂ b o hb (hs₁.extBut b o hb (Heap.get?_push_of_some _ e)))
end

/-- names that are targets, and their places -/
inductive NmN (Γ : Names) : List Str → List Nat → Prop
  | nil : NmN Γ [] []
  | cons {x i k r is} : Γ[i]? = some (x, k) → k = NT.loc ∨ k = NT.cel → NmN Γ r is → NmN Γ (x :: r) (i :: is)
theorem NmN.append {Γ : Names} {a b : List Str} {c d : List Nat} (x : NmN Γ a c) (y : NmN Γ b d) : NmN Γ (a ++ b) (c ++ d) := by
  induction x with
  | nil => exact y
  | cons h1 h2 _ ih => exact .cons h1 h2 ih
theorem NmN.reverse {Γ : Names} {a : List Str} {c : List Nat} (x : NmN Γ a c) : NmN Γ a.reverse c.reverse := by
  induction x with
  | nil => exact .nil
  | cons h1 h2 _ ih =>
    rw [List.reverse_cons, List.reverse_cons]
    exact ih.append (.cons h1 h2 .nil)
theorem NmN.len {Γ : Names} {a : List Str} {c : List Nat} (x : NmN Γ a c) : a.length = c.length := by
  induction x with
  | nil => rfl
  | cons _ _ _ ih => exact congrArg (· + 1) ih
/-- the targets are these names -/
inductive TgN : List Expr → List Str → Prop
  | nil : TgN [] []
  | cons {x p es r} : TgN es r → TgN (.Name x p :: es) (x :: r)

section
variable {D : Wd} {m : Nat} {Γ : Names}
section
variable {s₀ : Shared} {fr : List Env} {X : Addr → Prop} {EX : Pt → Prop} {p : Pt} {γ δ : Type} {Rel2 : Pt → γ → δ → Prop} {E : Value → Shared → Prop} {env : Env} {A : Around}
theorem putMany_ok {st : Str → Value → Sem Unit} (hst : ∀ {x : Str} {v : Value} {Q : Unit → Shared → Prop} {E : Value → Shared → Prop} {s : Shared}, wpAny (model D.prog D.w) A (storeName env x v) Q E s → wpAny (model D.prog D.w) A (st x v) Q E s)
    {xs : List Str} {is : List Nat} (hN : NmN Γ xs is) : ∀ {q : Pt} {φ : Vars} {vs : List Value} {l : List AV} {f : Vars → Store → R γ} {Q2 : δ → Shared → Prop} {Q : Unit → Shared → Prop} {E' : Value → Shared → Prop},
    EnvOK D.B0 Γ env fr → St D.B0 fr q → Step X fr p q → Vs Γ env φ q → VRs q.h q.ρ q.σ.n vs l → (∀ o, p.h.get? env.locals = some o → X env.locals) → Post D.B0 s₀ fr X EX p Rel2 ((putMany is l φ q.σ).bind f) Q2 E →
    (∀ q' φ', St D.B0 fr q' → Step X fr p q' → Vs Γ env φ' q' → Post D.B0 s₀ fr X EX p Rel2 (f φ' q'.σ) Q2 E → Q () (sh D.s₀ q')) → wpAny (model D.prog D.w) A (assignInOrder (xs.map st) vs) Q E' (sh D.s₀ q) := by
  induction hN with
  | nil =>
    intro q φ vs l f Q2 Q E' he S s V r hX hp h
    cases r with
    | nil =>
      have hp : Post D.B0 s₀ fr X EX p Rel2 ((R.ok φ q.σ).bind f) Q2 E := hp
      rw [bind_ok] at hp
      exact wpAny_assignInOrder_none (h q φ S s V hp)
    | cons _ _ => exact hp.elim
  | @cons x i k r is hx hk _ ih =>
    intro q φ vs l f Q2 Q E' he S s V r hX hp h
    cases r with
    | nil => exact hp.elim
    | @cons v vs a as xv rs =>
      have hp : Post D.B0 s₀ fr X EX p Rel2 ((putV φ i a q.σ fun φ σ => putMany is as φ σ).bind f) Q2 E := hp
      rw [putV_bind] at hp
      refine wpAny_assignInOrder_more (hst ?_)
      refine put_ok (X := X) (p := p) (q := q) he S s V xv hx hk hX hp fun q2 φ2 S2 s2 sq V2 h2 => ?_
      exact ih he S2 s2 V2 (rs.step S sq V.loose) hX h2 h
end

theorem tg_len : ∀ {es : List Expr} {xs : List Str} {env : Env}, TgN es xs → (assignEach es env).length = xs.length ∧ (assignEach es env).findIdx? (·.1) = none
  | _, _, _, .nil => ⟨rfl, rfl⟩
  | _, _, env, .cons (x := x) (p := p) (es := es) t => by
    obtain ⟨h1, h2⟩ := tg_len (env := env) t
    have e : assignEach (.Name x p :: es) env = (false, assign (.Name x p) env) :: assignEach es env := rfl
    rw [e]
    refine ⟨congrArg (· + 1) h1, ?_⟩
    rw [List.findIdx?_cons]
    simp [h2]
theorem tg_assign {A : Around} {s₀ : Shared} {fr : List Env} {X : Addr → Prop} {EX : Pt → Prop} {p : Pt} {γ δ : Type} {Rel2 : Pt → γ → δ → Prop} {E : Value → Shared → Prop} {env : Env} {es : List Expr} {xs : List Str} (ht : TgN es xs) : ∀ {is : List Nat} (_ : NmN Γ xs is) {q : Pt} {φ : Vars} {vs : List Value} {l : List AV} {f : Vars → Store → R γ} {Q2 : δ → Shared → Prop} {Q : Unit → Shared → Prop} {E' : Value → Shared → Prop},
    EnvOK D.B0 Γ env fr → St D.B0 fr q → Step X fr p q → Vs Γ env φ q → VRs q.h q.ρ q.σ.n vs l → (∀ o, p.h.get? env.locals = some o → X env.locals) → Post D.B0 s₀ fr X EX p Rel2 ((putMany is l φ q.σ).bind f) Q2 E →
    (∀ q' φ', St D.B0 fr q' → Step X fr p q' → Vs Γ env φ' q' → Post D.B0 s₀ fr X EX p Rel2 (f φ' q'.σ) Q2 E → Q () (sh D.s₀ q')) → wpAny (model D.prog D.w) A (assignInOrder ((assignEach es env).map (·.2)) vs) Q E' (sh D.s₀ q) := by
  induction ht with
  | nil =>
    intro is hN q φ vs l f Q2 Q E' he S s V r hX hp h
    cases hN with
    | nil =>
      cases r with
      | nil =>
        have hp : Post D.B0 s₀ fr X EX p Rel2 ((R.ok φ q.σ).bind f) Q2 E := hp
        rw [bind_ok] at hp
        exact wpAny_assignInOrder_none (h q φ S s V hp)
      | cons _ _ => exact hp.elim
  | @cons x px es r t ih =>
    intro is hN q φ vs l f Q2 Q E' he S s V r hX hp h
    cases hN with
    | @cons _ i k _ is hx hk hN =>
      cases r with
      | nil => exact hp.elim
      | @cons v vs a as xv rs =>
        have hp : Post D.B0 s₀ fr X EX p Rel2 ((putV φ i a q.σ fun φ σ => putMany is as φ σ).bind f) Q2 E := hp
        rw [putV_bind] at hp
        show wpAny _ _ (assignInOrder (assign (.Name x px) env :: (assignEach es env).map (·.2)) (v :: vs)) _ _ _
        refine wpAny_assignInOrder_more (wpAny_assign_Name ?_)
        refine put_ok (X := X) (p := p) (q := q) he S s V xv hx hk hX hp fun q2 φ2 S2 s2 sq V2 h2 => ?_
        exact ih hN he S2 s2 V2 (rs.step S sq V.loose) hX h2 h

theorem putMany_len {B0 : Heap} {s₀ : Shared} {fr : List Env} {X : Addr → Prop} {EX : Pt → Prop} {p : Pt} {γ δ : Type} {Rel2 : Pt → γ → δ → Prop} {E : Value → Shared → Prop} {f : Vars → Store → R γ} {Q2 : δ → Shared → Prop} : ∀ {is : List Nat} {l : List AV} {φ : Vars} {σ : Store}, Post B0 s₀ fr X EX p Rel2 ((putMany is l φ σ).bind f) Q2 E → l.length = is.length := by
  intro is
  induction is with
  | nil => intro l φ σ hp; cases l with
    | nil => rfl
    | cons _ _ => exact hp.elim
  | cons i is ih =>
    intro l φ σ hp
    cases l with
    | nil => exact hp.elim
    | cons a l =>
      have hp : Post B0 s₀ fr X EX p Rel2 ((putV φ i a σ fun φ σ => putMany is l φ σ).bind f) Q2 E := hp
      rw [putV_bind] at hp
      unfold putV at hp
      rw [nth_eq] at hp
      cases e : φ[i]? with
      | none => rw [e] at hp; exact hp.elim
      | some sl =>
        rw [e] at hp
        cases sl with
        | lv w =>
          have hp : Post B0 s₀ fr X EX p Rel2 ((putMany is l (setL φ i (.lv (some a))) σ).bind f) Q2 E := hp
          exact congrArg (· + 1) (ih hp)
        | gl => exact hp.elim
        | cl c =>
          have hp : Post B0 s₀ fr X EX p Rel2 (getO σ c fun o => onCell o fun _ => setO σ c (.cell (some a)) fun σ => (putMany is l φ σ).bind f) Q2 E := hp
          rw [getO_eq] at hp
          cases e2 : sget σ c with
          | none => rw [e2] at hp; exact hp.elim
          | some o =>
            rw [e2] at hp
            cases o with
            | list l => exact hp.elim
            | cell w =>
              have hp : Post B0 s₀ fr X EX p Rel2 (setO σ c (.cell (some a)) fun σ => (putMany is l φ σ).bind f) Q2 E := hp
              rw [setO_eq] at hp
              exact congrArg (· + 1) (ih hp)
/-- a thing is taken apart -/
theorem unpack_ok {A : Around} {fr : List Env} {s₀ : Shared} {X : Addr → Prop} {EX : Pt → Prop} {p q : Pt} {γ δ : Type} {Rel2 : Pt → γ → δ → Prop} {E : Value → Shared → Prop} {v : Value} {a : AV} {is : List Nat} {φ : Vars} {f : Vars → Store → R γ} {k : Nat} {Q2 : δ → Shared → Prop} {Q : List Value → Shared → Prop} {E' : Value → Shared → Prop}
    (hr : Room A k) (S : St D.B0 fr q) (s : Step X fr p q) (x : VR q.h q.ρ q.σ.n v a)
    (hp : Post D.B0 s₀ fr X EX p Rel2 ((putT (.many is) a φ q.σ).bind f) Q2 E)
    (h : ∀ h' vs l, (∀ b o, q.h.get? b = some o → h'.get? b = some o) → St D.B0 fr { q with h := h' } → Step X fr p { q with h := h' } → VRs h' q.ρ q.σ.n vs l → Post D.B0 s₀ fr X EX p Rel2 ((putMany is l φ q.σ).bind f) Q2 E → Q vs (sh D.s₀ { q with h := h' })) :
    wpAny (model D.prog D.w) A (unpackItems v is.length none) Q E' (sh D.s₀ q) := by
  have len : ∀ {is : List Nat} {l : List AV} {φ : Vars} {σ : Store}, Post D.B0 s₀ fr X EX p Rel2 ((putMany is l φ σ).bind f) Q2 E → l.length = is.length := fun hp => putMany_len hp
  have fin : ∀ (h' : Heap), Heap.ExtBut q.h.objs.size q.h h' → ∀ b o, q.h.get? b = some o → h'.get? b = some o := fun h' hk b o e => hk b o (Nat.ne_of_lt (Heap.lt_size e)) e
  cases x with
  | tup ht r =>
    rename_i w vs l
    have hp' : Post D.B0 s₀ fr X EX p Rel2 ((putMany is l φ q.σ).bind f) Q2 E := hp
    have hl : is.length = vs.size := by rw [← len hp', ← r.length, Array.length_toList]
    rw [hl]
    refine wpAny_unpackItems_tuple (s := sh D.s₀ q) hr.1 ht fun h' hk => ?_
    exact h h' _ _ (fin h' hk) (S.push (t := q.t) (fin h' hk)) (s.then (Step.push (t := q.t) (fin h' hk))) (r.ext (fun a o e _ => fin h' hk a o e) (Nat.le_refl _) fun _ _ => rfl) hp'
  | ref hj =>
    rename_i j
    have hp : Post D.B0 s₀ fr X EX p Rel2 ((getL q.σ j fun l => putMany is l φ q.σ).bind f) Q2 E := hp
    unfold getL at hp
    rw [getO_eq] at hp
    cases e : sget q.σ j with
    | none => rw [e] at hp; exact hp.elim
    | some o =>
      rw [e] at hp
      cases o with
      | cell c => exact hp.elim
      | list l =>
        have hp' : Post D.B0 s₀ fr X EX p Rel2 ((putMany is l φ q.σ).bind f) Q2 E := hp
        obtain ⟨vs, hlst, r⟩ := S.own j _ e
        have hl : is.length = vs.size := by rw [← len hp', ← r.length, Array.length_toList]
        rw [hl]
        refine unpack_list (s := sh D.s₀ q) hr.1 hlst fun h' hk => ?_
        exact h h' _ _ (fin h' hk) (S.push (t := q.t) (fin h' hk)) (s.then (Step.push (t := q.t) (fin h' hk))) (r.ext (fun a o e _ => fin h' hk a o e) (Nat.le_refl _) fun _ _ => rfl) hp'
  | _ => exact hp.elim

noncomputable def kindG : NT → NameKind
  | .loc => .local
  | .cel => .cell
  | .fre => .free
  | .glo => .globalImplicit
/-- a made-up block with these names -/
noncomputable def envG (Γ : Names) : Env := { (default : Env) with scope := { (default : Scope) with kind := .function, names := Γ.map fun x => (x.1, kindG x.2) } }
theorem envG_kind {Γ : Names} (hn : (Γ.map (·.1)).Nodup) {i : Nat} {x : Str} {k : NT} (h : Γ[i]? = some (x, k)) : (envG Γ).kindOf x = some (kindG k) := by
  show List.lookup x (Γ.map fun x => (x.1, kindG x.2)) = _
  refine lookup_of_get (i := i) ?_ ?_
  · rw [List.map_map]; exact hn
  · rw [List.getElem?_map, h]; rfl
theorem tg_names {f g : Expr → Option Str} : ∀ {es : List Expr} {xs : List Str}, TgN es xs → (∀ x ∈ xs, ∀ p, f (.Name x p) = g (.Name x p)) → es.filterMap f = es.filterMap g
  | _, _, .nil, _ => rfl
  | _, _, .cons (x := x) (p := p) t, h => by
    have h1 := h x (List.mem_cons_self ..) p
    have h2 := tg_names (f := f) (g := g) t fun y hy => h y (List.mem_cons_of_mem _ hy)
    rw [List.filterMap_cons, List.filterMap_cons, h2, h1]
theorem NmN.kind {Γ : Names} {B0 : Heap} {env : Env} {fr : List Env} (he : EnvOK B0 Γ env fr) {xs : List Str} {is : List Nat} (h : NmN Γ xs is) : ∀ x ∈ xs, (env.kindOf x == some .local) = ((envG Γ).kindOf x == some .local) := by
  induction h with
  | nil => intro x h; cases h
  | @cons x i k r is hx hk _ ih =>
    intro y hy
    rcases List.mem_cons.mp hy with rfl | hy
    · rcases hk with rfl | rfl
      · rw [he.loc i y hx, envG_kind he.nodup hx]; rfl
      · rw [he.cel i y hx, envG_kind he.nodup hx]; rfl
    · exact ih y hy
theorem swapped_eq {Γ : Names} {B0 : Heap} {env : Env} {fr : List Env} (he : EnvOK B0 Γ env fr) {es : List Expr} {xs : List Str} {is : List Nat} (ht : TgN es xs) (hN : NmN Γ xs is) (k : Nat) (tp : Pos) (value : Expr) :
    swappedStores [.Tuple es k tp] value env = swappedStores [.Tuple es k tp] value (envG Γ) := by
  have hb : env.blockKind = (envG Γ).blockKind := by
    have : env.blockKind = .function := by unfold Env.blockKind; rw [he.kind]; rfl
    rw [this]; rfl
  cases value with
  | Tuple vs k2 p2 =>
    unfold swappedStores
    simp only [hb]
    have hkk := hN.kind he
    generalize hX : List.filterMap _ es = X
    generalize hY : List.filterMap _ es = Y
    have e : X = Y := by
      rw [← hX, ← hY]
      refine tg_names ht fun x hx p => ?_
      dsimp only
      rw [hkk x hx]
    rw [e]
  | _ => rfl

theorem st_tup {es : List Expr} {xs : List Str} {is : List Nat} {k : Nat} {tp pos : Pos} {value : Expr} {a : DX} (ha : SoundX D m Γ value a) (ht : TgN es xs) (hN : NmN Γ xs is)
    (hw : swappedStores [.Tuple es k tp] value (envG Γ) = pure none := by rfl) (hs : ∀ env, swapsWithSole [.Tuple es k tp] value pos.line env = pure false := by intro _; rfl) : Sound1 D m Γ (.Assign [.Tuple es k tp] value pos) (sAsg (.many is) a) := by
  intro n c hC A outer env φ p Q E hr hf hfl he S V hp
  refine Assign_Tuple ?_ (hs env) ((swapped_eq he ht hN k tp value).trans hw)
  refine ha hC hr hf he S V (Post.expr hp fun q u v S1 s1 x1 h1 => ?_)
  rw [arm_assign_Tuple]
  refine wpAny_bind (wpAny_standAt ?_)
  unfold unpack
  obtain ⟨l1, l2⟩ := tg_len (env := env) ht
  have l3 := hN.len
  rw [l1, l2, l3]
  refine wpAny_bind (wpAny_holding (unpack_ok (X := Loc env) (p := q) hr S1 (Step.refl _ _ _) x1 h1 fun h' vs l hk S2 s2 r2 h2 => ?_))
  have V2 : Vs Γ env φ { q with h := h' } := (V.on S s1).on S1 (Step.push (t := q.t) hk)
  refine tg_assign (X := Loc env) (p := q) (q := { q with h := h' }) ht hN he S2 s2 V2 r2 (fun _ _ => rfl) h2 fun q3 φ3 S3 s3 V3 h3 => ?_
  exact h3.ok (q := q3) (b := Flow.next) S3 s3 V3
theorem st_swap {es : List Expr} {xs : List Str} {is : List Nat} {k : Nat} {tp pos : Pos} {value : Expr} {a : DX} (ha : SoundX D m Γ value a) (ht : TgN es xs) (hN : NmN Γ xs is)
    (hw : swappedStores [.Tuple es k tp] value (envG Γ) = pure (some xs) := by rfl) (hs : ∀ env, swapsWithSole [.Tuple es k tp] value pos.line env = pure false := by intro _; rfl) : Sound1 D m Γ (.Assign [.Tuple es k tp] value pos) (sAsg (.swap is) a) := by
  intro n c hC A outer env φ p Q E hr hf hfl he S V hp
  refine Assign_Tuple_swapped ?_ (hs env) ((swapped_eq he ht hN k tp value).trans hw)
  refine ha hC hr hf he S V (Post.expr hp fun q u v S1 s1 x1 h1 => ?_)
  have l3 := hN.len
  cases x1 with
  | tup htup r =>
    rename_i w vs l
    have h1' : Post D.B0 D.s₀ (env :: outer) (Loc env) NoE q (RF Γ env) ((putMany is.reverse l.reverse φ q.σ).bind fun φ σ => .ok (.nxt φ) σ) Q E := h1
    have hlen : l.length = is.length := by
      have : ∀ {is : List Nat} {l : List AV} {φ : Vars} {σ : Store}, Post D.B0 D.s₀ (env :: outer) (Loc env) NoE q (RF Γ env) ((putMany is l φ σ).bind fun φ σ => .ok (.nxt φ) σ) Q E → l.length = is.length := fun {is l φ σ} hp => putMany_len hp
      have e := this h1'
      rw [List.length_reverse, List.length_reverse] at e
      exact e
    have hl : xs.length = vs.size := by rw [l3, ← hlen, ← r.length, Array.length_toList]
    rw [hl]
    refine wpAny_unpackItems_tuple (s := sh D.s₀ q) hr.1 htup fun h' hk => ?_
    have fin : ∀ b o, q.h.get? b = some o → h'.get? b = some o := fun b o e => hk b o (Nat.ne_of_lt (Heap.lt_size e)) e
    have V2 : Vs Γ env φ { q with h := h' } := (V.on S s1).on S1 (Step.push (t := q.t) fin)
    have S2 := S1.push (t := q.t) fin
    have r2 : VRs h' q.ρ q.σ.n vs.toList l := r.ext (fun a o e _ => fin a o e) (Nat.le_refl _) fun _ _ => rfl
    refine putMany_ok (X := Loc env) (st := fun n => bindName env n) (fun h => bindName_ h) hN.reverse (p := q) (q := { q with h := h' }) he S2 (Step.push (t := q.t) fin) V2 r2.reverse (fun _ _ => rfl) h1' fun q3 φ3 S3 s3 V3 h3 => ?_
    exact h3.ok (q := q3) (b := Flow.next) S3 s3 V3
  | _ => exact h1.elim
end
end Mine
end

section
open PySem PySem.W PyProof.Rows PySem.Calls PySem.Spec
namespace Mine
set_option autoImplicit false

section
variable {D : Wd} {m : Nat} {Γ : Names}
theorem not_interactive {fr : List Env} {env : Env} (he : EnvOK D.B0 Γ env fr) : interactive env = false := by
  unfold interactive; rw [he.kind]; rfl

/-! a list is turned -/
theorem turn_list {fr : List Env} {X : Addr → Prop} {p q : Pt} {k : Nat} {vs : Array Value} {l : List AV} {h' : Heap} {t : Nat} (S : St D.B0 fr q) (s : Step X fr p q) (hk : k < q.σ.n) {vs0 : Array Value} (hl0 : q.h.IsList (q.ρ k) vs0) (hl : PlainL h' (q.ρ k) vs) (hs : Heap.SameBut (q.ρ k) q.h h') (r : VRs q.h q.ρ q.σ.n vs.toList l) :
    St D.B0 fr ⟨q.ρ, sset q.σ k (.list l), h', t⟩ ∧ Step X fr p ⟨q.ρ, sset q.σ k (.list l), h', t⟩ ∧ Step NoX fr q ⟨q.ρ, sset q.σ k (.list l), h', t⟩ := by
  obtain ⟨o, e, hc, n, hd⟩ := hl0
  have hard : ∀ a o, q.h.get? a = some o → Hard o → h'.get? a = some o := fun a o' e' z => (hs.2 a fun w => by
    subst w; rw [e] at e'; cases e'; exact z.plain.2.1 _ _ hd hc).trans e'
  have ho : HO h' q.ρ q.σ.n (q.ρ k) (.list l) := ⟨vs, hl.isList, r.ext hard (Nat.le_refl _) fun _ _ => rfl⟩
  exact ⟨S.turn hk hs ho fun _ _ => let ⟨o, _, e, _, dn, _⟩ := hl; ⟨o, e, dn⟩, s.then (Step.turn hk hs ho), Step.turn hk hs ho⟩
theorem plain_of {fr : List Env} {q : Pt} {k : Nat} {l : List AV} {vs : Array Value} (S : St D.B0 fr q) (g : sget q.σ k = some (.list l)) (hl : q.h.IsList (q.ρ k) vs) : PlainL q.h (q.ρ k) vs := by
  obtain ⟨ob, eb, db⟩ := S.nod _ _ g
  obtain ⟨o, e, hc, n, hd⟩ := hl
  rw [e] at eb; cases eb
  exact ⟨_, n, e, hc, db, hd⟩
theorem short_fits {n : Nat} (h : Nat.blt n 100000 = true) : n ≤ sizeLine := Nat.le_of_lt (Nat.lt_of_lt_of_le (Nat.le_of_ble_eq_true h) (by decide +kernel))

theorem getV_bindP {α : Type} {φ : Vars} {i : Nat} {σ : Store} {k : AV → R α} : getV φ i σ k = (getV φ i σ fun v => .ok v σ).bind fun v σ => k v := by
  unfold getV
  rw [nth_eq, nth_eq]
  cases φ[i]? with
  | none => rfl
  | some s =>
    cases s with
    | lv w => cases w with
      | none => rfl
      | some w => exact (bind_ok w σ fun v σ => k v).symm
    | gl => rfl
    | cl c =>
      show (getO σ c fun o => onCell o fun v => onO v .bad k) = (getO σ c fun o => onCell o fun v => onO v .bad fun v => R.ok v σ).bind _
      rw [getO_eq, getO_eq]
      cases sget σ c with
      | none => rfl
      | some o =>
        cases o with
        | list l => rfl
        | cell w => cases w with
          | none => rfl
          | some w => exact (bind_ok w σ fun v σ => k v).symm

/-- x.append(y) -/
theorem st_app {x : Str} {np apos cpos pos : Pos} {e : Expr} {i : Nat} {a : DX} (hx : SoundX D m Γ (.Name x np) (xVar i)) (ha : SoundX D m Γ e a)
    (hfew : ∀ env, ((backTo cpos (starEach [e] env)).all (fun x => !x.1) && (backToKw cpos (keywordEach [] env)).all (fun x => x.1.isSome)
      && decide (([e] : List Expr).length + ([] : List Keyword).length + (if ([] : List Keyword).isEmpty then 0 else 1) < 30)) = true := by intro _; rfl)
    (hline : (apos.endLine == cpos.line) = true := by rfl) (htrees : ∀ env, backTo cpos (starEach [e] env) = [(false, eval e env)] := by intro _; rfl) :
    Sound1 D m Γ (.Expr (.Call (.Attribute (.Name x np) "append" apos) [e] [] cpos) pos) (sApp i a) := by
  intro n c hC A outer env φ p Q E hr hf hfl he S V hp
  refine wpAny_Expr ?_ (not_interactive he) rfl
  refine wpAny_Call_append rfl (hfew env) hline (htrees env) ?_
  have hp : Post D.B0 D.s₀ (env :: outer) (Loc env) NoE p (RF Γ env) (getV φ i p.σ fun u => onRef u fun k => getL p.σ k fun _ => (a c φ p.σ).bind fun v σ => getL σ k fun l => ifB (Nat.blt (List.length l) 100000) (fL (l ++ [v]) fun l => setO σ k (.list l) fun σ => .ok (.nxt φ) σ) .bad) Q E := hp
  rw [getV_bindP] at hp
  have hp : Post D.B0 D.s₀ (env :: outer) (Loc env) NoE p (RF Γ env) ((xVar i c φ p.σ).bind fun u _ => onRef u fun k => getL p.σ k fun _ => (a c φ p.σ).bind fun v σ => getL σ k fun l => ifB (Nat.blt (List.length l) 100000) (fL (l ++ [v]) fun l => setO σ k (.list l) fun σ => .ok (.nxt φ) σ) .bad) Q E := hp
  have hsame : ∀ u σ, xVar i c φ p.σ = .ok u σ → σ = p.σ := by
    intro u σ h
    have h : getV φ i p.σ (fun v => R.ok v p.σ) = .ok u σ := h
    unfold getV at h
    rw [nth_eq] at h
    cases e1 : φ[i]? with
    | none => rw [e1] at h; cases h
    | some s =>
      rw [e1] at h
      cases s with
      | lv w => cases w with
        | none => cases h
        | some w => cases (show (R.ok w p.σ : R AV) = .ok u σ from h); rfl
      | gl => cases h
      | cl c' =>
        have h : getO p.σ c' (fun o => onCell o fun v => onO v .bad fun v => R.ok v p.σ) = .ok u σ := h
        rw [getO_eq] at h
        cases e2 : sget p.σ c' with
        | none => rw [e2] at h; cases h
        | some o =>
          rw [e2] at h
          cases o with
          | list l => cases h
          | cell w => cases w with
            | none => cases h
            | some w => cases (show (R.ok w p.σ : R AV) = .ok u σ from h); rfl
  cases hv : xVar i c φ p.σ with
  | bad => rw [hv] at hp; exact hp.elim
  | ex k σ =>
    exfalso
    have h : getV φ i p.σ (fun v => R.ok v p.σ) = .ex k σ := hv
    unfold getV at h
    rw [nth_eq] at h
    cases e1 : φ[i]? with
    | none => rw [e1] at h; cases h
    | some s =>
      rw [e1] at h
      cases s with
      | lv w => cases w <;> cases h
      | gl => cases h
      | cl c' =>
        have h : getO p.σ c' (fun o => onCell o fun v => onO v .bad fun v => R.ok v p.σ) = .ex k σ := h
        rw [getO_eq] at h
        cases e2 : sget p.σ c' with
        | none => rw [e2] at h; cases h
        | some o =>
          rw [e2] at h
          cases o with
          | list l => cases h
          | cell w => cases w <;> cases h
  | ok u σ =>
    have hσ := hsame u σ hv
    subst hσ
    rw [hv, bind_ok] at hp
    refine hx hC hr hf he S V ?_
    rw [hv]
    intro q v e1 S1 s1 x1
    have hp1 := hp.step (s1.anyX (X := Loc env))
    rw [← e1] at hp1
    obtain ⟨k, hk, rfl, rfl, h1⟩ := onRef_ok x1 hp1
    obtain ⟨l0, vs0, g0, hl0, xl0, h2⟩ := getL_ok S1 h1
    refine ⟨q.ρ k, vs0, rfl, plain_of S1 g0 hl0, ?_⟩
    refine ha hC hr hf he S1 (V.on S s1) (Post.expr h2 fun q2 b w S2 s2 x2 h3 => ?_)
    obtain ⟨l, vs, g, hl, xl, h4⟩ := getL_ok S2 h3
    obtain ⟨hb, h5⟩ := ifB_ok h4
    rw [fL_eq, setO_eq] at h5
    have hz : vs.size ≤ sizeLine := by rw [← Array.length_toList, xl.length]; exact short_fits hb
    have hk2 : k < q2.σ.n := Nat.lt_of_lt_of_le hk s2.le
    rw [← s2.same k hk]
    refine list_append_plainL (s := sh D.s₀ q2) (plain_of S2 g hl) (fun h' hpl hs => ?_) hz
    have e3 : (vs.push w).toList = vs.toList ++ [w] := by simp
    obtain ⟨S3, s3, s3'⟩ := turn_list (t := q2.t) S2 (Step.refl (Loc env) _ q2) hk2 hl hpl hs (by rw [e3]; exact xl.append (.cons x2 .nil))
    exact h5.ok (q := ⟨q2.ρ, sset q2.σ k (.list (l ++ [b])), h', q2.t⟩) (b := Flow.next) S3 s3 (((V.on S s1).on S1 s2).on S2 s3')

/-- a call whose answer, none, is dropped -/
theorem st_exp {e : Expr} {pos : Pos} {a : DX} (ha : SoundX D m Γ e a) (hs : ∀ env, swapsWith e none pos.line env = pure false := by intro _; rfl) : Sound1 D m Γ (.Expr e pos) (sExp a) := by
  intro n c hC A outer env φ p Q E hr hf hfl he S V hp
  refine wpAny_Expr ?_ (not_interactive he) (hs env)
  refine ha hC hr hf he S V (Post.expr hp fun q u v S1 s1 x1 h1 => ?_)
  cases x1 with
  | non => exact Post.here (Rel := RF Γ env) (a := Fl.nxt φ) (b := Flow.next) h1 S1 (V.on S s1)
  | _ => exact h1.elim
theorem st_ret {e : Expr} {pos : Pos} {a : DX} (ha : SoundX D m Γ e a) : Sound1 D m Γ (.Return (some e) pos) (sRet a) := by
  intro n c hC A outer env φ p Q E hr hf hfl he S V hp
  refine wpAny_Return_some (ha hC hr hf he S V (Post.expr hp fun q u v S1 s1 x1 h1 => ?_))
  exact Post.here (Rel := RF Γ env) (a := Fl.ret u) (b := Flow.ret v) h1 S1 x1
theorem st_if {t : Expr} {x y : List Stmt} {pos : Pos} {d : DX} {a b : DS} (ht : SoundT D m Γ t d) (ha : SoundS D m Γ x a) (hb : SoundS D m Γ y b) : Sound1 D m Γ (.If t x y pos) (sIf d a b) := by
  intro n c hC A outer env φ p Q E hr hf hfl he S V hp
  refine wpAny_If (ht hC hr hf he S V (Post.exprT (f := fun x σ => ifB x (a c φ σ) (b c φ σ)) hp fun q z S1 s1 h1 => ?_))
  cases z with
  | true => exact ha hC hr hf hfl he S1 (V.on S s1) h1
  | false => exact hb hC hr hf hfl he S1 (V.on S s1) h1

section
variable {B0 : Heap} {s₀ : Shared} {fr : List Env} {X : Addr → Prop} {EX : Pt → Prop} {p : Pt} {γ δ : Type} {Rel2 : Pt → γ → δ → Prop} {E : Value → Shared → Prop}
theorem Post.sureT {r : R AV} {f : Bool → Store → R γ} {Q2 : δ → Shared → Prop} {Q : Bool → Shared → Prop} {E' : Value → Shared → Prop} {EX' : Pt → Prop} {p' : Pt} {Y : Addr → Prop} (hp : Post B0 s₀ fr X EX p Rel2 (r.sure fun u σ => onBoo u fun b => f b σ) Q2 E)
    (k : ∀ q b, St B0 fr q → Step Y fr p' q → Post B0 s₀ fr X EX p Rel2 (f b q.σ) Q2 E → Q b (sh s₀ q)) : Post B0 s₀ fr Y EX' p' RB (tr r) Q E' := by
  cases r with
  | ok a σ =>
    rw [sure_ok] at hp
    show Post B0 s₀ fr Y EX' p' RB ((R.ok a σ).bind _) Q E'
    rw [bind_ok]
    cases a with
    | boo b =>
      intro q b' e S s x
      cases x
      subst e
      exact k q b S s hp
    | _ => exact hp.elim
  | ex k' σ => exact hp.elim
  | bad => exact hp
end
theorem st_whl {t : Expr} {body : List Stmt} {pos : Pos} {d : DX} {b : DS} (ht : SoundT D m Γ t d) (hb : SoundS D m Γ body b) : Sound1 D m Γ (.While t body [] pos) (sWhl d b) := by
  intro n c hC A outer env φ p Q E hr hf hfl he S V hp
  refine wpAny_While ?_
  refine codeAny_whileLoop (fun k s => ∃ q φ, s = sh D.s₀ q ∧ St D.B0 (env :: outer) q ∧ Step (Loc env) (env :: outer) p q ∧ Vs Γ env φ q ∧
    Post D.B0 D.s₀ (env :: outer) (Loc env) NoE p (RF Γ env) (whl (fun φ σ => d c φ σ) (fun φ σ => b c φ σ) k φ q.σ) Q E) (fun k s hI => ?_) turns ⟨p, φ, rfl, S, Step.refl _ _ _, V, hp⟩
  obtain ⟨q, φ, rfl, S1, s1, V1, h1⟩ := hI
  cases k with
  | zero => exact h1.elim
  | succ k =>
    have h1 : Post D.B0 D.s₀ (env :: outer) (Loc env) NoE p (RF Γ env) ((d c φ q.σ).sure fun u σ => onBoo u fun x => ifB x ((b c φ σ).sure fun r σ => Fl.rec (motive := fun _ => R Fl) (fun φ => whl (fun φ σ => d c φ σ) (fun φ σ => b c φ σ) k φ σ) (fun v => .ok (.ret v) σ) r) (.ok (.nxt φ) σ)) Q E := h1
    refine ht hC hr hf he S1 V1 (Post.sureT h1 fun q2 z S2 s2 h2 => ?_)
    have s12 : Step (Loc env) (env :: outer) p q2 := s1.then s2.anyX
    cases z with
    | false =>
      exact wpAny_execs_nil (h2.ok (q := q2) (b := Flow.next) S2 s12 (V1.on S1 s2))
    | true =>
      have h2 : Post D.B0 D.s₀ (env :: outer) (Loc env) NoE p (RF Γ env) ((b c φ q2.σ).sure fun r σ => Fl.rec (motive := fun _ => R Fl) (fun φ => whl (fun φ σ => d c φ σ) (fun φ σ => b c φ σ) k φ σ) (fun v => .ok (.ret v) σ) r) Q E := h2
      refine hb hC hr hf hfl he S2 (V1.on S1 s2) (Post.sure (p' := q2) h2 fun q3 fl f S3 s3 x3 h3 => ?_)
      cases fl with
      | nxt φ3 =>
        cases f with
        | next => exact ⟨k, Nat.lt_succ_self _, q3, φ3, rfl, S3, s12.then s3, x3, h3⟩
        | _ => exact x3.elim
      | ret v =>
        cases f with
        | ret w => exact h3.ok (q := q3) (b := Flow.ret w) S3 (s12.then s3) x3
        | _ => exact x3.elim

/-- what flies out of a loop's body -/
theorem Post.noted {s₀ : Shared} {M : Model} {A : Around} {outer : List Env} {env : Env} {L : Addr} {X : Addr → Prop} {p : Pt} {α β : Type} {Rel : Pt → α → β → Prop} {r : R α} {Q : β → Shared → Prop} {E : Value → Shared → Prop} {B0 : Heap} (hf : A.frames = some (env :: outer)) (hfl : env.frame = some L) (S0 : St B0 (env :: outer) p)
    (hp : Post B0 s₀ (env :: outer) X NoE p Rel r Q E) : Post B0 s₀ (env :: outer) X NoE p Rel r Q (notedBy M A env fun e s' => cameBackBy M A env E e s') := by
  cases r with
  | ok a σ => exact hp
  | ex k σ =>
    intro q e he S s hx F
    have hB : ∀ b o, B0.get? b = some o → ∃ o', p.h.get? b = some o' := fun b o e => ⟨o, S0.base b o e⟩
    have hfr0 : frame0 (env :: outer) = some L := hfl
    rw [hfr0] at F
    refine note_ok hf hfl rfl hB S s F fun h' S' s' F' => ?_
    refine back_ok (q := { q with h := h' }) hfl hB S' s' F' fun h2 S2 s2 F2 => ?_
    refine hp { q with h := h2 } e he S2 s2 trivial ?_
    rw [hfr0]
    exact F2.fly (.inr ⟨L, rfl, rfl⟩)
  | bad => exact hp
theorem st_for {iter : Expr} {x : Str} {px : Pos} {body : List Stmt} {pos : Pos} {i : Nat} {k : NT} {d : DX} {b : DS} (ht : SoundX D m Γ iter d) (hb : SoundS D m Γ body b) (hx : Γ[i]? = some (x, k)) (hk : k = .loc ∨ k = .cel)
    (hs : ∀ env v, foldedSetIterable iter env v = pure v := by intro _ _; rfl) : Sound1 D m Γ (.For (.Name x px) iter body [] pos) (sFor (.one i) d b) := by
  intro n c hC A outer env φ p Q E hr hf hfl he S V hp
  refine wpAny_For ?_ (hs env)
  refine ht hC hr hf he S V (Post.bindAt hp (Step.refl _ _ _) (fun _ _ _ _ h => h) (fun _ _ _ _ => trivial) fun q1 u v S1 s1 _ x1 h1 => ?_)
  refine it_begin (X := Loc env) (p := p) S1 x1 h1 fun it h2 hit01 hk2 hit2 hp2 => ?_
  have hit0 := s1.none_of hit01
  have hitb : D.B0.get? it = none := by
    cases e : D.B0.get? it with
    | none => rfl
    | some o => have := S.base _ o e; rw [hit0] at this; cases this
  have S2 : St D.B0 (env :: outer) { q1 with h := h2 } := S1.push hk2
  have s2' : Step NoX (env :: outer) q1 { q1 with h := h2 } := Step.push hk2
  refine codeAny_forLoop (fun k s => ∃ q j φ, s = sh D.s₀ q ∧ St D.B0 (env :: outer) q ∧ Step (Loc env) (env :: outer) p q ∧ ItAt q.h q.ρ q.σ.n it u j ∧ Vs Γ env φ q ∧
    Post D.B0 D.s₀ (env :: outer) (Loc env) NoE p (RF Γ env) (forLoop (fun φ σ => b c φ σ) (.one i) u k j φ q.σ) Q E) (fun k s hI => ?_) turns ⟨{ q1 with h := h2 }, 0, φ, rfl, S2, s1.anyX.then s2'.anyX, hit2, (V.on S s1).on S1 s2', hp2⟩ (by intro v; rfl)
  obtain ⟨q, j, φ, rfl, S', s', hit', V', hpk⟩ := hI
  cases k with
  | zero => exact hpk.elim
  | succ k =>
    have hpk : Post D.B0 D.s₀ (env :: outer) (Loc env) NoE p (RF Γ env) (next u j q.σ (.ok (.nxt φ) q.σ) fun v => (putT (.one i) v φ q.σ).bind fun φ σ => (b c φ σ).bind fun r σ => Fl.rec (motive := fun _ => R Fl) (fun φ => fN (j + 1) fun j => forLoop (fun φ σ => b c φ σ) (.one i) u k j φ σ) (fun v => .ok (.ret v) σ) r) Q E := hpk
    have vs6 : ∀ (h6 : Heap) (t6 : Nat), Heap.ExtBut it q.h h6 → Vs Γ env φ { q with h := h6, t := t6 } := fun h6 t6 hk6 => by
      obtain ⟨mm, hn6, hm6⟩ := V'.ns
      obtain ⟨o₀, e₀, ⟨vs₀, d₀⟩, _, hh₀⟩ := hit'.obj
      have hne : env.locals ≠ it := fun e => by
        obtain ⟨o', es, ep, e3, e4, _⟩ := hn6
        rw [e, e₀] at e3; cases e3
        rw [d₀] at e4; cases e4
      have hard : ∀ a o, q.h.get? a = some o → Hard o → h6.get? a = some o := fun a o e z => hk6 a o (fun w => by subst w; rw [e₀] at e; cases e; exact hh₀ z) e
      exact ⟨V'.len, ⟨mm, hn6.extBut hk6 hne, fun i x hx => let ⟨v, f1, f2⟩ := hm6 i x hx; ⟨v, f1, OV.ext hard (Nat.le_refl _) (fun _ _ => rfl) f2⟩⟩, V'.cells⟩
    refine it_next hr S' s' hit0 hitb hit' hpk (fun h6 hk6 S6 s6 hp6 => ?_) fun h6 t6 v6 b6 hk6 S6 s6 hit6 r6 hp6 => ?_
    · exact wpAny_execs_nil (hp6.ok (q := { q with h := h6 }) (b := Flow.next) S6 s6 (vs6 h6 q.t hk6))
    · refine wpAny_assign_Name ?_
      have hput : Post D.B0 D.s₀ (env :: outer) (Loc env) NoE p (RF Γ env) ((putV φ i b6 q.σ fun φ σ => .ok φ σ).bind fun φ σ => (b c φ σ).bind fun r σ => Fl.rec (motive := fun _ => R Fl) (fun φ => fN (j + 1) fun j => forLoop (fun φ σ => b c φ σ) (.one i) u k j φ σ) (fun v => .ok (.ret v) σ) r) Q E := hp6
      rw [putV_bind] at hput
      refine put_ok (X := Loc env) (p := p) (q := { q with h := h6, t := t6 }) he S6 s6 (vs6 h6 t6 hk6) r6 hx hk (fun _ _ => rfl) hput fun q7 φ7 S7 s7 sq7 V7 hp7 => ?_
      rw [bind_ok] at hp7
      have hit7 : ItAt q7.h q7.ρ q7.σ.n it u (j + 1) := hit6.keep (q := { q with h := h6, t := t6 }) S6 sq7 (vs6 h6 t6 hk6).loose
      refine hb hC hr hf hfl he S7 V7 (Post.noted hf hfl S7 (Post.bindAt hp7 s7 (fun _ _ _ h => h) (fun _ _ _ _ => trivial) fun q8 fl f S8 s8 sp8 x8 hp8 => ?_))
      cases fl with
      | nxt φ8 =>
        cases f with
        | next =>
          have hp9 : Post D.B0 D.s₀ (env :: outer) (Loc env) NoE p (RF Γ env) (fN (j + 1) fun j => forLoop (fun φ σ => b c φ σ) (.one i) u k j φ8 q8.σ) Q E := hp8
          rw [fN_eq] at hp9
          exact ⟨k, Nat.lt_succ_self _, q8, j + 1, φ8, rfl, S8, sp8, hit7.keep S7 s8 V7.loose, x8, hp9⟩
        | _ => exact x8.elim
      | ret v =>
        cases f with
        | ret w => exact hp8.ok (q := q8) (b := Flow.ret w) S8 sp8 x8
        | _ => exact x8.elim
end
end Mine
end

section
open PySem PySem.W PyProof.Rows PySem.Calls PySem.Spec
namespace Mine
set_option autoImplicit false

section
variable {prog : Program} {w : World} {A : Around} {E : Value → Shared → Prop} {s : Shared} {env : Env}
/-- a method of a thing, called -/
theorem call_meth {o : Expr} {name : Str} {apos pos : Pos} {args : List Expr} {Q : Value → Shared → Prop}
    (hbase : attributeBase o name env (eval o env) = eval o env)
    (hfew : ((backTo pos (starEach args env)).all (fun x => !x.1) && (backToKw pos (keywordEach [] env)).all (fun x => x.1.isSome)
      && decide (args.length + ([] : List Keyword).length + (if ([] : List Keyword).isEmpty then 0 else 1) < 30)) = true)
    (hline : (apos.endLine == pos.line) = true)
    (h : wpAny (model prog w) A (eval o env) (fun ov s₁ => ∀ pl, wpAny (model prog w) A (getMethod ov name pl) (fun f s₂ => wpAny (model prog w) A (callWith pos f.1 f.2 (backTo pos (starEach args env)) []) Q E s₂) E s₁) E s) :
    wpAny (model prog w) A (eval (.Call (.Attribute o name apos) args [] pos) env) Q E s := by
  rw [arm_eval_Call, hbase]
  refine wpAny_bind (wpAny_mono h (fun ov s₁ h₁ => ?_) fun _ _ e => e)
  refine wpAny_bind (wpAny_standAt ?_)
  have hform : methodCallForm (args.length + ([] : List Keyword).length) (backTo pos (starEach args env)) (backToKw pos (keywordEach [] env)) = true := hfew
  have hpos : methodCallPos true o env apos pos = pure pos := by unfold methodCallPos; simp [hline]
  unfold methodCall
  rw [hform]
  refine wpAny_bind (wpAny_holding (wpAny_mono (h₁ _) (fun f s₂ h₂ => ?_) fun _ _ e => e))
  obtain ⟨f, first⟩ := f
  exact wpAny_bind (wpAny_of_eq hpos h₂)
end

/-- the class of the exceptions, on the heap that stays -/
structure CasOk (D : Wd) : Prop where
  cls : ∃ nm q bs sn sub ab col dd k0 k1 k2 k3 k5, D.B0.get? casFail = some (excClassObj nm q casFail 30 bs [.type "Exception", .type "BaseException", .type "object"] true sn sub ab col dd k0 k1 k2 k3 k5 "Exception.__new__")
  ns : ∃ mN, D.B0.Ns 30 mN ∧ mN "__init__" = some (.ref 28) ∧ mN "__setattr__" = none ∧ mN "kind" = none ∧ mN "text" = none ∧ mN "__getattribute__" = none
  ini : ∃ o fd cd, D.B0.get? 28 = some o ∧ o.cls = .type "function" ∧ o.data = .func fd ∧ fd.code = cd ∧ D.B0.CodeRec cd fd.qualname ∧ fd.closure = [] ∧ fd.globals = mainGlobals ∧ fd.builtins = builtinsNs ∧
    fd.scope.kind = .function ∧ fd.scope.isCoroutine = false ∧ fd.scope.isGenerator = false ∧ fd.scope.names = [(Str.ofString "self", .local), (Str.ofString "kind", .local), (Str.ofString "text", .local), (Str.ofString "Exception", .globalImplicit)] ∧
    (∀ a b c, bindArgs fd ⟨[a, b, c], []⟩ = pure [(Str.ofString "self", a), (Str.ofString "kind", b), (Str.ofString "text", c)]) ∧
    ∃ p1 p2 p3 p4 p5 p6 p7 p8 p9 p10 p11 p12 p13 p14 p15 p16 p17 p18, fd.body = .stmts [
      .Expr (.Call (.Attribute (.Name (Str.ofString "Exception") p1) (Str.ofString "__init__") p2) [.Name (Str.ofString "self") p3, .BinOp (.BinOp (.Name (Str.ofString "kind") p4) .Add (.Constant (.str (Str.ofString ": ")) 0 p5) p6) .Add (.Name (Str.ofString "text") p7) p8] [] p9) p10,
      .Assign [.Attribute (.Name (Str.ofString "self") p11) (Str.ofString "kind") p12] (.Name (Str.ofString "kind") p13) p14,
      .Assign [.Attribute (.Name (Str.ofString "self") p15) (Str.ofString "text") p16] (.Name (Str.ofString "text") p17) p18] ∧ p2.endLine = p9.line
  exc : D.mg (Str.ofString "Exception") = none ∧ D.mb (Str.ofString "Exception") = some (.type "Exception")
  glob : D.mg (Str.ofString "CasFail") = some (.ref casFail)

theorem txt_len2 : ∀ k, k < 28 → ∀ j, j < 28 → (txt k).length + (Str.ofString ": ").length ≤ sizeLine ∧ (txt k ++ Str.ofString ": ").length + (txt j).length ≤ sizeLine := by decide +kernel

theorem fr_empty {h : Heap} {L : Addr} {m : Str → Option Value} (hn : h.Ns L m) : Fr (default : Heap) L h m := ⟨hn, fun b o e => by
  have := Heap.lt_size e
  exact absurd this (Nat.not_lt_zero _), Nat.zero_le _⟩
theorem in_nil (h : Heap) : Frag.In [] h := fun a o e => by cases e

/-- a new CasFail -/
structure NewFail (h h' : Heap) (e : Addr) (k : Nat) : Prop where
  keeps : ∀ b o, h.get? b = some o → h'.get? b = some o
  new : h.get? e = none
  there : ∃ o d x, h'.get? e = some o ∧ o.cls = .ref casFail ∧ o.dict = some d ∧ h.get? d = none ∧ KindAt h' d k ∧ o.data = .fields #[.ref x, .none, .none, .none, .bool false, .none]

theorem init_own {prog : Program} {w : World} {A : Around} {E : Value → Shared → Prop} {s : Shared} {nm q : Str} {bs : List Value} {sn : List Str} {sub : List Value} {ab : Bool} {col : Option Bool} {dd : Option Addr} {k0 k1 k2 k3 k5 : Option Value} {e t0 : Addr} {oe : Obj} {vs : Array Value} {rest : List Value} {Q : Value → Shared → Prop}
    (hC : s.heap.get? casFail = some (excClassObj nm q casFail 30 bs [.type "Exception", .type "BaseException", .type "object"] true sn sub ab col dd k0 k1 k2 k3 k5 "Exception.__new__")) (he : s.heap.get? e = some oe) (hcls : oe.cls = .ref casFail) (hd : oe.data = .fields vs) (h0 : vs[0]? = some (.ref t0))
    (h : Q .none { s with heap := (s.heap.push { cls := .type "tuple", data := .seq rest.toArray }).update e (Obj.mapFields (·.setIfInBounds 0 (.ref s.heap.objs.size))) }) (hrest : rest.length ≤ sizeLine) :
    wpAny (model prog w) A (call (.builtin "Exception.__init__") (.ref e :: rest)) Q E s := by
  obtain ⟨hp, g, d, t, os⟩ := s
  have F := PySem.F.excBase_Exception
  refine wpAny_call (codeAny_call_builtin F.init.plain F.initEntry (wpAny_check_init_sub F hC he hcls ?_))
  unfold Builtin.«BaseException.__init__»
  dsimp only
  rw [if_neg (by simp)]
  unfold newTuple Builtin.BaseException.bexcPut
  have hsz : 0 < vs.size := (Array.getElem?_eq_some_iff.mp h0).1
  have he₁ := Heap.get?_push_of_some (h := hp) { cls := .type "tuple", data := .seq rest.toArray } he
  refine wpAny_bind (wpAny_newObj_type (wpAny_bind (wpAny_bind (wpAny_field he₁ hd h0 (wpAny_bind (wpAny_setField he₁ hd hsz ?_))))) (by show rest.toArray.size ≤ sizeLine; rw [List.size_toArray]; exact hrest))
  exact wpAny_letGo (wpAny_pure h)


section
open Sem (wp)
open Builtin Builtin.ObjectAttr
variable {prog : Program} {w : World} {A : Around} {E : Value → Shared → Prop} {h : Heap} {g : Array GenState} {d : Drawn} {t : Nat} {os : OsState}
variable {nm q : Str} {C N x : Addr} {bs bm : List Value} {sn : List Str} {sub : List Value} {ab : Bool} {col : Option Bool} {dd : Option Addr} {k0 k1 k2 k3 k5 : Option Value} {B newId sa owner : String}
  {mN : Str → Option Value} {name : Str} {v : Value} {o : Obj}
set_option maxRecDepth 100000
/-- the first attribute that a thing gets: its dict is made -/
theorem first_store {tk : Tok} {Q : Fin → Shared → Prop} (SF : StoreFacts B bm sa owner)
    (hC : h.get? C = some (excClassObj nm q C N bs bm true sn sub ab col dd k0 k1 k2 k3 k5 newId)) (hn : h.Ns N mN) (hna : mN name = none)
    (hB : typeLookup (.type B) name = pure none) (hx : h.get? x = some o) (hc : o.cls = .ref C) (hnc : ∀ c, o.data ≠ .cls c) (hdn : o.dict = none)
    (hq : ∀ h' tk', h'.get? x = some { o with dict := some h.objs.size } → h'.Ns1 h.objs.size (fun y => if y = name then some v else none) →
      (∀ b ob, b ≠ x → h.get? b = some ob → h'.get? b = some ob) → Q (.done (.ret .none)) ⟨h', g, d, tk', os⟩) :
    wpAny (model prog w) A (Builtin.«object.__setattr__» ⟨[.ref x, .str name tk, v], []⟩) Q E ⟨h, g, d, t, os⟩ := by
  have hpass := SF.passes (.ref x)
  unfold Builtin.«object.__setattr__»
  repeat (first | rw [refuse_eq] | (rw [refuseLoop_ref, hpass]) | (with_reducible refine wpAny_loadPart_at hx ?_; rw [hc]) | with_reducible refine wpAny_mroOf_exc hC ?_ | (with_reducible refine wpAny_typeLookup_exc hC hn SF.mro hB ?_; rw [hna]) | wp_step)
  rw [hdn, if_neg (by simp [typeHasDict])]
  split
  · rename_i hcd
    cases hcd
  split
  · rename_i c hcd
    exact absurd hcd (hnc c)
  have hx₁ : (h.push { cls := .type "dict", data := .dict #[] }).get? x = some o := Heap.get?_push_of_some _ hx
  have hxs : x ≠ h.objs.size := Nat.ne_of_lt (Heap.lt_size hx)
  refine wpAny_bind (wpAny_alloc' ?_)
  refine wpAny_bind (wpAny_update' hx₁ ?_)
  refine wpAny_pure ?_
  generalize hH : ((h.push { cls := .type "dict", data := .dict #[] }).update x fun o => { cls := o.cls, dict := some h.objs.size, data := o.data, slots := o.slots }) = H
  have hgd : H.get? h.objs.size = some { cls := .type "dict", data := .dict #[] } := by
    rw [← hH]; exact (Heap.get?_update_ne _ _ _ _ hxs.symm).trans (Heap.get?_push_at rfl rfl)
  have hnd : H.Ns h.objs.size (fun _ => none) := ⟨_, #[], _, hgd, rfl, fun e he => absurd he (by simp), fun _ => rfl⟩
  show wpAny _ _ (storeInDict h.objs.size (.str name tk) name v) _ _ _
  unfold storeInDict newKeyGuard
  refine wpAny_bind (wpAny_pure (wpAny_bind (wpAny_nsSet1 (Heap.Ns1.of_empty hnd) fun h' hn' hs => ?_)))
  obtain ⟨oD, esD, epD, hoD, hdD, hcD⟩ := hn'.count (Within.cons name v Within.nil)
  refine wpAny_bind (wpAny_lookBehind hoD (by rw [hdD]; exact pastItsLine_dict (Nat.le_trans hcD (by rw [List.length_cons, List.length_nil, sizeLine_eq]; omega))) ?_)
  wp_walk
  refine hq h' _ ?_ hn' fun b ob hbx hb => ?_
  · refine (hs.2 x hxs).trans ?_
    rw [← hH]
    refine Heap.get?_update_self _ hx₁ ?_
    have hfr := (Heap.get?_some_iff.mp hx).2
    obtain ⟨oc, od, odt, osl⟩ := o
    cases odt <;> first | rfl | exact hfr
  · refine (hs.2 b (Nat.ne_of_lt (Heap.lt_size hb))).trans ?_
    rw [← hH]
    exact (Heap.get?_update_ne _ _ _ _ hbx).trans (Heap.get?_push_of_some _ hb)
theorem first_attr {Q : Unit → Shared → Prop} (SF : StoreFacts B bm sa owner)
    (hC : h.get? C = some (excClassObj nm q C N bs bm true sn sub ab col dd k0 k1 k2 k3 k5 newId)) (hn : h.Ns N mN) (hns : mN "__setattr__" = none) (hna : mN name = none)
    (hB : typeLookup (.type B) name = pure none) (hx : h.get? x = some o) (hc : o.cls = .ref C) (hnc : ∀ c, o.data ≠ .cls c) (hdn : o.dict = none)
    (hq : ∀ h' tk', h'.get? x = some { o with dict := some h.objs.size } → h'.Ns1 h.objs.size (fun y => if y = name then some v else none) →
      (∀ b ob, b ≠ x → h.get? b = some ob → h'.get? b = some ob) → Q () ⟨h', g, d, tk', os⟩) :
    wpAny (model prog w) A (setAttr (.ref x) name v) Q E ⟨h, g, d, t, os⟩ := by
  have f3 := SF.slot.bind (.ref x)
  unfold setAttr callSpecial? specialOf
  repeat (any_goals (first | assumption | (with_reducible refine wpAny_loadPart_at hx ?_; rw [hc]) | (with_reducible refine wpAny_typeLookup_exc hC hn SF.mro SF.slot.lookup ?_; rw [hns]) | wp_step))
  refine codeAny_call_builtin SF.slot.plain SF.entry (wpAny_check_sa SF hC hx hc (first_store SF hC hn hna hB hx hc hnc hdn fun h' tk' a1 a2 a3 => ?_))
  repeat (any_goals (first | assumption | wp_step))
  exact hq h' tk' a1 a2 a3
end

set_option maxHeartbeats 1000000 in
set_option maxRecDepth 100000 in
theorem ini_call {D : Wd} (hD : D.Ok) (hCas : CasOk D) {A : Around} {E : Value → Shared → Prop} {s : Shared} {e t0 : Addr} {k j : Nat} {t1 t2 : Tok} {Q : Shared → Prop} (hroom : A.depth < recursionLimit) (hbase : ∀ b o, D.B0.get? b = some o → s.heap.get? b = some o) (hke : D.B0.get? e = none) (hk : k < 28) (hj : j < 28)
    (he : s.heap.get? e = some { cls := .ref casFail, data := .fields #[.ref t0, .none, .none, .none, .bool false, .none] })
    (h : ∀ h' tk, (∀ b o, b ≠ e → s.heap.get? b = some o → h'.get? b = some o) → (∃ o d x, h'.get? e = some o ∧ o.cls = .ref casFail ∧ o.dict = some d ∧ s.heap.get? d = none ∧ KindAt h' d k ∧ o.data = .fields #[.ref x, .none, .none, .none, .bool false, .none]) → Q { s with heap := h', toks := tk }) :
    wpAny (model D.prog D.w) A (call (.ref 28) [.ref e, .str (txt k) t1, .str (txt j) t2]) (fun r s' => r = .none ∧ Q s') E s := by
  obtain ⟨nm, q, bs, sn, sub, ab, col, dd, k0, k1, k2, k3, k5, hC0⟩ := hCas.cls
  obtain ⟨mN, hN0, n1, n2, n3, n4, n5⟩ := hCas.ns
  obtain ⟨o, fd, cd, ho, hoc, hod, hcd, hcr, hclo, hgl, hbu, hsk, hco, hgen, hnames, hbind, p1, p2, p3, p4, p5, p6, p7, p8, p9, p10, p11, p12, p13, p14, p15, p16, p17, p18, hbody, hline⟩ := hCas.ini
  have ns_keep : ∀ {a : Addr} {f : Str → Option Value} {h' : Heap}, D.B0.Ns a f → (∀ b o, D.B0.get? b = some o → h'.get? b = some o) → h'.Ns a f := fun hn kk => let ⟨o, es, ep, e, r⟩ := hn; ⟨o, es, ep, kk _ o e, r⟩
  refine wpAny_call (codeAny_call_cells (fd := fd) hroom (hbase _ _ ho) hod (hD.nolim.keeps hbase) ?_ hbody (hbind _ _ _) hclo ?_ (fun s₁ X => ?_) hco hgen hsk)
  · exact Heap.CodeRec.keeps (hcd ▸ hcr) hbase
  · intro x hx
    left
    rw [hnames]
    rcases List.mem_cons.mp hx with rfl | hx
    · rfl
    rcases List.mem_cons.mp hx with rfl | hx
    · rfl
    rcases List.mem_cons.mp hx with rfl | hx
    · rfl
    · cases hx
  obtain ⟨h₁, tk, rfl, _⟩ := X.done
  generalize henv : callEnvC fd s.heap.objs.size 28 = env at X ⊢
  have eloc : env.locals = s.heap.objs.size := by rw [← henv]; rfl
  have eglob : env.globals = mainGlobals := by rw [← henv]; exact hgl
  have eblt : env.builtins = builtinsNs := by rw [← henv]; exact hbu
  have escope : env.scope = fd.scope := by rw [← henv]; rfl
  have ekind : env.scope.kind = .function := by rw [escope]; exact hsk
  have kof : ∀ x, env.kindOf x = List.lookup x [(Str.ofString "self", NameKind.local), (Str.ofString "kind", .local), (Str.ofString "text", .local), (Str.ofString "Exception", .globalImplicit)] := fun x => by unfold Env.kindOf; rw [escope, hnames]
  have hns1 := X.toInCall.ns
  have hkeep1 := X.toInCall.keep
  generalize hm : (bindL env.kindOf [(Str.ofString "self", Value.ref e), (Str.ofString "kind", .str (txt k) t1), (Str.ofString "text", .str (txt j) t2)] fun _ => none) = m at hns1
  have m1 : m (Str.ofString "self") = some (.ref e) := by rw [← hm]; simp only [bindL, kof]; rfl
  have m2 : m (Str.ofString "kind") = some (.str (txt k) t1) := by rw [← hm]; simp only [bindL, kof]; rfl
  have m3 : m (Str.ofString "text") = some (.str (txt j) t2) := by rw [← hm]; simp only [bindL, kof]; rfl
  have hLe : env.locals ≠ e := by rw [eloc]; exact Nat.ne_of_gt (Heap.lt_size he)
  have he1 := hkeep1 _ _ he
  have hb1 : ∀ b o, D.B0.get? b = some o → h₁.get? b = some o := fun b o e => hkeep1 b o (hbase b o e)
  have name_ : ∀ {A : Around} {E : Value → Shared → Prop} {h : Heap} {tk : Nat} {x : Str} {v : Value} {pos : Pos} {Q : Value → Shared → Prop}, h.Ns env.locals m → env.kindOf x = some .local → (x == ("__debug__" : Str)) = false → m x = some v → Q v { s with heap := h, toks := tk } → wpAny (model D.prog D.w) A (eval (.Name x pos) env) Q E { s with heap := h, toks := tk } :=
    fun hn hx hd hv hq => wpAny_Name (wpAny_loadName_local ekind hx hn hv hq) hd
  have hint : interactive env = false := by unfold interactive; rw [ekind]; rfl
  -- the first statement
  refine wpAny_execs_cons (wpAny_Expr ?_ hint rfl)
  refine call_meth rfl rfl (by rw [hline]; simp) ?_
  refine Name_function_global ekind (by rw [kof]; rfl) ?_ (by decide +kernel)
  refine loadGlobal_builtin (env := env) (mg := D.mg) (mb := D.mb) (by rw [eglob]; exact ns_keep hD.globs hb1) hCas.exc.1 (by rw [eblt]; exact ns_keep hD.bls hb1) hCas.exc.2 (fun pl => ?_)
  refine method_type (K := []) (h₀ := default) (L := env.locals) (m := m) (v := .builtin "Exception.__init__") (fr_empty hns1) (in_nil _) rfl (by decide +kernel) (by kernel_rfl) (by decide +kernel) ?_
  refine callWith_builtin rfl (evalArgs_plain (spliced_cons (name_ (tk := _) hns1 (by rw [kof]; rfl) (by decide +kernel) m1 (spliced_cons ?_))))
  refine wpAny_BinOp (wpAny_BinOp (name_ (tk := _) hns1 (by rw [kof]; rfl) (by decide +kernel) m2 (Constant_str (PyProof.Rows.add_str (fun t' tk' => ?_) (txt_len2 k hk j hj).1))))
  refine name_ hns1 (by rw [kof]; rfl) (by decide +kernel) m3 (PyProof.Rows.add_str (fun t3 tk3 => spliced_nil ?_) (txt_len2 k hk j hj).2)
  refine init_own (s := { s with heap := h₁, toks := tk3 }) (hb1 _ _ hC0) he1 rfl rfl rfl ?_ (by show 1 ≤ sizeLine; decide +kernel)
  generalize hH2 : ((h₁.push { cls := .type "tuple", data := .seq [Value.str (txt k ++ Str.ofString ": " ++ txt j) t3].toArray }).update e (Obj.mapFields (·.setIfInBounds 0 (.ref h₁.objs.size)))) = h₂
  have hk2 : ∀ b o, b ≠ e → h₁.get? b = some o → h₂.get? b = some o := fun b o hb e1 => by
    rw [← hH2, Heap.get?_update_other _ _ (Ne.symm hb)]; exact Heap.get?_push_of_some _ e1
  have he2 : h₂.get? e = some { cls := .ref casFail, data := .fields #[.ref h₁.objs.size, .none, .none, .none, .bool false, .none] } := by
    rw [← hH2]; exact Heap.get?_update_self _ (Heap.get?_push_of_some _ he1) rfl
  have hb2 : ∀ b o, D.B0.get? b = some o → h₂.get? b = some o := fun b o e1 => hk2 b o (fun y => by rw [y, hke] at e1; cases e1) (hb1 b o e1)
  have hns2 : h₂.Ns env.locals m := let ⟨o, es, ep, e, r⟩ := hns1; ⟨o, es, ep, hk2 _ o hLe e, r⟩
  -- the second
  refine wpAny_execs_cons (plainObj_wpAny_Assign_Attribute (name_ hns2 (by rw [kof]; rfl) (by decide +kernel) m2 (name_ hns2 (by rw [kof]; rfl) (by decide +kernel) m1 ?_)) rfl)
  have hxC : e ≠ casFail := fun y => by rw [y, hC0] at hke; cases hke
  refine first_attr PySem.F.store_Exception (hb2 _ _ hC0) (ns_keep hN0 hb2) n2 n3 (by rw [typeLookup_type, builtinLookup_eq_fast]; kernel_rfl) he2 rfl (fun c y => by cases y) rfl (fun h₃ tk4 e3 hnd3 hk3' => ?_)
  have hb3 : ∀ b o, D.B0.get? b = some o → h₃.get? b = some o := fun b o e1 => hk3' b o (fun y => by rw [y, hke] at e1; cases e1) (hb2 b o e1)
  have hns3 : h₃.Ns env.locals m := let ⟨o, es, ep, e, r⟩ := hns2; ⟨o, es, ep, hk3' _ o hLe e, r⟩
  have hdx : h₂.objs.size ≠ e := Nat.ne_of_gt (Heap.lt_size he2)
  have hdn : s.heap.get? h₂.objs.size = none := by
    cases y : s.heap.get? h₂.objs.size with
    | none => rfl
    | some o =>
      have := hk2 _ o hdx (hkeep1 _ _ y)
      exact absurd (Heap.lt_size this) (Nat.lt_irrefl _)
  have I3 : h₃.Inst e casFail (fun y => if y = Str.ofString "kind" then some (.str (txt k) t1) else none) := ⟨_, e3, rfl, fun c y => (by cases y), .inr ⟨_, rfl, hdx, hnd3⟩⟩
  -- the third
  refine wpAny_execs_cons (plainObj_wpAny_Assign_Attribute (name_ hns3 (by rw [kof]; rfl) (by decide +kernel) m3 (name_ hns3 (by rw [kof]; rfl) (by decide +kernel) m1 ?_)) rfl)
  refine store_attr PySem.F.store_Exception (hb3 _ _ hC0) (ns_keep hN0 hb3) n2 n4 (by rw [typeLookup_type, builtinLookup_eq_fast]; kernel_rfl) hxC I3 (fun h₄ tk5 I4 hk4 hs4 => ?_) (Within.cons _ _ Within.nil) (by show 1 ≤ sizeLine; decide +kernel)
  refine wpAny_execs_nil ?_
  obtain ⟨o4, e4, c4, d4, _, y4⟩ := hs4 _ e3
  have hd4 := y4 _ rfl
  refine ⟨rfl, h h₄ tk5 (fun b o hb e1 => ?_) ⟨o4, h₂.objs.size, _, e4, c4, hd4, hdn, ?_, d4⟩⟩
  · refine hk4 b o hb (fun o₀ dx e2 e5 => ?_) (hk3' b o hb (hk2 b o hb (hkeep1 b o e1)))
    rw [e3] at e2; cases e2; cases e5
    intro y; rw [y, hdn] at e1; cases e1
  · obtain ⟨o5, e5, _, _, z⟩ := I4
    rw [e4] at e5; cases e5
    rcases z with ⟨z, _⟩ | ⟨dx, z1, _, z3⟩
    · rw [hd4] at z; cases z
    · rw [hd4] at z1; cases z1
      refine ⟨_, t1, z3.ns, ?_⟩
      rw [if_neg (by decide +kernel), if_pos rfl]
end Mine
end

section
open PySem PySem.W PyProof.Rows PySem.Calls PySem.Spec
namespace Mine
set_option autoImplicit false

theorem call_weight (C : Addr) (args : List Value) (kw : List (Str × Value)) : (Code.builtin "type.__call__" ⟨.ref C :: args, kw⟩).weight = 1 := rfl

section
variable {D : Wd}
/-- CasFail(kind, text) -/
theorem new_fail (hD : D.Ok) (hCas : CasOk D) {A : Around} {E : Value → Shared → Prop} {s : Shared} {k j : Nat} {t1 t2 : Tok} {Q : Value → Shared → Prop} (hroom : A.depth + 1 < recursionLimit) (hbase : ∀ b o, D.B0.get? b = some o → s.heap.get? b = some o) (hk : k < 28) (hj : j < 28)
    (h : ∀ h' tk e, NewFail s.heap h' e k → Q (.ref e) { s with heap := h', toks := tk }) : wpAny (model D.prog D.w) A (call (.ref casFail) [.str (txt k) t1, .str (txt j) t2]) Q E s := by
  obtain ⟨nm, q, bs, sn, sub, ab, col, dd, k0, k1, k2, k3, k5, hC0⟩ := hCas.cls
  obtain ⟨mN, hN0, n1, n2, n3, n4, n5⟩ := hCas.ns
  obtain ⟨o, fd, cd, ho, hoc, _⟩ := hCas.ini
  obtain ⟨hp, g, d, t, os⟩ := s
  have hN : hp.Ns 30 mN := let ⟨o, es, ep, e, r⟩ := hN0; ⟨o, es, ep, hbase _ o e, r⟩
  refine wpAny_call_exc_init PySem.F.excBase_Exception (hbase _ _ hC0) hN n1 (hbase _ _ ho) hoc (fun h' e hm => ?_) (by show 2 ≤ sizeLine; decide +kernel)
  obtain ⟨t0, he, _, _⟩ := hm.there
  have hke : D.B0.get? e = none := by
    cases y : D.B0.get? e with
    | none => rfl
    | some o => have := hbase _ _ y; rw [hm.new] at this; cases this
  refine ini_call hD hCas (s := ⟨h', g, d, t, os⟩) (e := e) (t0 := t0) (k := k) (j := j) (Q := fun s' => Q (.ref e) s') ?_ (fun b o y => hm.keeps b o (hbase b o y)) hke hk hj he fun h2 tk hk2 ⟨o2, d2, x, a1, a2, a3, a4, a5, a6⟩ => ?_
  · show A.depth + (Code.builtin "type.__call__" ⟨.ref casFail :: _, []⟩).weight < recursionLimit
    rw [call_weight]; exact hroom
  · refine h h2 tk e ⟨fun b ob y => hk2 b ob (fun z => by rw [z, hm.new] at y; cases y) (hm.keeps b ob y), hm.new, o2, d2, x, a1, a2, a3, ?_, a5, a6⟩
    cases y : hp.get? d2 with
    | none => rfl
    | some ob => have := hm.keeps _ _ y; rw [a4] at this; cases this

theorem raise_made {M : Model} {A : Around} {E : Value → Shared → Prop} {s : Shared} {env : Env} {x : Sem Value} {Q : Flow → Shared → Prop} (hh : A.handled = none)
    (h : wpAny M A x (fun v s₁ => ∃ e nm q bs sn sub ab col dd k0 k1 k2 k3 k5, v = .ref e ∧ s₁.heap.get? casFail = some (excClassObj nm q casFail 30 bs [.type "Exception", .type "BaseException", .type "object"] true sn sub ab col dd k0 k1 k2 k3 k5 "Exception.__new__") ∧
      (∃ o x, s₁.heap.get? e = some o ∧ o.cls = .ref casFail ∧ o.data = .fields #[.ref x, .none, .none, .none, .bool false, .none]) ∧ E (.ref e) s₁) E s) :
    wpAny M A (raiseStmt env (some x) none) Q E s := by
  unfold raiseStmt
  refine wpAny_bind (wpAny_mono h (fun v s₁ h₁ => ?_) fun _ _ x => x)
  obtain ⟨e, nm, q, bs, sn, sub, ab, col, dd, k0, k1, k2, k3, k5, rfl, hC, ⟨⟨oc, od, odt, osl⟩, x, he, hc, hd⟩, hE⟩ := h₁
  simp only at hc hd
  subst hc hd
  have hcB : (Value.ref casFail :: [.type "Exception", .type "BaseException", .type "object"]).contains (.type "BaseException") = true := by decide
  obtain ⟨hp, g, d, tk, os⟩ := s₁
  repeat (first | with_reducible refine wpAny_loadPart_at he ?_ | with_reducible refine wpAny_loadPart_at hC ?_ | (with_reducible refine wpAny_isSubtype_exc hC ?_; rw [hcB]) | wp_step)
  exact wpAny_raiseNew_none hh hE

variable {m : Nat} {Γ : Names}
section
variable {B0 : Heap} {s₀ : Shared} {fr : List Env} {X : Addr → Prop} {EX : Pt → Prop} {p : Pt} {α β : Type} {Rel : Pt → α → β → Prop} {Q : β → Shared → Prop} {E : Value → Shared → Prop} {v : Value} {a : AV}
theorem onStr_ok {f : Nat → R α} (x : VR p.h p.ρ p.σ.n v a) (hp : Post B0 s₀ fr X EX p Rel (onStr a f) Q E) : ∃ k t, k < 28 ∧ v = .str (txt k) t ∧ a = .str k ∧ Post B0 s₀ fr X EX p Rel (f k) Q E := by
  cases x with
  | str t hk => exact ⟨_, t, hk, rfl, rfl, hp⟩
  | _ => exact hp.elim
end
/-- raise CasFail(kind, text) -/
theorem st_fail (hD : D.Ok) (hCas : CasOk D) {np cpos pos : Pos} {e₁ e₂ : Expr} {i : Nat} {a b : DX} (ha : SoundX D (m + 1) Γ e₁ a) (hb : SoundX D (m + 1) Γ e₂ b) (hx : Γ[i]? = some (Str.ofString "CasFail", .glo))
    (hs : ∀ env, starEach [e₁, e₂] env = [(false, eval e₁ env), (false, eval e₂ env)] := by intro _; rfl) : Sound1 D (m + 1) Γ (.Raise (some (.Call (.Name (Str.ofString "CasFail") np) [e₁, e₂] [] cpos)) none pos) (sFail a b) := by
  intro n c hC A outer env φ p Q E hr hf hfl he S V hp
  rw [arm_exec_Raise]
  refine wpAny_bind (wpAny_standAt (raise_made hr.1 ?_))
  refine wpAny_bind ?_
  show wpAny _ _ (eval (.Call (.Name (Str.ofString "CasFail") np) [e₁, e₂] [] cpos) env) _ _ _
  refine PyProof.Rows.Call_Name2 ?_ (hs env)
  refine Name_function_global he.kind (he.glo i _ hx) ?_ (by decide +kernel)
  refine loadGlobal_global (env := env) (mg := D.mg) (by rw [he.glob]; exact base_ns S hD.globs) hCas.glob ?_
  obtain ⟨nm, q, bs, sn, sub, ab, col, dd, k0, k1, k2, k3, k5, hC0⟩ := hCas.cls
  unfold callWith
  refine wpAny_bind (wpAny_holding (evalArgs_plain (spliced_cons (ha hC hr hf he S V (Post.expr hp fun q1 u v S1 s1 x1 h1 => ?_)))))
  refine spliced_cons (hb hC hr hf he S1 (V.on S s1) (Post.expr h1 fun q2 u2 v2 S2 s2 x2 h2 => spliced_nil (wpAny_bind (wpAny_standAt ?_))))
  obtain ⟨k, t1, hk, rfl, rfl, h3⟩ := onStr_ok (x1.on S1 s2) h2
  obtain ⟨j, t2, hj, rfl, rfl, h4⟩ := onStr_ok x2 h3
  simp only [List.any_cons, List.any_nil, Bool.or_false]
  refine wpAny_bind (wpAny_keeperOf_exc (S2.base _ _ hC0) ?_)
  refine wpAny_bind (new_fail hD hCas (s := sh D.s₀ q2) (by have := hr.2.1; show A.depth + 1 < 1000; omega) (fun b o e => S2.base b o e) hk hj fun h' tk e N => wpAny_bind (wpAny_holding (wpAny_point (wpAny_pure (wpAny_bind (wpAny_standAt (wpAny_pure ?_)))))))
  obtain ⟨o, d, x, a1, a2, a3, a4, a5, a6⟩ := N.there
  refine ⟨e, nm, q, bs, sn, sub, ab, col, dd, k0, k1, k2, k3, k5, rfl, N.keeps _ _ (S2.base _ _ hC0), ⟨o, x, a1, a2, a6⟩, ?_⟩
  exact h4 { q2 with h := h', t := tk } e rfl (S2.push N.keeps) (Step.push N.keeps) trivial ⟨hk, N.new, o, d, _, a1, a2, a3, a4, a5, a6, rfl, .inl rfl⟩
end
end Mine
end

section
open PySem PySem.W PyProof.Rows PySem.Calls PySem.Spec
namespace Mine
set_option autoImplicit false

section
variable {B0 : Heap} {X : Addr → Prop} {fr : List Env} {p p0 : Pt}
/-- a cell that is there becomes one's own -/
theorem St.adopt (S : St B0 fr p) {t : Nat} {a : Addr} {o : O} (ne : ∀ j, j < p.σ.n → p.ρ j ≠ a) (hb : B0.get? a = none) (ho : HO p.h (upd p.ρ p.σ.n a) (p.σ.n + 1) a o) (hnd : ∀ l, o = .list l → ∃ ob, p.h.get? a = some ob ∧ ob.dict = none) :
    St B0 fr ⟨upd p.ρ p.σ.n a, snew p.σ o, p.h, t⟩ := by
  have hr : ∀ j, j < p.σ.n → upd p.ρ p.σ.n a j = p.ρ j := fun j hj => if_neg (Nat.ne_of_lt hj)
  refine ⟨S.base, ?_, fun j o' e => ?_, fun i j h1 h2 e => ?_, fun j hj => ?_, S.frs, fun j l e => ?_, S.str⟩
  · show (o :: p.σ.l).length = p.σ.n + 1
    rw [List.length_cons, S.len]
  · rw [sget_snew] at e
    by_cases hj : j = p.σ.n
    · rw [if_pos hj] at e
      cases e
      show HO p.h (upd p.ρ p.σ.n a) (p.σ.n + 1) (upd p.ρ p.σ.n a j) _
      rw [show upd p.ρ p.σ.n a j = a from if_pos hj]
      exact ho
    · rw [if_neg hj] at e
      have hlt := sget_lt e
      show HO p.h (upd p.ρ p.σ.n a) (p.σ.n + 1) (upd p.ρ p.σ.n a j) _
      rw [hr j hlt]
      exact (S.own j o' e).ext (fun a o e _ => e) (Nat.le_succ _) hr fun o e => e
  · have h1' : i < p.σ.n + 1 := h1
    have h2' : j < p.σ.n + 1 := h2
    have e' : upd p.ρ p.σ.n a i = upd p.ρ p.σ.n a j := e
    by_cases hi : i = p.σ.n
    · by_cases hj : j = p.σ.n
      · rw [hi, hj]
      · rw [show upd p.ρ p.σ.n a i = a from if_pos hi, hr j (by omega)] at e'
        exact absurd e'.symm (ne j (by omega))
    · by_cases hj : j = p.σ.n
      · rw [show upd p.ρ p.σ.n a j = a from if_pos hj, hr i (by omega)] at e'
        exact absurd e' (ne i (by omega))
      · rw [hr i (by omega), hr j (by omega)] at e'
        exact S.inj i j (by omega) (by omega) e'
  · have hj' : j < p.σ.n + 1 := hj
    show B0.get? (upd p.ρ p.σ.n a j) = none
    by_cases h : j = p.σ.n
    · rw [show upd p.ρ p.σ.n a j = a from if_pos h]; exact hb
    · rw [hr j (by omega)]; exact S.new j (by omega)
  · rw [sget_snew] at e
    by_cases hj : j = p.σ.n
    · rw [if_pos hj] at e
      cases e
      show ∃ o, p.h.get? (upd p.ρ p.σ.n a j) = some o ∧ _
      rw [show upd p.ρ p.σ.n a j = a from if_pos hj]
      exact hnd l rfl
    · rw [if_neg hj] at e
      obtain ⟨ob, e1, e2⟩ := S.nod j l e
      show ∃ o, p.h.get? (upd p.ρ p.σ.n a j) = some o ∧ _
      rw [hr j (sget_lt e)]
      exact ⟨ob, e1, e2⟩
theorem Step.adopt {t : Nat} {a : Addr} {o : O} (s : Step X fr p0 p) (ha : p0.h.get? a = none) : Step X fr p0 ⟨upd p.ρ p.σ.n a, snew p.σ o, p.h, t⟩ := by
  refine ⟨Nat.le_succ_of_le s.le, fun j hj => ?_, fun j h1 h2 => ?_, s.alive, s.eff⟩
  · show upd p.ρ p.σ.n a j = _
    rw [show upd p.ρ p.σ.n a j = p.ρ j from if_neg (Nat.ne_of_lt (Nat.lt_of_lt_of_le hj s.le))]
    exact s.same j hj
  · have h2' : j < p.σ.n + 1 := h2
    show p0.h.get? (upd p.ρ p.σ.n a j) = none
    by_cases h : j = p.σ.n
    · rw [show upd p.ρ p.σ.n a j = a from if_pos h]; exact ha
    · rw [show upd p.ρ p.σ.n a j = p.ρ j from if_neg h]
      exact s.newR j h1 (by omega)
end

/-- a def's names, and the kinds that the term knows -/
inductive NkN : List (Str × NameKind) → List NK → Prop
  | nil : NkN [] []
  | loc {x r ns} : NkN r ns → NkN ((x, .local) :: r) (.loc :: ns)
  | cel {x r ns} : NkN r ns → NkN ((x, .cell) :: r) (.cel :: ns)
  | glo {x r ns} : NkN r ns → NkN ((x, .globalImplicit) :: r) (.glo :: ns)
/-- how a block's names lie when it begins -/
noncomputable def Laid (m : Str → Option Value) (cells : List (Str × Addr)) (h : Heap) : List (Str × NameKind) → List Value → Prop
  | [], [] => True
  | (x, .local) :: r, v :: vs => m x = some v ∧ Laid m cells h r vs
  | (x, .local) :: r, [] => m x = none ∧ Laid m cells h r []
  | (x, .cell) :: r, v :: vs => (∃ a, cells.lookup x = some a ∧ h.IsCell a (some v)) ∧ Laid m cells h r vs
  | (x, .cell) :: r, [] => (∃ a, cells.lookup x = some a ∧ h.IsCell a none) ∧ Laid m cells h r []
  | (_, .globalImplicit) :: r, [] => Laid m cells h r []
  | _, _ => False

section
variable {B0 : Heap} {s₀ : Shared} {fr : List Env} {fP : List Env} {X XP : Addr → Prop} {EX : Pt → Prop} {p p0 : Pt} {γ δ : Type} {Rel2 : Pt → γ → δ → Prop} {E : Value → Shared → Prop} {m : Str → Option Value} {cells : List (Str × Addr)}
theorem start_ok {names : List (Str × NameKind)} {ns : List NK} (hI : NkN names ns) : ∀ {q : Pt} {vs : List Value} {as : List AV} {f : Vars → Store → R γ} {Q2 : δ → Shared → Prop}, (names.map (·.1)).Nodup → St B0 fr q → Step X fr p0 q →
    VRs q.h q.ρ q.σ.n vs as → Laid m cells q.h names vs → (∀ x a, x ∈ names.map (·.1) → cells.lookup x = some a → p0.h.get? a = none ∧ B0.get? a = none ∧ ∀ j, j < q.σ.n → q.ρ j ≠ a) → (∀ x y a, cells.lookup x = some a → cells.lookup y = some a → x = y) →
    Post B0 s₀ fP XP EX p Rel2 ((start ns as q.σ).bind f) Q2 E →
    ∃ ψ q', q'.h = q.h ∧ q'.t = q.t ∧ St B0 fr q' ∧ Step X fr p0 q' ∧ q.σ.n ≤ q'.σ.n ∧ (∀ j, j < q.σ.n → q'.ρ j = q.ρ j) ∧ ψ.length = names.length ∧
      (∀ (i : Nat) (x : Str) (k : NameKind), names[i]? = some (x, k) → (k = .local → ∃ v, ψ[i]? = some (Slot.lv v) ∧ OV q'.h q'.ρ q'.σ.n (m x) v) ∧
        (k = .cell → ∃ c, ψ[i]? = some (Slot.cl c) ∧ c < q'.σ.n ∧ cells.lookup x = some (q'.ρ c))) ∧
      Post B0 s₀ fP XP EX p Rel2 (f ψ q'.σ) Q2 E := by
  induction hI with
  | nil =>
    intro q vs as f Q2 hn S s r hl hc hd hp
    cases r with
    | cons _ _ => exact hp.elim
    | nil =>
      have hp : Post B0 s₀ fP XP EX p Rel2 ((R.ok [] q.σ).bind f) Q2 E := hp
      rw [bind_ok] at hp
      exact ⟨[], q, rfl, rfl, S, s, Nat.le_refl _, fun _ _ => rfl, rfl, fun i x k h => by simp at h, hp⟩
  | @loc x r ns hI ih =>
    intro q vs as f Q2 hn S s rr hl hc hd hp
    have hc' : ∀ y a, y ∈ r.map (·.1) → cells.lookup y = some a → p0.h.get? a = none ∧ B0.get? a = none ∧ ∀ j, j < q.σ.n → q.ρ j ≠ a := fun y a hy => hc y a (.tail _ hy)
    cases rr with
    | nil =>
      have hp : Post B0 s₀ fP XP EX p Rel2 (((start ns [] q.σ).bind fun ψ σ => R.ok (Slot.lv none :: ψ) σ).bind f) Q2 E := hp
      rw [bind_assoc] at hp
      obtain ⟨ψ, q', h1, h2, h3, h4, h5, h5', h6, h7, h8⟩ := ih (List.nodup_cons.mp hn).2 S s .nil hl.2 hc' hd hp
      rw [bind_ok] at h8
      refine ⟨Slot.lv none :: ψ, q', h1, h2, h3, h4, h5, h5', congrArg (· + 1) h6, fun i y k h => ?_, h8⟩
      cases i with
      | zero =>
        simp at h
        obtain ⟨rfl, rfl⟩ := h
        exact ⟨fun _ => ⟨none, rfl, by rw [hl.1]; trivial⟩, fun e => by cases e⟩
      | succ i => exact h7 i y k (by simpa using h)
    | @cons v vs a as xv rs =>
      have hp : Post B0 s₀ fP XP EX p Rel2 (((start ns as q.σ).bind fun ψ σ => R.ok (Slot.lv (some a) :: ψ) σ).bind f) Q2 E := hp
      rw [bind_assoc] at hp
      obtain ⟨ψ, q', h1, h2, h3, h4, h5, h5', h6, h7, h8⟩ := ih (List.nodup_cons.mp hn).2 S s rs hl.2 hc' hd hp
      rw [bind_ok] at h8
      refine ⟨Slot.lv (some a) :: ψ, q', h1, h2, h3, h4, h5, h5', congrArg (· + 1) h6, fun i y k h => ?_, h8⟩
      cases i with
      | zero =>
        simp at h
        obtain ⟨rfl, rfl⟩ := h
        refine ⟨fun _ => ⟨some a, rfl, ?_⟩, fun e => by cases e⟩
        rw [hl.1]
        exact VR.ext (fun _ _ e _ => by rw [h1]; exact e) h5 h5' xv
      | succ i => exact h7 i y k (by simpa using h)
  | @glo x r ns hI ih =>
    intro q vs as f Q2 hn S s rr hl hc hd hp
    cases rr with
    | cons _ _ => exact hl.elim
    | nil =>
      have hp : Post B0 s₀ fP XP EX p Rel2 (((start ns [] q.σ).bind fun ψ σ => R.ok (Slot.gl :: ψ) σ).bind f) Q2 E := hp
      rw [bind_assoc] at hp
      obtain ⟨ψ, q', h1, h2, h3, h4, h5, h5', h6, h7, h8⟩ := ih (List.nodup_cons.mp hn).2 S s .nil hl (fun y a hy => hc y a (.tail _ hy)) hd hp
      rw [bind_ok] at h8
      refine ⟨Slot.gl :: ψ, q', h1, h2, h3, h4, h5, h5', congrArg (· + 1) h6, fun i y k h => ?_, h8⟩
      cases i with
      | zero =>
        simp at h
        obtain ⟨rfl, rfl⟩ := h
        exact ⟨fun e => (by cases e), fun e => by cases e⟩
      | succ i => exact h7 i y k (by simpa using h)
  | @cel x r ns hI ih =>
    intro q vs as f Q2 hn S s rr hl hc hd hp
    have go : ∀ (w : Option Value) (b : Option AV) (vs : List Value) (as : List AV), OV q.h q.ρ q.σ.n w b → VRs q.h q.ρ q.σ.n vs as → (∃ a, cells.lookup x = some a ∧ q.h.IsCell a w) → Laid m cells q.h r vs →
        Post B0 s₀ fP XP EX p Rel2 ((newO q.σ (.cell b) fun k σ => (start ns as σ).bind fun ψ σ => R.ok (Slot.cl k :: ψ) σ).bind f) Q2 E → (∃ ψ q', q'.h = q.h ∧ q'.t = q.t ∧ St B0 fr q' ∧ Step X fr p0 q' ∧ q.σ.n ≤ q'.σ.n ∧ (∀ j, j < q.σ.n → q'.ρ j = q.ρ j) ∧ ψ.length = ((x, NameKind.cell) :: r).length ∧
      (∀ (i : Nat) (y : Str) (k : NameKind), ((x, NameKind.cell) :: r)[i]? = some (y, k) → (k = .local → ∃ v, ψ[i]? = some (Slot.lv v) ∧ OV q'.h q'.ρ q'.σ.n (m y) v) ∧
        (k = .cell → ∃ c, ψ[i]? = some (Slot.cl c) ∧ c < q'.σ.n ∧ cells.lookup y = some (q'.ρ c))) ∧
      Post B0 s₀ fP XP EX p Rel2 (f ψ q'.σ) Q2 E) := by
      intro w b vs as ov rs ⟨a, hlk, hcell⟩ hl hp
      rw [newO_eq, bind_assoc] at hp
      obtain ⟨c1, c2, c3⟩ := hc x a (.head _) hlk
      have hup : ∀ j, j < q.σ.n → upd q.ρ q.σ.n a j = q.ρ j := fun j hj => if_neg (Nat.ne_of_lt hj)
      have ho : HO q.h (upd q.ρ q.σ.n a) (q.σ.n + 1) a (.cell b) := ⟨w, hcell, OV.ext (fun _ _ e _ => e) (Nat.le_succ _) hup ov⟩
      have S1 : St B0 fr ⟨upd q.ρ q.σ.n a, snew q.σ (.cell b), q.h, q.t⟩ := S.adopt c3 c2 ho fun _ z => by cases z
      have s1 : Step X fr p0 ⟨upd q.ρ q.σ.n a, snew q.σ (.cell b), q.h, q.t⟩ := s.adopt c1
      have rs1 : VRs q.h (upd q.ρ q.σ.n a) (q.σ.n + 1) vs as := rs.ext (fun _ _ e _ => e) (Nat.le_succ _) hup
      obtain ⟨ψ, q', h1, h2, h3, h4, h5, h5', h6, h7, h8⟩ := ih (q := ⟨upd q.ρ q.σ.n a, snew q.σ (.cell b), q.h, q.t⟩) (List.nodup_cons.mp hn).2 S1 s1 rs1 hl (fun y a' hy hya => by
        obtain ⟨d1, d2, d3⟩ := hc y a' (.tail _ hy) hya
        refine ⟨d1, d2, fun j hj e => ?_⟩
        have hj' : j < q.σ.n + 1 := hj
        by_cases hjn : j = q.σ.n
        · have e : upd q.ρ q.σ.n a j = a' := e
          rw [show upd q.ρ q.σ.n a j = a from if_pos hjn] at e
          subst e
          have := hd x y a hlk hya
          exact (List.nodup_cons.mp hn).1 (this ▸ hy)
        · have e : upd q.ρ q.σ.n a j = a' := e
          rw [hup j (by omega)] at e
          exact d3 j (by omega) e) hd hp
      rw [bind_ok] at h8
      have h5n : q.σ.n + 1 ≤ q'.σ.n := h5
      exact ⟨Slot.cl q.σ.n :: ψ, q', h1, h2, h3, h4, Nat.le_of_succ_le h5n, fun j hj => (h5' j (Nat.lt_succ_of_lt hj)).trans (hup j hj), congrArg (· + 1) h6, fun i y k h => by
        cases i with
        | zero =>
          simp at h
          obtain ⟨rfl, rfl⟩ := h
          refine ⟨fun e => (by cases e), fun _ => ⟨q.σ.n, rfl, h5n, ?_⟩⟩
          rw [hlk, h5' q.σ.n (Nat.lt_succ_self _)]
          simp [upd]
        | succ i => exact h7 i y k (by simpa using h), h8⟩
    cases rr with
    | nil => exact go none none [] [] trivial .nil hl.1 hl.2 hp
    | @cons v vs a as xv rs => exact go (some v) (some a) vs as xv rs hl.1 hl.2 hp
end
end Mine
end

section
open PySem PySem.W PyProof.Rows PySem.Calls PySem.Spec
namespace Mine
set_option autoImplicit false

theorem cellsFrom_mem : ∀ {r : List (Str × NameKind)} {n : Nat} {acc : List (Str × Addr)} {x : Str}, (r.map (·.1)).Nodup → (x, NameKind.cell) ∈ r → ∃ a, (cellsFrom n r acc).lookup x = some a
  | [], _, _, _, _, h => by cases h
  | (y, k) :: r, n, acc, x, hn, h => by
    have hn2 : (r.map (·.1)).Nodup := (List.nodup_cons.mp hn).2
    rcases List.mem_cons.mp h with e | h
    · have e1 : x = y := congrArg (·.1) e
      have e2 : NameKind.cell = k := congrArg (·.2) e
      subst e1; subst e2
      have hnot : x ∉ r.map (·.1) := (List.nodup_cons.mp hn).1
      show ∃ a, (cellsFrom (n + 1) r ((x, n) :: acc)).lookup x = some a
      rw [cellsFrom_not hnot]
      exact ⟨n, by simp⟩
    · show ∃ a, (if (k == .cell) = true then cellsFrom (n + 1) r ((y, n) :: acc) else cellsFrom n r acc).lookup x = some a
      split <;> exact cellsFrom_mem hn2 h
theorem bindL_not {kindOf : Str → Option NameKind} : ∀ {bs : List (Str × Value)} {m : Str → Option Value} {x : Str}, x ∉ bs.map (·.1) → bindL kindOf bs m x = m x
  | [], _, _, _ => rfl
  | (y, v) :: bs, m, x, h => by
    have hy : x ≠ y := fun e => h (by rw [e]; exact .head _)
    unfold bindL
    rw [bindL_not fun e => h (.tail _ e)]
    split
    · show (if x = y then some v else m x) = m x
      rw [if_neg hy]
    · rfl
theorem bindL_mem {kindOf : Str → Option NameKind} : ∀ {bs : List (Str × Value)} {m : Str → Option Value} {x : Str} {v : Value}, (bs.map (·.1)).Nodup → (x, v) ∈ bs → kindOf x = some .local → bindL kindOf bs m x = some v
  | [], _, _, _, _, h, _ => by cases h
  | (y, w) :: bs, m, x, v, hn, h, hk => by
    unfold bindL
    rcases List.mem_cons.mp h with e | h
    · have e1 : x = y := congrArg (·.1) e
      have e2 : v = w := congrArg (·.2) e
      subst e1; subst e2
      rw [bindL_not (List.nodup_cons.mp hn).1, if_pos hk]
      exact if_pos rfl
    · exact bindL_mem (List.nodup_cons.mp hn).2 h hk
theorem bindC_not {kindOf : Str → Option NameKind} : ∀ {bs : List (Str × Value)} {m : Str → Option Value} {x : Str}, x ∉ bs.map (·.1) → bindC kindOf bs m x = m x
  | [], _, _, _ => rfl
  | (y, v) :: bs, m, x, h => by
    have hy : x ≠ y := fun e => h (by rw [e]; exact .head _)
    unfold bindC
    rw [bindC_not fun e => h (.tail _ e)]
    split
    · rfl
    · show (if x = y then some v else m x) = m x
      rw [if_neg hy]
theorem bindC_mem {kindOf : Str → Option NameKind} : ∀ {bs : List (Str × Value)} {m : Str → Option Value} {x : Str} {v : Value}, (bs.map (·.1)).Nodup → (x, v) ∈ bs → kindOf x ≠ some .local → bindC kindOf bs m x = some v
  | [], _, _, _, _, h, _ => by cases h
  | (y, w) :: bs, m, x, v, hn, h, hk => by
    unfold bindC
    rcases List.mem_cons.mp h with e | h
    · have e1 : x = y := congrArg (·.1) e
      have e2 : v = w := congrArg (·.2) e
      subst e1; subst e2
      rw [bindC_not (List.nodup_cons.mp hn).1, if_neg hk]
      exact if_pos rfl
    · exact bindC_mem (List.nodup_cons.mp hn).2 h hk

theorem laid_of {kindOf : Str → Option NameKind} {cells : List (Str × Addr)} {h : Heap} {m cm : Str → Option Value} : ∀ {names : List (Str × NameKind)} {ns : List NK} {vs : List Value}, NkN names ns → (names.map (·.1)).Nodup →
    (∀ y : Str × NameKind, y ∈ names → kindOf y.1 = some y.2) → (∀ (i : Nat) (x : Str) (k : NameKind), i < vs.length → names[i]? = some (x, k) → k = .local ∨ k = .cell) → vs.length ≤ names.length →
    (∀ (i : Nat) (x : Str) (v : Value), names[i]?.map (·.1) = some x → vs[i]? = some v → (kindOf x = some .local → m x = some v) ∧ (kindOf x ≠ some .local → cm x = some v)) → (∀ (i : Nat) (x : Str), vs.length ≤ i → names[i]?.map (·.1) = some x → m x = none ∧ cm x = none) →
    (∀ x, (x, NameKind.cell) ∈ names → ∃ a, cells.lookup x = some a ∧ h.IsCell a (cm x)) → Laid m cells h names vs
  | _, _, [], .nil, _, _, _, _, _, _, _ => trivial
  | _, _, _ :: _, .nil, _, _, _, hl, _, _, _ => absurd hl (by simp)
  | (x, _) :: r, _, vs, .loc t, hn, hk, hp, hl, h1, h2, h3 => by
    have rest : ∀ vs' : List Value, vs'.length ≤ r.length → (∀ i v, vs'[i]? = some v → vs[i + 1]? = some v) → (∀ i, i < vs'.length → i + 1 < vs.length) → (∀ i, vs'.length ≤ i → vs.length ≤ i + 1) → Laid m cells h r vs' := fun vs' hle a b c =>
      laid_of t (List.nodup_cons.mp hn).2 (fun y hy => hk y (.tail _ hy)) (fun i x k hi e => hp (i + 1) x k (b i hi) (by simpa using e)) hle
        (fun i x v e1 e2 => h1 (i + 1) x v (by simpa using e1) (a i v e2)) (fun i x hi e => h2 (i + 1) x (c i hi) (by simpa using e)) fun y hy => h3 y (.tail _ hy)
    cases vs with
    | nil => exact ⟨(h2 0 x (Nat.le_refl _) rfl).1, rest [] (Nat.zero_le _) (fun i v e => by simp at e) (fun i hi => absurd hi (Nat.not_lt_zero _)) fun i _ => Nat.zero_le _⟩
    | cons v vs => exact ⟨(h1 0 x v rfl rfl).1 (hk _ (.head _)), rest vs (by simpa using hl) (fun i v e => by simpa using e) (fun i hi => Nat.succ_lt_succ hi) fun i hi => Nat.succ_le_succ hi⟩
  | (x, _) :: r, _, vs, .cel t, hn, hk, hp, hl, h1, h2, h3 => by
    have rest : ∀ vs' : List Value, vs'.length ≤ r.length → (∀ i v, vs'[i]? = some v → vs[i + 1]? = some v) → (∀ i, i < vs'.length → i + 1 < vs.length) → (∀ i, vs'.length ≤ i → vs.length ≤ i + 1) → Laid m cells h r vs' := fun vs' hle a b c =>
      laid_of t (List.nodup_cons.mp hn).2 (fun y hy => hk y (.tail _ hy)) (fun i x k hi e => hp (i + 1) x k (b i hi) (by simpa using e)) hle
        (fun i x v e1 e2 => h1 (i + 1) x v (by simpa using e1) (a i v e2)) (fun i x hi e => h2 (i + 1) x (c i hi) (by simpa using e)) fun y hy => h3 y (.tail _ hy)
    have hkx : kindOf x ≠ some .local := by rw [hk _ (.head _)]; intro z; cases z
    obtain ⟨a, e1, e2⟩ := h3 x (.head _)
    cases vs with
    | nil =>
      rw [(h2 0 x (Nat.le_refl _) rfl).2] at e2
      exact ⟨⟨a, e1, e2⟩, rest [] (Nat.zero_le _) (fun i v e => by simp at e) (fun i hi => absurd hi (Nat.not_lt_zero _)) fun i _ => Nat.zero_le _⟩
    | cons v vs =>
      rw [(h1 0 x v rfl rfl).2 hkx] at e2
      exact ⟨⟨a, e1, e2⟩, rest vs (by simpa using hl) (fun i v e => by simpa using e) (fun i hi => Nat.succ_lt_succ hi) fun i hi => Nat.succ_le_succ hi⟩
  | (x, _) :: r, _, vs, .glo t, hn, hk, hp, hl, h1, h2, h3 => by
    cases vs with
    | nil =>
      show Laid m cells h r []
      exact laid_of t (List.nodup_cons.mp hn).2 (fun y hy => hk y (.tail _ hy)) (fun i x k hi e => absurd hi (Nat.not_lt_zero _)) (Nat.zero_le _)
        (fun i x v e1 e2 => by simp at e2) (fun i x hi e => h2 (i + 1) x (Nat.zero_le _) (by simpa using e)) fun y hy => h3 y (.tail _ hy)
    | cons v vs =>
      rcases hp 0 x _ (Nat.succ_pos _) rfl with e | e <;> cases e

theorem zip_fst : ∀ {l : List Str} {vs : List Value}, (l.zip vs).map (·.1) = l.take vs.length
  | [], _ => by simp
  | _ :: _, [] => by simp
  | x :: l, v :: vs => by
    rw [List.zip_cons_cons, List.map_cons, zip_fst, List.length_cons, List.take_succ_cons]
theorem NkN.kinds {l : List (Str × NameKind)} {ns : List NK} (h : NkN l ns) : ∀ y ∈ l, y.2 = .local ∨ y.2 = .cell ∨ y.2 = .globalImplicit := by
  induction h with
  | nil => intro y h; cases h
  | loc _ ih => intro y h; exact (List.mem_cons.mp h).elim (fun e => by subst e; exact .inl rfl) (ih y)
  | cel _ ih => intro y h; exact (List.mem_cons.mp h).elim (fun e => by subst e; exact .inr (.inl rfl)) (ih y)
  | glo _ ih => intro y h; exact (List.mem_cons.mp h).elim (fun e => by subst e; exact .inr (.inr rfl)) (ih y)

/-- what stands when a block is left -/
theorem leave_out {B0 : Heap} {fr : List Env} {env : Env} {p q q2 : Pt} {h₁ : Heap} (_hk : ∀ b o, p.h.get? b = some o → h₁.get? b = some o) (hf : env.frame = some env.locals) (hL : p.h.get? env.locals = none)
    (sq : Step NoX (env :: fr) p q) (S : St B0 (env :: fr) q2) (s : Step (Loc env) (env :: fr) q q2) : St B0 fr q2 ∧ Step NoX fr p q2 := by
  have hfl : frL (env :: fr) = env.locals :: frL fr := by rw [frL, List.filterMap_cons, hf]
  have s2 : Step NoX (env :: fr) p q2 := sq.trans s fun a o e _ w => by rw [show a = env.locals from w, hL] at e; cases e
  refine ⟨⟨S.base, S.len, S.own, S.inj, S.new, S.frs.2.2, S.nod, fun a hm => S.str a (by rw [hfl]; exact List.mem_cons_of_mem _ hm)⟩, s2.le, s2.same, s2.newR, s2.alive, fun a o e hx hn => ?_⟩
  have hne : a ≠ env.locals := fun y => by rw [y, hL] at e; cases e
  obtain ⟨h1, h2⟩ := s2.eff a o e hx hn
  exact ⟨fun hm => h1 (by rw [hfl]; exact fun z => (List.mem_cons.mp z).elim hne hm), h2⟩
theorem f_def {D : Wd} {m : Nat} (hD : D.Ok) {addr : Addr} {o : Obj} {fd : FuncData} {body : List Stmt} {np : Nat} {ns : List NK} {b : DS} (ho : D.B0.get? addr = some o) (hdt : o.data = .func fd) (hcr : D.B0.CodeRec fd.code fd.qualname) (hbody : fd.body = .stmts body) (hclo : fd.closure = []) (hgl : fd.globals = mainGlobals) (hbu : fd.builtins = builtinsNs)
    (hk : fd.scope.kind = .function) (hco : fd.scope.isCoroutine = false) (hgen : fd.scope.isGenerator = false) (hN : NkN fd.scope.names ns) (hn : (fd.scope.names.map (·.1)).Nodup) (hnp : np ≤ fd.scope.names.length) (hpk : ∀ i x k, i < np → fd.scope.names[i]? = some (x, k) → k = .local ∨ k = .cell)
    (hbind : ∀ vs : List Value, vs.length = np → bindArgs fd ⟨vs, []⟩ = pure ((fd.scope.names.map (·.1)).zip vs)) (hb : SoundS D m (namesOf fd.scope.names) body b) : SoundF D (m + 1) addr (dDef np ns b) := by
  intro n c hC A fr p vs as RR hr hf S x hp
  have hp : Post D.B0 D.s₀ fr NoX NoE p RV (ifB (Nat.beq (List.length as) np) ((start ns as p.σ).bind fun φ σ => (b c φ σ).bind fun r σ => Fl.rec (motive := fun _ => R AV) (fun _ => .ok .non σ) (fun v => .ok v σ) r) .bad) (fun v s' => RR (.ok (.ret v)) s') (fun e s' => RR (.error e) s') := hp
  obtain ⟨hlen, hp⟩ := ifB_ok hp
  have hlen : vs.length = np := x.length.trans (Nat.eq_of_beq_eq_true hlen)
  have hzip : ∀ {i : Nat} {y : Str} {v : Value}, (fd.scope.names.map (·.1))[i]? = some y → vs[i]? = some v → (y, v) ∈ (fd.scope.names.map (·.1)).zip vs := fun {i y v} e1 e2 => by
    refine List.mem_of_getElem? (i := i) ?_
    rw [List.getElem?_zip_eq_some]
    exact ⟨e1, e2⟩
  have hzn : (((fd.scope.names.map (·.1)).zip vs).map (·.1)).Nodup := by
    rw [zip_fst]
    exact hn.sublist (List.take_sublist _ _)
  refine codeAny_call_cells (fd := fd) (by have := hr.2.1; show A.depth < 1000; omega) (S.base _ _ ho) hdt (hD.nolim.keeps S.base) (Heap.CodeRec.keeps hcr S.base) hbody (hbind vs hlen) hclo (fun y hy => ?_) (fun s₁ X => ?_) hco hgen hk
  · obtain ⟨i, hi⟩ := List.getElem?_of_mem hy
    rw [List.getElem?_zip_eq_some] at hi
    obtain ⟨e1, e2⟩ := hi
    rw [List.getElem?_map] at e1
    cases e3 : fd.scope.names[i]? with
    | none => rw [e3] at e1; cases e1
    | some z =>
      rw [e3] at e1
      obtain ⟨z1, z2⟩ := z
      have e1 : z1 = y.1 := by simpa using e1
      have hin : i < np := by
        rw [← hlen]
        exact (List.getElem?_eq_some_iff.mp e2).1
      subst e1
      rcases hpk i _ _ hin e3 with rfl | rfl
      · exact .inl (lookup_of_get hn e3)
      · obtain ⟨a, ha⟩ := cellsFrom_mem (n := (sh D.s₀ p).heap.objs.size + 1) (acc := []) hn (List.mem_of_getElem? e3)
        exact .inr ⟨lookup_of_get hn e3, by rw [ha]; rfl⟩
  obtain ⟨h₁, tk, rfl, _⟩ := X.done
  generalize henv : callEnvC fd (sh D.s₀ p).heap.objs.size addr = env at X ⊢
  have eloc : env.locals = p.h.objs.size := by rw [← henv]; rfl
  have efr : env.frame = some env.locals := by rw [← henv]; rfl
  have ecells : env.cells = cellsFrom (p.h.objs.size + 1) fd.scope.names [] := by rw [← henv]; rfl
  have escope : env.scope = fd.scope := by rw [← henv]; rfl
  have kget : ∀ {i : Nat} {y : Str} {k : NameKind}, fd.scope.names[i]? = some (y, k) → env.kindOf y = some k := fun {i y k} e => by
    unfold Env.kindOf; rw [escope]; exact lookup_of_get hn e
  have hLp : p.h.get? env.locals = none := by rw [eloc]; exact size_none _
  have hLb : D.B0.get? env.locals = none := by
    cases e : D.B0.get? env.locals with
    | none => rfl
    | some o => have := S.base _ _ e; rw [hLp] at this; cases this
  have nk : ∀ (i : Nat) (y : Str) (t : NT), (namesOf fd.scope.names)[i]? = some (y, t) → ∃ k, fd.scope.names[i]? = some (y, k) ∧ ntOf k = t ∧ (k = .local ∨ k = .cell ∨ k = .globalImplicit) := fun i y t h => by
    obtain ⟨k, h1, h2⟩ := names_get h
    exact ⟨k, h1, h2, hN.kinds _ (List.mem_of_getElem? h1)⟩
  have he : EnvOK D.B0 (namesOf fd.scope.names) env (env :: fr) := by
    refine ⟨by rw [escope]; exact hk, by rw [← henv]; exact hgl, by rw [← henv]; exact hbu, fun i y h => ?_, fun i y h => ?_, fun i y h => ?_, fun i y h => ?_, ?_, ⟨env, fr, env.locals, rfl, efr, efr⟩, hLb⟩
    · obtain ⟨k, h1, h2, h3⟩ := nk i y _ h
      rcases h3 with rfl | rfl | rfl <;> cases h2
      exact kget h1
    · obtain ⟨k, h1, h2, h3⟩ := nk i y _ h
      rcases h3 with rfl | rfl | rfl <;> cases h2
      exact kget h1
    · obtain ⟨k, h1, h2, h3⟩ := nk i y _ h
      rcases h3 with rfl | rfl | rfl <;> cases h2
    · obtain ⟨k, h1, h2, h3⟩ := nk i y _ h
      rcases h3 with rfl | rfl | rfl <;> cases h2
      exact kget h1
    · unfold namesOf
      rw [List.map_map]; exact hn
  have hns1 := X.toInCall.ns
  have hkeep : ∀ b o, p.h.get? b = some o → h₁.get? b = some o := X.toInCall.keep
  have S1 : St D.B0 fr { p with h := h₁, t := tk } := S.push hkeep
  obtain ⟨oL, esL, epL, eL, dL, _⟩ := id hns1
  have S1' : St D.B0 (env :: fr) { p with h := h₁, t := tk } := ⟨S1.base, S1.len, S1.own, S1.inj, S1.new, ⟨by rw [escope]; exact hk, ⟨env.locals, oL, esL, epL, efr, hLb, eL, dL⟩, S1.frs⟩, S1.nod, fun a hm => by
    have hfl : frL (env :: fr) = env.locals :: frL fr := by rw [frL, List.filterMap_cons, efr]
    rw [hfl] at hm
    rcases List.mem_cons.mp hm with rfl | hm
    · exact ⟨_, hns1⟩
    · exact S1.str a hm⟩
  have x1 : VRs h₁ p.ρ p.σ.n vs as := x.ext (fun a o e _ => hkeep a o e) (Nat.le_refl _) fun _ _ => rfl
  have hkof : ∀ y : Str × NameKind, y ∈ fd.scope.names → env.kindOf y.1 = some y.2 := fun y hy => by
    obtain ⟨i, hi⟩ := List.getElem?_of_mem hy
    exact kget hi
  have hle : vs.length ≤ fd.scope.names.length := by rw [hlen]; exact hnp
  have nin : ∀ (i : Nat) (y : Str), vs.length ≤ i → fd.scope.names[i]?.map (·.1) = some y → y ∉ ((fd.scope.names.map (·.1)).zip vs).map (·.1) := fun i y hi e hm => by
    rw [zip_fst] at hm
    obtain ⟨j, hj⟩ := List.getElem?_of_mem hm
    rw [List.getElem?_take] at hj
    split at hj
    · rename_i hjl
      have e' : (fd.scope.names.map (·.1))[i]? = some y := by rw [List.getElem?_map]; exact e
      obtain ⟨b1, c1⟩ := List.getElem?_eq_some_iff.mp e'
      obtain ⟨b2, c2⟩ := List.getElem?_eq_some_iff.mp hj
      have := nodup_inj hn b1 b2 (c1.trans c2.symm)
      omega
    · cases hj
  have laid : Laid (bindL env.kindOf ((fd.scope.names.map (·.1)).zip vs) fun _ => none) env.cells h₁ fd.scope.names vs := by
    refine laid_of (cm := bindC env.kindOf ((fd.scope.names.map (·.1)).zip vs) fun _ => none) hN hn hkof (fun i y k hi e => hpk i y k (hlen ▸ hi) e) hle (fun i y v e1 e2 => ?_) (fun i y hi e => ?_) fun y hy => ?_
    · have hz := hzip (i := i) (y := y) (v := v) (by rw [List.getElem?_map]; exact e1) e2
      exact ⟨fun h => bindL_mem hzn hz h, fun h => bindC_mem hzn hz h⟩
    · exact ⟨bindL_not (nin i y hi e), bindC_not (nin i y hi e)⟩
    · obtain ⟨a, ha⟩ := cellsFrom_mem (n := p.h.objs.size + 1) (acc := []) hn hy
      rw [← ecells] at ha
      exact ⟨a, ha, X.cell y a ha⟩
  have fresh : ∀ y a, y ∈ fd.scope.names.map (·.1) → env.cells.lookup y = some a → p.h.get? a = none := fun y a _ ha => by
    have hab := X.above y a (mem_of_lookup ha)
    cases e : p.h.get? a with
    | none => rfl
    | some o =>
      have h1 := Heap.lt_size e
      have h2 : env.locals < a := hab
      rw [eloc] at h2
      exact absurd h1 (Nat.not_lt.mpr (Nat.le_of_lt h2))
  have freshB : ∀ y a, y ∈ fd.scope.names.map (·.1) → env.cells.lookup y = some a → D.B0.get? a = none := fun y a hy ha => by
    cases e : D.B0.get? a with
    | none => rfl
    | some o => have := S.base _ _ e; rw [fresh y a hy ha] at this; cases this
  have freshO : ∀ y a, y ∈ fd.scope.names.map (·.1) → env.cells.lookup y = some a → ∀ j, j < p.σ.n → p.ρ j ≠ a := fun y a hy ha j hj e => by
    obtain ⟨ob, eo, _⟩ := S.at_k hj
    rw [e, fresh y a hy ha] at eo; cases eo
  obtain ⟨ψ, q, hqh, hqt, Sq, sq, qn, qρ, ql, qv, hp2⟩ := start_ok (p0 := p) (X := NoX) (fr := env :: fr) hN (q := { p with h := h₁, t := tk }) hn S1' (Step.push hkeep) x1 laid (fun y a hy ha => ⟨fresh y a hy ha, freshB y a hy ha, freshO y a hy ha⟩) (fun y z a h1 h2 => name_of_addr X.apart (mem_of_lookup h1) (mem_of_lookup h2)) hp
  have V : Vs (namesOf fd.scope.names) env ψ q := by
    refine ⟨by rw [ql]; simp [namesOf], ⟨_, by rw [hqh]; exact hns1, fun i y h => ?_⟩, fun i y t h ht => ?_⟩
    · obtain ⟨k, h1, h2, h3⟩ := nk i y _ h
      rcases h3 with rfl | rfl | rfl <;> cases h2
      exact (qv i y _ h1).1 rfl
    · obtain ⟨k, h1, h2, h3⟩ := nk i y _ h
      rcases h3 with rfl | rfl | rfl
      · rw [← h2] at ht; rcases ht with e | e <;> cases e
      · exact (qv i y _ h1).2 rfl
      · rw [← h2] at ht; rcases ht with e | e <;> cases e
  have hsh : ({ (sh D.s₀ p) with heap := h₁, toks := tk } : Shared) = sh D.s₀ q := by
    show (⟨h₁, D.s₀.gens, D.s₀.drawn, tk, D.s₀.os⟩ : Shared) = ⟨q.h, D.s₀.gens, D.s₀.drawn, q.t, D.s₀.os⟩
    rw [hqh, hqt]
  show wpAny _ _ _ _ _ ({ (sh D.s₀ p) with heap := h₁, toks := tk } : Shared)
  rw [hsh]
  have back : ∀ {q2 : Pt}, St D.B0 (env :: fr) q2 → Step (Loc env) (env :: fr) q q2 → St D.B0 fr q2 ∧ Step NoX fr p q2 := fun {q2} S2 s2 =>
    leave_out hkeep efr hLp sq S2 s2
  have hfr2 : (A.deeper env).frames = some (env :: fr) := by show A.frames.map _ = _; rw [hf]; rfl
  refine hb hC (hr.deeper env) hfr2 efr he Sq V ?_
  cases hbody2 : b c ψ q.σ with
  | bad => rw [hbody2] at hp2; exact hp2.elim
  | ok fl σ =>
    rw [hbody2, bind_ok] at hp2
    intro q2 f e S2 s2 xf
    obtain ⟨S3, s3⟩ := back S2 s2
    subst e
    cases fl with
    | nxt φ2 =>
      cases f with
      | next => exact hp2.ok (q := q2) (b := Value.none) S3 s3 .non
      | _ => exact xf.elim
    | ret w =>
      cases f with
      | ret v => exact hp2.ok (q := q2) (b := v) S3 s3 xf
      | _ => exact xf.elim
  | ex k σ =>
    rw [hbody2] at hp2
    intro q2 e eσ S2 s2 _ F
    have hB : ∀ b o, D.B0.get? b = some o → ∃ o', q.h.get? b = some o' := fun b o e => ⟨o, Sq.base b o e⟩
    have hfr0 : frame0 (env :: fr) = some env.locals := efr
    rw [hfr0] at F
    refine leave_ok hfr2 efr rfl hB S2 s2 F fun h' S3 s3 F3 => ?_
    obtain ⟨S4, s4⟩ := back S3 s3
    exact hp2 { q2 with h := h' } e eσ S4 s4 trivial ((F3.fly (.inl rfl)).from sq)
end Mine
end

section
open PySem PySem.W PyProof.Rows PySem.Calls PySem.Spec
namespace Mine
set_option autoImplicit false

theorem setItem_plainL {prog : Program} {w : World} {A : Around} {E : Value → Shared → Prop} {s : Shared} {l : Addr} {items : Array Value} {k : Int} {t : Tok} {v : Value} {Q : Unit → Shared → Prop} (hl : PlainL s.heap l items)
    (h0 : 0 ≤ k) (hfit : k < 2 ^ 63) (hn : k < items.size)
    (hQ : ∀ h', PlainL h' l (items.setIfInBounds k.toNat v) → Heap.SameBut l s.heap h' → Q () { s with heap := h' }) :
    wpAny (model prog w) A (setItem (.ref l) (.int k t) v) Q E s := by
  have hli := hl.isList
  obtain ⟨o, ne, ho, hc, hdn, hd⟩ := id hl
  unfold setItem
  try with_reducible refine wpAny_holding ?_
  first | refine wpAny_bind (wpAny_pure ?_) | skip
  refine wpAny_bind (wpAny_sequenceKey hli.typeIs (by decide) ?_)
  refine wpAny_bind (wpAny_callSpecial?_slot (name := Str.ofString "__setitem__") hli.typeIs slot_list_setitem
    (wpAny_call_entry slot_list_setitem hli.typeIs entry_list_setitem ?_ (args_list_setitem _ _ _)))
  show wpAny _ _ (Builtin.List.listSubscript? (.int k t) >>= _) _ _ s
  refine wpAny_bind (wpAny_listSubscript_int (fitsIndex_of h0 hfit) ?_)
  clear hfit
  obtain ⟨j, rfl⟩ := Int.eq_ofNat_of_zero_le h0
  have hj : j < items.size := by omega
  have hx' : items[j]? = some items[j] := Array.getElem?_eq_getElem hj
  show wpAny _ _ ((seqItemAt l j >>= fun r => pure (r.map (j, ·))) >>= _) _ _ s
  refine wpAny_bind (wpAny_bind (wpAny_seqItemAt ho hd (wpAny_pure ?_)))
  rw [hx']
  show wpAny _ _ (setSeqItemAt l j v >>= _) _ _ s
  obtain ⟨n', hd'⟩ := Obj.data_mapSeq hd (·.setIfInBounds j v)
  have hfin : PlainL (s.heap.update l (Obj.mapSeq (·.setIfInBounds j v))) l (items.setIfInBounds j v) := by
    refine ⟨_, n', Heap.get?_update_self _ ho (Obj.isFreed_of_seq hd'), (Obj.cls_mapSeq ..).trans hc, ?_, hd'⟩
    obtain ⟨c, d, dt, sl⟩ := o
    subst hd
    exact hdn
  refine wpAny_bind (wpAny_setSeqItemAt ho hd ?_)
  first
    | exact wpAny_bind (wpAny_pure (wpAny_pure ⟨.none, rfl, wpAny_pure (hQ _ hfin (Heap.SameBut.update ..))⟩))
    | exact wpAny_pure ⟨.none, rfl, wpAny_pure (hQ _ hfin (Heap.SameBut.update ..))⟩

theorem xVar_same {i : Nat} {c : C} {φ : Vars} {σ τ : Store} {u : AV} (h : xVar i c φ σ = .ok u τ) : τ = σ := by
  have h : getV φ i σ (fun v => R.ok v σ) = .ok u τ := h
  unfold getV at h
  rw [nth_eq] at h
  cases e1 : φ[i]? with
  | none => rw [e1] at h; cases h
  | some s =>
    rw [e1] at h
    cases s with
    | lv w => cases w with
      | none => cases h
      | some w => cases (show (R.ok w σ : R AV) = .ok u τ from h); rfl
    | gl => cases h
    | cl c' =>
      have h : getO σ c' (fun o => onCell o fun v => onO v .bad fun v => R.ok v σ) = .ok u τ := h
      rw [getO_eq] at h
      cases e2 : sget σ c' with
      | none => rw [e2] at h; cases h
      | some o =>
        rw [e2] at h
        cases o with
        | list l => cases h
        | cell w => cases w with
          | none => cases h
          | some w => cases (show (R.ok w σ : R AV) = .ok u τ from h); rfl
theorem xVar_noEx {i : Nat} {c : C} {φ : Vars} {σ τ : Store} {k : Nat} : xVar i c φ σ ≠ .ex k τ := by
  intro h
  have h : getV φ i σ (fun v => R.ok v σ) = .ex k τ := h
  unfold getV at h
  rw [nth_eq] at h
  cases e1 : φ[i]? with
  | none => rw [e1] at h; cases h
  | some s =>
    rw [e1] at h
    cases s with
    | lv w => cases w <;> cases h
    | gl => cases h
    | cl c' =>
      have h : getO σ c' (fun o => onCell o fun v => onO v .bad fun v => R.ok v σ) = .ex k τ := h
      rw [getO_eq] at h
      cases e2 : sget σ c' with
      | none => rw [e2] at h; cases h
      | some o =>
        rw [e2] at h
        cases o with
        | list l => cases h
        | cell w => cases w <;> cases h

section
variable {D : Wd} {m : Nat} {Γ : Names}
/-- x[j] = e -/
theorem st_put {x : Str} {np spos pos : Pos} {j e : Expr} {i : Nat} {a b : DX} (hx : SoundX D m Γ (.Name x np) (xVar i)) (hj : SoundX D m Γ j b) (ha : SoundX D m Γ e a)
    (hs : ∀ env, swapsWith e (some (.Subscript (.Name x np) j spos)) pos.line env = pure false := by intro _; rfl) : Sound1 D m Γ (.Assign [.Subscript (.Name x np) j spos] e pos) (sPut i b a) := by
  intro n c hC A outer env φ p Q E hr hf hfl he S V hp
  refine wpAny_Assign_Subscript ?_ (hs env)
  refine ha hC hr hf he S V (Post.expr hp fun q1 u v S1 s1 x1 h1 => ?_)
  have V1 := V.on S s1
  rw [getV_bindP] at h1
  have h1 : Post D.B0 D.s₀ (env :: outer) (Loc env) NoE q1 (RF Γ env) ((xVar i c φ q1.σ).bind fun w _ => onRef w fun k => (b c φ q1.σ).bind fun w σ => onInt w fun n => Int.rec (motive := fun _ => R Fl) (fun n => getL σ k fun l => ifB (Nat.blt n (List.length l)) (ifB (Nat.blt n 100000) (fL (setL l n u) fun l => setO σ k (.list l) fun σ => .ok (.nxt φ) σ) .bad) .bad) (fun _ => .bad) n) Q E := h1
  cases hv : xVar i c φ q1.σ with
  | bad => rw [hv] at h1; exact h1.elim
  | ex k σ => exact absurd hv xVar_noEx
  | ok w σ =>
    have hσ := xVar_same hv
    subst hσ
    rw [hv, bind_ok] at h1
    refine hx hC hr hf he S1 V1 ?_
    rw [hv]
    intro q2 wv e1 S2 s2 x2
    have hp1 := h1.step (s2.anyX (X := Loc env))
    rw [← e1] at hp1
    obtain ⟨k, hk, rfl, rfl, h2⟩ := onRef_ok x2 hp1
    have V2 := V1.on S1 s2
    refine hj hC hr hf he S2 V2 (Post.expr h2 fun q3 nn nv S3 s3 x3 h3 => ?_)
    obtain ⟨z, t, rfl, rfl, h4⟩ := onInt_ok x3 h3
    cases z with
    | negSucc z => exact h4.elim
    | ofNat z =>
      obtain ⟨l, vs, g, hl, xl, h5⟩ := getL_ok S3 (show Post D.B0 D.s₀ (env :: outer) (Loc env) NoE q3 (RF Γ env) (getL q3.σ k fun l => ifB (Nat.blt z (List.length l)) (ifB (Nat.blt z 100000) (fL (setL l z u) fun l => setO q3.σ k (.list l) fun σ => .ok (.nxt φ) σ) .bad) .bad) Q E from h4)
      obtain ⟨hb1, h6⟩ := ifB_ok h5
      obtain ⟨hb2, h7⟩ := ifB_ok h6
      rw [fL_eq, setL_eq, setO_eq] at h7
      have hz : z < l.length := Nat.le_of_ble_eq_true hb1
      have hz2 : z < 100000 := Nat.le_of_ble_eq_true hb2
      have hlen : vs.size = l.length := by rw [← xl.length, Array.length_toList]
      have hk3 : k < q3.σ.n := Nat.lt_of_lt_of_le hk s3.le
      rw [← s3.same k hk]
      refine setItem_plainL (s := sh D.s₀ q3) (plain_of S3 g hl) (Int.natCast_nonneg z) (by show (z : Int) < _; omega) (by show (z : Int) < _; rw [hlen]; omega) fun h' hpl hs' => ?_
      have xu : VR q3.h q3.ρ q3.σ.n v u := (x1.on S1 s2).on S2 s3
      have e3 : (vs.setIfInBounds (Int.ofNat z).toNat v).toList = vs.toList.set z v := by simp
      obtain ⟨S4, s4, s4'⟩ := turn_list (t := q3.t) S3 (Step.refl (Loc env) _ q3) hk3 hl hpl hs' (by rw [e3]; exact xl.set xu z)
      exact h7.ok (q := ⟨q3.ρ, sset q3.σ k (.list (l.set z u)), h', q3.t⟩) (b := Flow.next) S4 s4 ((V2.on S2 s3).on S3 s4')
end
end Mine
end

section
open PySem PySem.W PyProof.Rows PySem.Calls PySem.Spec
namespace Mine
set_option autoImplicit false
set_option maxRecDepth 100000

/-- what the written heap says of the exceptions' class, for a read of e.kind -/
structure CasK (K : Frag) : Prop where
  ga : findIn K (.ref casFail) "__getattribute__" = some (some (.builtin "BaseException.__getattribute__"))
  gt : findIn K (.ref casFail) "__getattr__" = some none
  kind : findIn K (.ref casFail) (Str.ofString "kind") = some none
  dict : hasDictIn K casFail = true

theorem look_ns {h : Heap} {d : Addr} {m : Str → Option Value} {name : Str} {v : Value} (hn : h.Ns d m) (hv : m name = some v) : ∃ od, h.get? d = some od ∧ lookIn name od = some (some v) := by
  obtain ⟨o, es, ep, e, hd, hk, hf⟩ := hn
  refine ⟨o, e, ?_⟩
  have h1 : nsFind es name = some v := (hf name).trans hv
  unfold lookIn
  rw [hd]
  dsimp only
  unfold nsFind findBy at h1
  obtain ⟨l⟩ := es
  have e1 : Array.find? (fun e => e.key.isStr name) ⟨l⟩ = l.find? (fun e => e.key.isStr name) := by simp
  rw [e1] at h1
  cases h2 : l.find? (fun e => e.key.isStr name) with
  | none => rw [h2] at h1; cases h1
  | some x => rw [h2] at h1; cases h1; rfl

section
variable {D : Wd} {m : Nat} {Γ : Names}
theorem kind_read (hCas : CasOk D) {A : Around} {E : Value → Shared → Prop} {s : Shared} {e d : Addr} {o : Obj} {k : Nat} {vs : Array Value} {Q : Value → Shared → Prop} {expr : Bool} (hK : CasK D.K) (hin : D.K.In s.heap) (hbase : ∀ b o, D.B0.get? b = some o → s.heap.get? b = some o) (he : s.heap.get? e = some o) (hc : o.cls = .ref casFail) (hdt : o.data = .fields vs) (hd : o.dict = some d) (hk : KindAt s.heap d k)
    (h : ∀ t, Q (.str (txt k) t) { s with toks := s.toks + 1 }) : wpAny (model D.prog D.w) A (getAttr (.ref e) (Str.ofString "kind") expr) Q E s := by
  obtain ⟨mk, t, hn, hm⟩ := hk
  obtain ⟨od, e1, e2⟩ := look_ns hn hm
  have I : PySem.W.InstAt s.heap e o casFail (some od) := ⟨he, hc, by unfold notCls; rw [hdt], by rw [hd]; exact e1⟩
  obtain ⟨nm, q, bs, sn, sub, ab, col, dd, k0, k1, k2, k3, k5, hC0⟩ := hCas.cls
  have hC := hbase _ _ hC0
  obtain ⟨hp, g, dr, tk, os⟩ := s
  have FB := F.attrBase_Exception
  have hf := findObj_own hK.dict hK.kind rfl e2
  have L0 := I.type (M := model D.prog D.w)
  have L1 := looks_findIn (M := model D.prog D.w) hin hK.ga
  have L2 := looks_findIn (M := model D.prog D.w) hin hK.gt
  have L3 := looks_find (M := model D.prog D.w) hin I hf
  have hx0 : (expr && onTheHeap (Value.builtin "BaseException.__getattribute__")) = false := by cases expr <;> rfl
  have hx2 : (Value.builtin "BaseException.__getattribute__" == Value.builtin "object.__getattribute__") = false := by decide +kernel
  have hx1 : (onTheHeap (Value.ref casFail) && Value.builtin "BaseException.__getattribute__" == Value.builtin "object.__getattribute__") = false := by rw [hx2]; rfl
  have f3 := FB.ga.bind (.ref e)
  have hcB : (Value.ref casFail :: [.type "Exception", .type "BaseException", .type "object"]).contains (.type "BaseException") = true := by decide
  have kb : builtinKind "BaseException.__getattribute__" = some .slot := by decide +kernel
  have hsplit : splitId "BaseException.__getattribute__" = some ("BaseException", "__getattribute__") := by decide +kernel
  unfold getAttr getAttrBy
  refine wpAny_bind (wpAny_mkText (wpAny_holding (wpAny_bind (L0.at (wpAny_bind (L1.at ?_))))))
  show wpAny _ _ (if (onTheHeap (Value.ref casFail) && Value.builtin "BaseException.__getattribute__" == Value.builtin "object.__getattribute__") = true then _ else _) _ _ _
  rw [hx1]
  rw [if_neg (by simp)]
  unfold getAttrByItsOwn
  refine wpAny_bind (show wpAny _ _ (typeLookup (Value.ref casFail) "__getattr__") _ _ _ from L2.at ?_)
  have fin : ∀ {Q' : Fin → Shared → Prop} {E' : Value → Shared → Prop} {A' : Around}, Q' (.done (.ret (.str (txt k) t))) ⟨hp, g, dr, tk + 1, os⟩ → wpAny (model D.prog D.w) A' (Builtin.«object.__getattribute__» ⟨[.ref e, .str (Str.ofString "kind") tk], []⟩) Q' E' ⟨hp, g, dr, tk + 1, os⟩ := by
    intro Q' E' A' hq
    have L0' : Looks (model D.prog D.w) hp (typeOf (.ref e)) (.ref casFail) := L0
    have L3' : Looks (model D.prog D.w) hp (Builtin.ObjectAttr.find (.ref e) (.ref casFail) (Str.ofString "kind")) (.value (.str (txt k) t)) := L3
    unfold Builtin.«object.__getattribute__»
    refine wpAny_bind (wpAny_pure (wpAny_bind (wpAny_pure (wpAny_bind (L0'.at (wpAny_bind (L3'.at (wpAny_pure hq))))))))
  have chk : ∀ {Q' : Unit → Shared → Prop} {E' : Value → Shared → Prop} {A' : Around} {nameV : Value}, Q' () ⟨hp, g, dr, tk + 1, os⟩ → wpAny (model D.prog D.w) A' (checkBuiltinCall "BaseException.__getattribute__" ⟨[.ref e, nameV], []⟩) Q' E' ⟨hp, g, dr, tk + 1, os⟩ := by
    intro Q' E' A' nameV hq
    have ha := F.args_bexc_ga (.ref e) nameV
    simp only [checkBuiltinCall, kb, hsplit]
    refine wpAny_bind ?_
    unfold isInstance
    repeat (first | (with_reducible refine wpAny_loadPart_at he ?_; rw [hc]) | (with_reducible refine wpAny_isSubtype_exc hC ?_; rw [hcB]) | wp_step)
    exact hq
  repeat (any_goals (first | assumption | wp_step))
  refine codeAny_call_builtin FB.ga.plain F.entry_bexc_ga (chk (fin ?_))
  show wpAny _ _ (handedOut _) _ _ _
  rw [handedOut_of (by rfl)]
  exact wpAny_pure (h t)
end
/-- what is caught is raised again -/
theorem raise_again {M : Model} {A : Around} {E : Value → Shared → Prop} {env : Env} {x : Sem Value} {Q : Flow → Shared → Prop} {e : Addr} {s : Shared} (hh : A.handled = some (.ref e))
    (h : wpAny M A x (fun v s₁ => ∃ nm q bs sn sub ab col dd k0 k1 k2 k3 k5, v = .ref e ∧ s₁.heap.get? casFail = some (excClassObj nm q casFail 30 bs [.type "Exception", .type "BaseException", .type "object"] true sn sub ab col dd k0 k1 k2 k3 k5 "Exception.__new__") ∧
      (∃ o vs T, s₁.heap.get? e = some o ∧ o.cls = .ref casFail ∧ o.data = .fields vs ∧ vs[1]? = some (.ref T) ∧ wpAny M A (setField (.ref T) 3 .none) (fun _ s₂ => E (.ref e) s₂) E s₁)) E s) :
    wpAny M A (raiseStmt env (some x) none) Q E s := by
  unfold raiseStmt
  refine wpAny_bind (wpAny_mono h (fun v s₁ h₁ => ?_) fun _ _ x => x)
  obtain ⟨nm, q, bs, sn, sub, ab, col, dd, k0, k1, k2, k3, k5, rfl, hC, ⟨⟨oc, od, odt, osl⟩, vs, T, he, hc, hd, hT, hE⟩⟩ := h₁
  simp only at hc hd
  subst hc hd
  have hcB : (Value.ref casFail :: [.type "Exception", .type "BaseException", .type "object"]).contains (.type "BaseException") = true := by decide
  obtain ⟨hp, g, d, tk, os⟩ := s₁
  repeat (first | with_reducible refine wpAny_loadPart_at he ?_ | with_reducible refine wpAny_loadPart_at hC ?_ | (with_reducible refine wpAny_isSubtype_exc hC ?_; rw [hcB]) | wp_step)
  rw [hT]
  refine wpAny_pure ?_
  rw [if_pos (show (Value.ref T != Value.none) = true from by simp)]
  refine wpAny_mono hE (fun _ s₂ h₂ => ?_) fun _ _ y => y
  unfold raiseNew
  refine wpAny_bind (wpAny_handled ?_)
  rw [hh]
  dsimp only
  rw [if_neg (by simp)]
  first
    | exact wpAny_throw h₂
    | exact wpAny_bind (wpAny_pure (wpAny_throw h₂))

section
variable {B0 : Heap} {s₀ : Shared} {fr : List Env} {X : Addr → Prop} {p q : Pt}
/-- the mark, as raise sets it -/
theorem mark_ok {M : Model} {A : Around} {E : Value → Shared → Prop} {e : Addr} {k : Nat} {x : Value} {T : Addr} {o : Obj} {vs : Array Value} {Q : Unit → Shared → Prop}
    (hB : ∀ b o, B0.get? b = some o → ∃ o', p.h.get? b = some o') (S : St B0 fr q) (s : Step X fr p q) (F : FlyT p q e k x) (ho : q.h.get? e = some o) (hd : o.data = .fields vs) (hT : vs[1]? = some (.ref T))
    (h : ∀ h', St B0 fr { q with h := h' } → Step X fr p { q with h := h' } → FlyT p { q with h := h' } e k .none → Q () (sh s₀ { q with h := h' })) : wpAny M A (setField (.ref T) 3 .none) Q E (sh s₀ q) := by
  have nb : ∀ b, p.h.get? b = none → B0.get? b = none := fun b e => by
    cases h : B0.get? b with
    | none => rfl
    | some o => obtain ⟨o', e'⟩ := hB b o h; rw [e] at e'; cases e'
  obtain ⟨h1, h2, o', d, vs', T', oT, ts, h3, h4, h5, h6, h7, h8, h9, g1, g2, g3, g4, g5, g6, g7⟩ := F
  rw [h3] at ho; cases ho
  rw [h8] at hd; cases hd
  rw [g1] at hT; cases hT
  have hsz3 : 3 < ts.size := (Array.getElem?_eq_some_iff.mp g7).1
  refine wpAny_setField (s := sh s₀ q) g4 g6 hsz3 ?_
  generalize hH : ((sh s₀ q).heap.update T (Obj.mapFields (·.setIfInBounds 3 Value.none))) = H
  have other : ∀ b, b ≠ T → H.get? b = q.h.get? b := fun b hb => by rw [← hH]; exact Heap.get?_update_other _ _ (Ne.symm hb)
  have hT : H.get? T = some (oT.mapFields (·.setIfInBounds 3 Value.none)) := by
    rw [← hH]; exact Heap.get?_update_self _ g4 (Obj.isFreed_of_fields (Obj.data_mapFields g6 _))
  have hk : ∀ b o, ¬ (b = T) → q.h.get? b = some o → (b ∉ frL fr → H.get? b = some o) ∧ ∃ sl, H.get? b = some { o with slots := sl } := fun b o hm e' => ⟨fun _ => (other b hm).trans e', o.slots, (other b hm).trans e'⟩
  obtain ⟨S', s'⟩ := St.exc (M := (· = T)) (h' := H) S s (fun b m => m ▸ g3) (fun b m => nb b (m ▸ g3)) (fun b o' m e' => by subst m; rw [g4] at e'; cases e'; exact tb_obj g6 g5) hk
  refine h H S' s' ⟨h1, h2, _, d, _, T, _, _, (other e (Ne.symm g2)).trans h3, h4, h5, h6, ?_, h8, h9, g1, g2, g3, hT, ?_, Obj.data_mapFields g6 _, by simp [hsz3]⟩
  · exact kind_keep h7 fun od es n e1 e2 => (hk d od (fun m => by subst m; rw [g4] at e1; cases e1; rw [e2] at g6; cases g6) e1).2
  · rw [Obj.cls_mapFields]; exact g5
/-- a name of the block is turned: what flies, flies on -/
theorem FlyT.off {e : Addr} {k : Nat} {x : Value} {L : Addr} {o : Obj} {h' : Heap} {t : Nat} (F : FlyT p q e k x) (hL : p.h.get? L = some o) (hs : Heap.SameBut L q.h h') : FlyT p { q with h := h', t := t } e k x := by
  obtain ⟨h1, h2, o', d, vs', T', oT, ts, h3, h4, h5, h6, h7, h8, h9, g1, g2, g3, g4, g5, g6, g7⟩ := F
  have ne : ∀ b, p.h.get? b = none → b ≠ L := fun b hb y => by rw [y, hL] at hb; cases hb
  exact ⟨h1, h2, o', d, vs', T', oT, ts, (hs.2 e (ne e h2)).trans h3, h4, h5, h6, kind_keep h7 fun od es n e1 _ => ⟨od.slots, (hs.2 d (ne d h6)).trans e1⟩, h8, h9, g1, g2, g3, (hs.2 T' (ne T' g3)).trans g4, g5, g6, g7⟩
end
end Mine
end

section
open PySem PySem.W PyProof.Rows PySem.Calls PySem.Spec
namespace Mine
set_option autoImplicit false

section
variable {D : Wd} {m : Nat} {Γ : Names}
theorem loc_off {B0 : Heap} {fr : List Env} {env : Env} {p q : Pt} {h' : Heap} {t : Nat} {m1 m2 : Str → Option Value} (S : St B0 fr q) (s : Step (Loc env) fr p q) (hb : B0.get? env.locals = none) (hn : q.h.Ns env.locals m1) (hn2 : h'.Ns env.locals m2) (hs : Heap.SameBut env.locals q.h h') :
    St B0 fr { q with h := h', t := t } ∧ Step (Loc env) fr p { q with h := h', t := t } := by
  obtain ⟨o', es, ep, e', hd, _⟩ := id hn
  obtain ⟨o2, _, _, e2, _⟩ := id hn2
  have hh : ∀ o, q.h.get? env.locals = some o → ¬ Hard o := fun o e => by
    rw [e'] at e; cases e
    exact not_hard_dict hd
  have hno : ∀ k, k < q.σ.n → q.ρ k ≠ env.locals := fun k hk y => S.notOwn e' (fun _ _ z => by rw [hd] at z; cases z) (fun _ z => by rw [hd] at z; cases z) k hk y.symm
  exact ⟨S.off hb hno hh hs.extBut fun _ => ⟨_, hn2⟩, s.off (fun o e => ⟨rfl, o2, e2⟩) hs.extBut⟩

theorem hin_of (hD : D.Ok) {fr : List Env} {q : Pt} (S : St D.B0 fr q) : D.K.In q.h := fun a o e => S.base a o (hD.kin a o e)
theorem shaped_txt {k : Nat} (hk : k < 28) : SeqAt.shaped (.str (txt k)) = true := by
  show (PyData.canLay0 (.str (txt k)) && decide (PyData.depth (.str (txt k)) ≤ 64)) = true
  rw [PyData.canLay0, txt_ok k hk]; rfl
set_option maxHeartbeats 1000000 in
theorem st_try (hD : D.Ok) (hCas : CasOk D) (hK : CasK D.K) {body : List Stmt} {b : DS} {k i j kk : Nat} {en s : Str} {np p1 p2 p3 p4 p5 p6 p7 p8 pos : Pos} (hb : SoundS D m Γ body b) (hx : Γ[i]? = some (Str.ofString "CasFail", .glo)) (hen : Γ[j]? = some (en, .loc)) (hk : k < 28) (hs : s = txt k) (hdb : (en == Str.ofString "__debug__") = false) :
    Sound1 D m Γ (.Try body [.ExceptHandler (some (.Name (Str.ofString "CasFail") np)) (some en) [.If (.Compare (.Attribute (.Name en p1) (Str.ofString "kind") p2) [.NotEq] [.Constant (.str s) kk p3] p4) [.Raise (some (.Name en p5)) none p6] [] p7] p8] [] [] pos) (sTry b k) := by
  subst hs
  intro n c hC A outer env φ p Q E hr hf hfl he S V hp
  refine wpAny_Try_except ?_
  refine hb hC hr hf hfl he S V ?_
  have hp : Post D.B0 D.s₀ (env :: outer) (Loc env) NoE p (RF Γ env) (R.rec (motive := fun _ => R Fl) (fun r σ => .ok r σ) (fun k' σ => ifB (Nat.beq k k') .bad (.ex k' σ)) .bad (b c φ p.σ)) Q E := hp
  cases hv : b c φ p.σ with
  | bad => rw [hv] at hp; exact hp.elim
  | ok fl σ =>
    rw [hv] at hp
    intro q f e S2 s2 x
    have h0 : Q f (sh D.s₀ q) := hp q f e S2 s2 x
    cases fl with
    | nxt φ2 =>
      cases f with
      | next => exact wpAny_execs_nil h0
      | _ => exact x.elim
    | ret v =>
      cases f with
      | ret w => exact h0
      | _ => exact x.elim
  | ex k' σ =>
    rw [hv] at hp
    have hp : Post D.B0 D.s₀ (env :: outer) (Loc env) NoE p (RF Γ env) (ifB (Nat.beq k k') .bad (.ex k' σ)) Q E := hp
    have hne : Nat.beq k k' = false := by
      cases hq : Nat.beq k k' with
      | false => rfl
      | true => rw [hq] at hp; exact hp.elim
    rw [hne] at hp
    intro q e eσ S2 s2 _ F
    have hB : ∀ b o, D.B0.get? b = some o → ∃ o', p.h.get? b = some o' := fun b o e => ⟨o, S.base b o e⟩
    have hfr0 : frame0 (env :: outer) = some env.locals := hfl
    rw [hfr0] at F
    obtain ⟨mL, oL, _, _, eL, _⟩ := V.ns.imp fun _ h => h.1
    have hf' : (A.mark (some (.ref e))).frames = some (env :: outer) := hf
    have hlive : ∀ {q : Pt}, St D.B0 (env :: outer) q → ∃ m, q.h.Ns env.locals m := fun S => S.str _ (by rw [frL, List.filterMap_cons, hfl]; exact .head _)
    obtain ⟨nm, qn, bs, sn, sub, ab, col, dd, k0, k1, k2, k3, k5, hC0⟩ := hCas.cls
    refine note_ok hf hfl rfl hB S2 s2 F fun h3 S3 s3 F3 => ?_
    refine flight_ok (q := { q with h := h3 }) (f := none) hB S3 s3 F3 fun h4 S4 s4 F4 => ?_
    refine wpAny_handleBy_cons (codeAny_handlers_test ?_) (by intro z; cases z)
    refine Name_function_global he.kind (he.glo i _ hx) ?_ (by decide +kernel)
    refine loadGlobal_global (env := env) (mg := D.mg) (by rw [he.glob]; exact base_ns (p := { q with h := h4 }) S4 hD.globs) hCas.glob ?_
    obtain ⟨hk', _, o, d, vs, T, oT, ts, e3, e4, e5, e6, e7, e8, e9, _⟩ := id F4
    refine wpAny_excMatches_sub_self (S4.base _ _ hC0) e3 e4 (by decide) ?_
    refine codeAny_handlers_suite_as ?_
    refine flight_ok (q := { q with h := h4 }) (f := none) hB S4 s4 F4 fun h5 S5 s5 F5 => ?_
    obtain ⟨m5, hn5⟩ := hlive S5
    refine wpAny_storeName_local (he.loc j _ hen) hn5 (fun h6 hn6 hs6 => ?_) (by rw [he.kind]; rfl)
    obtain ⟨S6, s6⟩ := loc_off (t := q.t + 1) (q := { q with h := h5 }) S5 s5 he.fresh hn5 hn6 hs6
    have F6 := F5.off (t := q.t + 1) (q := { q with h := h5 }) eL hs6
    -- the suite
    obtain ⟨_, _, o, d, vs, T, oT, ts, e3, e4, e5, e6, e7, e8, e9, g1, _⟩ := id F6
    refine wpAny_execs_cons (wpAny_If (wpAny_isTrue_Compare1 ?_))
    refine Attribute_name (wpAny_Name (wpAny_loadName_local he.kind (he.loc j _ hen) hn6 (by rw [if_pos rfl]) ?_) hdb)
    refine kind_read hCas (s := sh D.s₀ { q with h := h6, t := q.t + 1 }) hK (hin_of hD S6) S6.base e3 e4 e8 e5 e7 fun t => ?_
    refine Constant_str ?_
    refine ne_dataH (Reads.str _ _) (Reads.str _ _) (shaped_txt hk') (shaped_txt hk) (by have := hr.units; show A.units + 64 < 9900; omega) ?_
    have hneq : (!PyData.eqv (.str (txt k')) (.str (txt k))) = true := by
      show (!(txt k' == txt k)) = true
      rw [txt_inj k' hk' k hk]
      have : Nat.beq k' k = false := by
        cases hq : Nat.beq k' k with
        | false => rfl
        | true => rw [Nat.eq_of_beq_eq_true hq] at hne; rw [show Nat.beq k k = true from Nat.beq_refl k] at hne; cases hne
      rw [this]; rfl
    rw [hneq]
    refine wpAny_truthy_bool ?_
    rw [if_pos rfl]
    have S6b : St D.B0 (env :: outer) { q with h := h6, t := q.t + 1 + 1 + 1 } := S6.push (t := q.t + 1 + 1 + 1) fun _ _ e => e
    have s6b : Step (Loc env) (env :: outer) p { q with h := h6, t := q.t + 1 + 1 + 1 } := s6.then (Step.push (t := q.t + 1 + 1 + 1) fun _ _ e => e)
    have F6b : FlyT p { q with h := h6, t := q.t + 1 + 1 + 1 } e k' .none := F6
    refine wpAny_execs_cons ?_
    rw [arm_exec_Raise]
    refine wpAny_bind (wpAny_standAt (raise_again (e := e) rfl ?_))
    refine wpAny_bind (wpAny_Name (wpAny_loadName_local he.kind (he.loc j _ hen) hn6 (by rw [if_pos rfl]) ?_) hdb)
    refine wpAny_bind (wpAny_standAt (wpAny_pure ⟨nm, qn, bs, sn, sub, ab, col, dd, k0, k1, k2, k3, k5, rfl, S6.base _ _ hC0, o, vs, T, e3, e4, e8, g1, ?_⟩))
    refine mark_ok (q := { q with h := h6, t := q.t + 1 + 1 + 1 }) hB S6b s6b F6b e3 e8 g1 fun h7 S7 s7 F7 => ?_
    refine note_ok (q := { q with h := h7, t := q.t + 1 + 1 + 1 }) hf' hfl rfl hB S7 s7 (F7.fly (.inl rfl)) fun h8 S8 s8 F8 => ?_
    obtain ⟨m8, hn8⟩ := hlive S8
    refine wpAny_nameGoes (he.loc j _ hen) hn8 (by rw [he.kind]; rfl) fun h9 m9 hn9 hs9 => ?_
    obtain ⟨S9, s9⟩ := loc_off (t := q.t + 1 + 1 + 1 + 1) (q := { q with h := h8, t := q.t + 1 + 1 + 1 }) S8 s8 he.fresh hn8 hn9 hs9
    have F9 := F8.off (t := q.t + 1 + 1 + 1 + 1) (q := { q with h := h8, t := q.t + 1 + 1 + 1 }) eL hs9
    obtain ⟨_, _, o9, d9, vs9, T9, oT9, ts9, a3, a4, a5, a6, a7, a8, a9, b1, _⟩ := id F9
    unfold PySem.passOn
    refine wpAny_bind (wpAny_field (s := sh D.s₀ { q with h := h9, t := q.t + 1 + 1 + 1 + 1 }) a3 a8 b1 ?_)
    rw [if_neg (show ¬ ((Value.ref T9 == Value.none) = true) from by simp), hfl]
    refine wpAny_bind (flight_ok (q := { q with h := h9, t := q.t + 1 + 1 + 1 + 1 }) (f := some env.locals) hB S9 s9 F9 fun h10 S10 s10 F10 => wpAny_throw ?_)
    refine note_ok (q := { q with h := h10, t := q.t + 1 + 1 + 1 + 1 }) hf' hfl rfl hB S10 s10 (F10.fly (.inr ⟨_, rfl, rfl⟩)) fun h11 S11 s11 F11 => ?_
    refine back_ok (q := { q with h := h11, t := q.t + 1 + 1 + 1 + 1 }) hfl hB S11 s11 F11 fun h12 S12 s12 F12 => ?_
    refine hp { q with h := h12, t := q.t + 1 + 1 + 1 + 1 } e eσ S12 s12 trivial ?_
    rw [hfr0]
    exact F12.fly (.inr ⟨_, rfl, rfl⟩)
end
end Mine
end

section
open PySem PySem.W PyProof.Rows PySem.Calls PySem.Spec
namespace Mine
set_option autoImplicit false

/-- the table of a def's code, as it is before its lambda is made -/
noncomputable def TabAt (D : Wd) (c P : Addr) : Prop := CodeHd D.B0 c P ∧ D.B0.get? P = none ∧ mainGlobals ≠ P ∧ ∀ h', D.B0.StaysIn h' → h'.BuiltinsAt D.mg P

section
variable {D : Wd} {m : Nat} {Γ : Names}
theorem grown_on {B0 : Heap} {X : Addr → Prop} {fr : List Env} {p q : Pt} {P : Addr} (S : St B0 fr p) (s : Step X fr p q) (hx : ¬ X P) (g : GrownAt P p.h) : GrownAt P q.h := by
  obtain ⟨ps, hP⟩ := g
  refine ⟨ps, (s.eff P _ hP hx fun k hk y => ?_).1 fun hm => ?_⟩
  · exact S.notOwn hP (fun _ _ z => by cases z) (fun _ z => by cases z) k hk y
  · obtain ⟨_, o', es, n, e', hd⟩ := frs_mem S.frs hm
    rw [hP] at e'; cases e'; cases hd
abbrev AndG (P : Addr) {α β : Type} (Rel : Pt → α → β → Prop) : Pt → α → β → Prop := fun q a b => Rel q a b ∧ GrownAt P q.h
theorem Post.grown {B0 : Heap} {s₀ : Shared} {fr : List Env} {X Y : Addr → Prop} {p : Pt} {P : Addr} {α β : Type} {Rel : Pt → α → β → Prop} {r : R α} {Q : β → Shared → Prop} {E : Value → Shared → Prop} (hp : Post B0 s₀ fr X NoE p (AndG P Rel) r Q E) (S : St B0 fr p) (g : GrownAt P p.h) (hy : ¬ Y P) (h : ∀ a o, p.h.get? a = some o → Y a → X a) : Post B0 s₀ fr Y NoE p Rel r Q E := by
  cases r with
  | ok a σ => exact fun q b e S' s x => hp q b e S' (s.mono h) ⟨x, grown_on S s hy g⟩
  | ex k σ => exact fun q b e S' s x f => hp q b e S' (s.mono h) trivial f
  | bad => exact hp
theorem tab_notOwn {fr : List Env} {q : Pt} {P : Addr} {ps : Array Value} (S : St D.B0 fr q) (hP : q.h.get? P = some (tabObj ps)) : (∀ k, k < q.σ.n → q.ρ k ≠ P) ∧ P ∉ frL fr ∧ (∀ o, q.h.get? P = some o → ¬ Hard o) := by
  refine ⟨fun k hk y => ?_, fun hm => ?_, fun o e x => ?_⟩
  · exact S.notOwn hP (fun _ _ z => by cases z) (fun _ z => by cases z) k hk y.symm
  · obtain ⟨_, o', es, n, e', hd⟩ := frs_mem S.frs hm
    rw [hP] at e'; cases e'; cases hd
  · rw [hP] at e; cases e
    rcases x with ⟨h, _⟩ | ⟨h, _⟩ <;> cases h
/-- a lambda is made -/
theorem lam_make (hD : D.Ok) {A : Around} {fr : List Env} {env : Env} {φ : Vars} {q : Pt} {c P : Addr} {params : Arguments} {body : Expr} {scope : Scope} {pos : Pos} {ns : List NE} {E : Value → Shared → Prop} {Q : Value → Shared → Prop}
    (hT : TabAt D c P) (hP : q.h.get? P = some (tabObj #[])) (he : EnvOK D.B0 Γ env fr) (hcode : env.code = .ref c) (S : St D.B0 fr q) (V : Vs Γ env φ q) (hI : InN Γ scope.names ns) (hdef : defaultsOf params env = ([], []))
    (h : ∀ c' ctv h' t f, Heap.ExtBut P q.h h' → St D.B0 fr { q with h := h', t := t } → Step (· = P) fr q { q with h := h', t := t } → h'.CodeRec (.ref c') (env.qual ++ "<lambda>") → q.h.get? f = none →
      h'.get? f = some (kla_obj "<lambda>" (env.qual ++ "<lambda>") params body scope (closL env.cells scope.names []) ((D.mg "__name__").getD .none) c' ctv) → GrownAt P h' → Q (.ref f) (sh D.s₀ { q with h := h', t := t })) :
    wpAny (model D.prog D.w) A (eval (.Lambda params body scope pos) env) Q E (sh D.s₀ q) := by
  obtain ⟨hC, hPb, hgP, hBA⟩ := hT
  refine kla_eval hdef ?_
  refine kla_makeFunction (mg := D.mg) (ps := #[]) (P := P) (closureFor_eq (hI.free (B0 := D.B0) V)) he.glob (base_ns S hD.globs) hcode (hC.keeps S.base) hP (by simp [TriplesOk]) rfl hgP (hBA _ S.base) fun c' ctv h' tk hx hge hlt hrec htb => ?_
  obtain ⟨n1, n2, n3⟩ := tab_notOwn S hP
  have S1 : St D.B0 fr { q with h := h', t := tk } := S.off hPb n1 n3 hx fun hm => absurd hm n2
  have s1 : Step (· = P) fr q { q with h := h', t := tk } := (Step.refl _ _ q).off (fun o e => ⟨rfl, _, htb⟩) hx
  have k2 := push_keep h' (kla_obj "<lambda>" (env.qual ++ "<lambda>") params body scope (closL env.cells scope.names []) ((D.mg "__name__").getD .none) c' ctv)
  refine h c' ctv _ tk h'.objs.size (fun b o hb e => k2 b o (hx b o hb e)) (S1.push (t := tk) k2) (s1.then (Step.push (t := tk) k2)) ?_ ?_ (push_at _ _) ⟨_, k2 _ _ htb⟩
  · exact Heap.CodeRec.keeps hrec k2
  · cases e : q.h.get? h'.objs.size with
    | none => rfl
    | some o =>
      have := hx h'.objs.size o (fun y => by
        have := Heap.lt_size htb
        rw [← y] at this
        exact absurd this (Nat.lt_irrefl _)) e
      exact absurd (Heap.lt_size this) (Nat.lt_irrefl _)

theorem leave_plain {B0 : Heap} {fr : List Env} {env : Env} {p q q2 : Pt} (hf : env.frame = some env.locals) (hL : p.h.get? env.locals = none)
    (sq : Step NoX (env :: fr) p q) (S : St B0 (env :: fr) q2) (s : Step NoX (env :: fr) q q2) : St B0 fr q2 ∧ Step NoX fr p q2 :=
  leave_out (h₁ := p.h) (fun _ _ e => e) hf hL sq S (s.mono fun _ _ _ h => h.elim)
/-- the lambda is called -/
theorem lam_call (hD : D.Ok) {A : Around} {fr : List Env} {env : Env} {φ ψ : Vars} {q : Pt} {n : Nat} {c : C} {params : Arguments} {body : Expr} {scope : Scope} {ns : List NE} {f c' : Addr} {nm qual : Str} {pm ctv : Value} {y : DX} {E : Value → Shared → Prop} {Q : Value → Shared → Prop}
    (hC : SoundC D n c) (hr : Room A (24 * n + (m + 1))) (hf : A.frames = some fr) (S : St D.B0 fr q) (V : Vs Γ env φ q) (hI : InN Γ scope.names ns) (hn : (scope.names.map (·.1)).Nodup) (hk : scope.kind = .function) (hco : scope.isCoroutine = false) (hgen : scope.isGenerator = false) (hnc : ∀ x ∈ scope.names, x.2 ≠ .cell)
    (hfo : q.h.get? f = some (kla_obj nm qual params body scope (closL env.cells scope.names []) pm c' ctv)) (hcr : q.h.CodeRec (.ref c') qual) (hbind : ∀ fd : FuncData, fd.params = params → fd.defaults = .none → fd.kwdefaults = .none → bindArgs fd ⟨[], []⟩ = pure [])
    (hψ : ψ.length = scope.names.length) (hg : ∀ (i : Nat) (x : Str) (k : NameKind), scope.names[i]? = some (x, k) → (k = .local → ψ[i]? = some (Slot.lv none)) ∧ (k = .cell → False) ∧ (k = .free → ∃ c, ψ[i]? = some (Slot.cl c) ∧ c < q.σ.n ∧ env.cells.lookup x = some (q.ρ c)))
    (hy : SoundX D m (namesOf scope.names) body y) (hp : Post D.B0 D.s₀ fr NoX NoE q RV (y c ψ q.σ) Q E) : wpAny (model D.prog D.w) A (call (.ref f) []) Q E (sh D.s₀ q) := by
  refine wpAny_call (kla_callFunE (by have := hr.2.1; show A.depth < 1000; omega) hfo rfl hco hgen rfl hcr ?_)
  rw [hbind _ rfl rfl rfl]
  refine wpAny_pure (wpAny_newFunctionEnv hnc (fun x hx => by cases hx) (fun h₁ hns hsb => ⟨?_, ?_⟩) hk)
  · exact (hD.nolim.keeps S.base).fresh _ hsb
  have hkeep : ∀ b o, q.h.get? b = some o → h₁.get? b = some o := fun b o e => hsb.extBut b o (Nat.ne_of_lt (Heap.lt_size e)) (Heap.get?_push_of_some _ e)
  generalize henv : newEnv scope (sh D.s₀ q).heap.objs.size mainGlobals (closL env.cells scope.names []) (qual ++ ".<locals>.") (some f) (.ref c') none builtinsNs = env3
  have eloc : env3.locals = q.h.objs.size := by rw [← henv]; rfl
  have efr : env3.frame = some env3.locals := by rw [← henv]; rfl
  have escope : env3.scope = scope := by rw [← henv]; rfl
  have ecells : env3.cells = closL env.cells scope.names [] := by rw [← henv]; rfl
  have hLq : q.h.get? env3.locals = none := by rw [eloc]; exact size_none _
  have hLb : D.B0.get? env3.locals = none := by
    cases e : D.B0.get? env3.locals with
    | none => rfl
    | some o => have := S.base _ _ e; rw [hLq] at this; cases this
  have kget : ∀ {i : Nat} {x : Str} {k : NameKind}, scope.names[i]? = some (x, k) → env3.kindOf x = some k := fun {i x k} e => by
    unfold Env.kindOf; rw [escope]; exact lookup_of_get hn e
  have kk : ∀ (i : Nat) (x : Str) (t : NT), (namesOf scope.names)[i]? = some (x, t) → ∃ k, scope.names[i]? = some (x, k) ∧ ntOf k = t ∧ (k = .local ∨ k = .cell ∨ k = .free ∨ k = .globalImplicit) := fun i x t h => by
    obtain ⟨k, h1, h2⟩ := names_get h
    exact ⟨k, h1, h2, hI.kinds _ (List.mem_of_getElem? h1)⟩
  have he : EnvOK D.B0 (namesOf scope.names) env3 (env3 :: fr) := by
    refine ⟨by rw [escope]; exact hk, by rw [← henv]; rfl, by rw [← henv]; rfl, fun i x h => ?_, fun i x h => ?_, fun i x h => ?_, fun i x h => ?_, ?_, ⟨env3, fr, env3.locals, rfl, efr, efr⟩, hLb⟩
    · obtain ⟨k, h1, h2, h3⟩ := kk i x _ h
      rcases h3 with rfl | rfl | rfl | rfl <;> cases h2
      exact kget h1
    · obtain ⟨k, h1, h2, h3⟩ := kk i x _ h
      rcases h3 with rfl | rfl | rfl | rfl <;> cases h2
      exact kget h1
    · obtain ⟨k, h1, h2, h3⟩ := kk i x _ h
      rcases h3 with rfl | rfl | rfl | rfl <;> cases h2
      exact .inr (kget h1)
    · obtain ⟨k, h1, h2, h3⟩ := kk i x _ h
      rcases h3 with rfl | rfl | rfl | rfl <;> cases h2
      exact kget h1
    · unfold namesOf
      rw [List.map_map]; exact hn
  have hns' : h₁.Ns env3.locals (fun _ => none) := by rw [eloc]; exact hns
  obtain ⟨oL, esL, epL, eL, dL, _⟩ := id hns'
  have S1 : St D.B0 fr { q with h := h₁, t := q.t } := S.push hkeep
  have S3 : St D.B0 (env3 :: fr) { q with h := h₁, t := q.t } := ⟨S1.base, S1.len, S1.own, S1.inj, S1.new, ⟨by rw [escope]; exact hk, ⟨env3.locals, oL, esL, epL, efr, hLb, eL, dL⟩, S1.frs⟩, S1.nod, fun a hm => by
    have hfl : frL (env3 :: fr) = env3.locals :: frL fr := by rw [frL, List.filterMap_cons, efr]
    rw [hfl] at hm
    rcases List.mem_cons.mp hm with rfl | hm
    · exact ⟨_, hns'⟩
    · exact S1.str a hm⟩
  have s3 : Step NoX (env3 :: fr) q { q with h := h₁, t := q.t } := Step.push hkeep
  have V3 : Vs (namesOf scope.names) env3 ψ { q with h := h₁, t := q.t } := by
    refine ⟨by rw [hψ]; simp [namesOf], ⟨_, hns', fun i x hx => ?_⟩, fun i x t hx ht => ?_⟩
    · obtain ⟨k, h1, h2, h3⟩ := kk i x _ hx
      rcases h3 with rfl | rfl | rfl | rfl <;> cases h2
      exact ⟨none, (hg i x _ h1).1 rfl, trivial⟩
    · obtain ⟨k, h1, h2, h3⟩ := kk i x _ hx
      rcases h3 with rfl | rfl | rfl | rfl
      · rw [← h2] at ht; rcases ht with e | e <;> cases e
      · exact ((hg i x _ h1).2.1 rfl).elim
      · obtain ⟨c, a1, a2, a3⟩ := (hg i x _ h1).2.2 rfl
        refine ⟨c, a1, a2, ?_⟩
        rw [ecells, closL_free hn h1, a3]; rfl
      · rw [← h2] at ht; rcases ht with e | e <;> cases e
  refine kla_codeExpr ?_
  have hfr3 : (A.deeper env3).frames = some (env3 :: fr) := by show A.frames.map _ = _; rw [hf]; rfl
  show wpAny _ _ _ _ _ (sh D.s₀ { q with h := h₁, t := q.t })
  refine hy hC (hr.deeper env3) hfr3 he S3 V3 ?_
  cases hv : y c ψ q.σ with
  | bad => rw [hv] at hp; exact hp.elim
  | ok a σ =>
    rw [hv] at hp
    intro q2 v e S2 s2 x
    obtain ⟨S4, s4⟩ := leave_plain efr hLq s3 S2 s2
    exact hp q2 v e S4 s4 x
  | ex k σ =>
    rw [hv] at hp
    intro q2 e eσ S2 s2 _ F
    have hB : ∀ b o, D.B0.get? b = some o → ∃ o', ({ q with h := h₁, t := q.t } : Pt).h.get? b = some o' := fun b o e => ⟨o, S3.base b o e⟩
    have hfr0 : frame0 (env3 :: fr) = some env3.locals := efr
    rw [hfr0] at F
    refine leave_ok hfr3 efr rfl hB S2 s2 F fun h' S4 s4 F4 => ?_
    obtain ⟨S5, s5⟩ := leave_plain efr hLq s3 S4 s4
    exact hp { q2 with h := h' } e eσ S5 s5 trivial ((F4.fly (.inl rfl)).from s3)
end
end Mine
end

section
open PySem PySem.W PyProof.Rows PySem.Calls PySem.Spec
namespace Mine
set_option autoImplicit false

/-- the def that calls a lambda and tells what comes -/
structure TellOk (D : Wd) (told : Addr) : Prop where
  fn : ∃ o fd, D.B0.get? told = some o ∧ o.data = .func fd ∧ D.B0.CodeRec fd.code fd.qualname ∧ fd.closure = [] ∧ fd.globals = mainGlobals ∧ fd.builtins = builtinsNs ∧
    fd.scope.kind = .function ∧ fd.scope.isCoroutine = false ∧ fd.scope.isGenerator = false ∧ fd.scope.names = [(Str.ofString "work", .local), (Str.ofString "wrong", .local), (Str.ofString "CasFail", .globalImplicit)] ∧
    (∀ a, bindArgs fd ⟨[a], []⟩ = pure [(Str.ofString "work", a)]) ∧
    ∃ p1 p2 p3 p4 p5 p6 p7 p8 p9, fd.body = .stmts [.Try [.Return (some (.Call (.Name (Str.ofString "work") p1) [] [] p2)) p3]
      [.ExceptHandler (some (.Name (Str.ofString "CasFail") p4)) (some (Str.ofString "wrong")) [.Return (some (.Attribute (.Name (Str.ofString "wrong") p5) (Str.ofString "kind") p6)) p7] p8] [] [] p9]

section
variable {D : Wd} {m : Nat} {Γ : Names}
set_option maxHeartbeats 2000000 in
theorem told_call (hD : D.Ok) (hCas : CasOk D) (hK : CasK D.K) {told : Addr} (hT : TellOk D told) {A : Around} {fr : List Env} {env : Env} {φ ψ : Vars} {q : Pt} {n : Nat} {c : C} {params : Arguments} {body : Expr} {scope : Scope} {ns : List NE} {f c' : Addr} {nm qual : Str} {pm ctv : Value} {y : DX} {Q : Value → Shared → Prop} {E : Value → Shared → Prop}
    (hC : SoundC D n c) (hr : Room A (24 * n + (m + 2))) (hf : A.frames = some fr) (S : St D.B0 fr q) (V : Vs Γ env φ q) (hI : InN Γ scope.names ns) (hn : (scope.names.map (·.1)).Nodup) (hk : scope.kind = .function) (hco : scope.isCoroutine = false) (hgen : scope.isGenerator = false) (hnc : ∀ x ∈ scope.names, x.2 ≠ .cell)
    (hfo : q.h.get? f = some (kla_obj nm qual params body scope (closL env.cells scope.names []) pm c' ctv)) (hcr : q.h.CodeRec (.ref c') qual) (hbind : ∀ fd : FuncData, fd.params = params → fd.defaults = .none → fd.kwdefaults = .none → bindArgs fd ⟨[], []⟩ = pure [])
    (hψ : ψ.length = scope.names.length) (hg : ∀ (i : Nat) (x : Str) (k : NameKind), scope.names[i]? = some (x, k) → (k = .local → ψ[i]? = some (Slot.lv none)) ∧ (k = .cell → False) ∧ (k = .free → ∃ c, ψ[i]? = some (Slot.cl c) ∧ c < q.σ.n ∧ env.cells.lookup x = some (q.ρ c)))
    (hy : SoundX D m (namesOf scope.names) body y)
    (hp : Post D.B0 D.s₀ fr NoX NoE q RV (R.rec (motive := fun _ => R AV) (fun v σ => .ok v σ) (fun k σ => .ok (.str k) σ) .bad (y c ψ q.σ)) Q E) : wpAny (model D.prog D.w) A (call (.ref told) [.ref f]) Q E (sh D.s₀ q) := by
  obtain ⟨o, fd, ho, hod, hcr0, hclo, hgl, hbu, hsk, hsco, hsgen, hnames, hbind0, p1, p2, p3, p4, p5, p6, p7, p8, p9, hbody⟩ := hT.fn
  obtain ⟨cnm, qn, bs, sn, sub, ab, col, dd, k0, k1, k2, k3, k5, hC0⟩ := hCas.cls
  refine wpAny_call (codeAny_call_cells (fd := fd) (by have := hr.2.1; show A.depth < 1000; omega) (S.base _ _ ho) hod (hD.nolim.keeps S.base) (Heap.CodeRec.keeps hcr0 S.base) hbody (hbind0 _) hclo ?_ (fun s₁ X => ?_) hsco hsgen hsk)
  · intro x hx
    left
    rw [hnames]
    rcases List.mem_cons.mp hx with rfl | hx
    · rfl
    · cases hx
  obtain ⟨h₁, tk, rfl, _⟩ := X.done
  generalize henv : callEnvC fd (sh D.s₀ q).heap.objs.size told = env2 at X ⊢
  have eloc : env2.locals = q.h.objs.size := by rw [← henv]; rfl
  have efr : env2.frame = some env2.locals := by rw [← henv]; rfl
  have eglob : env2.globals = mainGlobals := by rw [← henv]; exact hgl
  have escope : env2.scope = fd.scope := by rw [← henv]; rfl
  have ekind : env2.scope.kind = .function := by rw [escope]; exact hsk
  have kof : ∀ x, env2.kindOf x = List.lookup x [(Str.ofString "work", NameKind.local), (Str.ofString "wrong", .local), (Str.ofString "CasFail", .globalImplicit)] := fun x => by unfold Env.kindOf; rw [escope, hnames]
  have hns1 := X.toInCall.ns
  have hkeep : ∀ b o, q.h.get? b = some o → h₁.get? b = some o := X.toInCall.keep
  generalize hm : (bindL env2.kindOf [(Str.ofString "work", Value.ref f)] fun _ => none) = mm at hns1
  have m1 : mm (Str.ofString "work") = some (.ref f) := by rw [← hm]; simp only [bindL, kof]; rfl
  have hLq : q.h.get? env2.locals = none := by rw [eloc]; exact size_none _
  have hLb : D.B0.get? env2.locals = none := by
    cases e : D.B0.get? env2.locals with
    | none => rfl
    | some o => have := S.base _ _ e; rw [hLq] at this; cases this
  obtain ⟨oL, esL, epL, eL, dL, _⟩ := id hns1
  have S1 : St D.B0 fr { q with h := h₁, t := tk } := S.push hkeep
  have hfl : frL (env2 :: fr) = env2.locals :: frL fr := by rw [frL, List.filterMap_cons, efr]
  have S2 : St D.B0 (env2 :: fr) { q with h := h₁, t := tk } := ⟨S1.base, S1.len, S1.own, S1.inj, S1.new, ⟨ekind, ⟨env2.locals, oL, esL, epL, efr, hLb, eL, dL⟩, S1.frs⟩, S1.nod, fun a hm => by
    rw [hfl] at hm
    rcases List.mem_cons.mp hm with rfl | hm
    · exact ⟨_, hns1⟩
    · exact S1.str a hm⟩
  have s2 : Step NoX (env2 :: fr) q { q with h := h₁, t := tk } := Step.push hkeep
  have V2 : Vs Γ env φ { q with h := h₁, t := tk } := V.on S (Step.push (t := tk) hkeep)
  have hfr2 : (A.deeper env2).frames = some (env2 :: fr) := by show A.frames.map _ = _; rw [hf]; rfl
  have hr2 : Room (A.deeper env2) (24 * n + (m + 1)) := hr.deeper env2
  have hint : interactive env2 = false := by unfold interactive; rw [ekind]; rfl
  show wpAny _ _ _ _ _ (sh D.s₀ { q with h := h₁, t := tk })
  refine wpAny_execs_cons (wpAny_Try_except ?_)
  refine wpAny_execs_cons (wpAny_Return_some (PyProof.Rows.Call_Name0 ?_))
  refine wpAny_Name (wpAny_loadName_local ekind (by rw [kof]; rfl) hns1 m1 ?_) (by decide +kernel)
  refine callWith_of (P := fun h => h.get? f = some (kla_obj nm qual params body scope (closL env.cells scope.names []) pm c' ctv)) rfl (fun h X => ⟨.frame, .inl rfl, (Looks.ld (part := none) X).andThen .now⟩) (evalArgs_nil3 ⟨hkeep _ _ hfo, ?_⟩)
  refine lam_call hD hC hr2 hfr2 S2 V2 hI hn hk hco hgen hnc (hkeep _ _ hfo) (Heap.CodeRec.keeps hcr hkeep) hbind hψ hg hy ?_
  cases hv : y c ψ q.σ with
  | bad => rw [hv] at hp; exact hp.elim
  | ok a σ =>
    rw [hv] at hp
    intro q3 v e S3 s3 x
    obtain ⟨S4, s4⟩ := leave_plain efr hLq s2 S3 s3
    exact hp q3 v e S4 s4 x
  | ex k σ =>
    rw [hv] at hp
    have hp : Post D.B0 D.s₀ fr NoX NoE q RV (.ok (.str k) σ) Q E := hp
    intro q3 e eσ S3 s3 _ F
    have hB : ∀ b o, D.B0.get? b = some o → ∃ o', ({ q with h := h₁, t := tk } : Pt).h.get? b = some o' := fun b o e => ⟨o, S2.base b o e⟩
    have hfr0 : frame0 (env2 :: fr) = some env2.locals := efr
    rw [hfr0] at F
    have hf' : ((A.deeper env2).mark (some (.ref e))).frames = some (env2 :: fr) := hfr2
    have hlive : ∀ {q : Pt}, St D.B0 (env2 :: fr) q → ∃ m, q.h.Ns env2.locals m := fun S => S.str _ (by rw [hfl]; exact .head _)
    have s3' : Step (Loc env2) (env2 :: fr) { q with h := h₁, t := tk } q3 := s3.anyX
    refine note_ok hfr2 efr rfl hB S3 s3' F fun h3 S4 s4 F4 => ?_
    refine flight_ok (q := { q3 with h := h3 }) (f := none) hB S4 s4 F4 fun h4 S5 s5 F5 => ?_
    refine wpAny_handleBy_cons (codeAny_handlers_test ?_) (by intro z; cases z)
    refine Name_function_global ekind (by rw [kof]; rfl) ?_ (by decide +kernel)
    refine loadGlobal_global (env := env2) (mg := D.mg) (by rw [eglob]; exact base_ns (p := { q3 with h := h4 }) S5 hD.globs) hCas.glob ?_
    obtain ⟨hk', _, o, d, vs, T, oT, ts, e3, e4, e5, e6, e7, e8, e9, _⟩ := id F5
    refine wpAny_excMatches_sub_self (S5.base _ _ hC0) e3 e4 (by decide) ?_
    refine codeAny_handlers_suite_as ?_
    refine flight_ok (q := { q3 with h := h4 }) (f := none) hB S5 s5 F5 fun h5 S6 s6 F6 => ?_
    obtain ⟨m5, hn5⟩ := hlive S6
    refine wpAny_storeName_local (by rw [kof]; rfl) hn5 (fun h6 hn6 hs6 => ?_) (by rw [ekind]; rfl)
    obtain ⟨S7, s7⟩ := loc_off (t := q3.t + 1) (q := { q3 with h := h5 }) S6 s6 hLb hn5 hn6 hs6
    have F7 := F6.off (t := q3.t + 1) (q := { q3 with h := h5 }) eL hs6
    obtain ⟨_, _, o, d, vs, T, oT, ts, e3, e4, e5, e6, e7, e8, e9, g1, _⟩ := id F7
    refine wpAny_execs_cons (wpAny_Return_some ?_)
    refine Attribute_name (wpAny_Name (wpAny_loadName_local ekind (by rw [kof]; rfl) hn6 (by rw [if_pos rfl]) ?_) (by decide +kernel))
    refine kind_read hCas (s := sh D.s₀ { q3 with h := h6, t := q3.t + 1 }) hK (hin_of hD S7) S7.base e3 e4 e8 e5 e7 fun t => ?_
    refine wpAny_nameGoes (by rw [kof]; rfl) hn6 (by rw [ekind]; rfl) fun h9 m9 hn9 hs9 => ?_
    obtain ⟨S9, s9⟩ := loc_off (t := q3.t + 1 + 1 + 1) (q := { q3 with h := h6, t := q3.t + 1 }) S7 s7 hLb hn6 hn9 hs9
    obtain ⟨S10, s10⟩ := leave_out (h₁ := h₁) hkeep efr hLq s2 S9 s9
    exact hp { q3 with h := h9, t := q3.t + 1 + 1 + 1 } (.str (txt k) t) eσ S10 s10 (.str t hk')
end
end Mine
end

section
open PySem PySem.W PyProof.Rows PySem.Calls PySem.Spec
namespace Mine
set_option autoImplicit false

theorem pushCells_none : ∀ {names : List (Str × NameKind)} {h : Heap}, (∀ x ∈ names, x.2 ≠ .cell) → pushCells h names = h
  | [], _, _ => rfl
  | (x, k) :: r, h, hn => by
    have hk : (k == NameKind.cell) = false := by
      have := hn (x, k) (.head _)
      simpa using this
    show (if (k == .cell) = true then pushCells (h.push { cls := .type "cell", data := .cell none }) r else pushCells h r) = h
    rw [hk]
    exact pushCells_none fun y hy => hn y (.tail _ hy)
section
variable {D : Wd} {m : Nat} {Γ : Names}
theorem told_expr (hD : D.Ok) (hCas : CasOk D) (hK : CasK D.K) {told : Addr} (hT : TellOk D told) {A : Around} {fr : List Env} {env : Env} {φ : Vars} {q : Pt} {n i : Nat} {c : C} {cc P : Addr} {params : Arguments} {body : Expr} {scope : Scope} {np lp pos : Pos} {ns : List NE} {y : DX} {Q : Value → Shared → Prop} {E : Value → Shared → Prop}
    (hC : SoundC D n c) (hr : Room A (24 * n + (m + 2))) (hf : A.frames = some fr) (he : EnvOK D.B0 Γ env fr) (S : St D.B0 fr q) (V : Vs Γ env φ q) (hTab : TabAt D cc P) (hP : q.h.get? P = some (tabObj #[])) (hcode : env.code = .ref cc)
    (hx : Γ[i]? = some (Str.ofString "_law_told", .glo)) (hm : D.mg (Str.ofString "_law_told") = some (.ref told)) (hI : InN Γ scope.names ns) (hn : (scope.names.map (·.1)).Nodup) (hk : scope.kind = .function) (hco : scope.isCoroutine = false) (hgen : scope.isGenerator = false) (hnc : ∀ x ∈ scope.names, x.2 ≠ .cell)
    (hdef : ∀ env, defaultsOf params env = ([], [])) (hbind : ∀ fd : FuncData, fd.params = params → fd.defaults = .none → fd.kwdefaults = .none → bindArgs fd ⟨[], []⟩ = pure []) (hy : SoundX D m (namesOf scope.names) body y)
    (hp : Post D.B0 D.s₀ fr (· = P) NoE q (AndG P RV) (xTold ns y c φ q.σ) Q E) : wpAny (model D.prog D.w) A (eval (.Call (.Name (Str.ofString "_law_told") np) [.Lambda params body scope lp] [] pos) env) Q E (sh D.s₀ q) := by
  obtain ⟨o, fd, ho, hod, _⟩ := id hT.fn
  refine PyProof.Rows.Call_Name1 ?_ rfl
  refine Name_function_global he.kind (he.glo i _ hx) ?_ (by decide +kernel)
  refine loadGlobal_global (env := env) (mg := D.mg) (by rw [he.glob]; exact base_ns S hD.globs) hm ?_
  refine callWith_function (o := o) (fd := fd) (evalArgs_plain (spliced_cons ?_))
  refine lam_make hD hTab hP he hcode S V hI (hdef env) fun c' ctv h' t f hx1 S1 s1 hcr hfn hfo hgr => spliced_nil ⟨⟨S1.base _ _ ho, hod⟩, ?_⟩
  have hL : Loose q.h (· = P) := fun a o e w => by
    subst w
    rw [hP] at e; cases e
    exact .inr ⟨rfl, _, rfl⟩
  have hne : ¬ env.locals = P := fun w => by
    obtain ⟨mm, ⟨o', es, ep, e', hd, _⟩, _⟩ := V.ns
    rw [w, hP] at e'; cases e'; cases hd
  have V1 : Vs Γ env φ { q with h := h', t := t } := V.step S s1 hL hne
  have hp : Post D.B0 D.s₀ fr (· = P) NoE q (AndG P RV) ((inner φ ns q.σ).bind fun ψ σ => R.rec (motive := fun _ => R AV) (fun v σ => .ok v σ) (fun k σ => .ok (.str k) σ) .bad (y c ψ σ)) Q E := hp
  obtain ⟨ψ, q', e5, t5, S5, s15, s45, V5, l5, g5, hp5⟩ := inner_ok (p := q) (X := (· = P)) (q := { q with h := h', t := t }) (acc := []) hI hn S1 s1 V1 hp
  rw [pushCells_none hnc] at e5
  have hsh : sh D.s₀ { q with h := h', t := t } = sh D.s₀ q' := by
    show (⟨h', D.s₀.gens, D.s₀.drawn, t, D.s₀.os⟩ : Shared) = ⟨q'.h, D.s₀.gens, D.s₀.drawn, q'.t, D.s₀.os⟩
    rw [e5, t5]
  show wpAny _ _ (call (.ref told) [.ref f]) _ _ (sh D.s₀ { q with h := h', t := t })
  rw [hsh]
  have hfo' : q'.h.get? f = some (kla_obj "<lambda>" (env.qual ++ "<lambda>") params body scope (closL env.cells scope.names []) ((D.mg "__name__").getD .none) c' ctv) := by rw [e5]; exact hfo
  have hcr' : q'.h.CodeRec (.ref c') (env.qual ++ "<lambda>") := by rw [e5]; exact hcr
  refine told_call hD hCas hK hT hC hr hf S5 V5 hI hn hk hco hgen hnc hfo' hcr' hbind l5 (fun i x k e => ?_) hy ((hp5.step s15).grown S5 (by rw [e5]; exact hgr) id fun _ _ _ h => h.elim)
  obtain ⟨a1, a2, a3⟩ := g5 i x k e
  exact ⟨a1, fun w => hnc (x, k) (List.mem_of_getElem? e) w, a3⟩
end
end Mine
end

section
open PySem PySem.W PyProof.Rows PySem.Calls PySem.Spec
namespace Mine
set_option autoImplicit false

abbrev LocP (env : Env) (P : Addr) : Addr → Prop := fun a => a = env.locals ∨ a = P
section
variable (D : Wd) (cc P : Addr)
/-- the same for a block in which a lambda is made once: cc the block's code, P its table -/
noncomputable def SoundXP (m : Nat) (Γ : Names) (e : Expr) (d : DX) : Prop := ∀ {n : Nat} {c : C}, SoundC D n c → ∀ {A : Around} {fr : List Env} {env : Env} {φ : Vars} {p : Pt} {Q : Value → Shared → Prop} {E : Value → Shared → Prop},
  Room A (24 * n + m) → A.frames = some fr → EnvOK D.B0 Γ env fr → St D.B0 fr p → Vs Γ env φ p → env.code = .ref cc → p.h.get? P = some (tabObj #[]) → Post D.B0 D.s₀ fr (· = P) NoE p (AndG P RV) (d c φ p.σ) Q E → wpAny (model D.prog D.w) A (eval e env) Q E (sh D.s₀ p)
noncomputable def SoundTP (m : Nat) (Γ : Names) (e : Expr) (d : DX) : Prop := ∀ {n : Nat} {c : C}, SoundC D n c → ∀ {A : Around} {fr : List Env} {env : Env} {φ : Vars} {p : Pt} {Q : Bool → Shared → Prop} {E : Value → Shared → Prop},
  Room A (24 * n + m) → A.frames = some fr → EnvOK D.B0 Γ env fr → St D.B0 fr p → Vs Γ env φ p → env.code = .ref cc → p.h.get? P = some (tabObj #[]) → Post D.B0 D.s₀ fr (· = P) NoE p (AndG P RB) (tr (d c φ p.σ)) Q E → wpAny (model D.prog D.w) A (isTrue e env (eval e env)) Q E (sh D.s₀ p)
noncomputable def Sound1P (m : Nat) (Γ : Names) (s : Stmt) (d : DS) : Prop := ∀ {n : Nat} {c : C}, SoundC D n c → ∀ {A : Around} {outer : List Env} {env : Env} {φ : Vars} {p : Pt} {Q : Flow → Shared → Prop} {E : Value → Shared → Prop},
  Room A (24 * n + m) → A.frames = some (env :: outer) → env.frame = some env.locals → EnvOK D.B0 Γ env (env :: outer) → St D.B0 (env :: outer) p → Vs Γ env φ p → env.code = .ref cc → p.h.get? P = some (tabObj #[]) → Post D.B0 D.s₀ (env :: outer) (LocP env P) NoE p (AndG P (RF Γ env)) (d c φ p.σ) Q E → wpAny (model D.prog D.w) A (exec s env) Q E (sh D.s₀ p)
noncomputable def SoundSP (m : Nat) (Γ : Names) (ss : List Stmt) (d : DS) : Prop := ∀ {n : Nat} {c : C}, SoundC D n c → ∀ {A : Around} {outer : List Env} {env : Env} {φ : Vars} {p : Pt} {Q : Flow → Shared → Prop} {E : Value → Shared → Prop},
  Room A (24 * n + m) → A.frames = some (env :: outer) → env.frame = some env.locals → EnvOK D.B0 Γ env (env :: outer) → St D.B0 (env :: outer) p → Vs Γ env φ p → env.code = .ref cc → p.h.get? P = some (tabObj #[]) → Post D.B0 D.s₀ (env :: outer) (LocP env P) NoE p (AndG P (RF Γ env)) (d c φ p.σ) Q E → wpAny (model D.prog D.w) A (execs ss env) Q E (sh D.s₀ p)
end
theorem loose_tab {h : Heap} {P : Addr} (hP : h.get? P = some (tabObj #[])) : Loose h (· = P) := fun a o e w => by
  subst w
  rw [hP] at e; cases e
  exact .inr ⟨rfl, _, rfl⟩
theorem loc_ne_tab {Γ : Names} {env : Env} {φ : Vars} {p : Pt} {P : Addr} (V : Vs Γ env φ p) (hP : p.h.get? P = some (tabObj #[])) : ¬ env.locals = P := fun w => by
  obtain ⟨mm, ⟨o', es, ep, e', hd, _⟩, _⟩ := V.ns
  rw [w, hP] at e'; cases e'; cases hd
section
variable {D : Wd} {cc P : Addr} {m : Nat} {Γ : Names}
theorem ss_rest {s : Stmt} {ss : List Stmt} {a b : DS} (ha : Sound1 D m Γ s a) (hb : SoundSP D cc P m Γ ss b) : SoundSP D cc P m Γ (s :: ss) (sThen a b) := by
  intro n c hC A outer env φ p Q E hr hf hfl he S V hc hP hp
  refine wpAny_execs_cons (ha hC hr hf hfl he S V (Post.bindAt hp (Step.refl _ _ _) (fun _ _ _ nx y => nx (.inl y)) (fun _ _ _ _ => trivial) fun q fl f S1 s1 s2 x h1 => ?_))
  have h1 := h1.step s2
  obtain ⟨n1, n2, _⟩ := tab_notOwn S hP
  have hP1 : q.h.get? P = some (tabObj #[]) := (s1.eff P _ hP (fun y => loc_ne_tab V hP y.symm) fun k hk y => n1 k hk y.symm).1 n2
  cases fl with
  | nxt φ' =>
    cases f with
    | next => exact hb hC hr hf hfl he S1 x hc hP1 h1
    | _ => exact x.elim
  | ret v =>
    cases f with
    | ret w => exact Post.here (Rel := AndG P (RF Γ env)) (a := Fl.ret v) (b := Flow.ret w) h1 S1 ⟨x, _, hP1⟩
    | _ => exact x.elim
theorem ss_lam {s : Stmt} {ss : List Stmt} {a b : DS} (ha : Sound1P D cc P m Γ s a) (hb : SoundS D m Γ ss b) : SoundSP D cc P m Γ (s :: ss) (sThen a b) := by
  intro n c hC A outer env φ p Q E hr hf hfl he S V hc hP hp
  refine wpAny_execs_cons (ha hC hr hf hfl he S V hc hP (Post.bind hp fun q fl f S1 s1 x h1 => ?_))
  cases fl with
  | nxt φ' =>
    cases f with
    | next => exact hb hC hr hf hfl he S1 x.1 (h1.grown S1 x.2 (fun y => by
        obtain ⟨mm, ⟨o', es, ep, e', hd, _⟩, _⟩ := x.1.ns
        obtain ⟨ps, hP'⟩ := x.2
        rw [← y, hP'] at e'; cases e'; cases hd) fun _ _ _ y => .inl y)
    | _ => exact x.1.elim
  | ret v =>
    cases f with
    | ret w => exact Post.here (Rel := AndG P (RF Γ env)) (a := Fl.ret v) (b := Flow.ret w) h1 S1 x
    | _ => exact x.1.elim
theorem p_cmp {l r : Expr} {op : CmpOp} {pos : Pos} {f : AV → AV → Store → R AV} {a b : DX} (ho : Op2 D (compareOp op) f) (ha : SoundXP D cc P m Γ l a) (hb : SoundX D m Γ r b) (hm : behindInMarks op r = false := by with_unfolding_all rfl) : SoundXP D cc P m Γ (.Compare l [op] [r] pos) (xTwo f a b) := by
  intro n c hC A fr env φ p Q E hr hf he S V hc hP hp
  refine wpAny_Compare1 (ha hC hr hf he S V hc hP (Post.bind hp fun q u v S1 s1 x1 h1 => ?_)) hm
  have V1 := V.step S s1 (loose_tab hP) (loc_ne_tab V hP)
  refine hb hC hr hf he S1 V1 (Post.bindAt h1 (Step.refl _ _ _) (fun _ _ _ _ h => h) (fun _ _ _ _ => trivial) fun q2 u2 v2 S2 s2 s3 x2 h2 => ?_)
  exact ho hr hf S2 (x1.1.on S1 s2) x2 ((h2.step s3).grown S2 (grown_on S1 s2 id x1.2) id fun _ _ _ h => h.elim)
theorem tp_cmp {l r : Expr} {op : CmpOp} {pos : Pos} {f : AV → AV → Store → R AV} {a b : DX} (ho : Op2 D (compareOp op) f) (ha : SoundXP D cc P m Γ l a) (hb : SoundX D m Γ r b) (hm : behindInMarks op r = false := by with_unfolding_all rfl) : SoundTP D cc P m Γ (.Compare l [op] [r] pos) (xTwo f a b) := by
  intro n c hC A fr env φ p Q E hr hf he S V hc hP hp
  have hp : Post D.B0 D.s₀ fr (· = P) NoE p (AndG P RV) (xTwo f a b c φ p.σ) (fun v s' => wpAny (model D.prog D.w) A (truthy v) Q E s') E := by
    refine Post.bind (Rel2 := AndG P RB) (f := fun u σ => onBoo u fun b => .ok b σ) (Q2 := Q) hp fun q u v S1 s1 x h1 => ?_
    obtain ⟨x, g⟩ := x
    cases x with
    | boo b => exact wpAny_truthy_bool (h1.here S1 ⟨rfl, g⟩)
    | _ => exact h1.elim
  refine wpAny_isTrue_Compare1 (ha hC hr hf he S V hc hP (Post.bind hp fun q u v S1 s1 x1 h1 => ?_)) hm
  have V1 := V.step S s1 (loose_tab hP) (loc_ne_tab V hP)
  refine hb hC hr hf he S1 V1 (Post.bindAt h1 (Step.refl _ _ _) (fun _ _ _ _ h => h) (fun _ _ _ _ => trivial) fun q2 u2 v2 S2 s2 s3 x2 h2 => ?_)
  exact ho hr hf S2 (x1.1.on S1 s2) x2 ((h2.step s3).grown S2 (grown_on S1 s2 id x1.2) id fun _ _ _ h => h.elim)
theorem sp_ret {e : Expr} {pos : Pos} {a : DX} (ha : SoundXP D cc P m Γ e a) : Sound1P D cc P m Γ (.Return (some e) pos) (sRet a) := by
  intro n c hC A outer env φ p Q E hr hf hfl he S V hc hP hp
  refine wpAny_Return_some (ha hC hr hf he S V hc hP (Post.bindAt hp (Step.refl _ _ _) (fun _ _ _ nx y => nx (.inr y)) (fun _ _ _ _ => trivial) fun q u v S1 s1 s2 x1 h1 => ?_))
  exact Post.here (Rel := AndG P (RF Γ env)) (a := Fl.ret u) (b := Flow.ret v) (h1.step s2) S1 x1
theorem sp_if {t : Expr} {x y : List Stmt} {pos : Pos} {d : DX} {a b : DS} (ht : SoundTP D cc P m Γ t d) (ha : SoundS D m Γ x a) (hb : SoundS D m Γ y b) : Sound1P D cc P m Γ (.If t x y pos) (sIf d a b) := by
  intro n c hC A outer env φ p Q E hr hf hfl he S V hc hP hp
  have e : ∀ (r : R AV) (f : Bool → Store → R Fl), (r.bind fun u σ => onBoo u fun b => f b σ) = (tr r).bind fun b σ => f b σ := fun r f => by
    cases r with
    | ok a σ =>
      show ((R.ok a σ).bind _) = ((R.ok a σ).bind _).bind _
      rw [bind_ok, bind_ok]
      cases a with
      | boo b => exact (bind_ok b σ fun b σ => f b σ).symm
      | _ => rfl
    | ex k σ => rfl
    | bad => rfl
  have hp : Post D.B0 D.s₀ (env :: outer) (LocP env P) NoE p (AndG P (RF Γ env)) ((d c φ p.σ).bind fun u σ => onBoo u fun x => ifB x (a c φ σ) (b c φ σ)) Q E := hp
  rw [e _ fun x σ => ifB x (a c φ σ) (b c φ σ)] at hp
  refine wpAny_If (ht hC hr hf he S V hc hP (Post.bindAt hp (Step.refl _ _ _) (fun _ _ _ nx y => nx (.inr y)) (fun _ _ _ _ => trivial) fun q z z' S1 s1 s2 x1 h1 => ?_))
  obtain ⟨x1, g1⟩ := x1
  subst x1
  have V1 := V.step S s1 (loose_tab hP) (loc_ne_tab V hP)
  have h1 := (h1.step s2).grown (Y := Loc env) S1 g1 (fun y => loc_ne_tab V hP y.symm) fun _ _ _ y => .inl y
  cases z' with
  | true => exact ha hC hr hf hfl he S1 V1 h1
  | false => exact hb hC hr hf hfl he S1 V1 h1
theorem p_told (hD : D.Ok) (hCas : CasOk D) (hK : CasK D.K) {told : Addr} (hT : TellOk D told) {i : Nat} {params : Arguments} {body : Expr} {scope : Scope} {np lp pos : Pos} {ns : List NE} {y : DX}
    (hTab : TabAt D cc P) (hm : D.mg (Str.ofString "_law_told") = some (.ref told)) (hx : Γ[i]? = some (Str.ofString "_law_told", .glo)) (hI : InN Γ scope.names ns) (hy : SoundX D m (namesOf scope.names) body y)
    (hn : (scope.names.map (·.1)).Nodup := by decide +kernel) (hk : scope.kind = .function := by rfl) (hco : scope.isCoroutine = false := by rfl) (hgen : scope.isGenerator = false := by rfl) (hnc : ∀ x ∈ scope.names, x.2 ≠ .cell := by decide +kernel)
    (hdef : ∀ env, defaultsOf params env = ([], []) := by intro _; rfl) (hbind : ∀ fd : FuncData, fd.params = params → fd.defaults = .none → fd.kwdefaults = .none → bindArgs fd ⟨[], []⟩ = pure [] := by intro fd h1 h2 h3; cases fd; cases h1; cases h2; cases h3; rfl) : SoundXP D cc P (m + 2) Γ (.Call (.Name (Str.ofString "_law_told") np) [.Lambda params body scope lp] [] pos) (xTold ns y) := by
  intro n c hC A fr env φ p Q E hr hf he S V hc hP hp
  exact told_expr hD hCas hK hT hC hr hf he S V hTab hP hc hx hm hI hn hk hco hgen hnc hdef hbind hy hp
end
end Mine
end

section
open PySem PySem.W PyProof.Rows PySem.Calls PySem.Spec
namespace Mine
set_option autoImplicit false

/-- a def in which a lambda is made once -/
noncomputable def SoundFP (D : Wd) (P : Addr) (m : Nat) (addr : Addr) (d : DF) : Prop := ∀ {n : Nat} {c : C}, SoundC D n c → ∀ {A : Around} {fr : List Env} {p : Pt} {vs : List Value} {as : List AV} {R : Result → Shared → Prop}, Room A (24 * n + m) → A.frames = some fr → St D.B0 fr p → RVs p as vs → p.h.get? P = some (tabObj #[]) →
  Post D.B0 D.s₀ fr (· = P) NoE p (AndG P RV) (d c as p.σ) (fun v s' => R (.ok (.ret v)) s') (fun e s' => R (.error e) s') → codeAny (model D.prog D.w) A (.call (.ref addr) ⟨vs, []⟩) R (sh D.s₀ p)
theorem leave_outP {B0 : Heap} {fr : List Env} {env : Env} {P : Addr} {p q q2 : Pt} (hf : env.frame = some env.locals) (hL : p.h.get? env.locals = none)
    (sq : Step (· = P) (env :: fr) p q) (S : St B0 (env :: fr) q2) (s : Step (LocP env P) (env :: fr) q q2) : St B0 fr q2 ∧ Step (· = P) fr p q2 := by
  have hfl : frL (env :: fr) = env.locals :: frL fr := by rw [frL, List.filterMap_cons, hf]
  have s2 : Step (· = P) (env :: fr) p q2 := sq.trans s fun a o e nx w => by
    rcases w with w | w
    · rw [show a = env.locals from w, hL] at e; cases e
    · exact nx w
  refine ⟨⟨S.base, S.len, S.own, S.inj, S.new, S.frs.2.2, S.nod, fun a hm => S.str a (by rw [hfl]; exact List.mem_cons_of_mem _ hm)⟩, s2.le, s2.same, s2.newR, s2.alive, fun a o e hx hn => ?_⟩
  have hne : a ≠ env.locals := fun y => by rw [y, hL] at e; cases e
  obtain ⟨h1, h2⟩ := s2.eff a o e hx hn
  exact ⟨fun hm => h1 (by rw [hfl]; exact fun z => (List.mem_cons.mp z).elim hne hm), h2⟩
theorem f_defP {D : Wd} {cc P : Addr} {m : Nat} (hD : D.Ok) {addr : Addr} {o : Obj} {fd : FuncData} {body : List Stmt} {np : Nat} {ns : List NK} {b : DS} (ho : D.B0.get? addr = some o) (hdt : o.data = .func fd) (hcr : D.B0.CodeRec fd.code fd.qualname) (hbody : fd.body = .stmts body) (hclo : fd.closure = []) (hgl : fd.globals = mainGlobals) (hbu : fd.builtins = builtinsNs)
    (hk : fd.scope.kind = .function) (hco : fd.scope.isCoroutine = false) (hgen : fd.scope.isGenerator = false) (hN : NkN fd.scope.names ns) (hn : (fd.scope.names.map (·.1)).Nodup) (hnp : np ≤ fd.scope.names.length) (hpk : ∀ i x k, i < np → fd.scope.names[i]? = some (x, k) → k = .local ∨ k = .cell)
    (hbind : ∀ vs : List Value, vs.length = np → bindArgs fd ⟨vs, []⟩ = pure ((fd.scope.names.map (·.1)).zip vs)) (hb : SoundSP D cc P m (namesOf fd.scope.names) body b) (hcd : fd.code = .ref cc) : SoundFP D P (m + 1) addr (dDef np ns b) := by
  intro n c hC A fr p vs as RR hr hf S x hP hp
  have hp : Post D.B0 D.s₀ fr (· = P) NoE p (AndG P RV) (ifB (Nat.beq (List.length as) np) ((start ns as p.σ).bind fun φ σ => (b c φ σ).bind fun r σ => Fl.rec (motive := fun _ => R AV) (fun _ => .ok .non σ) (fun v => .ok v σ) r) .bad) (fun v s' => RR (.ok (.ret v)) s') (fun e s' => RR (.error e) s') := hp
  obtain ⟨hlen, hp⟩ := ifB_ok hp
  have hlen : vs.length = np := x.length.trans (Nat.eq_of_beq_eq_true hlen)
  have hzip : ∀ {i : Nat} {y : Str} {v : Value}, (fd.scope.names.map (·.1))[i]? = some y → vs[i]? = some v → (y, v) ∈ (fd.scope.names.map (·.1)).zip vs := fun {i y v} e1 e2 => by
    refine List.mem_of_getElem? (i := i) ?_
    rw [List.getElem?_zip_eq_some]
    exact ⟨e1, e2⟩
  have hzn : (((fd.scope.names.map (·.1)).zip vs).map (·.1)).Nodup := by
    rw [zip_fst]
    exact hn.sublist (List.take_sublist _ _)
  refine codeAny_call_cells (fd := fd) (by have := hr.2.1; show A.depth < 1000; omega) (S.base _ _ ho) hdt (hD.nolim.keeps S.base) (Heap.CodeRec.keeps hcr S.base) hbody (hbind vs hlen) hclo (fun y hy => ?_) (fun s₁ X => ?_) hco hgen hk
  · obtain ⟨i, hi⟩ := List.getElem?_of_mem hy
    rw [List.getElem?_zip_eq_some] at hi
    obtain ⟨e1, e2⟩ := hi
    rw [List.getElem?_map] at e1
    cases e3 : fd.scope.names[i]? with
    | none => rw [e3] at e1; cases e1
    | some z =>
      rw [e3] at e1
      obtain ⟨z1, z2⟩ := z
      have e1 : z1 = y.1 := by simpa using e1
      have hin : i < np := by
        rw [← hlen]
        exact (List.getElem?_eq_some_iff.mp e2).1
      subst e1
      rcases hpk i _ _ hin e3 with rfl | rfl
      · exact .inl (lookup_of_get hn e3)
      · obtain ⟨a, ha⟩ := cellsFrom_mem (n := (sh D.s₀ p).heap.objs.size + 1) (acc := []) hn (List.mem_of_getElem? e3)
        exact .inr ⟨lookup_of_get hn e3, by rw [ha]; rfl⟩
  obtain ⟨h₁, tk, rfl, _⟩ := X.done
  generalize henv : callEnvC fd (sh D.s₀ p).heap.objs.size addr = env at X ⊢
  have eloc : env.locals = p.h.objs.size := by rw [← henv]; rfl
  have efr : env.frame = some env.locals := by rw [← henv]; rfl
  have ecells : env.cells = cellsFrom (p.h.objs.size + 1) fd.scope.names [] := by rw [← henv]; rfl
  have escope : env.scope = fd.scope := by rw [← henv]; rfl
  have ecode : env.code = .ref cc := by rw [← henv]; exact hcd
  have kget : ∀ {i : Nat} {y : Str} {k : NameKind}, fd.scope.names[i]? = some (y, k) → env.kindOf y = some k := fun {i y k} e => by
    unfold Env.kindOf; rw [escope]; exact lookup_of_get hn e
  have hLp : p.h.get? env.locals = none := by rw [eloc]; exact size_none _
  have hLb : D.B0.get? env.locals = none := by
    cases e : D.B0.get? env.locals with
    | none => rfl
    | some o => have := S.base _ _ e; rw [hLp] at this; cases this
  have nk : ∀ (i : Nat) (y : Str) (t : NT), (namesOf fd.scope.names)[i]? = some (y, t) → ∃ k, fd.scope.names[i]? = some (y, k) ∧ ntOf k = t ∧ (k = .local ∨ k = .cell ∨ k = .globalImplicit) := fun i y t h => by
    obtain ⟨k, h1, h2⟩ := names_get h
    exact ⟨k, h1, h2, hN.kinds _ (List.mem_of_getElem? h1)⟩
  have he : EnvOK D.B0 (namesOf fd.scope.names) env (env :: fr) := by
    refine ⟨by rw [escope]; exact hk, by rw [← henv]; exact hgl, by rw [← henv]; exact hbu, fun i y h => ?_, fun i y h => ?_, fun i y h => ?_, fun i y h => ?_, ?_, ⟨env, fr, env.locals, rfl, efr, efr⟩, hLb⟩
    · obtain ⟨k, h1, h2, h3⟩ := nk i y _ h
      rcases h3 with rfl | rfl | rfl <;> cases h2
      exact kget h1
    · obtain ⟨k, h1, h2, h3⟩ := nk i y _ h
      rcases h3 with rfl | rfl | rfl <;> cases h2
      exact kget h1
    · obtain ⟨k, h1, h2, h3⟩ := nk i y _ h
      rcases h3 with rfl | rfl | rfl <;> cases h2
    · obtain ⟨k, h1, h2, h3⟩ := nk i y _ h
      rcases h3 with rfl | rfl | rfl <;> cases h2
      exact kget h1
    · unfold namesOf
      rw [List.map_map]; exact hn
  have hns1 := X.toInCall.ns
  have hkeep : ∀ b o, p.h.get? b = some o → h₁.get? b = some o := X.toInCall.keep
  have S1 : St D.B0 fr { p with h := h₁, t := tk } := S.push hkeep
  obtain ⟨oL, esL, epL, eL, dL, _⟩ := id hns1
  have S1' : St D.B0 (env :: fr) { p with h := h₁, t := tk } := ⟨S1.base, S1.len, S1.own, S1.inj, S1.new, ⟨by rw [escope]; exact hk, ⟨env.locals, oL, esL, epL, efr, hLb, eL, dL⟩, S1.frs⟩, S1.nod, fun a hm => by
    have hfl : frL (env :: fr) = env.locals :: frL fr := by rw [frL, List.filterMap_cons, efr]
    rw [hfl] at hm
    rcases List.mem_cons.mp hm with rfl | hm
    · exact ⟨_, hns1⟩
    · exact S1.str a hm⟩
  have x1 : VRs h₁ p.ρ p.σ.n vs as := x.ext (fun a o e _ => hkeep a o e) (Nat.le_refl _) fun _ _ => rfl
  have hkof : ∀ y : Str × NameKind, y ∈ fd.scope.names → env.kindOf y.1 = some y.2 := fun y hy => by
    obtain ⟨i, hi⟩ := List.getElem?_of_mem hy
    exact kget hi
  have hle : vs.length ≤ fd.scope.names.length := by rw [hlen]; exact hnp
  have nin : ∀ (i : Nat) (y : Str), vs.length ≤ i → fd.scope.names[i]?.map (·.1) = some y → y ∉ ((fd.scope.names.map (·.1)).zip vs).map (·.1) := fun i y hi e hm => by
    rw [zip_fst] at hm
    obtain ⟨j, hj⟩ := List.getElem?_of_mem hm
    rw [List.getElem?_take] at hj
    split at hj
    · rename_i hjl
      have e' : (fd.scope.names.map (·.1))[i]? = some y := by rw [List.getElem?_map]; exact e
      obtain ⟨b1, c1⟩ := List.getElem?_eq_some_iff.mp e'
      obtain ⟨b2, c2⟩ := List.getElem?_eq_some_iff.mp hj
      have := nodup_inj hn b1 b2 (c1.trans c2.symm)
      omega
    · cases hj
  have laid : Laid (bindL env.kindOf ((fd.scope.names.map (·.1)).zip vs) fun _ => none) env.cells h₁ fd.scope.names vs := by
    refine laid_of (cm := bindC env.kindOf ((fd.scope.names.map (·.1)).zip vs) fun _ => none) hN hn hkof (fun i y k hi e => hpk i y k (hlen ▸ hi) e) hle (fun i y v e1 e2 => ?_) (fun i y hi e => ?_) fun y hy => ?_
    · have hz := hzip (i := i) (y := y) (v := v) (by rw [List.getElem?_map]; exact e1) e2
      exact ⟨fun h => bindL_mem hzn hz h, fun h => bindC_mem hzn hz h⟩
    · exact ⟨bindL_not (nin i y hi e), bindC_not (nin i y hi e)⟩
    · obtain ⟨a, ha⟩ := cellsFrom_mem (n := p.h.objs.size + 1) (acc := []) hn hy
      rw [← ecells] at ha
      exact ⟨a, ha, X.cell y a ha⟩
  have fresh : ∀ y a, y ∈ fd.scope.names.map (·.1) → env.cells.lookup y = some a → p.h.get? a = none := fun y a _ ha => by
    have hab := X.above y a (mem_of_lookup ha)
    cases e : p.h.get? a with
    | none => rfl
    | some o =>
      have h1 := Heap.lt_size e
      have h2 : env.locals < a := hab
      rw [eloc] at h2
      exact absurd h1 (Nat.not_lt.mpr (Nat.le_of_lt h2))
  have freshB : ∀ y a, y ∈ fd.scope.names.map (·.1) → env.cells.lookup y = some a → D.B0.get? a = none := fun y a hy ha => by
    cases e : D.B0.get? a with
    | none => rfl
    | some o => have := S.base _ _ e; rw [fresh y a hy ha] at this; cases this
  have freshO : ∀ y a, y ∈ fd.scope.names.map (·.1) → env.cells.lookup y = some a → ∀ j, j < p.σ.n → p.ρ j ≠ a := fun y a hy ha j hj e => by
    obtain ⟨ob, eo, _⟩ := S.at_k hj
    rw [e, fresh y a hy ha] at eo; cases eo
  obtain ⟨ψ, q, hqh, hqt, Sq, sq, qn, qρ, ql, qv, hp2⟩ := start_ok (p0 := p) (X := (· = P)) (fr := env :: fr) hN (q := { p with h := h₁, t := tk }) hn S1' (Step.push hkeep) x1 laid (fun y a hy ha => ⟨fresh y a hy ha, freshB y a hy ha, freshO y a hy ha⟩) (fun y z a h1 h2 => name_of_addr X.apart (mem_of_lookup h1) (mem_of_lookup h2)) hp
  have V : Vs (namesOf fd.scope.names) env ψ q := by
    refine ⟨by rw [ql]; simp [namesOf], ⟨_, by rw [hqh]; exact hns1, fun i y h => ?_⟩, fun i y t h ht => ?_⟩
    · obtain ⟨k, h1, h2, h3⟩ := nk i y _ h
      rcases h3 with rfl | rfl | rfl <;> cases h2
      exact (qv i y _ h1).1 rfl
    · obtain ⟨k, h1, h2, h3⟩ := nk i y _ h
      rcases h3 with rfl | rfl | rfl
      · rw [← h2] at ht; rcases ht with e | e <;> cases e
      · exact (qv i y _ h1).2 rfl
      · rw [← h2] at ht; rcases ht with e | e <;> cases e
  have hsh : ({ (sh D.s₀ p) with heap := h₁, toks := tk } : Shared) = sh D.s₀ q := by
    show (⟨h₁, D.s₀.gens, D.s₀.drawn, tk, D.s₀.os⟩ : Shared) = ⟨q.h, D.s₀.gens, D.s₀.drawn, q.t, D.s₀.os⟩
    rw [hqh, hqt]
  show wpAny _ _ _ _ _ ({ (sh D.s₀ p) with heap := h₁, toks := tk } : Shared)
  rw [hsh]
  have back : ∀ {q2 : Pt}, St D.B0 (env :: fr) q2 → Step (LocP env P) (env :: fr) q q2 → St D.B0 fr q2 ∧ Step (· = P) fr p q2 := fun {q2} S2 s2 =>
    leave_outP efr hLp sq S2 s2
  have hfr2 : (A.deeper env).frames = some (env :: fr) := by show A.frames.map _ = _; rw [hf]; rfl
  refine hb hC (hr.deeper env) hfr2 efr he Sq V ecode (by rw [hqh]; exact hkeep _ _ hP) ?_
  cases hbody2 : b c ψ q.σ with
  | bad => rw [hbody2] at hp2; exact hp2.elim
  | ok fl σ =>
    rw [hbody2, bind_ok] at hp2
    intro q2 f e S2 s2 xf
    obtain ⟨S3, s3⟩ := back S2 s2
    subst e
    cases fl with
    | nxt φ2 =>
      cases f with
      | next => exact hp2.ok (q := q2) (b := Value.none) S3 s3 ⟨.non, xf.2⟩
      | _ => exact xf.1.elim
    | ret w =>
      cases f with
      | ret v => exact hp2.ok (q := q2) (b := v) S3 s3 xf
      | _ => exact xf.1.elim
  | ex k σ =>
    rw [hbody2] at hp2
    intro q2 e eσ S2 s2 _ F
    have hB : ∀ b o, D.B0.get? b = some o → ∃ o', q.h.get? b = some o' := fun b o e => ⟨o, Sq.base b o e⟩
    have hfr0 : frame0 (env :: fr) = some env.locals := efr
    rw [hfr0] at F
    refine leave_ok hfr2 efr rfl hB S2 s2 F fun h' S3 s3 F3 => ?_
    obtain ⟨S4, s4⟩ := back S3 s3
    exact hp2 { q2 with h := h' } e eσ S4 s4 trivial ((F3.fly (.inl rfl)).from sq)
end Mine
end

section
open PySem PySem.W PyProof.Rows PySem.Calls PySem.Spec
namespace Mine
set_option autoImplicit false
set_option maxRecDepth 100000
set_option maxHeartbeats 2000000

theorem npk_of {l : List (Str × NameKind)} {np : Nat} (h : ((l.take np).all fun x => x.2 == .local || x.2 == .cell) = true) : ∀ i x k, i < np → l[i]? = some (x, k) → k = .local ∨ k = .cell := by
  intro i x k hi e
  have h1 : (l.take np)[i]? = some (x, k) := by rw [List.getElem?_take, if_pos hi]; exact e
  have h2 := List.all_eq_true.mp h _ (List.mem_of_getElem? h1)
  simpa using h2
theorem of_len1 {P : List Value → Prop} (h : ∀ a, P [a]) : ∀ vs, vs.length = 1 → P vs
  | [a], _ => h a
theorem of_len2 {P : List Value → Prop} (h : ∀ a b, P [a, b]) : ∀ vs, vs.length = 2 → P vs
  | [a, b], _ => h a b
theorem of_len3 {P : List Value → Prop} (h : ∀ a b c, P [a, b, c]) : ∀ vs, vs.length = 3 → P vs
  | [a, b, c], _ => h a b c
theorem of_len4 {P : List Value → Prop} (h : ∀ a b c d, P [a, b, c, d]) : ∀ vs, vs.length = 4 → P vs
  | [a, b, c, d], _ => h a b c d

theorem fnV_inv {K : Frag} {a : Addr} {ps : Arguments} {bd : FuncBody} {sc : Scope} {cd : Value} (e : fnV K a = some (ps, bd, sc, true, cd)) : ∃ od osl fd, K.lookup a = some ⟨.type "function", od, .func fd, osl⟩ ∧ fd.params = ps ∧ fd.body = bd ∧ fd.scope = sc ∧ fd.closure = [] ∧ fd.globals = mainGlobals ∧ fd.builtins = builtinsNs ∧ fd.defaults = .none ∧ fd.kwdefaults = .none ∧ codeIn K fd.code fd.qualname = true ∧ fd.code = cd := by
  unfold fnV at e
  split at e
  · rename_i od fd osl h
    simp only [Option.some.injEq, Prod.mk.injEq, Bool.and_eq_true] at e
    obtain ⟨e1, e2, e3, ⟨⟨⟨⟨⟨e4, e5⟩, e6⟩, e7⟩, e8⟩, e9⟩, e10⟩ := e
    have nn : ∀ v : Value, isNone v = true → v = .none := fun v h => by cases v <;> first | rfl | cases h
    exact ⟨od, osl, fd, h, e1, e2, e3, List.isEmpty_iff.mp e4, Nat.eq_of_beq_eq_true e5, Nat.eq_of_beq_eq_true e6, nn _ e7, nn _ e8, e9, e10⟩
  · cases e
/-- the rule for a def, as it is seen on the heap -/
theorem g_def {D : Wd} {m : Nat} (hD : D.Ok) {addr : Addr} {ps : Arguments} {sc : Scope} {cd : Value} {body : List Stmt} {np : Nat} {ns : List NK} {b : DS} (hv : fnV D.K addr = some (ps, .stmts body, sc, true, cd))
    (hN : NkN sc.names ns) (hb : SoundS D m (namesOf sc.names) body b) (hbind : ∀ fd : FuncData, fd.params = ps → fd.defaults = .none → fd.kwdefaults = .none → ∀ vs : List Value, vs.length = np → bindArgs fd ⟨vs, []⟩ = pure ((sc.names.map (·.1)).zip vs))
    (hn : (sc.names.map (·.1)).Nodup := by decide +kernel) (hnp : np ≤ sc.names.length := by decide +kernel) (hpk : ((sc.names.take np).all fun x => x.2 == .local || x.2 == .cell) = true := by decide +kernel)
    (hk : sc.kind = .function := by rfl) (hco : sc.isCoroutine = false := by rfl) (hgen : sc.isGenerator = false := by rfl) : SoundF D (m + 1) addr (dDef np ns b) := by
  obtain ⟨od, osl, fd, h, e1, e2, e3, e4, e5, e6, e7, e8, e9, e10⟩ := fnV_inv hv
  subst e3
  exact f_def hD (hD.kin _ _ h) rfl (codeRec_of hD.kin e9) e2 e4 e5 e6 hk hco hgen hN hn hnp (npk_of hpk) (hbind fd e1 e7 e8) hb
theorem g_defP {D : Wd} {cc P : Addr} {m : Nat} (hD : D.Ok) {addr : Addr} {ps : Arguments} {sc : Scope} {body : List Stmt} {np : Nat} {ns : List NK} {b : DS} (hv : fnV D.K addr = some (ps, .stmts body, sc, true, .ref cc))
    (hN : NkN sc.names ns) (hb : SoundSP D cc P m (namesOf sc.names) body b) (hbind : ∀ fd : FuncData, fd.params = ps → fd.defaults = .none → fd.kwdefaults = .none → ∀ vs : List Value, vs.length = np → bindArgs fd ⟨vs, []⟩ = pure ((sc.names.map (·.1)).zip vs))
    (hn : (sc.names.map (·.1)).Nodup := by decide +kernel) (hnp : np ≤ sc.names.length := by decide +kernel) (hpk : ((sc.names.take np).all fun x => x.2 == .local || x.2 == .cell) = true := by decide +kernel)
    (hk : sc.kind = .function := by rfl) (hco : sc.isCoroutine = false := by rfl) (hgen : sc.isGenerator = false := by rfl) : SoundFP D P (m + 1) addr (dDef np ns b) := by
  obtain ⟨od, osl, fd, h, e1, e2, e3, e4, e5, e6, e7, e8, e9, e10⟩ := fnV_inv hv
  subst e3
  exact f_defP hD (hD.kin _ _ h) rfl (codeRec_of hD.kin e9) e2 e4 e5 e6 hk hco hgen hN hn hnp (npk_of hpk) (hbind fd e1 e7 e8) hb e10

theorem ns_some_of {K : Frag} {h : Heap} {N : Addr} {mg : Str → Option Value} {n : Str} {v : Value} (X : K.In h) (G : h.Ns N mg) (e : nsIn K N n = some (some v)) : mg n = some v := by
  obtain ⟨o, es, ep, ho, hd, _, hf⟩ := G
  unfold nsIn at e
  split at e
  · rename_i c d es' n' sl q
    have := X _ _ q
    rw [ho] at this
    cases this
    cases hd
    split at e
    · rename_i he
      cases e
      rw [← hf]
      unfold nsFind findBy
      rw [← Array.find?_toList, he]
      rfl
    · split at e <;> cases e
  · cases e

/-- what is to be known of the world around the call -/
structure Wo (D : Wd) : Prop where
  ok : D.Ok
  good : goodK D.K = goodV
  mb : ∀ x : Str, x ≠ "__name__" → D.mb x = bootBuiltins x
  ghost : ∀ P ∈ tabsL, D.B0.get? P = none
  bmain : ∃ bm ob, D.mg "__builtins__" = some (.ref bm) ∧ bm ≠ builtinsNs ∧ D.B0.get? bm = some ob ∧ ob.cls = .type "module" ∧ ob.dict = some builtinsNs ∧ ob.data = .plain

section
variable {D : Wd}
theorem map_get {α β : Type} {f g : α → β} {l : List α} (h : l.map f = l.map g) {i : Nat} {x : α} (e : l[i]? = some x) : f x = g x := List.map_inj_left.mp h x (List.mem_of_getElem? e)
theorem Wo.fn (W : Wo D) {i : Nat} {a : Addr} {j : Nat} (e : fnsL[i]? = some (a, j)) : fnV D.K a = astV j (a - 1) := map_get (f := fun x : Addr × Nat => fnV D.K x.1) (g := fun x => astV x.2 (x.1 - 1)) (congrArg (fun x => x.1) W.good) e
theorem Wo.ini (W : Wo D) : fnV D.K 28 = iniV := congrArg (fun x => x.2.1) W.good
theorem Wo.gl (W : Wo D) {i : Nat} {x : Str} {v : Option Value} (e : glL[i]? = some (x, v)) : nsIn D.K mainGlobals x = some v := map_get (f := fun x : Str × Option Value => nsIn D.K mainGlobals x.1) (g := fun x => some x.2) (congrArg (fun x => x.2.2.1) W.good) e
theorem Wo.glS (W : Wo D) {i : Nat} {x : Str} {v : Value} (e : glL[i]? = some (x, some v)) : D.mg x = some v := mg_of W.ok.kin W.ok.globs (W.gl e)
theorem Wo.glN (W : Wo D) {i : Nat} {x : Str} (e : glL[i]? = some (x, none)) : D.mg x = none := mg_none_of W.ok.kin W.ok.globs (W.gl e)
theorem Wo.bi (W : Wo D) {x : Str} {v : Value} (e : bootBuiltins x = some v) (h : (x == ("__name__" : Str)) = false) : D.mb x = some v := (W.mb x (by simpa using h)).trans e
theorem Wo.cls (W : Wo D) : D.K.lookup 31 = some casObj := congrArg (fun x => x.2.2.2.2.1) W.good
theorem Wo.nsS (W : Wo D) {i : Nat} {x : Str} {v : Option Value} (e : nsL[i]? = some (x, v)) : nsIn D.K 30 x = some v := map_get (f := fun x : Str × Option Value => nsIn D.K 30 x.1) (g := fun x => some x.2) (congrArg (fun x => x.2.2.2.2.2.1) W.good) e
theorem Wo.bools (W : Wo D) : hasDictIn D.K 31 = true ∧ nsOkIn D.K 30 = true ∧ codeHdIn D.K 525 523 = true ∧ codeHdIn D.K 530 528 = true ∧ codeHdIn D.K 537 533 = true := by
  have e := congrArg (fun x => x.2.2.2.2.2.2.2) W.good
  simp only [goodK, goodV, Bool.and_eq_true] at e
  exact ⟨e.1.1.1.1.1, e.1.1.1.1.2, e.1.1.2, e.1.2, e.2⟩
theorem Wo.casK (W : Wo D) : CasK D.K := by
  have e := congrArg (fun x => x.2.2.2.2.2.2.1) W.good
  simp only [goodK, goodV, Prod.mk.injEq] at e
  exact ⟨e.1, e.2.1, e.2.2, W.bools.1⟩
theorem Wo.cas (W : Wo D) : CasOk D where
  cls := ⟨_, _, _, _, _, _, _, _, _, _, _, _, _, W.ok.kin 31 casObj W.cls⟩
  ns := by
    have N := Heap.Ns.of_isNs (isNs_of_in W.ok.kin W.bools.2.1)
    exact ⟨_, N, ns_some_of W.ok.kin N (W.nsS (i := 0) rfl), ns_none_of W.ok.kin N (W.nsS (i := 1) rfl), ns_none_of W.ok.kin N (W.nsS (i := 2) rfl), ns_none_of W.ok.kin N (W.nsS (i := 3) rfl), ns_none_of W.ok.kin N (W.nsS (i := 4) rfl)⟩
  ini := by
    obtain ⟨od, osl, fd, h, e1, e2, e3, e4, e5, e6, e7, e8, e9, e10⟩ := fnV_inv W.ini
    refine ⟨_, fd, _, W.ok.kin _ _ h, rfl, rfl, rfl, codeRec_of W.ok.kin e9, e4, e5, e6, by rw [e3], by rw [e3], by rw [e3], by rw [e3], fun a b c => ?_, ?_⟩
    · cases fd; cases e1; cases e7; cases e8; rfl
    · rw [e2]
      exact ⟨_, _, _, _, _, _, _, _, _, _, _, _, _, _, _, _, _, _, rfl, rfl⟩
  exc := ⟨W.glN (i := 49) rfl, W.bi (by kernel_rfl) (by decide +kernel)⟩
  glob := W.glS (i := 48) rfl
theorem Wo.tell (W : Wo D) : TellOk D 521 where
  fn := by
    obtain ⟨od, osl, fd, h, e1, e2, e3, e4, e5, e6, e7, e8, e9, e10⟩ := fnV_inv (W.fn (i := 47) rfl)
    refine ⟨_, fd, W.ok.kin _ _ h, rfl, codeRec_of W.ok.kin e9, e4, e5, e6, by rw [e3], by rw [e3], by rw [e3], by rw [e3], fun a => ?_, ?_⟩
    · cases fd; cases e1; cases e7; cases e8; rfl
    · rw [e2]
      exact ⟨_, _, _, _, _, _, _, _, _, rfl⟩
theorem Wo.tabAt (W : Wo D) {c P : Addr} (hP : P ∈ tabsL) (hne : mainGlobals ≠ P) (e : codeHdIn D.K c P = true) : TabAt D c P := by
  refine ⟨codeHd_of_K W.ok.kin e, W.ghost P hP, hne, fun h' k => ?_⟩
  obtain ⟨bm, ob, a1, a2, a3, a4, a5, a6⟩ := W.bmain
  refine ⟨bm, ob, a1, a2, fun y => ?_, fun y => ?_, k _ _ a3, a4, a5, a6⟩
  · obtain ⟨o, es, ep, ho, hd, _⟩ := W.ok.globs
    rw [y, ho] at a3; cases a3
    rw [hd] at a6; cases a6
  · rw [y, W.ghost P hP] at a3; cases a3
theorem Wo.fnAt (W : Wo D) {i : Nat} {a : Addr} {j : Nat} {v : FnVw} (e : fnsL[i]? = some (a, j)) (h : astV j (a - 1) = some v) : FnAt D a := by
  have h1 := (W.fn e).trans h
  unfold fnV at h1
  split at h1
  · rename_i od fd osl hl
    exact ⟨_, fd, W.ok.kin _ _ hl, rfl⟩
  · cases h1

/-- what a value is found to be -/
theorem vrb_sound {K : Frag} {h : Heap} (X : K.In h) (ρ : Nat → Addr) : ∀ (n : Nat) (v : Value) (a : AV), vrb K n v a = true → VR h ρ 0 v a
  | 0, _, _, e => by cases e
  | n + 1, v, a, e => by
    cases v with
    | int i t =>
      cases a with
      | int j =>
        have h1 : i = j := of_decide_eq_true e
        subst h1; exact .int _ _
      | _ => cases e
    | str s t =>
      cases a with
      | str k =>
        have e : (Nat.blt k 28 && s == txtB k) = true := e
        simp only [Bool.and_eq_true] at e
        have hs : s = txt k := (by simpa using e.2 : s = txtB k)
        subst hs
        exact .str t (Nat.le_of_ble_eq_true e.1)
      | _ => cases e
    | ref w =>
      cases a with
      | tup l =>
        unfold vrb at e
        split at e
        · rename_i od vs nn osl hl
          simp only [Bool.and_eq_true] at e
          obtain ⟨e1, e2⟩ := e
          have hlen : vs.toList.length = l.length := by simpa using e1
          refine .tup (vs := vs) ⟨_, X _ _ hl, rfl, nn, rfl⟩ ?_
          clear hl e1
          generalize vs.toList = vl at hlen e2
          induction vl generalizing l with
          | nil =>
            cases l with
            | nil => exact .nil
            | cons _ _ => cases hlen
          | cons x r ih =>
            cases l with
            | nil => cases hlen
            | cons y s =>
              simp only [List.zip_cons_cons, List.all_cons, Bool.and_eq_true] at e2
              exact .cons (vrb_sound X ρ n x y e2.1) (ih s (by simpa using hlen) e2.2)
        · cases e
      | _ => cases e
    | _ => cases a <;> cases e
theorem Wo.valx (W : Wo D) {i : Nat} {x : Str} {a : AV} (e : valsL[i]? = some (x, a)) : ∃ v, D.mg x = some v ∧ ∀ ρ, VR D.B0 ρ 0 v a := by
  have h := map_get (f := fun x : Str × AV => valOk D.K x) (g := fun _ => true) (congrArg (fun x => x.2.2.2.1) W.good) e
  unfold valOk at h
  dsimp only at h
  split at h
  · rename_i v hv
    exact ⟨v, mg_of W.ok.kin W.ok.globs hv, fun ρ => vrb_sound W.ok.kin ρ 4 v a h⟩
  · cases h
noncomputable def Wo.val0 (W : Wo D) : Value := (W.valx (i := 0) rfl).choose
theorem Wo.v0 (W : Wo D) : D.mg (Str.ofString "R0") = some W.val0 := (W.valx (i := 0) rfl).choose_spec.1
theorem Wo.r0 (W : Wo D) : ∀ ρ, VR D.B0 ρ 0 W.val0 g0 := (W.valx (i := 0) rfl).choose_spec.2
noncomputable def Wo.val1 (W : Wo D) : Value := (W.valx (i := 1) rfl).choose
theorem Wo.v1 (W : Wo D) : D.mg (Str.ofString "R1") = some W.val1 := (W.valx (i := 1) rfl).choose_spec.1
theorem Wo.r1 (W : Wo D) : ∀ ρ, VR D.B0 ρ 0 W.val1 g1 := (W.valx (i := 1) rfl).choose_spec.2
noncomputable def Wo.val2 (W : Wo D) : Value := (W.valx (i := 2) rfl).choose
theorem Wo.v2 (W : Wo D) : D.mg (Str.ofString "MOST_BITS") = some W.val2 := (W.valx (i := 2) rfl).choose_spec.1
theorem Wo.r2 (W : Wo D) : ∀ ρ, VR D.B0 ρ 0 W.val2 g2 := (W.valx (i := 2) rfl).choose_spec.2
noncomputable def Wo.val3 (W : Wo D) : Value := (W.valx (i := 3) rfl).choose
theorem Wo.v3 (W : Wo D) : D.mg (Str.ofString "MOST_SQUARED") = some W.val3 := (W.valx (i := 3) rfl).choose_spec.1
theorem Wo.r3 (W : Wo D) : ∀ ρ, VR D.B0 ρ 0 W.val3 g3 := (W.valx (i := 3) rfl).choose_spec.2
noncomputable def Wo.val4 (W : Wo D) : Value := (W.valx (i := 4) rfl).choose
theorem Wo.v4 (W : Wo D) : D.mg (Str.ofString "MORE") = some W.val4 := (W.valx (i := 4) rfl).choose_spec.1
theorem Wo.r4 (W : Wo D) : ∀ ρ, VR D.B0 ρ 0 W.val4 g4 := (W.valx (i := 4) rfl).choose_spec.2
noncomputable def Wo.val5 (W : Wo D) : Value := (W.valx (i := 5) rfl).choose
theorem Wo.v5 (W : Wo D) : D.mg (Str.ofString "FAR") = some W.val5 := (W.valx (i := 5) rfl).choose_spec.1
theorem Wo.r5 (W : Wo D) : ∀ ρ, VR D.B0 ρ 0 W.val5 g5 := (W.valx (i := 5) rfl).choose_spec.2
noncomputable def Wo.val6 (W : Wo D) : Value := (W.valx (i := 6) rfl).choose
theorem Wo.v6 (W : Wo D) : D.mg (Str.ofString "LOW") = some W.val6 := (W.valx (i := 6) rfl).choose_spec.1
theorem Wo.r6 (W : Wo D) : ∀ ρ, VR D.B0 ρ 0 W.val6 g6 := (W.valx (i := 6) rfl).choose_spec.2
noncomputable def Wo.val7 (W : Wo D) : Value := (W.valx (i := 7) rfl).choose
theorem Wo.v7 (W : Wo D) : D.mg (Str.ofString "TRIES") = some W.val7 := (W.valx (i := 7) rfl).choose_spec.1
theorem Wo.r7 (W : Wo D) : ∀ ρ, VR D.B0 ρ 0 W.val7 g7 := (W.valx (i := 7) rfl).choose_spec.2
noncomputable def Wo.val8 (W : Wo D) : Value := (W.valx (i := 8) rfl).choose
theorem Wo.v8 (W : Wo D) : D.mg (Str.ofString "_law_x") = some W.val8 := (W.valx (i := 8) rfl).choose_spec.1
theorem Wo.r8 (W : Wo D) : ∀ ρ, VR D.B0 ρ 0 W.val8 g8 := (W.valx (i := 8) rfl).choose_spec.2
theorem Wo.g_abs (W : Wo D) : D.mg (Str.ofString "abs") = none := W.glN (i := 50) rfl
theorem Wo.b_abs (W : Wo D) : D.mb (Str.ofString "abs") = some (.builtin "abs") := W.bi (by kernel_rfl) (by decide +kernel)
theorem Wo.g_min (W : Wo D) : D.mg (Str.ofString "min") = none := W.glN (i := 51) rfl
theorem Wo.b_min (W : Wo D) : D.mb (Str.ofString "min") = some (.builtin "min") := W.bi (by kernel_rfl) (by decide +kernel)
theorem Wo.g_max (W : Wo D) : D.mg (Str.ofString "max") = none := W.glN (i := 52) rfl
theorem Wo.b_max (W : Wo D) : D.mb (Str.ofString "max") = some (.builtin "max") := W.bi (by kernel_rfl) (by decide +kernel)
theorem Wo.g_len (W : Wo D) : D.mg (Str.ofString "len") = none := W.glN (i := 53) rfl
theorem Wo.b_len (W : Wo D) : D.mb (Str.ofString "len") = some (.builtin "len") := W.bi (by kernel_rfl) (by decide +kernel)
theorem Wo.g_sum (W : Wo D) : D.mg (Str.ofString "sum") = none := W.glN (i := 54) rfl
theorem Wo.b_sum (W : Wo D) : D.mb (Str.ofString "sum") = some (.builtin "sum") := W.bi (by kernel_rfl) (by decide +kernel)
theorem Wo.g_list (W : Wo D) : D.mg (Str.ofString "list") = none := W.glN (i := 55) rfl
theorem Wo.b_list (W : Wo D) : D.mb (Str.ofString "list") = some (.type "list") := W.bi (by kernel_rfl) (by decide +kernel)
theorem Wo.g_range (W : Wo D) : D.mg (Str.ofString "range") = none := W.glN (i := 56) rfl
theorem Wo.b_range (W : Wo D) : D.mb (Str.ofString "range") = some (.type "range") := W.bi (by kernel_rfl) (by decide +kernel)
theorem Wo.m_gcd (W : Wo D) : D.mg (Str.ofString "gcd") = some (.ref 41) := W.glS (i := 0) rfl
theorem Wo.fn_gcd (W : Wo D) : FnAt D 41 := W.fnAt (i := 0) rfl rfl
theorem Wo.m_bits_of (W : Wo D) : D.mg (Str.ofString "bits_of") = some (.ref 48) := W.glS (i := 1) rfl
theorem Wo.fn_bits_of (W : Wo D) : FnAt D 48 := W.fnAt (i := 1) rfl rfl
theorem Wo.m_root_of (W : Wo D) : D.mg (Str.ofString "root_of") = some (.ref 55) := W.glS (i := 2) rfl
theorem Wo.fn_root_of (W : Wo D) : FnAt D 55 := W.fnAt (i := 2) rfl rfl
theorem Wo.m_rat (W : Wo D) : D.mg (Str.ofString "rat") = some (.ref 64) := W.glS (i := 3) rfl
theorem Wo.fn_rat (W : Wo D) : FnAt D 64 := W.fnAt (i := 3) rfl rfl
theorem Wo.m_radd (W : Wo D) : D.mg (Str.ofString "radd") = some (.ref 71) := W.glS (i := 4) rfl
theorem Wo.fn_radd (W : Wo D) : FnAt D 71 := W.fnAt (i := 4) rfl rfl
theorem Wo.m_rsub (W : Wo D) : D.mg (Str.ofString "rsub") = some (.ref 78) := W.glS (i := 5) rfl
theorem Wo.fn_rsub (W : Wo D) : FnAt D 78 := W.fnAt (i := 5) rfl rfl
theorem Wo.m_rmul (W : Wo D) : D.mg (Str.ofString "rmul") = some (.ref 85) := W.glS (i := 6) rfl
theorem Wo.fn_rmul (W : Wo D) : FnAt D 85 := W.fnAt (i := 6) rfl rfl
theorem Wo.m_rdiv (W : Wo D) : D.mg (Str.ofString "rdiv") = some (.ref 92) := W.glS (i := 7) rfl
theorem Wo.fn_rdiv (W : Wo D) : FnAt D 92 := W.fnAt (i := 7) rfl rfl
theorem Wo.m_rinv (W : Wo D) : D.mg (Str.ofString "rinv") = some (.ref 106) := W.glS (i := 8) rfl
theorem Wo.fn_rinv (W : Wo D) : FnAt D 106 := W.fnAt (i := 8) rfl rfl
theorem Wo.m_rpower (W : Wo D) : D.mg (Str.ofString "rpower") = some (.ref 113) := W.glS (i := 9) rfl
theorem Wo.fn_rpower (W : Wo D) : FnAt D 113 := W.fnAt (i := 9) rfl rfl
theorem Wo.m_is_vast (W : Wo D) : D.mg (Str.ofString "is_vast") = some (.ref 120) := W.glS (i := 10) rfl
theorem Wo.fn_is_vast (W : Wo D) : FnAt D 120 := W.fnAt (i := 10) rfl rfl
theorem Wo.m_rcompare (W : Wo D) : D.mg (Str.ofString "rcompare") = some (.ref 127) := W.glS (i := 11) rfl
theorem Wo.fn_rcompare (W : Wo D) : FnAt D 127 := W.fnAt (i := 11) rfl rfl
theorem Wo.m_shape (W : Wo D) : D.mg (Str.ofString "shape") = some (.ref 134) := W.glS (i := 12) rfl
theorem Wo.fn_shape (W : Wo D) : FnAt D 134 := W.fnAt (i := 12) rfl rfl
theorem Wo.m_need_shape (W : Wo D) : D.mg (Str.ofString "need_shape") = some (.ref 141) := W.glS (i := 13) rfl
theorem Wo.fn_need_shape (W : Wo D) : FnAt D 141 := W.fnAt (i := 13) rfl rfl
theorem Wo.m_trace (W : Wo D) : D.mg (Str.ofString "trace") = some (.ref 148) := W.glS (i := 14) rfl
theorem Wo.fn_trace (W : Wo D) : FnAt D 148 := W.fnAt (i := 14) rfl rfl
theorem Wo.m_convergents (W : Wo D) : D.mg (Str.ofString "convergents") = some (.ref 155) := W.glS (i := 15) rfl
theorem Wo.fn_convergents (W : Wo D) : FnAt D 155 := W.fnAt (i := 15) rfl rfl
theorem Wo.m_fraction_value (W : Wo D) : D.mg (Str.ofString "fraction_value") = some (.ref 162) := W.glS (i := 16) rfl
theorem Wo.fn_fraction_value (W : Wo D) : FnAt D 162 := W.fnAt (i := 16) rfl rfl
theorem Wo.m_cut (W : Wo D) : D.mg (Str.ofString "cut") = some (.ref 261) := W.glS (i := 17) rfl
theorem Wo.fn_cut (W : Wo D) : FnAt D 261 := W.fnAt (i := 17) rfl rfl
theorem Wo.m_let (W : Wo D) : D.mg (Str.ofString "let") = some (.ref 268) := W.glS (i := 18) rfl
theorem Wo.fn_let (W : Wo D) : FnAt D 268 := W.fnAt (i := 18) rfl rfl
theorem Wo.m_sadd (W : Wo D) : D.mg (Str.ofString "sadd") = some (.ref 273) := W.glS (i := 19) rfl
theorem Wo.fn_sadd (W : Wo D) : FnAt D 273 := W.fnAt (i := 19) rfl rfl
theorem Wo.m_sscale (W : Wo D) : D.mg (Str.ofString "sscale") = some (.ref 278) := W.glS (i := 20) rfl
theorem Wo.fn_sscale (W : Wo D) : FnAt D 278 := W.fnAt (i := 20) rfl rfl
theorem Wo.m_mixed (W : Wo D) : D.mg (Str.ofString "mixed") = some (.ref 285) := W.glS (i := 21) rfl
theorem Wo.fn_mixed (W : Wo D) : FnAt D 285 := W.fnAt (i := 21) rfl rfl
theorem Wo.m_smul (W : Wo D) : D.mg (Str.ofString "smul") = some (.ref 290) := W.glS (i := 22) rfl
theorem Wo.fn_smul (W : Wo D) : FnAt D 290 := W.fnAt (i := 22) rfl rfl
theorem Wo.m_sinverse (W : Wo D) : D.mg (Str.ofString "sinverse") = some (.ref 297) := W.glS (i := 23) rfl
theorem Wo.fn_sinverse (W : Wo D) : FnAt D 297 := W.fnAt (i := 23) rfl rfl
theorem Wo.m_need_begin (W : Wo D) : D.mg (Str.ofString "need_begin") = some (.ref 314) := W.glS (i := 24) rfl
theorem Wo.fn_need_begin (W : Wo D) : FnAt D 314 := W.fnAt (i := 24) rfl rfl
theorem Wo.m_spower (W : Wo D) : D.mg (Str.ofString "spower") = some (.ref 363) := W.glS (i := 25) rfl
theorem Wo.fn_spower (W : Wo D) : FnAt D 363 := W.fnAt (i := 25) rfl rfl
theorem Wo.m_swhole_power (W : Wo D) : D.mg (Str.ofString "swhole_power") = some (.ref 370) := W.glS (i := 26) rfl
theorem Wo.fn_swhole_power (W : Wo D) : FnAt D 370 := W.fnAt (i := 26) rfl rfl
theorem Wo.m_lplain (W : Wo D) : D.mg (Str.ofString "lplain") = some (.ref 377) := W.glS (i := 27) rfl
theorem Wo.fn_lplain (W : Wo D) : FnAt D 377 := W.fnAt (i := 27) rfl rfl
theorem Wo.m_ladd (W : Wo D) : D.mg (Str.ofString "ladd") = some (.ref 382) := W.glS (i := 28) rfl
theorem Wo.fn_ladd (W : Wo D) : FnAt D 382 := W.fnAt (i := 28) rfl rfl
theorem Wo.m_lmul (W : Wo D) : D.mg (Str.ofString "lmul") = some (.ref 389) := W.glS (i := 29) rfl
theorem Wo.fn_lmul (W : Wo D) : FnAt D 389 := W.fnAt (i := 29) rfl rfl
theorem Wo.m_ltrim (W : Wo D) : D.mg (Str.ofString "ltrim") = some (.ref 396) := W.glS (i := 30) rfl
theorem Wo.fn_ltrim (W : Wo D) : FnAt D 396 := W.fnAt (i := 30) rfl rfl
theorem Wo.m_linverse (W : Wo D) : D.mg (Str.ofString "linverse") = some (.ref 403) := W.glS (i := 31) rfl
theorem Wo.fn_linverse (W : Wo D) : FnAt D 403 := W.fnAt (i := 31) rfl rfl
theorem Wo.m_lpower (W : Wo D) : D.mg (Str.ofString "lpower") = some (.ref 410) := W.glS (i := 32) rfl
theorem Wo.fn_lpower (W : Wo D) : FnAt D 410 := W.fnAt (i := 32) rfl rfl
theorem Wo.m_exact_root (W : Wo D) : D.mg (Str.ofString "exact_root") = some (.ref 418) := W.glS (i := 33) rfl
theorem Wo.fn_exact_root (W : Wo D) : FnAt D 418 := W.fnAt (i := 33) rfl rfl
theorem Wo.m_of_root (W : Wo D) : D.mg (Str.ofString "of_root") = some (.ref 439) := W.glS (i := 34) rfl
theorem Wo.fn_of_root (W : Wo D) : FnAt D 439 := W.fnAt (i := 34) rfl rfl
theorem Wo.m_of_power (W : Wo D) : D.mg (Str.ofString "of_power") = some (.ref 446) := W.glS (i := 35) rfl
theorem Wo.fn_of_power (W : Wo D) : FnAt D 446 := W.fnAt (i := 35) rfl rfl
theorem Wo.m_of_sum (W : Wo D) : D.mg (Str.ofString "of_sum") = some (.ref 453) := W.glS (i := 36) rfl
theorem Wo.fn_of_sum (W : Wo D) : FnAt D 453 := W.fnAt (i := 36) rfl rfl
theorem Wo.m_of_term (W : Wo D) : D.mg (Str.ofString "of_term") = some (.ref 458) := W.glS (i := 37) rfl
theorem Wo.fn_of_term (W : Wo D) : FnAt D 458 := W.fnAt (i := 37) rfl rfl
theorem Wo.m_laurent_of (W : Wo D) : D.mg (Str.ofString "laurent_of") = some (.ref 465) := W.glS (i := 38) rfl
theorem Wo.fn_laurent_of (W : Wo D) : FnAt D 465 := W.fnAt (i := 38) rfl rfl
theorem Wo.m_from_begin (W : Wo D) : D.mg (Str.ofString "from_begin") = some (.ref 473) := W.glS (i := 39) rfl
theorem Wo.fn_from_begin (W : Wo D) : FnAt D 473 := W.fnAt (i := 39) rfl rfl
theorem Wo.m_begun_series (W : Wo D) : D.mg (Str.ofString "begun_series") = some (.ref 480) := W.glS (i := 40) rfl
theorem Wo.fn_begun_series (W : Wo D) : FnAt D 480 := W.fnAt (i := 40) rfl rfl
theorem Wo.m_limit_near (W : Wo D) : D.mg (Str.ofString "limit_near") = some (.ref 487) := W.glS (i := 41) rfl
theorem Wo.fn_limit_near (W : Wo D) : FnAt D 487 := W.fnAt (i := 41) rfl rfl
theorem Wo.m_limit (W : Wo D) : D.mg (Str.ofString "limit") = some (.ref 506) := W.glS (i := 42) rfl
theorem Wo.fn_limit (W : Wo D) : FnAt D 506 := W.fnAt (i := 42) rfl rfl
theorem Wo.m_law_take (W : Wo D) : D.mg (Str.ofString "_law_take") = some (.ref 514) := W.glS (i := 43) rfl
theorem Wo.fn_law_take (W : Wo D) : FnAt D 514 := W.fnAt (i := 43) rfl rfl
theorem Wo.m_law_trace_right (W : Wo D) : D.mg (Str.ofString "_law_trace_right") = some (.ref 526) := W.glS (i := 44) rfl
theorem Wo.fn_law_trace_right (W : Wo D) : FnAt D 526 := W.fnAt (i := 44) rfl rfl
theorem Wo.m_law_cuts_right (W : Wo D) : D.mg (Str.ofString "_law_cuts_right") = some (.ref 531) := W.glS (i := 45) rfl
theorem Wo.fn_law_cuts_right (W : Wo D) : FnAt D 531 := W.fnAt (i := 45) rfl rfl
theorem Wo.m_law_roots_right (W : Wo D) : D.mg (Str.ofString "_law_roots_right") = some (.ref 538) := W.glS (i := 46) rfl
theorem Wo.fn_law_roots_right (W : Wo D) : FnAt D 538 := W.fnAt (i := 46) rfl rfl
theorem Wo.m_law_told (W : Wo D) : D.mg (Str.ofString "_law_told") = some (.ref 521) := W.glS (i := 47) rfl
theorem Wo.fn_law_told (W : Wo D) : FnAt D 521 := W.fnAt (i := 47) rfl rfl
theorem Wo.tab_law_trace_right (W : Wo D) : TabAt D 525 523 := W.tabAt (by decide) (by decide) W.bools.2.2.1
theorem Wo.tab_law_cuts_right (W : Wo D) : TabAt D 530 528 := W.tabAt (by decide) (by decide) W.bools.2.2.2.1
theorem Wo.tab_law_roots_right (W : Wo D) : TabAt D 537 533 := W.tabAt (by decide) (by decide) W.bools.2.2.2.2

theorem swaps_cel {Γ : Names} {i : Nat} {elt : Expr} {gs : List Comprehension} {scope : Scope} {cpos px : Pos} {x : Str} {line : Nat} (hx : Γ[i]? = some (x, NT.cel)) : ∀ env fr, EnvOK D.B0 Γ env fr → swapsWith (.ListComp elt gs scope cpos) (some (.Name x px)) line env = pure false := by
  intro env fr he
  have h := he.cel i x hx
  unfold swapsWith
  simp only [h]
  rw [show (some NameKind.cell == some NameKind.local) = false from rfl]
  simp
theorem swaps_loc {Γ : Names} {i : Nat} {elt : Expr} {gs : List Comprehension} {scope : Scope} {cpos px : Pos} {x : Str} {line : Nat} (hx : Γ[i]? = some (x, NT.loc)) (hl : (px.line == cpos.line) = true := by rfl) (hn : (scope.names.any fun (n, k) => n == x && (k == .local || k == .cell)) = false := by decide +kernel) : ∀ env fr, EnvOK D.B0 Γ env fr → swapsWith (.ListComp elt gs scope cpos) (some (.Name x px)) line env = pure true := by
  intro env fr he
  have h := he.loc i x hx
  have hb : (env.blockKind == .function) = true := by
    have : env.blockKind = .function := by unfold Env.blockKind; rw [he.kind]; rfl
    rw [this]; rfl
  unfold swapsWith
  simp only [h, hb]
  rw [show (some NameKind.local == some NameKind.local) = true from rfl, show (px.line == (Expr.ListComp elt gs scope cpos).pos.line) = true from hl, hn]
  rfl
theorem s_loc {m : Nat} {Γ : Names} {i : Nat} {x : Str} {pos : Pos} (hx : Γ[i]? = some (x, NT.loc) := by rfl) (hd : (x == Str.ofString "__debug__") = false := by decide +kernel) (hc : (x == Str.ofString "__classdict__") = false := by decide +kernel) : SoundX D m Γ (.Name x pos) (xVar i) := s_var hx (by intro h; cases h) hd hc
theorem s_cel {m : Nat} {Γ : Names} {i : Nat} {x : Str} {pos : Pos} (hx : Γ[i]? = some (x, NT.cel) := by rfl) (hd : (x == Str.ofString "__debug__") = false := by decide +kernel) (hc : (x == Str.ofString "__classdict__") = false := by decide +kernel) : SoundX D m Γ (.Name x pos) (xVar i) := s_var hx (by intro h; cases h) hd hc
theorem s_fre {m : Nat} {Γ : Names} {i : Nat} {x : Str} {pos : Pos} (hx : Γ[i]? = some (x, NT.fre) := by rfl) (hd : (x == Str.ofString "__debug__") = false := by decide +kernel) (hc : (x == Str.ofString "__classdict__") = false := by decide +kernel) : SoundX D m Γ (.Name x pos) (xVar i) := s_var hx (by intro h; cases h) hd hc
theorem F0 (W : Wo D) : SoundF D 2 41 d0 :=
  g_def W.ok (W.fn (i := 0) rfl) (.loc (.loc (.glo .nil)))
    (ss_then (st_swap (s_tup (l_cons (by exact (s_bi1 W.ok op_abs (s_loc (i := 0)) (i := 2) rfl W.g_abs W.b_abs)) (l_cons (by exact (s_bi1 W.ok op_abs (s_loc (i := 1)) (i := 2) rfl W.g_abs W.b_abs)) l_nil))) (.cons (.cons .nil)) (.cons (i := 0) rfl (.inl rfl) (.cons (i := 1) rfl (.inl rfl) .nil)) (by kernel_rfl)) (ss_then (st_whl (t_cmp op_ne (s_loc (i := 1)) s_int) (ss_then (st_swap (s_tup (l_cons (s_loc (i := 1)) (l_cons (by exact (s_bin op_mod (s_loc (i := 0)) (s_loc (i := 1)))) l_nil))) (.cons (.cons .nil)) (.cons (i := 0) rfl (.inl rfl) (.cons (i := 1) rfl (.inl rfl) .nil)) (by kernel_rfl)) ss_end)) (ss_then (st_ret (s_loc (i := 0))) ss_end)))
    (fun fd h1 h2 h3 => of_len2 fun a b => by cases fd; cases h1; cases h2; cases h3; rfl)
theorem F1 (W : Wo D) : SoundF D 2 48 d1 :=
  g_def W.ok (W.fn (i := 1) rfl) (.loc (.loc (.loc (.loc .nil))))
    (ss_then (st_asg s_int (i := 1) rfl (.inl rfl) (by intro _ _ _; rfl)) (ss_then (st_for (s_tup (l_cons s_int (l_cons s_int (l_cons s_int l_nil)))) (ss_then (st_asg (s_bin op_pow s_int (s_loc (i := 2))) (i := 3) rfl (.inl rfl) (by intro _ _ _; rfl)) (ss_then (st_whl (t_cmp op_ge (s_loc (i := 0)) (s_loc (i := 3))) (ss_then (st_swap (s_tup (l_cons (by exact (s_bin op_div (s_loc (i := 0)) (s_loc (i := 3)))) (l_cons (by exact (s_bin op_add (s_loc (i := 1)) (s_loc (i := 2)))) l_nil))) (.cons (.cons .nil)) (.cons (i := 0) rfl (.inl rfl) (.cons (i := 1) rfl (.inl rfl) .nil)) (by kernel_rfl)) ss_end)) ss_end)) (i := 2) rfl (.inl rfl)) (ss_then (st_ret (s_bin op_add (s_loc (i := 1)) (s_loc (i := 0)))) ss_end)))
    (fun fd h1 h2 h3 => of_len1 fun a => by cases fd; cases h1; cases h2; cases h3; rfl)
theorem F2 (W : Wo D) : SoundF D 3 55 d2 :=
  g_def W.ok (W.fn (i := 2) rfl) (.loc (.loc (.loc (.loc (.loc (.glo (.glo .nil)))))))
    (ss_then (st_if (t_cmp op_ge (s_loc (i := 1)) (s_call W.ok (F1 W) (l_cons (s_loc (i := 0)) l_nil) (i := 5) rfl W.m_bits_of W.fn_bits_of)) (ss_then (st_ret (s_bi2 W.ok op_min (s_loc (i := 0)) s_int (i := 6) rfl W.g_min W.b_min)) ss_end) ss_end) (ss_then (st_tup (s_tup (l_cons s_int (l_cons s_int l_nil))) (.cons (.cons .nil)) (.cons (i := 2) rfl (.inl rfl) (.cons (i := 3) rfl (.inl rfl) .nil)) (by kernel_rfl)) (ss_then (st_whl (t_cmp op_le (s_bin op_pow (s_loc (i := 3)) (s_loc (i := 1))) (s_loc (i := 0))) (ss_then (st_swap (s_tup (l_cons (s_loc (i := 3)) (l_cons (by exact (s_bin op_mul s_int (s_loc (i := 3)))) l_nil))) (.cons (.cons .nil)) (.cons (i := 2) rfl (.inl rfl) (.cons (i := 3) rfl (.inl rfl) .nil)) (by kernel_rfl)) ss_end)) (ss_then (st_whl (t_cmp op_gt (s_bin op_sub (s_loc (i := 3)) (s_loc (i := 2))) s_int) (ss_then (st_asg (s_bin op_div (s_bin op_add (s_loc (i := 2)) (s_loc (i := 3))) s_int) (i := 4) rfl (.inl rfl) (by intro _ _ _; rfl)) (ss_then (st_if (t_cmp op_le (s_bin op_pow (s_loc (i := 4)) (s_loc (i := 1))) (s_loc (i := 0))) (ss_then (st_asg (s_loc (i := 4)) (i := 2) rfl (.inl rfl) (by intro _ _ _; rfl)) ss_end) (ss_then (st_asg (s_loc (i := 4)) (i := 3) rfl (.inl rfl) (by intro _ _ _; rfl)) ss_end)) ss_end))) (ss_then (st_ret (s_loc (i := 2))) ss_end)))))
    (fun fd h1 h2 h3 => of_len2 fun a b => by cases fd; cases h1; cases h2; cases h3; rfl)
theorem F3 (W : Wo D) : SoundF D 3 64 d3 :=
  g_def W.ok (W.fn (i := 3) rfl) (.loc (.loc (.loc (.glo (.glo .nil)))))
    (ss_then (st_if (t_cmp op_eq (s_loc (i := 1)) s_int) (ss_then (st_fail W.ok W.cas s_str s_str (i := 3) rfl) ss_end) ss_end) (ss_then (st_asg (s_ite (t_cmp op_gt (s_loc (i := 1)) s_int) (s_call W.ok (F0 W) (l_cons (s_loc (i := 0)) (l_cons (s_loc (i := 1)) l_nil)) (i := 4) rfl W.m_gcd W.fn_gcd) (s_bin op_sub s_int (s_call W.ok (F0 W) (l_cons (s_loc (i := 0)) (l_cons (s_loc (i := 1)) l_nil)) (i := 4) rfl W.m_gcd W.fn_gcd))) (i := 2) rfl (.inl rfl) (by intro _ _ _; rfl)) (ss_then (st_ret (s_tup (l_cons (by exact (s_bin op_div (s_loc (i := 0)) (s_loc (i := 2)))) (l_cons (by exact (s_bin op_div (s_loc (i := 1)) (s_loc (i := 2)))) l_nil)))) ss_end)))
    (fun fd h1 h2 h3 => of_len2 fun a b => by cases fd; cases h1; cases h2; cases h3; rfl)
theorem F4 (W : Wo D) : SoundF D 4 71 d4 :=
  g_def W.ok (W.fn (i := 4) rfl) (.loc (.loc (.glo .nil)))
    (ss_then (st_ret (s_call W.ok (F3 W) (l_cons (by exact (s_bin op_add (s_bin op_mul (s_idx (s_loc (i := 0)) s_int) (s_idx (s_loc (i := 1)) s_int)) (s_bin op_mul (s_idx (s_loc (i := 1)) s_int) (s_idx (s_loc (i := 0)) s_int)))) (l_cons (by exact (s_bin op_mul (s_idx (s_loc (i := 0)) s_int) (s_idx (s_loc (i := 1)) s_int))) l_nil)) (i := 2) rfl W.m_rat W.fn_rat)) ss_end)
    (fun fd h1 h2 h3 => of_len2 fun a b => by cases fd; cases h1; cases h2; cases h3; rfl)
theorem F5 (W : Wo D) : SoundF D 4 78 d5 :=
  g_def W.ok (W.fn (i := 5) rfl) (.loc (.loc (.glo .nil)))
    (ss_then (st_ret (s_call W.ok (F3 W) (l_cons (by exact (s_bin op_sub (s_bin op_mul (s_idx (s_loc (i := 0)) s_int) (s_idx (s_loc (i := 1)) s_int)) (s_bin op_mul (s_idx (s_loc (i := 1)) s_int) (s_idx (s_loc (i := 0)) s_int)))) (l_cons (by exact (s_bin op_mul (s_idx (s_loc (i := 0)) s_int) (s_idx (s_loc (i := 1)) s_int))) l_nil)) (i := 2) rfl W.m_rat W.fn_rat)) ss_end)
    (fun fd h1 h2 h3 => of_len2 fun a b => by cases fd; cases h1; cases h2; cases h3; rfl)
theorem F6 (W : Wo D) : SoundF D 4 85 d6 :=
  g_def W.ok (W.fn (i := 6) rfl) (.loc (.loc (.glo .nil)))
    (ss_then (st_ret (s_call W.ok (F3 W) (l_cons (by exact (s_bin op_mul (s_idx (s_loc (i := 0)) s_int) (s_idx (s_loc (i := 1)) s_int))) (l_cons (by exact (s_bin op_mul (s_idx (s_loc (i := 0)) s_int) (s_idx (s_loc (i := 1)) s_int))) l_nil)) (i := 2) rfl W.m_rat W.fn_rat)) ss_end)
    (fun fd h1 h2 h3 => of_len2 fun a b => by cases fd; cases h1; cases h2; cases h3; rfl)
theorem F7 (W : Wo D) : SoundF D 4 92 d7 :=
  g_def W.ok (W.fn (i := 7) rfl) (.loc (.loc (.glo .nil)))
    (ss_then (st_ret (s_call W.ok (F3 W) (l_cons (by exact (s_bin op_mul (s_idx (s_loc (i := 0)) s_int) (s_idx (s_loc (i := 1)) s_int))) (l_cons (by exact (s_bin op_mul (s_idx (s_loc (i := 0)) s_int) (s_idx (s_loc (i := 1)) s_int))) l_nil)) (i := 2) rfl W.m_rat W.fn_rat)) ss_end)
    (fun fd h1 h2 h3 => of_len2 fun a b => by cases fd; cases h1; cases h2; cases h3; rfl)
theorem F8 (W : Wo D) : SoundF D 4 106 d8 :=
  g_def W.ok (W.fn (i := 8) rfl) (.loc (.glo .nil))
    (ss_then (st_ret (s_call W.ok (F3 W) (l_cons (by exact (s_idx (s_loc (i := 0)) s_int)) (l_cons (by exact (s_idx (s_loc (i := 0)) s_int)) l_nil)) (i := 1) rfl W.m_rat W.fn_rat)) ss_end)
    (fun fd h1 h2 h3 => of_len1 fun a => by cases fd; cases h1; cases h2; cases h3; rfl)
theorem F9 (W : Wo D) : SoundF D 5 113 d9 :=
  g_def W.ok (W.fn (i := 9) rfl) (.loc (.loc (.loc (.glo (.glo (.glo (.glo (.glo (.glo .nil)))))))))
    (ss_then (st_if (t_cmp op_lt (s_loc (i := 1)) s_int) (ss_then (st_swap (s_tup (l_cons (by exact (s_call W.ok (F8 W) (l_cons (s_loc (i := 0)) l_nil) (i := 3) rfl W.m_rinv W.fn_rinv)) (l_cons (by exact (s_bin op_sub s_int (s_loc (i := 1)))) l_nil))) (.cons (.cons .nil)) (.cons (i := 0) rfl (.inl rfl) (.cons (i := 1) rfl (.inl rfl) .nil)) (by kernel_rfl)) ss_end) ss_end) (ss_then (st_asg (s_bi2 W.ok op_max (s_bi1 W.ok op_abs (s_idx (s_loc (i := 0)) s_int) (i := 5) rfl W.g_abs W.b_abs) (s_idx (s_loc (i := 0)) s_int) (i := 4) rfl W.g_max W.b_max) (i := 2) rfl (.inl rfl) (by intro _ _ _; rfl)) (ss_then (st_if (t_and (t_cmp op_gt (s_loc (i := 1)) s_int) (t_and (t_cmp op_gt (s_loc (i := 2)) s_int) (t_one (t_cmp op_gt (s_bin op_mul (s_loc (i := 1)) (s_call W.ok (F1 W) (l_cons (s_loc (i := 2)) l_nil) (i := 6) rfl W.m_bits_of W.fn_bits_of)) (s_val W.ok (i := 7) rfl W.v2 W.r2))))) (ss_then (st_fail W.ok W.cas s_str s_str (i := 8) rfl) ss_end) ss_end) (ss_then (st_ret (s_tup (l_cons (by exact (s_bin op_pow (s_idx (s_loc (i := 0)) s_int) (s_loc (i := 1)))) (l_cons (by exact (s_bin op_pow (s_idx (s_loc (i := 0)) s_int) (s_loc (i := 1)))) l_nil)))) ss_end))))
    (fun fd h1 h2 h3 => of_len2 fun a b => by cases fd; cases h1; cases h2; cases h3; rfl)
theorem F10 (W : Wo D) : SoundF D 3 120 d10 :=
  g_def W.ok (W.fn (i := 10) rfl) (.loc (.loc (.glo (.glo (.glo (.glo .nil))))))
    (ss_then (st_asg (s_bi2 W.ok op_max (s_bi1 W.ok op_abs (s_idx (s_loc (i := 0)) s_int) (i := 3) rfl W.g_abs W.b_abs) (s_idx (s_loc (i := 0)) s_int) (i := 2) rfl W.g_max W.b_max) (i := 1) rfl (.inl rfl) (by intro _ _ _; rfl)) (ss_then (st_ret (s_and (s_cmp op_ge (s_loc (i := 1)) (s_bin op_pow s_int s_int)) (s_one (s_cmp op_gt (s_call W.ok (F1 W) (l_cons (s_loc (i := 1)) l_nil) (i := 4) rfl W.m_bits_of W.fn_bits_of) (s_val W.ok (i := 5) rfl W.v2 W.r2))))) ss_end))
    (fun fd h1 h2 h3 => of_len1 fun a => by cases fd; cases h1; cases h2; cases h3; rfl)
theorem F11 (W : Wo D) : SoundF D 2 127 d11 :=
  g_def W.ok (W.fn (i := 11) rfl) (.loc (.loc (.loc .nil)))
    (ss_then (st_asg (s_bin op_sub (s_bin op_mul (s_idx (s_loc (i := 0)) s_int) (s_idx (s_loc (i := 1)) s_int)) (s_bin op_mul (s_idx (s_loc (i := 1)) s_int) (s_idx (s_loc (i := 0)) s_int))) (i := 2) rfl (.inl rfl) (by intro _ _ _; rfl)) (ss_then (st_ret (s_bin op_subB (s_cmp op_gt (s_loc (i := 2)) s_int) (s_cmp op_lt (s_loc (i := 2)) s_int))) ss_end))
    (fun fd h1 h2 h3 => of_len2 fun a b => by cases fd; cases h1; cases h2; cases h3; rfl)
theorem F12 (W : Wo D) : SoundF D 2 134 d12 :=
  g_def W.ok (W.fn (i := 12) rfl) (.loc (.glo .nil))
    (ss_then (st_ret (s_tup (l_cons (by exact (s_bi1 W.ok op_len (s_loc (i := 0)) (i := 1) rfl W.g_len W.b_len)) (l_cons (by exact (s_ite (t_cmp op_gt (s_bi1 W.ok op_len (s_loc (i := 0)) (i := 1) rfl W.g_len W.b_len) s_int) (s_bi1 W.ok op_len (s_idx (s_loc (i := 0)) s_int) (i := 1) rfl W.g_len W.b_len) s_int)) l_nil)))) ss_end)
    (fun fd h1 h2 h3 => of_len1 fun a => by cases fd; cases h1; cases h2; cases h3; rfl)
theorem F13 (W : Wo D) : SoundF D 2 141 d13 :=
  g_def W.ok (W.fn (i := 13) rfl) (.loc (.loc (.glo .nil)))
    (ss_then (st_if (t_not (t_of (s_loc (i := 0)))) (ss_then (st_fail W.ok W.cas s_str (s_loc (i := 1)) (i := 2) rfl) ss_end) ss_end) ss_end)
    (fun fd h1 h2 h3 => of_len2 fun a b => by cases fd; cases h1; cases h2; cases h3; rfl)
theorem F14 (W : Wo D) : SoundF D 5 148 d14 :=
  g_def W.ok (W.fn (i := 14) rfl) (.loc (.loc (.loc (.glo (.glo (.glo (.glo (.glo (.glo .nil)))))))))
    (ss_then (st_exp (s_call W.ok (F13 W) (l_cons (by exact (s_cmp op_eq (s_bi1 W.ok op_len (s_loc (i := 0)) (i := 4) rfl W.g_len W.b_len) (s_idx (s_call W.ok (F12 W) (l_cons (s_loc (i := 0)) l_nil) (i := 5) rfl W.m_shape W.fn_shape) s_int))) (l_cons s_str l_nil)) (i := 3) rfl W.m_need_shape W.fn_need_shape)) (ss_then (st_asg (s_val W.ok (i := 6) rfl W.v0 W.r0) (i := 1) rfl (.inl rfl) (by intro _ _ _; rfl)) (ss_then (st_for (s_ty1 W.ok op_ran1 (s_bi1 W.ok op_len (s_loc (i := 0)) (i := 4) rfl W.g_len W.b_len) (i := 7) rfl W.g_range W.b_range) (ss_then (st_asg (s_call W.ok (F4 W) (l_cons (s_loc (i := 1)) (l_cons (by exact (s_idx (s_idx (s_loc (i := 0)) (s_loc (i := 2))) (s_loc (i := 2)))) l_nil)) (i := 8) rfl W.m_radd W.fn_radd) (i := 1) rfl (.inl rfl) (by intro _ _ _; rfl)) ss_end) (i := 2) rfl (.inl rfl)) (ss_then (st_ret (s_loc (i := 1))) ss_end))))
    (fun fd h1 h2 h3 => of_len1 fun a => by cases fd; cases h1; cases h2; cases h3; rfl)
theorem F15 (W : Wo D) : SoundF D 2 155 d15 :=
  g_def W.ok (W.fn (i := 15) rfl) (.loc (.loc (.loc (.loc (.loc .nil)))))
    (ss_then (st_swap (s_tup (l_cons (by exact s_lst l_nil) (l_cons (by exact (s_tup (l_cons s_int (l_cons s_int l_nil)))) (l_cons (by exact (s_tup (l_cons s_int (l_cons s_int l_nil)))) l_nil)))) (.cons (.cons (.cons .nil))) (.cons (i := 1) rfl (.inl rfl) (.cons (i := 2) rfl (.inl rfl) (.cons (i := 3) rfl (.inl rfl) .nil))) (by kernel_rfl)) (ss_then (st_for (s_loc (i := 0)) (ss_then (st_swap (s_tup (l_cons (by exact (s_tup (l_cons (by exact (s_bin op_add (s_bin op_mul (s_loc (i := 4)) (s_idx (s_loc (i := 2)) s_int)) (s_idx (s_loc (i := 3)) s_int))) (l_cons (by exact (s_bin op_add (s_bin op_mul (s_loc (i := 4)) (s_idx (s_loc (i := 2)) s_int)) (s_idx (s_loc (i := 3)) s_int))) l_nil)))) (l_cons (s_loc (i := 2)) l_nil))) (.cons (.cons .nil)) (.cons (i := 2) rfl (.inl rfl) (.cons (i := 3) rfl (.inl rfl) .nil)) (by kernel_rfl)) (ss_then (st_app (s_loc (i := 1)) (s_ite (t_cmp op_ge (s_idx (s_loc (i := 2)) s_int) s_int) (s_loc (i := 2)) (s_tup (l_cons (by exact (s_bin op_sub s_int (s_idx (s_loc (i := 2)) s_int))) (l_cons (by exact (s_bin op_sub s_int (s_idx (s_loc (i := 2)) s_int))) l_nil))))) ss_end)) (i := 4) rfl (.inl rfl)) (ss_then (st_ret (s_loc (i := 1))) ss_end)))
    (fun fd h1 h2 h3 => of_len1 fun a => by cases fd; cases h1; cases h2; cases h3; rfl)
theorem F16 (W : Wo D) : SoundF D 4 162 d16 :=
  g_def W.ok (W.fn (i := 16) rfl) (.loc (.loc (.loc (.glo (.glo (.glo (.glo .nil)))))))
    (ss_then (st_if (t_cmp op_eq (s_bi1 W.ok op_len (s_loc (i := 0)) (i := 3) rfl W.g_len W.b_len) s_int) (ss_then (st_fail W.ok W.cas s_str s_str (i := 4) rfl) ss_end) ss_end) (ss_then (st_tup (s_idx (s_call W.ok (F15 W) (l_cons (s_loc (i := 0)) l_nil) (i := 5) rfl W.m_convergents W.fn_convergents) (by exact s_una op_neg s_int)) (.cons (.cons .nil)) (.cons (i := 1) rfl (.inl rfl) (.cons (i := 2) rfl (.inl rfl) .nil)) (by kernel_rfl)) (ss_then (st_ret (s_call W.ok (F3 W) (l_cons (s_loc (i := 1)) (l_cons (s_loc (i := 2)) l_nil)) (i := 6) rfl W.m_rat W.fn_rat)) ss_end)))
    (fun fd h1 h2 h3 => of_len1 fun a => by cases fd; cases h1; cases h2; cases h3; rfl)
theorem F17 (W : Wo D) : SoundF D 2 261 d17 :=
  g_def W.ok (W.fn (i := 17) rfl) (.loc (.loc (.glo (.glo (.glo .nil)))))
    (ss_then (st_ret (s_bin op_cat (s_ty1 W.ok op_list (s_take (s_loc (i := 0)) (s_loc (i := 1))) (i := 2) rfl W.g_list W.b_list) (s_bin op_rep (by exact s_lst (l_cons (by exact (s_val W.ok (i := 3) rfl W.v0 W.r0)) l_nil)) (s_bin op_sub (s_loc (i := 1)) (s_bi1 W.ok op_len (s_loc (i := 0)) (i := 4) rfl W.g_len W.b_len))))) ss_end)
    (fun fd h1 h2 h3 => of_len2 fun a b => by cases fd; cases h1; cases h2; cases h3; rfl)
theorem F18 (W : Wo D) : SoundF D 4 268 d18 :=
  g_def W.ok (W.fn (i := 18) rfl) (.loc (.glo (.glo .nil)))
    (ss_then (st_if (t_of (s_call W.ok (F10 W) (l_cons (s_loc (i := 0)) l_nil) (i := 1) rfl W.m_is_vast W.fn_is_vast)) (ss_then (st_fail W.ok W.cas s_str s_str (i := 2) rfl) ss_end) ss_end) (ss_then (st_ret (s_loc (i := 0))) ss_end))
    (fun fd h1 h2 h3 => of_len1 fun a => by cases fd; cases h1; cases h2; cases h3; rfl)
theorem F19 (W : Wo D) : SoundF D 5 273 d19 :=
  g_def W.ok (W.fn (i := 19) rfl) (.cel (.cel (.glo (.glo (.glo .nil)))))
    (ss_then (st_ret (s_comp (s_ty1 W.ok op_ran1 (s_bi2 W.ok op_min (s_bi1 W.ok op_len (s_cel (i := 0)) (i := 4) rfl W.g_len W.b_len) (s_bi1 W.ok op_len (s_cel (i := 1)) (i := 4) rfl W.g_len W.b_len) (i := 3) rfl W.g_min W.b_min) (i := 2) rfl W.g_range W.b_range) (s_call W.ok (F4 W) (l_cons (by exact (s_idx (s_fre (i := 3)) (s_loc (i := 1)))) (l_cons (by exact (s_idx (s_fre (i := 4)) (s_loc (i := 1)))) l_nil)) (i := 2) rfl W.m_radd W.fn_radd) (.loc (.loc (.glo (.up (j := 0) rfl (.inl rfl) (.up (j := 1) rfl (.inl rfl) .nil))))) (.inl (show (namesOf _)[1]? = _ from rfl)))) ss_end)
    (fun fd h1 h2 h3 => of_len2 fun a b => by cases fd; cases h1; cases h2; cases h3; rfl)
theorem F20 (W : Wo D) : SoundF D 5 278 d20 :=
  g_def W.ok (W.fn (i := 20) rfl) (.cel (.loc .nil))
    (ss_then (st_ret (s_comp (s_loc (i := 1)) (s_call W.ok (F6 W) (l_cons (s_fre (i := 3)) (l_cons (s_loc (i := 1)) l_nil)) (i := 2) rfl W.m_rmul W.fn_rmul) (.loc (.loc (.glo (.up (j := 0) rfl (.inl rfl) .nil)))) (.inl (show (namesOf _)[1]? = _ from rfl)))) ss_end)
    (fun fd h1 h2 h3 => of_len2 fun a b => by cases fd; cases h1; cases h2; cases h3; rfl)
theorem F21 (W : Wo D) : SoundF D 5 285 d21 :=
  g_def W.ok (W.fn (i := 21) rfl) (.loc (.loc (.loc (.loc (.loc (.glo (.glo (.glo (.glo .nil)))))))))
    (ss_then (st_asg (s_val W.ok (i := 5) rfl W.v0 W.r0) (i := 3) rfl (.inl rfl) (by intro _ _ _; rfl)) (ss_then (st_for (s_ty1 W.ok op_ran1 (s_bin op_add (s_loc (i := 2)) s_int) (i := 6) rfl W.g_range W.b_range) (ss_then (st_if (t_and (t_cmp op_ne (s_idx (s_loc (i := 0)) (s_loc (i := 4))) (s_val W.ok (i := 5) rfl W.v0 W.r0)) (t_one (t_cmp op_ne (s_idx (s_loc (i := 1)) (s_bin op_sub (s_loc (i := 2)) (s_loc (i := 4)))) (s_val W.ok (i := 5) rfl W.v0 W.r0)))) (ss_then (st_asg (s_call W.ok (F4 W) (l_cons (s_loc (i := 3)) (l_cons (by exact (s_call W.ok (F6 W) (l_cons (by exact (s_idx (s_loc (i := 0)) (s_loc (i := 4)))) (l_cons (by exact (s_idx (s_loc (i := 1)) (s_bin op_sub (s_loc (i := 2)) (s_loc (i := 4))))) l_nil)) (i := 8) rfl W.m_rmul W.fn_rmul)) l_nil)) (i := 7) rfl W.m_radd W.fn_radd) (i := 3) rfl (.inl rfl) (by intro _ _ _; rfl)) ss_end) ss_end) ss_end) (i := 4) rfl (.inl rfl)) (ss_then (st_ret (s_loc (i := 3))) ss_end)))
    (fun fd h1 h2 h3 => of_len3 fun a b c => by cases fd; cases h1; cases h2; cases h3; rfl)
theorem F22 (W : Wo D) : SoundF D 6 290 d22 :=
  g_def W.ok (W.fn (i := 22) rfl) (.cel (.cel (.glo (.glo (.glo .nil)))))
    (ss_then (st_ret (s_comp (s_ty1 W.ok op_ran1 (s_bi2 W.ok op_min (s_bi1 W.ok op_len (s_cel (i := 0)) (i := 4) rfl W.g_len W.b_len) (s_bi1 W.ok op_len (s_cel (i := 1)) (i := 4) rfl W.g_len W.b_len) (i := 3) rfl W.g_min W.b_min) (i := 2) rfl W.g_range W.b_range) (s_call W.ok (F18 W) (l_cons (by exact (s_call W.ok (F21 W) (l_cons (s_fre (i := 4)) (l_cons (s_fre (i := 5)) (l_cons (s_loc (i := 1)) l_nil))) (i := 3) rfl W.m_mixed W.fn_mixed)) l_nil) (i := 2) rfl W.m_let W.fn_let) (.loc (.loc (.glo (.glo (.up (j := 0) rfl (.inl rfl) (.up (j := 1) rfl (.inl rfl) .nil)))))) (.inl (show (namesOf _)[1]? = _ from rfl)))) ss_end)
    (fun fd h1 h2 h3 => of_len2 fun a b => by cases fd; cases h1; cases h2; cases h3; rfl)
theorem F23 (W : Wo D) : SoundF D 5 297 d23 :=
  g_def W.ok (W.fn (i := 23) rfl) (.loc (.loc (.loc (.loc (.loc (.glo (.glo (.glo (.glo (.glo (.glo (.glo (.glo (.glo .nil))))))))))))))
    (ss_then (st_if (t_and (t_cmp op_gt (s_bi1 W.ok op_len (s_loc (i := 0)) (i := 5) rfl W.g_len W.b_len) s_int) (t_one (t_cmp op_eq (s_idx (s_loc (i := 0)) s_int) (s_val W.ok (i := 6) rfl W.v0 W.r0)))) (ss_then (st_fail W.ok W.cas s_str s_str (i := 7) rfl) ss_end) ss_end) (ss_then (st_asg (by exact s_lst l_nil) (i := 1) rfl (.inl rfl) (by intro _ _ _; rfl)) (ss_then (st_for (s_ty1 W.ok op_ran1 (s_bi1 W.ok op_len (s_loc (i := 0)) (i := 5) rfl W.g_len W.b_len) (i := 8) rfl W.g_range W.b_range) (ss_then (st_asg (s_ite (t_cmp op_eq (s_loc (i := 2)) s_int) (s_val W.ok (i := 9) rfl W.v1 W.r1) (s_val W.ok (i := 6) rfl W.v0 W.r0)) (i := 3) rfl (.inl rfl) (by intro _ _ _; rfl)) (ss_then (st_for (s_ty2 W.ok op_ran2 s_int (s_bin op_add (s_loc (i := 2)) s_int) (i := 8) rfl W.g_range W.b_range) (ss_then (st_asg (s_call W.ok (F5 W) (l_cons (s_loc (i := 3)) (l_cons (by exact (s_call W.ok (F6 W) (l_cons (by exact (s_idx (s_loc (i := 0)) (s_loc (i := 4)))) (l_cons (by exact (s_idx (s_loc (i := 1)) (s_bin op_sub (s_loc (i := 2)) (s_loc (i := 4))))) l_nil)) (i := 11) rfl W.m_rmul W.fn_rmul)) l_nil)) (i := 10) rfl W.m_rsub W.fn_rsub) (i := 3) rfl (.inl rfl) (by intro _ _ _; rfl)) ss_end) (i := 4) rfl (.inl rfl)) (ss_then (st_app (s_loc (i := 1)) (s_call W.ok (F18 W) (l_cons (by exact (s_call W.ok (F7 W) (l_cons (s_loc (i := 3)) (l_cons (by exact (s_idx (s_loc (i := 0)) s_int)) l_nil)) (i := 13) rfl W.m_rdiv W.fn_rdiv)) l_nil) (i := 12) rfl W.m_let W.fn_let)) ss_end))) (i := 2) rfl (.inl rfl)) (ss_then (st_ret (s_loc (i := 1))) ss_end))))
    (fun fd h1 h2 h3 => of_len1 fun a => by cases fd; cases h1; cases h2; cases h3; rfl)
theorem F24 (W : Wo D) : SoundF D 3 314 d24 :=
  g_def W.ok (W.fn (i := 24) rfl) (.loc (.loc (.glo (.glo (.glo (.glo .nil))))))
    (ss_then (st_if (t_and (t_cmp op_gt (s_bi1 W.ok op_len (s_loc (i := 0)) (i := 2) rfl W.g_len W.b_len) s_int) (t_one (t_cmp op_ne (s_call W.ok (F11 W) (l_cons (by exact (s_idx (s_loc (i := 0)) s_int)) (l_cons (s_loc (i := 1)) l_nil)) (i := 3) rfl W.m_rcompare W.fn_rcompare) s_int))) (ss_then (st_fail W.ok W.cas s_str s_bad (i := 4) rfl) ss_end) ss_end) ss_end)
    (fun fd h1 h2 h3 => of_len2 fun a b => by cases fd; cases h1; cases h2; cases h3; rfl)
theorem F25 (W : Wo D) : SoundF D 5 363 d25 :=
  g_def W.ok (W.fn (i := 25) rfl) (.loc (.loc (.loc (.loc (.loc (.loc (.loc (.glo (.glo (.glo (.glo (.glo (.glo (.glo (.glo (.glo (.glo .nil)))))))))))))))))
    (ss_then (st_exp (s_call W.ok (F24 W) (l_cons (s_loc (i := 0)) (l_cons (by exact (s_val W.ok (i := 8) rfl W.v1 W.r1)) l_nil)) (i := 7) rfl W.m_need_begin W.fn_need_begin)) (ss_then (st_asg (by exact s_lst l_nil) (i := 2) rfl (.inl rfl) (by intro _ _ _; rfl)) (ss_then (st_for (s_ty1 W.ok op_ran1 (s_bi1 W.ok op_len (s_loc (i := 0)) (i := 10) rfl W.g_len W.b_len) (i := 9) rfl W.g_range W.b_range) (ss_then (st_asg (s_val W.ok (i := 11) rfl W.v0 W.r0) (i := 4) rfl (.inl rfl) (by intro _ _ _; rfl)) (ss_then (st_for (s_ty2 W.ok op_ran2 s_int (s_bin op_add (s_loc (i := 3)) s_int) (i := 9) rfl W.g_range W.b_range) (ss_then (st_asg (s_call W.ok (F5 W) (l_cons (by exact (s_call W.ok (F6 W) (l_cons (s_loc (i := 1)) (l_cons (by exact (s_tup (l_cons (s_loc (i := 5)) (l_cons s_int l_nil)))) l_nil)) (i := 13) rfl W.m_rmul W.fn_rmul)) (l_cons (by exact (s_tup (l_cons (by exact (s_bin op_sub (s_loc (i := 3)) (s_loc (i := 5)))) (l_cons s_int l_nil)))) l_nil)) (i := 12) rfl W.m_rsub W.fn_rsub) (i := 6) rfl (.inl rfl) (by intro _ _ _; rfl)) (ss_then (st_asg (s_call W.ok (F4 W) (l_cons (s_loc (i := 4)) (l_cons (by exact (s_call W.ok (F6 W) (l_cons (by exact (s_call W.ok (F6 W) (l_cons (s_loc (i := 6)) (l_cons (by exact (s_idx (s_loc (i := 0)) (s_loc (i := 5)))) l_nil)) (i := 13) rfl W.m_rmul W.fn_rmul)) (l_cons (by exact (s_idx (s_loc (i := 2)) (s_bin op_sub (s_loc (i := 3)) (s_loc (i := 5))))) l_nil)) (i := 13) rfl W.m_rmul W.fn_rmul)) l_nil)) (i := 14) rfl W.m_radd W.fn_radd) (i := 4) rfl (.inl rfl) (by intro _ _ _; rfl)) ss_end)) (i := 5) rfl (.inl rfl)) (ss_then (st_app (s_loc (i := 2)) (s_ite (t_cmp op_eq (s_loc (i := 3)) s_int) (s_val W.ok (i := 8) rfl W.v1 W.r1) (s_call W.ok (F18 W) (l_cons (by exact (s_call W.ok (F7 W) (l_cons (s_loc (i := 4)) (l_cons (by exact (s_tup (l_cons (s_loc (i := 3)) (l_cons s_int l_nil)))) l_nil)) (i := 16) rfl W.m_rdiv W.fn_rdiv)) l_nil) (i := 15) rfl W.m_let W.fn_let))) ss_end))) (i := 3) rfl (.inl rfl)) (ss_then (st_ret (s_loc (i := 2))) ss_end))))
    (fun fd h1 h2 h3 => of_len2 fun a b => by cases fd; cases h1; cases h2; cases h3; rfl)
theorem F26 (W : Wo D) : SoundF D 7 370 d26 :=
  g_def W.ok (W.fn (i := 26) rfl) (.loc (.loc (.loc (.loc (.loc (.glo (.glo (.glo (.glo (.glo (.glo .nil)))))))))))
    (ss_then (st_asg (s_ite (t_cmp op_lt (s_loc (i := 1)) s_int) (s_call W.ok (F23 W) (l_cons (s_loc (i := 0)) l_nil) (i := 5) rfl W.m_sinverse W.fn_sinverse) (s_loc (i := 0))) (i := 2) rfl (.inl rfl) (by intro _ _ _; rfl)) (ss_then (st_swap (s_tup (l_cons (by exact (s_call W.ok (F17 W) (l_cons (by exact s_lst (l_cons (by exact (s_val W.ok (i := 7) rfl W.v1 W.r1)) l_nil)) (l_cons (by exact (s_bi1 W.ok op_len (s_loc (i := 0)) (i := 8) rfl W.g_len W.b_len)) l_nil)) (i := 6) rfl W.m_cut W.fn_cut)) (l_cons (by exact (s_bi1 W.ok op_abs (s_loc (i := 1)) (i := 9) rfl W.g_abs W.b_abs)) l_nil))) (.cons (.cons .nil)) (.cons (i := 3) rfl (.inl rfl) (.cons (i := 4) rfl (.inl rfl) .nil)) (by kernel_rfl)) (ss_then (st_whl (t_cmp op_gt (s_loc (i := 4)) s_int) (ss_then (st_if (t_cmp op_eq (s_bin op_mod (s_loc (i := 4)) s_int) s_int) (ss_then (st_asg (s_call W.ok (F22 W) (l_cons (s_loc (i := 3)) (l_cons (s_loc (i := 2)) l_nil)) (i := 10) rfl W.m_smul W.fn_smul) (i := 3) rfl (.inl rfl) (by intro _ _ _; rfl)) ss_end) ss_end) (ss_then (st_asg (s_bin op_div (s_loc (i := 4)) s_int) (i := 4) rfl (.inl rfl) (by intro _ _ _; rfl)) (ss_then (st_asg (s_ite (t_cmp op_gt (s_loc (i := 4)) s_int) (s_call W.ok (F22 W) (l_cons (s_loc (i := 2)) (l_cons (s_loc (i := 2)) l_nil)) (i := 10) rfl W.m_smul W.fn_smul) (s_loc (i := 2))) (i := 2) rfl (.inl rfl) (by intro _ _ _; rfl)) ss_end)))) (ss_then (st_ret (s_loc (i := 3))) ss_end))))
    (fun fd h1 h2 h3 => of_len2 fun a b => by cases fd; cases h1; cases h2; cases h3; rfl)
theorem F27 (W : Wo D) : SoundF D 2 377 d27 :=
  g_def W.ok (W.fn (i := 27) rfl) (.loc (.loc (.glo .nil)))
    (ss_then (st_ret (s_tup (l_cons s_int (l_cons (by exact (s_bin op_cat (by exact s_lst (l_cons (s_loc (i := 0)) l_nil)) (s_bin op_rep (by exact s_lst (l_cons (by exact (s_val W.ok (i := 2) rfl W.v0 W.r0)) l_nil)) (s_bin op_sub (s_loc (i := 1)) s_int)))) l_nil)))) ss_end)
    (fun fd h1 h2 h3 => of_len2 fun a b => by cases fd; cases h1; cases h2; cases h3; rfl)
theorem F28 (W : Wo D) : SoundF D 6 382 d28 :=
  g_def W.ok (W.fn (i := 28) rfl) (.loc (.loc (.cel (.cel (.loc (.loc (.glo (.glo (.glo .nil)))))))))
    (ss_then (st_asg (s_bi2 W.ok op_min (s_idx (s_loc (i := 0)) s_int) (s_idx (s_loc (i := 1)) s_int) (i := 6) rfl W.g_min W.b_min) (i := 2) rfl (.inr rfl) (by intro _ _ _; rfl)) (ss_then (st_asg (s_bin op_sub (s_bi2 W.ok op_min (s_bin op_add (s_idx (s_loc (i := 0)) s_int) (s_bi1 W.ok op_len (s_idx (s_loc (i := 0)) s_int) (i := 7) rfl W.g_len W.b_len)) (s_bin op_add (s_idx (s_loc (i := 1)) s_int) (s_bi1 W.ok op_len (s_idx (s_loc (i := 1)) s_int) (i := 7) rfl W.g_len W.b_len)) (i := 6) rfl W.g_min W.b_min) (s_cel (i := 2))) (i := 3) rfl (.inr rfl) (by intro _ _ _; rfl)) (ss_then (st_tup (s_comp (s_tup (l_cons (s_loc (i := 0)) (l_cons (s_loc (i := 1)) l_nil))) (s_take (s_bin op_cat (s_bin op_rep (by exact s_lst (l_cons (by exact (s_val W.ok (i := 2) rfl W.v0 W.r0)) l_nil)) (s_bi2 W.ok op_min (s_bin op_sub (s_idx (s_loc (i := 1)) s_int) (s_fre (i := 4))) (s_fre (i := 5)) (i := 3) rfl W.g_min W.b_min)) (s_idx (s_loc (i := 1)) s_int)) (s_fre (i := 5))) (.loc (.loc (.glo (.glo (.up (j := 2) rfl (.inl rfl) (.up (j := 3) rfl (.inl rfl) .nil)))))) (.inl (show (namesOf _)[1]? = _ from rfl))) (.cons (.cons .nil)) (.cons (i := 4) rfl (.inl rfl) (.cons (i := 5) rfl (.inl rfl) .nil)) (by kernel_rfl)) (ss_then (st_ret (s_tup (l_cons (s_cel (i := 2)) (l_cons (by exact (s_call W.ok (F19 W) (l_cons (s_loc (i := 4)) (l_cons (s_loc (i := 5)) l_nil)) (i := 8) rfl W.m_sadd W.fn_sadd)) l_nil)))) ss_end))))
    (fun fd h1 h2 h3 => of_len2 fun a b => by cases fd; cases h1; cases h2; cases h3; rfl)
theorem F29 (W : Wo D) : SoundF D 7 389 d29 :=
  g_def W.ok (W.fn (i := 29) rfl) (.loc (.loc (.glo .nil)))
    (ss_then (st_ret (s_tup (l_cons (by exact (s_bin op_add (s_idx (s_loc (i := 0)) s_int) (s_idx (s_loc (i := 1)) s_int))) (l_cons (by exact (s_call W.ok (F22 W) (l_cons (by exact (s_idx (s_loc (i := 0)) s_int)) (l_cons (by exact (s_idx (s_loc (i := 1)) s_int)) l_nil)) (i := 2) rfl W.m_smul W.fn_smul)) l_nil)))) ss_end)
    (fun fd h1 h2 h3 => of_len2 fun a b => by cases fd; cases h1; cases h2; cases h3; rfl)
theorem F30 (W : Wo D) : SoundF D 2 396 d30 :=
  g_def W.ok (W.fn (i := 30) rfl) (.loc (.loc (.loc (.glo (.glo .nil)))))
    (ss_then (st_tup (s_loc (i := 0)) (.cons (.cons .nil)) (.cons (i := 1) rfl (.inl rfl) (.cons (i := 2) rfl (.inl rfl) .nil)) (by kernel_rfl)) (ss_then (st_whl (t_and (t_cmp op_gt (s_bi1 W.ok op_len (s_loc (i := 2)) (i := 3) rfl W.g_len W.b_len) s_int) (t_one (t_cmp op_eq (s_idx (s_loc (i := 2)) s_int) (s_val W.ok (i := 4) rfl W.v0 W.r0)))) (ss_then (st_swap (s_tup (l_cons (by exact (s_bin op_add (s_loc (i := 1)) s_int)) (l_cons (by exact (s_drop (s_loc (i := 2)) s_int)) l_nil))) (.cons (.cons .nil)) (.cons (i := 1) rfl (.inl rfl) (.cons (i := 2) rfl (.inl rfl) .nil)) (by kernel_rfl)) ss_end)) (ss_then (st_ret (s_tup (l_cons (s_loc (i := 1)) (l_cons (s_loc (i := 2)) l_nil)))) ss_end)))
    (fun fd h1 h2 h3 => of_len1 fun a => by cases fd; cases h1; cases h2; cases h3; rfl)
theorem F31 (W : Wo D) : SoundF D 6 403 d31 :=
  g_def W.ok (W.fn (i := 31) rfl) (.loc (.loc (.loc (.glo (.glo (.glo (.glo .nil)))))))
    (ss_then (st_tup (s_call W.ok (F30 W) (l_cons (s_loc (i := 0)) l_nil) (i := 3) rfl W.m_ltrim W.fn_ltrim) (.cons (.cons .nil)) (.cons (i := 1) rfl (.inl rfl) (.cons (i := 2) rfl (.inl rfl) .nil)) (by kernel_rfl)) (ss_then (st_if (t_cmp op_eq (s_bi1 W.ok op_len (s_loc (i := 2)) (i := 4) rfl W.g_len W.b_len) s_int) (ss_then (st_fail W.ok W.cas s_str s_str (i := 5) rfl) ss_end) ss_end) (ss_then (st_ret (s_tup (l_cons (by exact (s_bin op_sub s_int (s_loc (i := 1)))) (l_cons (by exact (s_call W.ok (F23 W) (l_cons (s_loc (i := 2)) l_nil) (i := 6) rfl W.m_sinverse W.fn_sinverse)) l_nil)))) ss_end)))
    (fun fd h1 h2 h3 => of_len1 fun a => by cases fd; cases h1; cases h2; cases h3; rfl)
theorem F32 (W : Wo D) : SoundF D 8 410 d32 :=
  g_def W.ok (W.fn (i := 32) rfl) (.loc (.loc (.loc (.loc (.loc (.glo (.glo (.glo (.glo (.glo (.glo (.glo (.glo (.glo (.glo (.glo (.glo .nil)))))))))))))))))
    (ss_then (st_if (t_cmp op_eq (s_loc (i := 1)) s_int) (ss_then (st_ret (s_tup (l_cons s_int (l_cons (by exact (s_bin op_cat (by exact s_lst (l_cons (by exact (s_val W.ok (i := 5) rfl W.v1 W.r1)) l_nil)) (s_bin op_rep (by exact s_lst (l_cons (by exact (s_val W.ok (i := 6) rfl W.v0 W.r0)) l_nil)) (s_bin op_sub (s_bi1 W.ok op_len (s_idx (s_loc (i := 0)) s_int) (i := 7) rfl W.g_len W.b_len) s_int)))) l_nil)))) ss_end) ss_end) (ss_then (st_if (t_cmp op_lt (s_loc (i := 1)) s_int) (ss_then (st_ret (s_rec W.ok (k := 1) rfl (l_cons (by exact (s_call W.ok (F31 W) (l_cons (s_loc (i := 0)) l_nil) (i := 9) rfl W.m_linverse W.fn_linverse)) (l_cons (by exact (s_bin op_sub s_int (s_loc (i := 1)))) l_nil)) (i := 8) rfl W.m_lpower W.fn_lpower)) ss_end) ss_end) (ss_then (st_tup (s_call W.ok (F30 W) (l_cons (s_loc (i := 0)) l_nil) (i := 10) rfl W.m_ltrim W.fn_ltrim) (.cons (.cons .nil)) (.cons (i := 2) rfl (.inl rfl) (.cons (i := 3) rfl (.inl rfl) .nil)) (by kernel_rfl)) (ss_then (st_asg (s_ite (t_cmp op_gt (s_bi1 W.ok op_len (s_loc (i := 3)) (i := 7) rfl W.g_len W.b_len) s_int) (s_call W.ok (F9 W) (l_cons (by exact (s_idx (s_loc (i := 3)) s_int)) (l_cons (s_loc (i := 1)) l_nil)) (i := 11) rfl W.m_rpower W.fn_rpower) (s_val W.ok (i := 5) rfl W.v1 W.r1)) (i := 4) rfl (.inl rfl) (by intro _ _ _; rfl)) (ss_then (st_if (t_or (t_cmp op_le (s_loc (i := 1)) (s_val W.ok (i := 12) rfl W.v3 W.r3)) (t_one (t_cmp op_eq (s_bi1 W.ok op_len (s_loc (i := 3)) (i := 7) rfl W.g_len W.b_len) s_int))) (ss_then (st_ret (s_tup (l_cons (by exact (s_bin op_mul (s_loc (i := 2)) (s_loc (i := 1)))) (l_cons (by exact (s_call W.ok (F26 W) (l_cons (s_loc (i := 3)) (l_cons (s_loc (i := 1)) l_nil)) (i := 13) rfl W.m_swhole_power W.fn_swhole_power)) l_nil)))) ss_end) ss_end) (ss_then (st_ret (s_tup (l_cons (by exact (s_bin op_mul (s_loc (i := 2)) (s_loc (i := 1)))) (l_cons (by exact (s_call W.ok (F20 W) (l_cons (s_loc (i := 4)) (l_cons (by exact (s_call W.ok (F25 W) (l_cons (by exact (s_call W.ok (F20 W) (l_cons (by exact (s_call W.ok (F7 W) (l_cons (by exact (s_val W.ok (i := 5) rfl W.v1 W.r1)) (l_cons (by exact (s_idx (s_loc (i := 3)) s_int)) l_nil)) (i := 16) rfl W.m_rdiv W.fn_rdiv)) (l_cons (s_loc (i := 3)) l_nil)) (i := 14) rfl W.m_sscale W.fn_sscale)) (l_cons (by exact (s_tup (l_cons (s_loc (i := 1)) (l_cons s_int l_nil)))) l_nil)) (i := 15) rfl W.m_spower W.fn_spower)) l_nil)) (i := 14) rfl W.m_sscale W.fn_sscale)) l_nil)))) ss_end))))))
    (fun fd h1 h2 h3 => of_len2 fun a b => by cases fd; cases h1; cases h2; cases h3; rfl)
theorem F33 (W : Wo D) : SoundF D 4 418 d33 :=
  g_def W.ok (W.fn (i := 33) rfl) (.loc (.loc (.loc (.loc (.glo .nil)))))
    (ss_then (st_swap (s_tup (l_cons (by exact (s_call W.ok (F2 W) (l_cons (by exact (s_idx (s_loc (i := 0)) s_int)) (l_cons (s_loc (i := 1)) l_nil)) (i := 4) rfl W.m_root_of W.fn_root_of)) (l_cons (by exact (s_call W.ok (F2 W) (l_cons (by exact (s_idx (s_loc (i := 0)) s_int)) (l_cons (s_loc (i := 1)) l_nil)) (i := 4) rfl W.m_root_of W.fn_root_of)) l_nil))) (.cons (.cons .nil)) (.cons (i := 2) rfl (.inl rfl) (.cons (i := 3) rfl (.inl rfl) .nil)) (by kernel_rfl)) (ss_then (st_ret (s_ite (t_and (t_cmp op_eq (s_bin op_pow (s_loc (i := 2)) (s_loc (i := 1))) (s_idx (s_loc (i := 0)) s_int)) (t_one (t_cmp op_eq (s_bin op_pow (s_loc (i := 3)) (s_loc (i := 1))) (s_idx (s_loc (i := 0)) s_int)))) (s_tup (l_cons (s_loc (i := 2)) (l_cons (s_loc (i := 3)) l_nil))) s_non)) ss_end))
    (fun fd h1 h2 h3 => of_len2 fun a b => by cases fd; cases h1; cases h2; cases h3; rfl)
theorem F34 (W : Wo D) : SoundF D 6 439 d34 :=
  g_def W.ok (W.fn (i := 34) rfl) (.loc (.loc (.loc (.loc (.loc (.loc (.glo (.glo (.glo (.glo (.glo (.glo (.glo (.glo (.glo (.glo .nil))))))))))))))))
    (ss_then (st_tup (s_call W.ok (F30 W) (l_cons (s_loc (i := 0)) l_nil) (i := 6) rfl W.m_ltrim W.fn_ltrim) (.cons (.cons .nil)) (.cons (i := 2) rfl (.inl rfl) (.cons (i := 3) rfl (.inl rfl) .nil)) (by kernel_rfl)) (ss_then (st_if (t_cmp op_eq (s_bi1 W.ok op_len (s_loc (i := 3)) (i := 7) rfl W.g_len W.b_len) s_int) (ss_then (st_fail W.ok W.cas s_str s_str (i := 8) rfl) ss_end) ss_end) (ss_then (st_if (t_or (t_cmp op_ne (s_bin op_mod (s_bin op_mul (s_loc (i := 2)) (s_idx (s_loc (i := 1)) s_int)) (s_idx (s_loc (i := 1)) s_int)) s_int) (t_one (t_cmp op_le (s_idx (s_idx (s_loc (i := 3)) s_int) s_int) s_int))) (ss_then (st_fail W.ok W.cas s_str s_str (i := 8) rfl) ss_end) ss_end) (ss_then (st_asg (s_call W.ok (F33 W) (l_cons (by exact (s_idx (s_loc (i := 3)) s_int)) (l_cons (by exact (s_idx (s_loc (i := 1)) s_int)) l_nil)) (i := 9) rfl W.m_exact_root W.fn_exact_root) (i := 4) rfl (.inl rfl) (by intro _ _ _; rfl)) (ss_then (st_if (t_isNon (s_loc (i := 4))) (ss_then (st_fail W.ok W.cas s_str s_str (i := 8) rfl) ss_end) ss_end) (ss_then (st_if (t_cmp op_lt (s_idx (s_loc (i := 1)) s_int) s_int) (ss_then (st_asg (s_call W.ok (F7 W) (l_cons (by exact (s_val W.ok (i := 11) rfl W.v1 W.r1)) (l_cons (s_loc (i := 4)) l_nil)) (i := 10) rfl W.m_rdiv W.fn_rdiv) (i := 4) rfl (.inl rfl) (by intro _ _ _; rfl)) ss_end) ss_end) (ss_then (st_asg (s_call W.ok (F9 W) (l_cons (s_loc (i := 4)) (l_cons (by exact (s_bi1 W.ok op_abs (s_idx (s_loc (i := 1)) s_int) (i := 13) rfl W.g_abs W.b_abs)) l_nil)) (i := 12) rfl W.m_rpower W.fn_rpower) (i := 5) rfl (.inl rfl) (by intro _ _ _; rfl)) (ss_then (st_ret (s_tup (l_cons (by exact (s_bin op_div (s_bin op_mul (s_loc (i := 2)) (s_idx (s_loc (i := 1)) s_int)) (s_idx (s_loc (i := 1)) s_int))) (l_cons (by exact (s_call W.ok (F20 W) (l_cons (s_loc (i := 5)) (l_cons (by exact (s_call W.ok (F25 W) (l_cons (by exact (s_call W.ok (F20 W) (l_cons (by exact (s_call W.ok (F7 W) (l_cons (by exact (s_val W.ok (i := 11) rfl W.v1 W.r1)) (l_cons (by exact (s_idx (s_loc (i := 3)) s_int)) l_nil)) (i := 10) rfl W.m_rdiv W.fn_rdiv)) (l_cons (s_loc (i := 3)) l_nil)) (i := 14) rfl W.m_sscale W.fn_sscale)) (l_cons (s_loc (i := 1)) l_nil)) (i := 15) rfl W.m_spower W.fn_spower)) l_nil)) (i := 14) rfl W.m_sscale W.fn_sscale)) l_nil)))) ss_end))))))))
    (fun fd h1 h2 h3 => of_len2 fun a b => by cases fd; cases h1; cases h2; cases h3; rfl)
theorem F35 (W : Wo D) : SoundF D 9 446 d35 :=
  g_def W.ok (W.fn (i := 35) rfl) (.loc (.loc (.loc (.loc (.loc (.glo (.glo (.glo (.glo .nil)))))))))
    (ss_then (st_if (t_cmp op_ne (s_idx (s_loc (i := 1)) s_int) s_str) (ss_then (st_fail W.ok W.cas s_str s_str (i := 5) rfl) ss_end) ss_end) (ss_then (st_if (t_and (t_cmp op_eq (s_loc (i := 0)) (s_tup (l_cons s_str (l_cons s_int (l_cons s_int l_nil))))) (t_one (t_cmp op_ne (s_idx (s_loc (i := 1)) s_int) s_int))) (ss_then (st_fail W.ok W.cas s_str s_str (i := 5) rfl) ss_end) ss_end) (ss_then (st_asg (s_rec W.ok (k := 0) rfl (l_cons (s_loc (i := 0)) (l_cons (s_loc (i := 2)) (l_cons (s_loc (i := 3)) l_nil))) (i := 6) rfl W.m_of_term W.fn_of_term) (i := 4) rfl (.inl rfl) (by intro _ _ _; rfl)) (ss_then (st_if (t_cmp op_eq (s_idx (s_loc (i := 1)) s_int) s_int) (ss_then (st_ret (s_call W.ok (F32 W) (l_cons (s_loc (i := 4)) (l_cons (by exact (s_idx (s_loc (i := 1)) s_int)) l_nil)) (i := 7) rfl W.m_lpower W.fn_lpower)) ss_end) ss_end) (ss_then (st_ret (s_call W.ok (F34 W) (l_cons (s_loc (i := 4)) (l_cons (by exact (s_tup (l_cons (by exact (s_idx (s_loc (i := 1)) s_int)) (l_cons (by exact (s_idx (s_loc (i := 1)) s_int)) l_nil)))) l_nil)) (i := 8) rfl W.m_of_root W.fn_of_root)) ss_end)))))
    (fun fd h1 h2 h3 => of_len4 fun a b c d => by cases fd; cases h1; cases h2; cases h3; rfl)
theorem F36 (W : Wo D) : SoundF D 7 453 d36 :=
  g_def W.ok (W.fn (i := 36) rfl) (.loc (.loc (.loc (.loc (.glo (.glo (.glo (.glo .nil))))))))
    (ss_then (st_asg (s_ite (t_cmp op_gt (s_bi1 W.ok op_len (s_loc (i := 0)) (i := 4) rfl W.g_len W.b_len) s_int) (s_idx (s_loc (i := 0)) s_int) (s_call W.ok (F27 W) (l_cons (by exact (s_val W.ok (i := 6) rfl W.v0 W.r0)) (l_cons (s_loc (i := 1)) l_nil)) (i := 5) rfl W.m_lplain W.fn_lplain)) (i := 2) rfl (.inl rfl) (by intro _ _ _; rfl)) (ss_then (st_for (s_drop (s_loc (i := 0)) s_int) (ss_then (st_asg (s_call W.ok (F28 W) (l_cons (s_loc (i := 2)) (l_cons (s_loc (i := 3)) l_nil)) (i := 7) rfl W.m_ladd W.fn_ladd) (i := 2) rfl (.inl rfl) (by intro _ _ _; rfl)) ss_end) (i := 3) rfl (.inl rfl)) (ss_then (st_ret (s_loc (i := 2))) ss_end)))
    (fun fd h1 h2 h3 => of_len2 fun a b => by cases fd; cases h1; cases h2; cases h3; rfl)
theorem F37 (W : Wo D) : SoundF D 10 458 d37 :=
  g_def W.ok (W.fn (i := 37) rfl) (.loc (.cel (.cel (.loc (.loc (.loc (.glo (.glo (.glo (.glo (.glo (.glo (.glo (.glo (.glo (.glo .nil))))))))))))))))
    (ss_then (st_if (t_cmp op_eq (s_idx (s_loc (i := 0)) s_int) s_str) (ss_then (st_ret (s_call W.ok (F27 W) (l_cons (by exact (s_tup (l_cons (by exact (s_idx (s_loc (i := 0)) s_int)) (l_cons (by exact (s_idx (s_loc (i := 0)) s_int)) l_nil)))) (l_cons (s_cel (i := 1)) l_nil)) (i := 6) rfl W.m_lplain W.fn_lplain)) ss_end) ss_end) (ss_then (st_if (t_cmp op_eq (s_idx (s_loc (i := 0)) s_int) s_str) (ss_then (st_if (t_cmp op_ne (s_idx (s_loc (i := 0)) s_int) (s_idx (s_cel (i := 2)) s_int)) (ss_then (st_fail W.ok W.cas s_str (s_bin op_add s_str (s_idx (s_loc (i := 0)) s_int)) (i := 7) rfl) ss_end) ss_end) (ss_then (st_ret (s_tup (l_cons (by exact (s_idx (s_idx (s_cel (i := 2)) s_int) s_int)) (l_cons (by exact (s_bin op_cat (s_idx (s_idx (s_cel (i := 2)) s_int) s_int) (s_bin op_rep (by exact s_lst (l_cons (by exact (s_val W.ok (i := 8) rfl W.v0 W.r0)) l_nil)) (s_bin op_sub (s_cel (i := 1)) (s_bi1 W.ok op_len (s_idx (s_idx (s_cel (i := 2)) s_int) s_int) (i := 9) rfl W.g_len W.b_len))))) l_nil)))) ss_end)) ss_end) (ss_then (st_if (t_cmp op_eq (s_idx (s_loc (i := 0)) s_int) s_str) (ss_then (st_ret (s_call W.ok (F35 W) (l_cons (by exact (s_idx (s_loc (i := 0)) s_int)) (l_cons (by exact (s_idx (s_loc (i := 0)) s_int)) (l_cons (s_cel (i := 1)) (l_cons (s_cel (i := 2)) l_nil)))) (i := 10) rfl W.m_of_power W.fn_of_power)) ss_end) ss_end) (ss_then (st_if (t_and (t_cmp op_eq (s_idx (s_loc (i := 0)) s_int) s_str) (t_and (t_cmp op_eq (s_idx (s_loc (i := 0)) s_int) s_str) (t_one (t_cmp op_eq (s_bi1 W.ok op_len (s_idx (s_loc (i := 0)) s_int) (i := 9) rfl W.g_len W.b_len) s_int)))) (ss_then (st_ret (s_call W.ok (F35 W) (l_cons (by exact (s_idx (s_idx (s_loc (i := 0)) s_int) s_int)) (l_cons (by exact (s_tup (l_cons s_str (l_cons s_int (l_cons s_int l_nil))))) (l_cons (s_cel (i := 1)) (l_cons (s_cel (i := 2)) l_nil)))) (i := 10) rfl W.m_of_power W.fn_of_power)) ss_end) ss_end) (ss_then (st_if (t_and (t_cmp op_eq (s_idx (s_loc (i := 0)) s_int) s_str) (t_one (t_cmp op_eq (s_bi1 W.ok op_len (s_idx (s_loc (i := 0)) s_int) (i := 9) rfl W.g_len W.b_len) s_int))) (ss_then (st_ret s_bad) ss_end) ss_end) (ss_then (st_if (t_cmp op_notIn (s_idx (s_loc (i := 0)) s_int) (s_tup (l_cons s_str (l_cons s_str l_nil)))) (ss_then (st_fail W.ok W.cas s_str (s_bin op_add s_str (s_idx (s_loc (i := 0)) s_int)) (i := 7) rfl) ss_end) ss_end) (ss_then (st_asgC (s_idx (s_loc (i := 0)) s_int) (s_rec W.ok (k := 0) rfl (l_cons (s_loc (i := 1)) (l_cons (s_fre (i := 4)) (l_cons (s_fre (i := 3)) l_nil))) (i := 2) rfl W.m_of_term W.fn_of_term) (.loc (.loc (.glo (.up (j := 2) rfl (.inl rfl) (.up (j := 1) rfl (.inl rfl) .nil))))) (.inl (show (namesOf _)[1]? = _ from rfl)) (i := 3) rfl (swaps_loc (i := 3) rfl)) (ss_then (st_if (t_cmp op_eq (s_idx (s_loc (i := 0)) s_int) s_str) (ss_then (st_ret (s_call W.ok (F36 W) (l_cons (s_loc (i := 3)) (l_cons (s_cel (i := 1)) l_nil)) (i := 13) rfl W.m_of_sum W.fn_of_sum)) ss_end) ss_end) (ss_then (st_asg (s_call W.ok (F27 W) (l_cons (by exact (s_val W.ok (i := 14) rfl W.v1 W.r1)) (l_cons (s_cel (i := 1)) l_nil)) (i := 6) rfl W.m_lplain W.fn_lplain) (i := 4) rfl (.inl rfl) (by intro _ _ _; rfl)) (ss_then (st_for (s_loc (i := 3)) (ss_then (st_asg (s_call W.ok (F29 W) (l_cons (s_loc (i := 4)) (l_cons (s_loc (i := 5)) l_nil)) (i := 15) rfl W.m_lmul W.fn_lmul) (i := 4) rfl (.inl rfl) (by intro _ _ _; rfl)) ss_end) (i := 5) rfl (.inl rfl)) (ss_then (st_ret (s_loc (i := 4))) ss_end)))))))))))
    (fun fd h1 h2 h3 => of_len3 fun a b c => by cases fd; cases h1; cases h2; cases h3; rfl)
theorem F38 (W : Wo D) : SoundF D 2 465 d38 :=
  g_def W.ok (W.fn (i := 38) rfl) (.loc (.loc (.loc (.loc (.loc (.loc (.glo (.glo (.glo (.glo (.glo .nil)))))))))))
    (ss_then (st_for (s_val W.ok (i := 6) rfl W.v4 W.r4) (ss_then (st_try W.ok W.cas W.casK (ss_then (st_asg (s_rec W.ok (k := 0) rfl (l_cons (s_loc (i := 0)) (l_cons (by exact (s_bin op_add (s_bi2 W.ok op_max (s_loc (i := 2)) s_int (i := 8) rfl W.g_max W.b_max) (s_loc (i := 3)))) (l_cons (s_loc (i := 1)) l_nil))) (i := 7) rfl W.m_of_term W.fn_of_term) (i := 4) rfl (.inl rfl) (by intro _ _ _; rfl)) (ss_then (st_if (t_cmp op_ge (s_bin op_add (s_idx (s_loc (i := 4)) s_int) (s_bi1 W.ok op_len (s_idx (s_loc (i := 4)) s_int) (i := 9) rfl W.g_len W.b_len)) (s_loc (i := 2))) (ss_then (st_ret (s_loc (i := 4))) ss_end) ss_end) ss_end)) (i := 10) (j := 5) rfl rfl (by decide) (by rfl) (by decide +kernel)) ss_end) (i := 3) rfl (.inl rfl)) (ss_then (st_fail W.ok W.cas s_str s_str (i := 10) rfl) ss_end))
    (fun fd h1 h2 h3 => of_len3 fun a b c => by cases fd; cases h1; cases h2; cases h3; rfl)
theorem F39 (W : Wo D) : SoundF D 3 473 d39 :=
  g_def W.ok (W.fn (i := 39) rfl) (.loc (.loc (.loc (.loc (.loc (.loc (.glo (.glo (.glo (.glo (.glo .nil)))))))))))
    (ss_then (st_tup (s_call W.ok (F30 W) (l_cons (s_loc (i := 0)) l_nil) (i := 6) rfl W.m_ltrim W.fn_ltrim) (.cons (.cons .nil)) (.cons (i := 2) rfl (.inl rfl) (.cons (i := 3) rfl (.inl rfl) .nil)) (by kernel_rfl)) (ss_then (st_if (t_or (t_cmp op_eq (s_bi1 W.ok op_len (s_loc (i := 3)) (i := 7) rfl W.g_len W.b_len) s_int) (t_one (t_cmp op_gt (s_loc (i := 2)) s_int))) (ss_then (st_ret (s_val W.ok (i := 8) rfl W.v0 W.r0)) ss_end) ss_end) (ss_then (st_if (t_cmp op_eq (s_loc (i := 2)) s_int) (ss_then (st_ret (s_idx (s_loc (i := 3)) s_int)) ss_end) ss_end) (ss_then (st_asg (s_cmp op_eq (s_bin op_mod (s_loc (i := 2)) s_int) s_int) (i := 4) rfl (.inl rfl) (by intro _ _ _; rfl)) (ss_then (st_if (t_and (t_of (s_loc (i := 4))) (t_one (t_cmp op_eq (s_loc (i := 1)) s_int))) (ss_then (st_ret s_non) ss_end) ss_end) (ss_then (st_asg (s_cmp op_ne (s_cmp op_gt (s_idx (s_idx (s_loc (i := 3)) s_int) s_int) s_int) (s_and (s_loc (i := 4)) (s_one (s_cmp op_lt (s_loc (i := 1)) s_int)))) (i := 5) rfl (.inl rfl) (by intro _ _ _; rfl)) (ss_then (st_ret (s_ite (t_of (s_loc (i := 5))) (s_val W.ok (i := 9) rfl W.v5 W.r5) (s_val W.ok (i := 10) rfl W.v6 W.r6))) ss_end)))))))
    (fun fd h1 h2 h3 => of_len2 fun a b => by cases fd; cases h1; cases h2; cases h3; rfl)
theorem F40 (W : Wo D) : SoundF D 3 480 d40 :=
  g_def W.ok (W.fn (i := 40) rfl) (.loc (.loc (.loc (.loc (.loc (.glo (.glo (.glo (.glo (.glo .nil))))))))))
    (ss_then (st_for (s_val W.ok (i := 5) rfl W.v7 W.r7) (ss_then (st_try W.ok W.cas W.casK (ss_then (st_asg (s_call W.ok (F30 W) (l_cons (by exact (s_rec W.ok (k := 0) rfl (l_cons (s_loc (i := 0)) (l_cons (s_loc (i := 2)) (l_cons (s_loc (i := 1)) l_nil))) (i := 7) rfl W.m_of_term W.fn_of_term)) l_nil) (i := 6) rfl W.m_ltrim W.fn_ltrim) (i := 3) rfl (.inl rfl) (by intro _ _ _; rfl)) (ss_then (st_if (t_or (t_cmp op_gt (s_bi1 W.ok op_len (s_idx (s_loc (i := 3)) s_int) (i := 8) rfl W.g_len W.b_len) s_int) (t_one (t_cmp op_gt (s_idx (s_loc (i := 3)) s_int) s_int))) (ss_then (st_ret (s_loc (i := 3))) ss_end) ss_end) ss_end)) (i := 9) (j := 4) rfl rfl (by decide) (by rfl) (by decide +kernel)) ss_end) (i := 2) rfl (.inl rfl)) (ss_then (st_fail W.ok W.cas s_str s_str (i := 9) rfl) ss_end))
    (fun fd h1 h2 h3 => of_len2 fun a b => by cases fd; cases h1; cases h2; cases h3; rfl)
theorem F41 (W : Wo D) : SoundF D 4 487 d41 :=
  g_def W.ok (W.fn (i := 41) rfl) (.loc (.loc (.loc (.loc (.loc (.loc (.loc (.glo (.glo (.glo (.glo .nil)))))))))))
    (ss_then (st_if (t_cmp op_ne (s_loc (i := 3)) s_int) (ss_then (st_asg (s_ite (t_cmp op_gt (s_loc (i := 3)) s_int) (s_val W.ok (i := 7) rfl W.v1 W.r1) (s_tup (l_cons (by exact s_una op_neg s_int) (l_cons s_int l_nil)))) (i := 4) rfl (.inl rfl) (by intro _ _ _; rfl)) (ss_then (st_ret (s_call W.ok (F39 W) (l_cons (by exact (s_call W.ok (F40 W) (l_cons (s_loc (i := 0)) (l_cons (by exact (s_tup (l_cons (s_loc (i := 1)) (l_cons (by exact (s_tup (l_cons s_int (l_cons (by exact s_lst (l_cons (s_loc (i := 2)) (l_cons (s_loc (i := 4)) l_nil))) l_nil)))) l_nil)))) l_nil)) (i := 9) rfl W.m_begun_series W.fn_begun_series)) (l_cons s_int l_nil)) (i := 8) rfl W.m_from_begin W.fn_from_begin)) ss_end)) ss_end) (ss_then (st_swap (s_tup (l_cons s_bad (l_cons s_bad l_nil))) (.cons (.cons .nil)) (.cons (i := 5) rfl (.inl rfl) (.cons (i := 6) rfl (.inl rfl) .nil)) (by kernel_rfl)) (ss_then (st_ret (s_ite (t_cmp op_eq (s_loc (i := 5)) (s_loc (i := 6))) (s_loc (i := 5)) s_non)) ss_end)))
    (fun fd h1 h2 h3 => of_len4 fun a b c d => by cases fd; cases h1; cases h2; cases h3; rfl)
theorem F42 (W : Wo D) : SoundF D 5 506 d42 :=
  g_def W.ok (W.fn (i := 42) rfl) (.loc (.loc (.loc (.loc (.glo (.glo (.glo (.glo .nil))))))))
    (ss_then (st_if (t_or (t_cmp op_eq (s_loc (i := 2)) (s_val W.ok (i := 4) rfl W.v5 W.r5)) (t_one (t_cmp op_eq (s_loc (i := 2)) (s_val W.ok (i := 5) rfl W.v6 W.r6)))) (ss_then (st_ret s_bad) ss_end) ss_end) (ss_then (st_ret (s_call W.ok (F41 W) (l_cons (s_loc (i := 0)) (l_cons (s_loc (i := 1)) (l_cons (s_loc (i := 2)) (l_cons (s_loc (i := 3)) l_nil)))) (i := 7) rfl W.m_limit_near W.fn_limit_near)) ss_end))
    (fun fd h1 h2 h3 => of_len4 fun a b c d => by cases fd; cases h1; cases h2; cases h3; rfl)
theorem F43 (W : Wo D) : SoundF D 2 514 d43 :=
  g_def W.ok (W.fn (i := 43) rfl) (.loc (.loc (.glo (.glo .nil))))
    (ss_then (st_put (s_loc (i := 0)) s_int (s_bin op_add (s_idx (s_loc (i := 0)) s_int) s_int)) (ss_then (st_if (t_cmp op_le (s_idx (s_loc (i := 0)) s_int) (s_bi1 W.ok op_len (s_idx (s_loc (i := 0)) s_int) (i := 2) rfl W.g_len W.b_len)) (ss_then (st_ret (s_bin op_mod (s_bi1 W.ok op_abs (s_idx (s_idx (s_loc (i := 0)) s_int) (s_bin op_sub (s_idx (s_loc (i := 0)) s_int) s_int)) (i := 3) rfl W.g_abs W.b_abs) (s_loc (i := 1)))) ss_end) ss_end) (ss_then (st_ret (s_bin op_mod (s_bin op_add (s_bin op_mul s_int (s_idx (s_loc (i := 0)) s_int)) (s_bin op_div (s_idx (s_loc (i := 0)) s_int) s_int)) (s_loc (i := 1)))) ss_end)))
    (fun fd h1 h2 h3 => of_len2 fun a b => by cases fd; cases h1; cases h2; cases h3; rfl)
theorem F44 (W : Wo D) : SoundFP D 523 8 526 d44 :=
  g_defP W.ok (W.fn (i := 44) rfl) (.loc (.loc (.cel (.cel (.loc (.cel (.glo (.glo (.glo (.glo .nil))))))))))
    (ss_rest (st_tup (s_tup (l_cons (by exact (s_call W.ok (F43 W) (l_cons (s_loc (i := 0)) (l_cons s_int l_nil)) (i := 6) rfl W.m_law_take W.fn_law_take)) (l_cons (by exact (s_call W.ok (F43 W) (l_cons (s_loc (i := 0)) (l_cons s_int l_nil)) (i := 6) rfl W.m_law_take W.fn_law_take)) (l_cons (by exact (s_bin op_sub (s_call W.ok (F43 W) (l_cons (s_loc (i := 0)) (l_cons s_int l_nil)) (i := 6) rfl W.m_law_take W.fn_law_take) s_int)) l_nil)))) (.cons (.cons (.cons .nil))) (.cons (i := 1) rfl (.inl rfl) (.cons (i := 2) rfl (.inr rfl) (.cons (i := 3) rfl (.inr rfl) .nil))) (by kernel_rfl)) (ss_rest (st_asg (s_comp (s_ty1 W.ok op_ran1 (s_loc (i := 1)) (i := 7) rfl W.g_range W.b_range) (s_comp (s_ty1 W.ok op_ran1 (s_fre (i := 4)) (i := 2) rfl W.g_range W.b_range) (s_tup (l_cons (by exact (s_bin op_sub (s_bin op_add (s_fre (i := 3)) (s_bin op_mul s_int (s_fre (i := 2)))) (s_bin op_mul s_int (s_loc (i := 1))))) (l_cons s_int l_nil))) (.loc (.loc (.up (j := 1) rfl (.inl rfl) (.up (j := 3) rfl (.inr rfl) .nil)))) (.inl (show (namesOf _)[1]? = _ from rfl))) (.loc (.cel (.glo (.up (j := 3) rfl (.inl rfl) (.up (j := 2) rfl (.inl rfl) .nil))))) (.inr (show (namesOf _)[1]? = _ from rfl))) (i := 5) rfl (.inr rfl) (swaps_cel (i := 5) rfl)) (ss_rest (st_asg (s_ite (t_cmp op_in (s_loc (i := 1)) (s_tup (l_cons s_int (l_cons (s_cel (i := 2)) l_nil)))) (s_tup (l_cons (by exact (s_bi1 W.ok op_sum (s_comp (s_ty1 W.ok op_ran1 (s_loc (i := 1)) (i := 7) rfl W.g_range W.b_range) (s_bin op_add (s_fre (i := 2)) (s_loc (i := 1))) (.loc (.loc (.up (j := 3) rfl (.inl rfl) .nil))) (.inl (show (namesOf _)[1]? = _ from rfl))) (i := 8) rfl W.g_sum W.b_sum)) (l_cons s_int l_nil))) s_str) (i := 4) rfl (.inl rfl) (by intro _ _ _; rfl)) (ss_lam (sp_ret (p_cmp op_eq (p_told W.ok W.cas W.casK W.tell W.tab_law_trace_right W.m_law_told (i := 9) rfl (.up (j := 5) rfl (.inl rfl) (.glo .nil)) (s_call W.ok (F14 W) (l_cons (s_fre (i := 0)) l_nil) (i := 1) rfl W.m_trace W.fn_trace)) (s_loc (i := 4)))) ss_end))))
    (fun fd h1 h2 h3 => of_len1 fun a => by cases fd; cases h1; cases h2; cases h3; rfl)
theorem F45 (W : Wo D) : SoundFP D 528 7 531 d45 :=
  g_defP W.ok (W.fn (i := 45) rfl) (.cel (.loc (.loc (.loc (.loc (.loc (.cel (.glo (.glo (.glo (.glo (.glo .nil))))))))))))
    (ss_rest (st_tup (s_tup (l_cons (by exact (s_comp (s_ty1 W.ok op_ran1 (s_bin op_add s_int (s_call W.ok (F43 W) (l_cons (s_cel (i := 0)) (l_cons s_int l_nil)) (i := 8) rfl W.m_law_take W.fn_law_take)) (i := 7) rfl W.g_range W.b_range) (s_bin op_sub (s_call W.ok (F43 W) (l_cons (s_fre (i := 3)) (l_cons s_int l_nil)) (i := 2) rfl W.m_law_take W.fn_law_take) s_int) (.loc (.loc (.glo (.up (j := 0) rfl (.inl rfl) .nil)))) (.inl (show (namesOf _)[1]? = _ from rfl)))) (l_cons (by exact s_lst l_nil) l_nil))) (.cons (.cons .nil)) (.cons (i := 6) rfl (.inr rfl) (.cons (i := 1) rfl (.inl rfl) .nil)) (by kernel_rfl)) (ss_rest (st_for (s_ty1 W.ok op_ran1 (s_bi1 W.ok op_len (s_cel (i := 6)) (i := 9) rfl W.g_len W.b_len) (i := 7) rfl W.g_range W.b_range) (ss_then (st_swap (s_tup (l_cons (by exact (s_idx (s_cel (i := 6)) (s_loc (i := 2)))) (l_cons s_int l_nil))) (.cons (.cons .nil)) (.cons (i := 3) rfl (.inl rfl) (.cons (i := 4) rfl (.inl rfl) .nil)) (by kernel_rfl)) (ss_then (st_for (s_rev (s_take (s_cel (i := 6)) (s_loc (i := 2)))) (ss_then (st_swap (s_tup (l_cons (by exact (s_bin op_add (s_bin op_mul (s_loc (i := 5)) (s_loc (i := 3))) (s_loc (i := 4)))) (l_cons (s_loc (i := 3)) l_nil))) (.cons (.cons .nil)) (.cons (i := 3) rfl (.inl rfl) (.cons (i := 4) rfl (.inl rfl) .nil)) (by kernel_rfl)) ss_end) (i := 5) rfl (.inl rfl)) (ss_then (st_app (s_loc (i := 1)) (s_ite (t_cmp op_ge (s_loc (i := 4)) s_int) (s_tup (l_cons (s_loc (i := 3)) (l_cons (s_loc (i := 4)) l_nil))) (s_tup (l_cons (by exact (s_bin op_sub s_int (s_loc (i := 3)))) (l_cons (by exact (s_bin op_sub s_int (s_loc (i := 4)))) l_nil))))) ss_end))) (i := 2) rfl (.inl rfl)) (ss_rest (st_if (t_cmp op_ne (s_call W.ok (F15 W) (l_cons (s_cel (i := 6)) l_nil) (i := 10) rfl W.m_convergents W.fn_convergents) (s_loc (i := 1))) (ss_then (st_ret s_boo) ss_end) ss_end) (ss_lam (sp_ret (p_cmp op_eq (p_told W.ok W.cas W.casK W.tell W.tab_law_cuts_right W.m_law_told (i := 11) rfl (.up (j := 6) rfl (.inl rfl) (.glo .nil)) (s_call W.ok (F16 W) (l_cons (s_fre (i := 0)) l_nil) (i := 1) rfl W.m_fraction_value W.fn_fraction_value)) (s_ite (t_cmp op_gt (s_idx (s_idx (s_loc (i := 1)) (by exact s_una op_neg s_int)) s_int) s_int) (s_idx (s_loc (i := 1)) (by exact s_una op_neg s_int)) s_str))) ss_end))))
    (fun fd h1 h2 h3 => of_len1 fun a => by cases fd; cases h1; cases h2; cases h3; rfl)
theorem F46 (W : Wo D) : SoundFP D 533 8 538 d46 :=
  g_defP W.ok (W.fn (i := 46) rfl) (.loc (.loc (.loc (.loc (.loc (.loc (.loc (.loc (.cel (.cel (.glo (.glo (.glo (.glo .nil))))))))))))))
    (ss_rest (st_swap (s_tup (l_cons (by exact (s_idx (by exact s_lst (l_cons s_int (l_cons s_int (l_cons s_int (l_cons s_int (l_cons s_int (l_cons (by exact s_una op_neg s_int) (l_cons (by exact s_una op_neg s_int) (l_cons s_int l_nil))))))))) (s_call W.ok (F43 W) (l_cons (s_loc (i := 0)) (l_cons s_int l_nil)) (i := 10) rfl W.m_law_take W.fn_law_take))) (l_cons (by exact (s_bin op_add s_int (s_call W.ok (F43 W) (l_cons (s_loc (i := 0)) (l_cons s_int l_nil)) (i := 10) rfl W.m_law_take W.fn_law_take))) (l_cons (by exact (s_idx (by exact s_lst (l_cons s_int (l_cons s_int (l_cons (by exact s_una op_neg s_int) l_nil)))) (s_call W.ok (F43 W) (l_cons (s_loc (i := 0)) (l_cons s_int l_nil)) (i := 10) rfl W.m_law_take W.fn_law_take))) l_nil)))) (.cons (.cons (.cons .nil))) (.cons (i := 1) rfl (.inl rfl) (.cons (i := 2) rfl (.inl rfl) (.cons (i := 3) rfl (.inl rfl) .nil))) (by kernel_rfl)) (ss_rest (st_tup (s_tup (l_cons (by exact (s_idx (by exact s_lst (l_cons s_int (l_cons (by exact s_una op_neg s_int) l_nil))) (s_call W.ok (F43 W) (l_cons (s_loc (i := 0)) (l_cons s_int l_nil)) (i := 10) rfl W.m_law_take W.fn_law_take))) (l_cons (by exact (s_tup (l_cons s_str (l_cons (by exact (s_tup (l_cons (by exact (s_tup (l_cons s_str (l_cons s_int (l_cons s_int l_nil))))) (l_cons (by exact (s_tup (l_cons s_str (l_cons (by exact (s_tup (l_cons (by exact (s_tup (l_cons s_str (l_cons (s_loc (i := 3)) (l_cons s_int l_nil))))) (l_cons (by exact (s_val W.ok (i := 11) rfl W.v8 W.r8)) l_nil)))) l_nil)))) l_nil)))) l_nil)))) l_nil))) (.cons (.cons .nil)) (.cons (i := 8) rfl (.inr rfl) (.cons (i := 4) rfl (.inl rfl) .nil)) (by kernel_rfl)) (ss_rest (st_asg (s_tup (l_cons s_str (l_cons s_str (l_cons (by exact (s_tup (l_cons (by exact (s_tup (l_cons s_str (l_cons (by exact (s_tup (l_cons (by exact (s_tup (l_cons s_str (l_cons (by exact (s_bin op_mul (s_loc (i := 2)) (s_loc (i := 2)))) (l_cons s_int l_nil))))) (l_cons (by exact (s_tup (l_cons s_str (l_cons (by exact (s_val W.ok (i := 11) rfl W.v8 W.r8)) (l_cons (by exact (s_tup (l_cons s_str (l_cons (s_loc (i := 1)) (l_cons s_int l_nil))))) l_nil))))) (l_cons (s_loc (i := 4)) l_nil))))) l_nil)))) l_nil))) l_nil)))) (i := 9) rfl (.inr rfl) (by intro _ _ _; rfl)) (ss_rest (st_asg (s_ite (t_cmp op_eq (s_bin op_mod (s_loc (i := 1)) s_int) s_int) s_str (s_ite (t_cmp op_lt (s_loc (i := 1)) s_int) s_str (s_ite (t_cmp op_gt (s_loc (i := 1)) s_int) (s_tup (l_cons s_int (l_cons s_int l_nil))) (s_tup (l_cons (s_loc (i := 2)) (l_cons s_int l_nil)))))) (i := 5) rfl (.inl rfl) (by intro _ _ _; rfl)) (ss_lam (sp_if (tp_cmp op_ne (p_told W.ok W.cas W.casK W.tell W.tab_law_roots_right W.m_law_told (i := 12) rfl (.up (j := 8) rfl (.inl rfl) (.up (j := 9) rfl (.inl rfl) (.glo .nil))) (s_call W.ok (F42 W) (l_cons (s_fre (i := 1)) (l_cons s_str (l_cons (by exact (s_tup (l_cons s_int (l_cons s_int l_nil)))) (l_cons (s_fre (i := 0)) l_nil)))) (i := 2) rfl W.m_limit W.fn_limit)) (s_loc (i := 5))) (ss_then (st_ret s_boo) ss_end) ss_end) (ss_then (st_if (t_or (t_cmp op_eq (s_bin op_mod (s_loc (i := 1)) s_int) s_int) (t_one (t_cmp op_gt (s_loc (i := 1)) s_int))) (ss_then (st_ret s_boo) ss_end) ss_end) (ss_then (st_asg (s_call W.ok (F38 W) (l_cons (s_cel (i := 9)) (l_cons (by exact (s_tup (l_cons s_str (l_cons (by exact (s_tup (l_cons s_int (l_cons (by exact s_lst (l_cons (by exact (s_tup (l_cons s_int (l_cons s_int l_nil)))) (l_cons (by exact (s_tup (l_cons s_int (l_cons s_int l_nil)))) l_nil))) l_nil)))) l_nil)))) (l_cons (by exact (s_bin op_add (s_bin op_div (s_loc (i := 1)) s_int) s_int)) l_nil))) (i := 13) rfl W.m_laurent_of W.fn_laurent_of) (i := 6) rfl (.inl rfl) (by intro _ _ _; rfl)) (ss_then (st_asg (s_ite (t_cmp op_eq (s_bin op_mod (s_bin op_mul (s_loc (i := 2)) (s_loc (i := 3))) s_int) s_int) (s_tup (l_cons (by exact (s_bin op_div (s_bin op_mul (s_loc (i := 2)) (s_loc (i := 3))) s_int)) (l_cons s_int l_nil))) (s_tup (l_cons (by exact (s_bin op_mul (s_loc (i := 2)) (s_loc (i := 3)))) (l_cons s_int l_nil)))) (i := 7) rfl (.inl rfl) (by intro _ _ _; rfl)) (ss_then (st_ret (s_and (s_cmp op_eq (s_idx (s_loc (i := 6)) s_int) (s_bin op_div (s_loc (i := 1)) s_int)) (s_one (s_cmp op_eq (s_take (s_idx (s_loc (i := 6)) s_int) s_int) (by exact s_lst (l_cons (by exact (s_tup (l_cons (s_loc (i := 2)) (l_cons s_int l_nil)))) (l_cons (s_loc (i := 7)) l_nil))))))) ss_end)))))))))
    (fun fd h1 h2 h3 => of_len1 fun a => by cases fd; cases h1; cases h2; cases h3; rfl)
end
end Mine
end

section
open PySem
namespace Mine
set_option maxRecDepth 100000
noncomputable section
noncomputable def d44g (T1 T2 T3 : DF) : DF := dDef 1 [.loc, .loc, .cel, .cel, .loc, .cel, .glo, .glo, .glo, .glo] (sThen (sAsg (.many [1, 2, 3]) (xTup (lCons (xCall T1 (lCons (xVar 0) (lCons (xInt 4) lNil))) (lCons (xCall T2 (lCons (xVar 0) (lCons (xInt 4) lNil))) (lCons (xSub (xCall T3 (lCons (xVar 0) (lCons (xInt 9) lNil))) (xInt 4)) lNil))))) (sThen (sAsg (.one 5) (xComp [.loc, .cel, .glo, .up 3, .up 2] (.one 1) (xRan1 (xVar 1)) (xComp [.loc, .loc, .up 1, .up 3] (.one 1) (xRan1 (xVar 4)) (xTup (lCons (xSub (xAdd (xVar 3) (xMul (xInt 3) (xVar 2))) (xMul (xInt 2) (xVar 1))) (lCons (xInt 1) lNil)))))) (sThen (sAsg (.one 4) (xIte (xIn (xVar 1) (xTup (lCons (xInt 0) (lCons (xVar 2) lNil)))) (xTup (lCons (xSum (xComp [.loc, .loc, .up 3] (.one 1) (xRan1 (xVar 1)) (xAdd (xVar 2) (xVar 1)))) (lCons (xInt 1) lNil))) (xStr 8))) (sThen (sRet (xEq (xTold [.up 5, .glo] (xCall d14 (lCons (xVar 0) lNil))) (xVar 4))) sEnd))))
theorem d44_g : d44 = d44g d43 d43 d43 := rfl
noncomputable def d46g (T1 T2 T3 T4 : DF) : DF := dDef 1 [.loc, .loc, .loc, .loc, .loc, .loc, .loc, .loc, .cel, .cel, .glo, .glo, .glo, .glo] (sThen (sAsg (.swap [1, 2, 3]) (xTup (lCons (xIdx (xLst (lCons (xInt 80) (lCons (xInt 4) (lCons (xInt 0) (lCons (xInt 1) (lCons (xInt 20) (lCons (xNeg (xInt 2)) (lCons (xNeg (xInt 5)) (lCons (xInt 6) lNil))))))))) (xCall T1 (lCons (xVar 0) (lCons (xInt 8) lNil)))) (lCons (xAdd (xInt 1) (xCall T2 (lCons (xVar 0) (lCons (xInt 3) lNil)))) (lCons (xIdx (xLst (lCons (xInt 0) (lCons (xInt 1) (lCons (xNeg (xInt 2)) lNil)))) (xCall T3 (lCons (xVar 0) (lCons (xInt 3) lNil)))) lNil))))) (sThen (sAsg (.many [8, 4]) (xTup (lCons (xIdx (xLst (lCons (xInt 1) (lCons (xNeg (xInt 1)) lNil))) (xCall T4 (lCons (xVar 0) (lCons (xInt 2) lNil)))) (lCons (xTup (lCons (xStr 25) (lCons (xTup (lCons (xTup (lCons (xStr 19) (lCons (xInt 1) (lCons (xInt 1) lNil)))) (lCons (xTup (lCons (xStr 26) (lCons (xTup (lCons (xTup (lCons (xStr 19) (lCons (xVar 3) (lCons (xInt 1) lNil)))) (lCons (xVal g8) lNil))) lNil))) lNil))) lNil))) lNil)))) (sThen (sAsg (.one 9) (xTup (lCons (xStr 23) (lCons (xStr 24) (lCons (xTup (lCons (xTup (lCons (xStr 26) (lCons (xTup (lCons (xTup (lCons (xStr 19) (lCons (xMul (xVar 2) (xVar 2)) (lCons (xInt 1) lNil)))) (lCons (xTup (lCons (xStr 22) (lCons (xVal g8) (lCons (xTup (lCons (xStr 19) (lCons (xVar 1) (lCons (xInt 1) lNil)))) lNil)))) (lCons (xVar 4) lNil)))) lNil))) lNil)) lNil))))) (sThen (sAsg (.one 5) (xIte (xEq (xMod (xVar 1) (xInt 2)) (xInt 1)) (xStr 10) (xIte (xLt (xVar 1) (xInt 0)) (xStr 0) (xIte (xGt (xVar 1) (xInt 0)) (xTup (lCons (xInt 0) (lCons (xInt 1) lNil))) (xTup (lCons (xVar 2) (lCons (xInt 1) lNil))))))) (sThen (sIf (xNe (xTold [.up 8, .up 9, .glo] (xCall d42 (lCons (xVar 1) (lCons (xStr 3) (lCons (xTup (lCons (xInt 0) (lCons (xInt 1) lNil))) (lCons (xVar 0) lNil)))))) (xVar 5)) (sThen (sRet (xBoo false)) sEnd) sEnd) (sThen (sIf (xOr (xEq (xMod (xVar 1) (xInt 2)) (xInt 1)) (xGt (xVar 1) (xInt 6))) (sThen (sRet (xBoo true)) sEnd) sEnd) (sThen (sAsg (.one 6) (xCall d38 (lCons (xVar 9) (lCons (xTup (lCons (xStr 3) (lCons (xTup (lCons (xInt 0) (lCons (xLst (lCons (xTup (lCons (xInt 0) (lCons (xInt 1) lNil))) (lCons (xTup (lCons (xInt 1) (lCons (xInt 1) lNil))) lNil))) lNil))) lNil))) (lCons (xAdd (xDiv (xVar 1) (xInt 2)) (xInt 2)) lNil))))) (sThen (sAsg (.one 7) (xIte (xEq (xMod (xMul (xVar 2) (xVar 3)) (xInt 2)) (xInt 0)) (xTup (lCons (xDiv (xMul (xVar 2) (xVar 3)) (xInt 2)) (lCons (xInt 1) lNil))) (xTup (lCons (xMul (xVar 2) (xVar 3)) (lCons (xInt 2) lNil))))) (sThen (sRet (xAnd (xEq (xIdx (xVar 6) (xInt 0)) (xDiv (xVar 1) (xInt 2))) (xEq (xTake (xIdx (xVar 6) (xInt 1)) (xInt 2)) (xLst (lCons (xTup (lCons (xVar 2) (lCons (xInt 1) lNil))) (lCons (xVar 7) lNil)))))) sEnd)))))))))
theorem d46_g : d46 = d46g d43 d43 d43 d43 := rfl
noncomputable def d45x (X : DX) : DF := dDef 1 [.cel, .loc, .loc, .loc, .loc, .loc, .cel, .glo, .glo, .glo, .glo, .glo] (sThen (sAsg (.many [6, 1]) (xTup (lCons X (lCons (xLst lNil) lNil)))) (sThen (sFor (.one 2) (xRan1 (xLen (xVar 6))) (sThen (sAsg (.swap [3, 4]) (xTup (lCons (xIdx (xVar 6) (xVar 2)) (lCons (xInt 1) lNil)))) (sThen (sFor (.one 5) (xRev (xTake (xVar 6) (xVar 2))) (sThen (sAsg (.swap [3, 4]) (xTup (lCons (xAdd (xMul (xVar 5) (xVar 3)) (xVar 4)) (lCons (xVar 3) lNil)))) sEnd)) (sThen (sApp 1 (xIte (xGe (xVar 4) (xInt 0)) (xTup (lCons (xVar 3) (lCons (xVar 4) lNil))) (xTup (lCons (xSub (xInt 0) (xVar 3)) (lCons (xSub (xInt 0) (xVar 4)) lNil))))) sEnd)))) (sThen (sIf (xNe (xCall d15 (lCons (xVar 6) lNil)) (xVar 1)) (sThen (sRet (xBoo false)) sEnd) sEnd) (sThen (sRet (xEq (xTold [.up 6, .glo] (xCall d16 (lCons (xVar 0) lNil))) (xIte (xGt (xIdx (xIdx (xVar 1) (xNeg (xInt 1))) (xInt 1)) (xInt 0)) (xIdx (xVar 1) (xNeg (xInt 1))) (xStr 4)))) sEnd))))
noncomputable def row45 (T1 T2 : DF) : DX := (xComp [.loc, .loc, .glo, .up 0] (.one 1) (xRan1 (xAdd (xInt 1) (xCall T1 (lCons (xVar 0) (lCons (xInt 4) lNil))))) (xSub (xCall T2 (lCons (xVar 3) (lCons (xInt 7) lNil))) (xInt 3)))
theorem d45_g : d45 = d45x (row45 d43 d43) := rfl
end
end Mine
end

section
open PySem
namespace Mine
set_option autoImplicit false
set_option maxRecDepth 100000

/-! the draws -/
abbrev bx (k : Nat) : O := .list [.ref 0, .int k]
theorem gL {β : Type} {σ : Store} {j : Nat} {l : List AV} (h : sget σ j = some (.list l)) (f : List AV → R β) : getL σ j f = f l := by
  unfold getL
  rw [getO_eq, h]
  rfl
theorem okInt_ok {i : Int} (h : small i = true) (σ : Store) : okInt i σ = R.ok (AV.int i) σ := by
  unfold okInt
  rw [fI_eq]
  show ifB (small i) _ _ = _
  rw [h]
  rfl
theorem small_of {i : Nat} (h : i < 200) : small (i : Int) = true := by
  have : ∀ i, i < 200 → small (Int.ofNat i) = true := by decide +kernel
  exact this i h
theorem nth_of {β α : Type} {l : List α} {i : Nat} {x : α} (h : l[i]? = some x) (k : α → R β) : nth l i k = k x := by
  rw [nth_eq, h]
theorem take_ok (c : C) (L : List Int) (hL : L.length ≤ 16) (k m : Nat) (hk : k < 16) (hm0 : 0 < m) (hm : m ≤ 9) (σ : Store) (hl : σ.l.length = σ.n) (h0 : sget σ 0 = some (.list (L.map .int))) (h1 : sget σ 1 = some (bx k)) :
    ∃ r : Nat, r < m ∧ d43 c [.ref 1, .int m] σ = R.ok (AV.int r) (sset σ 1 (bx (k + 1))) := by
  have hn : 1 < σ.n := sget_lt h1
  have h0' : sget (sset σ 1 (bx (k + 1))) 0 = some (.list (L.map .int)) := by rw [sget_sset hl hn, if_neg (by decide)]; exact h0
  have h1' : sget (sset σ 1 (bx (k + 1))) 1 = some (bx (k + 1)) := by rw [sget_sset hl hn, if_pos rfl]
  obtain ⟨n, l⟩ := σ
  generalize hσ' : sset ⟨n, l⟩ 1 (bx (k + 1)) = σ' at h0' h1' ⊢
  obtain ⟨n', l'⟩ := σ'
  generalize hφ : ([.lv (some (.ref 1)), .lv (some (.int m)), .gl, .gl] : Vars) = φ
  have v0 : ∀ σ, xVar 0 c φ σ = R.ok (AV.ref 1) σ := fun σ => by rw [← hφ]; rfl
  have v1 : ∀ σ, xVar 1 c φ σ = R.ok (AV.int m) σ := fun σ => by rw [← hφ]; rfl
  -- the box's count, its list
  have e1 : (xIdx (xVar 0) (xInt 1)) c φ ⟨n, l⟩ = R.ok (AV.int k) ⟨n, l⟩ := by
    show ((xVar 0 c φ ⟨n, l⟩).bind fun u σ => (xInt 1 c φ σ).bind fun v σ => onInt v fun i => onSeq u (fun l => atI l i fun v => .ok v σ) (fun k => getL σ k fun l => atI l i fun v => .ok v σ) fun _ _ => .bad) = _
    rw [v0]
    show getL ⟨n, l⟩ 1 (fun l' => atI l' 1 fun v => .ok v ⟨n, l⟩) = _
    rw [gL h1]; rfl
  have e1' : (xIdx (xVar 0) (xInt 1)) c φ ⟨n', l'⟩ = R.ok (AV.int ((k + 1 : Nat) : Int)) ⟨n', l'⟩ := by
    show ((xVar 0 c φ ⟨n', l'⟩).bind fun u σ => (xInt 1 c φ σ).bind fun v σ => onInt v fun i => onSeq u (fun l => atI l i fun v => .ok v σ) (fun k => getL σ k fun l => atI l i fun v => .ok v σ) fun _ _ => .bad) = _
    rw [v0]
    show getL ⟨n', l'⟩ 1 (fun l'' => atI l'' 1 fun v => .ok v ⟨n', l'⟩) = _
    rw [gL h1']; rfl
  have e0' : (xIdx (xVar 0) (xInt 0)) c φ ⟨n', l'⟩ = R.ok (AV.ref 0) ⟨n', l'⟩ := by
    show ((xVar 0 c φ ⟨n', l'⟩).bind fun u σ => (xInt 0 c φ σ).bind fun v σ => onInt v fun i => onSeq u (fun l => atI l i fun v => .ok v σ) (fun k => getL σ k fun l => atI l i fun v => .ok v σ) fun _ _ => .bad) = _
    rw [v0]
    show getL ⟨n', l'⟩ 1 (fun l'' => atI l'' 0 fun v => .ok v ⟨n', l'⟩) = _
    rw [gL h1']; rfl
  have ad : (xAdd (xIdx (xVar 0) (xInt 1)) (xInt 1)) c φ ⟨n, l⟩ = R.ok (AV.int ((k + 1 : Nat) : Int)) ⟨n, l⟩ := by
    show (((xIdx (xVar 0) (xInt 1)) c φ ⟨n, l⟩).bind fun u σ => (xInt 1 c φ σ).bind fun v σ => onInt u fun x => onInt v fun y => okInt (Int.add x y) σ) = _
    rw [e1]
    show okInt ((k : Int) + 1) ⟨n, l⟩ = _
    rw [show (k : Int) + 1 = ((k + 1 : Nat) : Int) by omega]
    exact okInt_ok (small_of (by omega)) _
  have put : (sPut 0 (xInt 1) (xAdd (xIdx (xVar 0) (xInt 1)) (xInt 1))) c φ ⟨n, l⟩ = R.ok (Fl.nxt φ) ⟨n', l'⟩ := by
    show (((xAdd (xIdx (xVar 0) (xInt 1)) (xInt 1)) c φ ⟨n, l⟩).bind fun v σ => getV φ 0 σ fun u => onRef u fun k => (xInt 1 c φ σ).bind fun w σ => onInt w fun n => Int.rec (motive := fun _ => R Fl) (fun n => getL σ k fun l => ifB (Nat.blt n (List.length l)) (ifB (Nat.blt n 100000) (fL (setL l n v) fun l => setO σ k (.list l) fun σ => R.ok (Fl.nxt φ) σ) .bad) .bad) (fun _ => .bad) n) = _
    rw [ad, ← hφ]
    show getL ⟨n, l⟩ 1 (fun l'' => ifB (Nat.blt 1 (List.length l'')) (ifB (Nat.blt 1 100000) (fL (setL l'' 1 (.int ((k + 1 : Nat) : Int))) fun l'' => setO ⟨n, l⟩ 1 (O.list l'') fun σ => R.ok (Fl.nxt _) σ) R.bad) R.bad) = _
    rw [gL h1]
    show setO ⟨n, l⟩ 1 (bx (k + 1)) (fun σ => R.ok (Fl.nxt _) σ) = _
    rw [setO_eq, hσ']
  have ln : (xLen (xIdx (xVar 0) (xInt 0))) c φ ⟨n', l'⟩ = R.ok (AV.int (L.length : Int)) ⟨n', l'⟩ := by
    show (((xIdx (xVar 0) (xInt 0)) c φ ⟨n', l'⟩).bind fun u σ => onSeq u (fun l => ifB (Nat.blt (List.length l) 100000) (R.ok (AV.int (.ofNat (List.length l))) σ) .bad) (fun k => getL σ k fun l => ifB (Nat.blt (List.length l) 100000) (R.ok (AV.int (.ofNat (List.length l))) σ) .bad) fun _ _ => .bad) = _
    rw [e0']
    show getL ⟨n', l'⟩ 0 (fun l'' => ifB (Nat.blt (List.length l'') 100000) (R.ok (AV.int (.ofNat (List.length l''))) ⟨n', l'⟩) R.bad) = _
    rw [gL h0', List.length_map, show Nat.blt L.length 100000 = true from Nat.ble_eq_true_of_le (by omega)]
    rfl
  have le : (xLe (xIdx (xVar 0) (xInt 1)) (xLen (xIdx (xVar 0) (xInt 0)))) c φ ⟨n', l'⟩ = R.ok (AV.boo (decide (((k + 1 : Nat) : Int) ≤ (L.length : Int)))) ⟨n', l'⟩ := by
    show (((xIdx (xVar 0) (xInt 1)) c φ ⟨n', l'⟩).bind fun u σ => ((xLen (xIdx (xVar 0) (xInt 0))) c φ σ).bind fun v σ => onInt u fun x => onInt v fun y => R.ok (AV.boo (decide (x ≤ y))) σ) = _
    rw [e1']
    show (((xLen (xIdx (xVar 0) (xInt 0))) c φ ⟨n', l'⟩).bind fun v σ => onInt v fun y => R.ok (AV.boo (decide (((k + 1 : Nat) : Int) ≤ y))) σ) = _
    rw [ln]; rfl
  have md : ∀ (a : DX) (x : Nat), a c φ ⟨n', l'⟩ = R.ok (AV.int x) ⟨n', l'⟩ → (xMod a (xVar 1)) c φ ⟨n', l'⟩ = R.ok (AV.int ((x % m : Nat) : Int)) ⟨n', l'⟩ := fun a x ha => by
    show ((a c φ ⟨n', l'⟩).bind fun u σ => (xVar 1 c φ σ).bind fun v σ => onInt u fun x => onInt v fun y => ifB (isNought y) .bad (okInt (Int.fmod x y) σ)) = _
    rw [ha]
    show ((xVar 1 c φ ⟨n', l'⟩).bind fun v σ => onInt v fun y => ifB (isNought y) .bad (okInt (Int.fmod x y) σ)) = _
    rw [v1]
    show ifB (isNought (m : Int)) .bad (okInt (Int.fmod x m) ⟨n', l'⟩) = _
    rw [show isNought (m : Int) = false by cases m with
      | zero => omega
      | succ m => rfl]
    show okInt (Int.fmod x m) ⟨n', l'⟩ = _
    rw [show Int.fmod (x : Int) (m : Int) = ((x % m : Nat) : Int) from by first | exact (Int.natCast_fmod x m).symm | exact (Int.ofNat_fmod x m).symm | simp [Int.fmod_eq_emod_of_nonneg]]
    exact okInt_ok (small_of (by have := Nat.mod_lt x hm0; omega)) _
  have whole : d43 c [.ref 1, .int m] ⟨n, l⟩ = ((sThen (sPut 0 (xInt 1) (xAdd (xIdx (xVar 0) (xInt 1)) (xInt 1))) (sThen (sIf (xLe (xIdx (xVar 0) (xInt 1)) (xLen (xIdx (xVar 0) (xInt 0)))) (sThen (sRet (xMod (xAbs (xIdx (xIdx (xVar 0) (xInt 0)) (xSub (xIdx (xVar 0) (xInt 1)) (xInt 1)))) (xVar 1))) sEnd) sEnd) (sThen (sRet (xMod (xAdd (xMul (xInt 5) (xIdx (xVar 0) (xInt 1))) (xDiv (xIdx (xVar 0) (xInt 1)) (xInt 3))) (xVar 1))) sEnd))) c φ ⟨n, l⟩).bind fun r σ => Fl.rec (motive := fun _ => R AV) (fun _ => .ok .non σ) (fun v => .ok v σ) r := by
    rw [← hφ]; rfl
  have fin : ∀ (r : R Fl) (v : AV), (sIf (xLe (xIdx (xVar 0) (xInt 1)) (xLen (xIdx (xVar 0) (xInt 0)))) (sThen (sRet (xMod (xAbs (xIdx (xIdx (xVar 0) (xInt 0)) (xSub (xIdx (xVar 0) (xInt 1)) (xInt 1)))) (xVar 1))) sEnd) sEnd) c φ ⟨n', l'⟩ = r →
      (r = .ok (.ret v) ⟨n', l'⟩ ∨ (r = R.ok (Fl.nxt φ) ⟨n', l'⟩ ∧ (xMod (xAdd (xMul (xInt 5) (xIdx (xVar 0) (xInt 1))) (xDiv (xIdx (xVar 0) (xInt 1)) (xInt 3))) (xVar 1)) c φ ⟨n', l'⟩ = .ok v ⟨n', l'⟩)) →
      ((sThen (sPut 0 (xInt 1) (xAdd (xIdx (xVar 0) (xInt 1)) (xInt 1))) (sThen (sIf (xLe (xIdx (xVar 0) (xInt 1)) (xLen (xIdx (xVar 0) (xInt 0)))) (sThen (sRet (xMod (xAbs (xIdx (xIdx (xVar 0) (xInt 0)) (xSub (xIdx (xVar 0) (xInt 1)) (xInt 1)))) (xVar 1))) sEnd) sEnd) (sThen (sRet (xMod (xAdd (xMul (xInt 5) (xIdx (xVar 0) (xInt 1))) (xDiv (xIdx (xVar 0) (xInt 1)) (xInt 3))) (xVar 1))) sEnd))) c φ ⟨n, l⟩).bind (fun r σ => Fl.rec (motive := fun _ => R AV) (fun _ => .ok .non σ) (fun v => .ok v σ) r) = .ok v ⟨n', l'⟩ := by
    intro r v hr h
    unfold sThen
    rw [put]
    show ((((sIf _ _ _) c φ ⟨n', l'⟩).bind fun r σ => Fl.rec (motive := fun _ => R Fl) (fun φ => (((xMod _ _) c φ σ).bind fun v σ => R.ok (Fl.ret v) σ).bind fun r σ => Fl.rec (motive := fun _ => R Fl) (fun φ => sEnd c φ σ) (fun v => .ok (.ret v) σ) r) (fun v => .ok (.ret v) σ) r).bind fun r σ => Fl.rec (motive := fun _ => R AV) (fun _ => .ok .non σ) (fun v => .ok v σ) r) = _
    have hr' := hr
    unfold sThen at hr'
    rw [hr']
    rcases h with rfl | ⟨rfl, h⟩
    · rfl
    · show ((((xMod _ _) c φ ⟨n', l'⟩).bind fun v σ => R.ok (Fl.ret v) σ).bind fun r σ => Fl.rec (motive := fun _ => R Fl) (fun φ => sEnd c φ σ) (fun v => .ok (.ret v) σ) r).bind (fun r σ => Fl.rec (motive := fun _ => R AV) (fun _ => .ok .non σ) (fun v => .ok v σ) r) = _
      rw [h]; rfl
  have sif : (sIf (xLe (xIdx (xVar 0) (xInt 1)) (xLen (xIdx (xVar 0) (xInt 0)))) (sThen (sRet (xMod (xAbs (xIdx (xIdx (xVar 0) (xInt 0)) (xSub (xIdx (xVar 0) (xInt 1)) (xInt 1)))) (xVar 1))) sEnd) sEnd) c φ ⟨n', l'⟩ = ifB (decide (((k + 1 : Nat) : Int) ≤ (L.length : Int))) ((((xMod (xAbs (xIdx (xIdx (xVar 0) (xInt 0)) (xSub (xIdx (xVar 0) (xInt 1)) (xInt 1)))) (xVar 1)) c φ ⟨n', l'⟩).bind fun v σ => R.ok (Fl.ret v) σ).bind fun r σ => Fl.rec (motive := fun _ => R Fl) (fun φ => sEnd c φ σ) (fun v => .ok (.ret v) σ) r) (R.ok (Fl.nxt φ) ⟨n', l'⟩) := by
    show (((xLe (xIdx (xVar 0) (xInt 1)) (xLen (xIdx (xVar 0) (xInt 0)))) c φ ⟨n', l'⟩).bind fun u σ => onBoo u fun x => ifB x ((sThen (sRet (xMod (xAbs (xIdx (xIdx (xVar 0) (xInt 0)) (xSub (xIdx (xVar 0) (xInt 1)) (xInt 1)))) (xVar 1))) sEnd) c φ σ) (sEnd c φ σ)) = _
    rw [le]; rfl
  rw [whole]
  by_cases hc : k + 1 ≤ L.length
  · have hlt : k < L.length := hc
    have sb : (xSub (xIdx (xVar 0) (xInt 1)) (xInt 1)) c φ ⟨n', l'⟩ = R.ok (AV.int (k : Int)) ⟨n', l'⟩ := by
      show (((xIdx (xVar 0) (xInt 1)) c φ ⟨n', l'⟩).bind fun u σ => (xInt 1 c φ σ).bind fun v σ => onInt u fun x => onInt v fun y => okInt (Int.sub x y) σ) = _
      rw [e1']
      show okInt (((k + 1 : Nat) : Int) - 1) ⟨n', l'⟩ = _
      rw [show ((k + 1 : Nat) : Int) - 1 = (k : Int) by omega]
      exact okInt_ok (small_of (by omega)) _
    have ix : (xIdx (xIdx (xVar 0) (xInt 0)) (xSub (xIdx (xVar 0) (xInt 1)) (xInt 1))) c φ ⟨n', l'⟩ = R.ok (AV.int (L[k])) ⟨n', l'⟩ := by
      show (((xIdx (xVar 0) (xInt 0)) c φ ⟨n', l'⟩).bind fun u σ => ((xSub (xIdx (xVar 0) (xInt 1)) (xInt 1)) c φ σ).bind fun v σ => onInt v fun i => onSeq u (fun l => atI l i fun v => .ok v σ) (fun k => getL σ k fun l => atI l i fun v => .ok v σ) fun _ _ => .bad) = _
      rw [e0']
      show (((xSub (xIdx (xVar 0) (xInt 1)) (xInt 1)) c φ ⟨n', l'⟩).bind fun v σ => onInt v fun i => getL σ 0 fun l => atI l i fun v => R.ok v σ) = _
      rw [sb]
      show getL ⟨n', l'⟩ 0 (fun l'' => atI l'' (k : Int) fun v => R.ok v ⟨n', l'⟩) = _
      rw [gL h0']
      show ifB (Nat.blt k 100000) (nth (L.map AV.int) k fun v => R.ok v ⟨n', l'⟩) .bad = _
      rw [show Nat.blt k 100000 = true from Nat.ble_eq_true_of_le (by omega)]
      show nth (L.map AV.int) k (fun v => R.ok v ⟨n', l'⟩) = _
      rw [nth_of (x := AV.int L[k]) (by rw [List.getElem?_map, List.getElem?_eq_getElem hlt]; rfl)]
    have ab : (xAbs (xIdx (xIdx (xVar 0) (xInt 0)) (xSub (xIdx (xVar 0) (xInt 1)) (xInt 1)))) c φ ⟨n', l'⟩ = R.ok (AV.int ((L[k].natAbs : Nat) : Int)) ⟨n', l'⟩ := by
      show (((xIdx (xIdx (xVar 0) (xInt 0)) (xSub (xIdx (xVar 0) (xInt 1)) (xInt 1))) c φ ⟨n', l'⟩).bind fun u σ => onInt u fun x => fI (.ofNat (Int.natAbs x)) fun i => R.ok (AV.int i) σ) = _
      rw [ix]
      show fI (.ofNat (Int.natAbs L[k])) (fun i => R.ok (AV.int i) ⟨n', l'⟩) = _
      rw [fI_eq]; rfl
    refine ⟨L[k].natAbs % m, Nat.mod_lt _ hm0, fin _ _ rfl (.inl ?_)⟩
    rw [sif, decide_eq_true (by omega : ((k + 1 : Nat) : Int) ≤ (L.length : Int)), md _ _ ab]
    rfl
  · have m5 : (xMul (xInt 5) (xIdx (xVar 0) (xInt 1))) c φ ⟨n', l'⟩ = R.ok (AV.int ((5 * (k + 1) : Nat) : Int)) ⟨n', l'⟩ := by
      show (((xIdx (xVar 0) (xInt 1)) c φ ⟨n', l'⟩).bind fun v σ => onInt v fun y => okInt (Int.mul 5 y) σ) = _
      rw [e1']
      show okInt (5 * ((k + 1 : Nat) : Int)) ⟨n', l'⟩ = _
      rw [show 5 * ((k + 1 : Nat) : Int) = ((5 * (k + 1) : Nat) : Int) by omega]
      exact okInt_ok (small_of (by omega)) _
    have d3 : (xDiv (xIdx (xVar 0) (xInt 1)) (xInt 3)) c φ ⟨n', l'⟩ = R.ok (AV.int (((k + 1) / 3 : Nat) : Int)) ⟨n', l'⟩ := by
      show (((xIdx (xVar 0) (xInt 1)) c φ ⟨n', l'⟩).bind fun u σ => (xInt 3 c φ σ).bind fun v σ => onInt u fun x => onInt v fun y => ifB (isNought y) .bad (ifB (Nat.blt (Nat.log2 (Int.natAbs y)) 9000) (okInt (Int.fdiv x y) σ) .bad)) = _
      rw [e1']
      show ifB (Nat.blt (Nat.log2 3) 9000) (okInt (Int.fdiv ((k + 1 : Nat) : Int) 3) ⟨n', l'⟩) .bad = _
      rw [show Nat.blt (Nat.log2 3) 9000 = true by decide +kernel]
      show okInt (Int.fdiv ((k + 1 : Nat) : Int) 3) ⟨n', l'⟩ = _
      rw [show Int.fdiv ((k + 1 : Nat) : Int) 3 = (((k + 1) / 3 : Nat) : Int) from by first | exact (Int.natCast_fdiv (k + 1) 3).symm | exact (Int.ofNat_fdiv (k + 1) 3).symm | simp [Int.fdiv_eq_ediv_of_nonneg]]
      exact okInt_ok (small_of (by omega)) _
    have sm : (xAdd (xMul (xInt 5) (xIdx (xVar 0) (xInt 1))) (xDiv (xIdx (xVar 0) (xInt 1)) (xInt 3))) c φ ⟨n', l'⟩ = R.ok (AV.int ((5 * (k + 1) + (k + 1) / 3 : Nat) : Int)) ⟨n', l'⟩ := by
      show (((xMul (xInt 5) (xIdx (xVar 0) (xInt 1))) c φ ⟨n', l'⟩).bind fun u σ => ((xDiv (xIdx (xVar 0) (xInt 1)) (xInt 3)) c φ σ).bind fun v σ => onInt u fun x => onInt v fun y => okInt (Int.add x y) σ) = _
      rw [m5]
      show (((xDiv (xIdx (xVar 0) (xInt 1)) (xInt 3)) c φ ⟨n', l'⟩).bind fun v σ => onInt v fun y => okInt (Int.add ((5 * (k + 1) : Nat) : Int) y) σ) = _
      rw [d3]
      show okInt (((5 * (k + 1) : Nat) : Int) + (((k + 1) / 3 : Nat) : Int)) ⟨n', l'⟩ = _
      rw [show ((5 * (k + 1) : Nat) : Int) + (((k + 1) / 3 : Nat) : Int) = ((5 * (k + 1) + (k + 1) / 3 : Nat) : Int) by omega]
      exact okInt_ok (small_of (by omega)) _
    refine ⟨(5 * (k + 1) + (k + 1) / 3) % m, Nat.mod_lt _ hm0, fin _ _ rfl (.inr ⟨?_, md _ _ sm⟩)⟩
    rw [sif, decide_eq_false (by omega : ¬ ((k + 1 : Nat) : Int) ≤ (L.length : Int))]
    rfl
end Mine
end

section
open PySem
namespace Mine
set_option autoImplicit false
set_option maxRecDepth 100000

/-- how a part ends: what it says, the box, the script -/
noncomputable def endB (r : R AV) : Option (Bool × Option O × Option O) := R.rec (motive := fun _ => Option (Bool × Option O × Option O)) (fun a σ => AV.rec (motive_1 := fun _ => Option (Bool × Option O × Option O)) (motive_2 := fun _ => PUnit) (fun _ => none) (fun b => some (b, sget σ 1, sget σ 0)) (fun _ => none) none (fun _ _ => none) (fun _ => none) (fun _ _ => none) ⟨⟩ (fun _ _ _ _ => ⟨⟩) a) (fun _ _ => none) none r
theorem endB_inv {r : R AV} {b : Bool} {x y : Option O} (h : endB r = some (b, x, y)) : ∃ σ, r = .ok (.boo b) σ ∧ sget σ 1 = x ∧ sget σ 0 = y := by
  cases r with
  | ok a σ =>
    cases a with
    | boo b' =>
      have h : some (b', sget σ 1, sget σ 0) = some (b, x, y) := h
      simp only [Option.some.injEq, Prod.mk.injEq] at h
      obtain ⟨rfl, h1, h2⟩ := h
      exact ⟨σ, rfl, h1, h2⟩
    | _ => cases h
  | ex k σ => cases h
  | bad => cases h
abbrev st2 (k : Nat) (S : List AV) : Store := ⟨2, [bx k, .list S]⟩
noncomputable abbrev kc (r : Nat) (σ : Store) : DF := fun _ _ _ => .ok (.int r) σ

/-! the trace's part -/
abbrev a44 (k : Nat) (S : List AV) : Store := ⟨5, [.cell none, .cell none, .cell none, bx k, .list S]⟩
theorem s44_1 (T T2 T3 : DF) (c : C) (S : List AV) : d44g T T2 T3 c [.ref 1] (st2 0 S) = d44g (fun _ _ _ => T c [.ref 1, .int (4 : Nat)] (a44 0 S)) T2 T3 c [.ref 1] (st2 0 S) := by kernel_rfl
theorem s44_2 (T T3 : DF) (r1 : Nat) (c : C) (S : List AV) : d44g (kc r1 (a44 1 S)) T T3 c [.ref 1] (st2 0 S) = d44g (kc r1 (a44 1 S)) (fun _ _ _ => T c [.ref 1, .int (4 : Nat)] (a44 1 S)) T3 c [.ref 1] (st2 0 S) := by kernel_rfl
theorem s44_3 (T : DF) (r1 r2 : Nat) (c : C) (S : List AV) : d44g (kc r1 (a44 1 S)) (kc r2 (a44 2 S)) T c [.ref 1] (st2 0 S) = d44g (kc r1 (a44 1 S)) (kc r2 (a44 2 S)) (fun _ _ _ => T c [.ref 1, .int (9 : Nat)] (a44 2 S)) c [.ref 1] (st2 0 S) := by kernel_rfl
theorem draws44 (c : C) (L : List Int) (hL : L.length ≤ 16) : ∃ r1 r2 r3 : Nat, r1 < 4 ∧ r2 < 4 ∧ r3 < 9 ∧ d44 c [.ref 1] (st2 0 (L.map .int)) = d44g (kc r1 (a44 1 (L.map .int))) (kc r2 (a44 2 (L.map .int))) (kc r3 (a44 3 (L.map .int))) c [.ref 1] (st2 0 (L.map .int)) := by
  obtain ⟨r1, h1, e1⟩ := take_ok c L hL 0 4 (by omega) (by omega) (by omega) (a44 0 (L.map .int)) rfl rfl rfl
  obtain ⟨r2, h2, e2⟩ := take_ok c L hL 1 4 (by omega) (by omega) (by omega) (a44 1 (L.map .int)) rfl rfl rfl
  obtain ⟨r3, h3, e3⟩ := take_ok c L hL 2 9 (by omega) (by omega) (by omega) (a44 2 (L.map .int)) rfl rfl rfl
  refine ⟨r1, r2, r3, h1, h2, h3, ?_⟩
  rw [d44_g, s44_1, e1]
  show d44g (kc r1 (a44 1 (L.map .int))) d43 d43 c [.ref 1] _ = _
  rw [s44_2, e2]
  show d44g (kc r1 (a44 1 (L.map .int))) (kc r2 (a44 2 (L.map .int))) d43 c [.ref 1] _ = _
  rw [s44_3, e3]
  rfl

/-! the roots' part -/
abbrev l8 : O := .list [.int 80, .int 4, .int 0, .int 1, .int 20, .int (-2), .int (-5), .int 6]
abbrev l3 : O := .list [.int 0, .int 1, .int (-2)]
abbrev l2 : O := .list [.int 1, .int (-1)]
abbrev a46 (k : Nat) (S : List AV) : Store := ⟨5, [l8, .cell none, .cell none, bx k, .list S]⟩
abbrev b46 (k : Nat) (S : List AV) : Store := ⟨6, [l3, l8, .cell none, .cell none, bx k, .list S]⟩
abbrev c46 (k : Nat) (S : List AV) : Store := ⟨7, [l2, l3, l8, .cell none, .cell none, bx k, .list S]⟩
theorem s46_1 (T T2 T3 T4 : DF) (k : Nat) (c : C) (S : List AV) : d46g T T2 T3 T4 c [.ref 1] (st2 k S) = d46g (fun _ _ _ => T c [.ref 1, .int (8 : Nat)] (a46 k S)) T2 T3 T4 c [.ref 1] (st2 k S) := by kernel_rfl
theorem s46_2 (T T3 T4 : DF) (k r1 : Nat) (c : C) (S : List AV) (h1 : r1 ∈ List.range 8) : d46g (kc r1 (a46 (k + 1) S)) T T3 T4 c [.ref 1] (st2 k S) = d46g (kc r1 (a46 (k + 1) S)) (fun _ _ _ => T c [.ref 1, .int (3 : Nat)] (a46 (k + 1) S)) T3 T4 c [.ref 1] (st2 k S) := by
  have e : (List.range 8).map (fun r1 => d46g (kc r1 (a46 (k + 1) S)) T T3 T4 c [.ref 1] (st2 k S)) = (List.range 8).map (fun r1 => d46g (kc r1 (a46 (k + 1) S)) (fun _ _ _ => T c [.ref 1, .int (3 : Nat)] (a46 (k + 1) S)) T3 T4 c [.ref 1] (st2 k S)) := by kernel_rfl
  exact List.map_inj_left.mp e r1 h1
theorem s46_3 (T T4 : DF) (k r1 r2 : Nat) (c : C) (S : List AV) (h1 : r1 ∈ List.range 8) (h2 : r2 ∈ List.range 3) : d46g (kc r1 (a46 (k + 1) S)) (kc r2 (a46 (k + 2) S)) T T4 c [.ref 1] (st2 k S) = d46g (kc r1 (a46 (k + 1) S)) (kc r2 (a46 (k + 2) S)) (fun _ _ _ => T c [.ref 1, .int (3 : Nat)] (b46 (k + 2) S)) T4 c [.ref 1] (st2 k S) := by
  have e : (List.range 8).map (fun r1 => (List.range 3).map fun r2 => d46g (kc r1 (a46 (k + 1) S)) (kc r2 (a46 (k + 2) S)) T T4 c [.ref 1] (st2 k S)) = (List.range 8).map (fun r1 => (List.range 3).map fun r2 => d46g (kc r1 (a46 (k + 1) S)) (kc r2 (a46 (k + 2) S)) (fun _ _ _ => T c [.ref 1, .int (3 : Nat)] (b46 (k + 2) S)) T4 c [.ref 1] (st2 k S)) := by kernel_rfl
  exact List.map_inj_left.mp (List.map_inj_left.mp e r1 h1) r2 h2
theorem s46_4 (T : DF) (k r1 r2 r3 : Nat) (c : C) (S : List AV) (h1 : r1 ∈ List.range 8) (h2 : r2 ∈ List.range 3) (h3 : r3 ∈ List.range 3) : d46g (kc r1 (a46 (k + 1) S)) (kc r2 (a46 (k + 2) S)) (kc r3 (b46 (k + 3) S)) T c [.ref 1] (st2 k S) = d46g (kc r1 (a46 (k + 1) S)) (kc r2 (a46 (k + 2) S)) (kc r3 (b46 (k + 3) S)) (fun _ _ _ => T c [.ref 1, .int (2 : Nat)] (c46 (k + 3) S)) c [.ref 1] (st2 k S) := by
  have e : (List.range 8).map (fun r1 => (List.range 3).map fun r2 => (List.range 3).map fun r3 => d46g (kc r1 (a46 (k + 1) S)) (kc r2 (a46 (k + 2) S)) (kc r3 (b46 (k + 3) S)) T c [.ref 1] (st2 k S)) = (List.range 8).map (fun r1 => (List.range 3).map fun r2 => (List.range 3).map fun r3 => d46g (kc r1 (a46 (k + 1) S)) (kc r2 (a46 (k + 2) S)) (kc r3 (b46 (k + 3) S)) (fun _ _ _ => T c [.ref 1, .int (2 : Nat)] (c46 (k + 3) S)) c [.ref 1] (st2 k S)) := by kernel_rfl
  exact List.map_inj_left.mp (List.map_inj_left.mp (List.map_inj_left.mp e r1 h1) r2 h2) r3 h3
theorem draws46 (c : C) (L : List Int) (hL : L.length ≤ 16) (k : Nat) (hk : k ≤ 12) : ∃ r1 r2 r3 r4 : Nat, r1 < 8 ∧ r2 < 3 ∧ r3 < 3 ∧ r4 < 2 ∧ d46 c [.ref 1] (st2 k (L.map .int)) = d46g (kc r1 (a46 (k + 1) (L.map .int))) (kc r2 (a46 (k + 2) (L.map .int))) (kc r3 (b46 (k + 3) (L.map .int))) (kc r4 (c46 (k + 4) (L.map .int))) c [.ref 1] (st2 k (L.map .int)) := by
  obtain ⟨r1, h1, e1⟩ := take_ok c L hL k 8 (by omega) (by omega) (by omega) (a46 k (L.map .int)) rfl rfl rfl
  obtain ⟨r2, h2, e2⟩ := take_ok c L hL (k + 1) 3 (by omega) (by omega) (by omega) (a46 (k + 1) (L.map .int)) rfl rfl rfl
  obtain ⟨r3, h3, e3⟩ := take_ok c L hL (k + 2) 3 (by omega) (by omega) (by omega) (b46 (k + 2) (L.map .int)) rfl rfl rfl
  obtain ⟨r4, h4, e4⟩ := take_ok c L hL (k + 3) 2 (by omega) (by omega) (by omega) (c46 (k + 3) (L.map .int)) rfl rfl rfl
  refine ⟨r1, r2, r3, r4, h1, h2, h3, h4, ?_⟩
  rw [d46_g, s46_1, e1]
  show d46g (kc r1 (a46 (k + 1) (L.map .int))) d43 d43 d43 c [.ref 1] _ = _
  rw [s46_2 _ _ _ _ _ _ _ (List.mem_range.mpr h1), e2]
  show d46g (kc r1 (a46 (k + 1) (L.map .int))) (kc r2 (a46 (k + 2) (L.map .int))) d43 d43 c [.ref 1] _ = _
  rw [s46_3 _ _ _ _ _ _ _ (List.mem_range.mpr h1) (List.mem_range.mpr h2), e3]
  show d46g (kc r1 (a46 (k + 1) (L.map .int))) (kc r2 (a46 (k + 2) (L.map .int))) (kc r3 (b46 (k + 3) (L.map .int))) d43 c [.ref 1] _ = _
  rw [s46_4 _ _ _ _ _ _ _ (List.mem_range.mpr h1) (List.mem_range.mpr h2) (List.mem_range.mpr h3), e4]
  rfl

/-! the cuts' part -/
abbrev p45 : Vars := [.cl 2, .lv none, .lv none, .lv none, .lv none, .lv none, .cl 3, .gl, .gl, .gl, .gl, .gl]
abbrev a45 (k : Nat) (S : List AV) : Store := ⟨4, [.cell none, .cell (some (.ref 1)), bx k, .list S]⟩
abbrev b45 (l : List AV) (k : Nat) (S : List AV) : Store := ⟨5, [.list l, .cell none, .cell (some (.ref 1)), bx k, .list S]⟩
theorem s45_1 (X : DX) (c : C) (S : List AV) : d45x X c [.ref 1] (st2 3 S) = d45x (fun _ _ _ => X c p45 (a45 3 S)) c [.ref 1] (st2 3 S) := by kernel_rfl
noncomputable abbrev y45 (T : DF) (c : C) : Vars → Store → R AV := fun ψ σ => (xSub (xCall T (lCons (xVar 3) (lCons (xInt 7) lNil))) (xInt 3)) c ψ σ
theorem row_1 (T : DF) (r : Nat) (c : C) (S : List AV) (h : r ∈ List.range 4) : row45 (kc r (a45 4 S)) T c p45 (a45 3 S) = compLoop (y45 T c) (.one 1) (.rng 0 ((r + 1 : Nat) : Int)) 4 turns 0 [.lv none, .lv none, .gl, .cl 2] (b45 [] 4 S) := by
  have e : (List.range 4).map (fun r => row45 (kc r (a45 4 S)) T c p45 (a45 3 S)) = (List.range 4).map (fun r => compLoop (y45 T c) (.one 1) (.rng 0 ((r + 1 : Nat) : Int)) 4 turns 0 [.lv none, .lv none, .gl, .cl 2] (b45 [] 4 S)) := by kernel_rfl
  exact List.map_inj_left.mp e r h
theorem row_0 (T T2 : DF) (c : C) (S : List AV) : row45 T T2 c p45 (a45 3 S) = row45 (fun _ _ _ => T c [.ref 1, .int (4 : Nat)] (a45 3 S)) T2 c p45 (a45 3 S) := by kernel_rfl
theorem small_diff {v : Nat} (h : v < 7) : small ((v : Int) - 3) = true := by
  have : ∀ v, v < 7 → small (Int.ofNat v - 3) = true := by decide +kernel
  exact this v h
theorem ifB_t {β : Type} (t f : β) : ifB true t f = t := rfl
theorem next_rng {β : Type} (a b : Int) (i : Nat) (σ : Store) (e : R β) (k : AV → R β) : next (.rng a b) i σ e k = ifB (decide (a + (i : Int) < b)) (k (.int (a + (i : Int)))) e := by
  show fI (Int.add a (.ofNat i)) (fun j => ifB (decide (j < b)) (k (.int j)) e) = _
  rw [fI_eq]; rfl
theorem row_loop (c : C) (L : List Int) (hL : L.length ≤ 16) (m : Nat) (hm : m ≤ 4) : ∀ (rem i fuel : Nat) (done : List AV) (z : Option AV), i + rem = m → rem < fuel → done.length ≤ i →
    ∃ vs : List Nat, vs.length = rem ∧ (∀ v ∈ vs, v < 7) ∧ compLoop (y45 d43 c) (.one 1) (.rng 0 (m : Int)) 4 fuel i [.lv none, .lv z, .gl, .cl 2] (b45 done (4 + i) (L.map .int)) = .ok (.ref 4) (b45 (done ++ vs.map fun v : Nat => AV.int ((v : Int) - 3)) (4 + i + rem) (L.map .int))
  | rem, i, 0, done, z, _, hf, _ => absurd hf (Nat.not_lt_zero _)
  | 0, i, fuel + 1, done, z, hi, hf, hd => by
    refine ⟨[], rfl, (fun _ h => by cases h), ?_⟩
    show next (AV.rng 0 (m : Int)) i (b45 done (4 + i) (L.map .int)) (R.ok (AV.ref 4) (b45 done (4 + i) (L.map .int))) _ = _
    rw [next_rng, decide_eq_false (by omega : ¬ (0 + (i : Int) < (m : Int)))]
    show R.ok (AV.ref 4) (b45 done (4 + i) (L.map .int)) = R.ok (AV.ref 4) (b45 (done ++ []) (4 + i + 0) (L.map .int))
    rw [List.append_nil, Nat.add_zero]
  | rem + 1, i, fuel + 1, done, z, hi, hf, hd => by
    obtain ⟨r, hr, e⟩ := take_ok c L hL (4 + i) 7 (by omega) (by omega) (by omega) (b45 done (4 + i) (L.map .int)) rfl rfl rfl
    obtain ⟨vs, h1, h2, h3⟩ := row_loop c L hL m hm rem (i + 1) fuel (done ++ [.int ((r : Int) - 3)]) (some (.int (0 + (i : Int)))) (by omega) (by omega) (by rw [List.length_append]; simp; omega)
    refine ⟨r :: vs, by rw [List.length_cons, h1], fun v hv => ?_, ?_⟩
    · rcases List.mem_cons.mp hv with rfl | hv
      · exact hr
      · exact h2 v hv
    have hy : y45 d43 c [.lv none, .lv (some (.int (0 + (i : Int)))), .gl, .cl 2] (b45 done (4 + i) (L.map .int)) = .ok (.int ((r : Int) - 3)) (b45 done (4 + i + 1) (L.map .int)) := by
      show ((d43 c [.ref 1, .int (7 : Nat)] (b45 done (4 + i) (L.map .int))).bind fun u σ => (xInt 3 c _ σ).bind fun v σ => onInt u fun x => onInt v fun y => okInt (Int.sub x y) σ) = _
      rw [e]
      show okInt ((r : Int) - 3) (b45 done (4 + i + 1) (L.map .int)) = _
      exact okInt_ok (small_diff hr) _
    show next (AV.rng 0 (m : Int)) i (b45 done (4 + i) (L.map .int)) (R.ok (AV.ref 4) (b45 done (4 + i) (L.map .int))) (fun v => (putT (.one 1) v [.lv none, .lv z, .gl, .cl 2] (b45 done (4 + i) (L.map .int))).bind fun ψ σ => (y45 d43 c ψ σ).sure fun u σ => getL σ 4 fun l => ifB (Nat.blt (List.length l) 100000) (fL (l ++ [u]) fun l => setO σ 4 (.list l) fun σ => fN (i + 1) fun i => compLoop (y45 d43 c) (.one 1) (.rng 0 (m : Int)) 4 fuel i ψ σ) .bad) = _
    rw [next_rng, decide_eq_true (by omega : (0 + (i : Int)) < (m : Int))]
    have hp : putT (.one 1) (.int (0 + (i : Int))) [.lv none, .lv z, .gl, .cl 2] (b45 done (4 + i) (L.map .int)) = .ok [.lv none, .lv (some (.int (0 + (i : Int)))), .gl, .cl 2] (b45 done (4 + i) (L.map .int)) := rfl
    rw [ifB_t, hp, bind_ok, hy, sure_ok]
    show ifB (Nat.blt (List.length done) 100000) (fL (done ++ [.int ((r : Int) - 3)]) fun l => setO (b45 done (4 + i + 1) (L.map .int)) 4 (.list l) fun σ => fN (i + 1) fun i' => compLoop (y45 d43 c) (.one 1) (.rng 0 (m : Int)) 4 fuel i' [.lv none, .lv (some (.int (0 + (i : Int)))), .gl, .cl 2] σ) .bad = _
    rw [show Nat.blt (List.length done) 100000 = true from Nat.ble_eq_true_of_le (by omega)]
    show fL (done ++ [.int ((r : Int) - 3)]) (fun l => setO (b45 done (4 + i + 1) (L.map .int)) 4 (.list l) fun σ => fN (i + 1) fun i' => compLoop (y45 d43 c) (.one 1) (.rng 0 (m : Int)) 4 fuel i' [.lv none, .lv (some (.int (0 + (i : Int)))), .gl, .cl 2] σ) = _
    rw [fL_eq]
    show fN (i + 1) (fun i' => compLoop (y45 d43 c) (.one 1) (.rng 0 (m : Int)) 4 fuel i' [.lv none, .lv (some (.int (0 + (i : Int)))), .gl, .cl 2] (b45 (done ++ [.int ((r : Int) - 3)]) (4 + i + 1) (L.map .int))) = _
    rw [fN_eq]
    have e1 : 4 + i + 1 = 4 + (i + 1) := by omega
    have e2 : 4 + i + (rem + 1) = 4 + (i + 1) + rem := by omega
    rw [e1, e2, h3, List.append_assoc]
    rfl
theorem draws45 (c : C) (L : List Int) (hL : L.length ≤ 16) : ∃ vs : List Nat, 1 ≤ vs.length ∧ vs.length ≤ 4 ∧ (∀ v ∈ vs, v < 7) ∧ d45 c [.ref 1] (st2 3 (L.map .int)) = d45x (fun _ _ _ => .ok (.ref 4) (b45 (vs.map fun v : Nat => AV.int ((v : Int) - 3)) (4 + vs.length) (L.map .int))) c [.ref 1] (st2 3 (L.map .int)) := by
  obtain ⟨r, hr, e⟩ := take_ok c L hL 3 4 (by omega) (by omega) (by omega) (a45 3 (L.map .int)) rfl rfl rfl
  obtain ⟨vs, h1, h2, h3⟩ := row_loop c L hL (r + 1) (by omega) (r + 1) 0 turns [] none (by omega) (by unfold turns; omega) (Nat.zero_le _)
  refine ⟨vs, by omega, by omega, h2, ?_⟩
  rw [d45_g, s45_1, row_0, e]
  have e2 := row_1 d43 r c (L.map .int) (List.mem_range.mpr hr)
  rw [h3] at e2
  show d45x (fun _ _ _ => row45 (kc r (a45 4 (L.map .int))) d43 c p45 (a45 3 (L.map .int))) c [.ref 1] _ = _
  rw [e2, h1]
  rfl
end Mine
end

section
open PySem
namespace Mine
set_option autoImplicit false
set_option maxRecDepth 100000
theorem map_rep {α β : Type} {l : List α} {F : α → β} {n : Nat} {x : β} (h : l.map F = List.replicate n x) {a : α} (ha : a ∈ l) : F a = x := List.eq_of_mem_replicate (h ▸ List.mem_map_of_mem ha)
theorem tr_all (S : List AV) : (List.range 4).map (fun r1 => (List.range 4).map fun r2 => (List.range 9).map fun r3 => endB (d44g (kc r1 (a44 1 S)) (kc r2 (a44 2 S)) (kc r3 (a44 3 S)) (cc 6) [.ref 1] (st2 0 S))) = List.replicate 4 (List.replicate 4 (List.replicate 9 (some (true, some (bx 3), some (.list S))))) := by kernel_rfl
theorem trace_ok (L : List Int) (hL : L.length ≤ 16) : ∃ σ, d44 (cc 6) [.ref 1] (st2 0 (L.map .int)) = .ok (.boo true) σ ∧ sget σ 1 = some (bx 3) ∧ sget σ 0 = some (.list (L.map .int)) := by
  obtain ⟨r1, r2, r3, h1, h2, h3, e⟩ := draws44 (cc 6) L hL
  rw [e]
  exact endB_inv (map_rep (map_rep (map_rep (tr_all (L.map .int)) (List.mem_range.mpr h1)) (List.mem_range.mpr h2)) (List.mem_range.mpr h3))
end Mine
end

section
open PySem
namespace Mine
set_option autoImplicit false
set_option maxRecDepth 100000

/-! plain: cuts reckoned from the end, and from the front -/
noncomputable def bk : Int → Int → List Int → Int × Int
  | t, b, [] => (t, b)
  | t, b, n :: r => bk (n * t + b) t r
noncomputable def nrm (p : Int × Int) : Int × Int := if 0 ≤ p.2 then p else (0 - p.1, 0 - p.2)
noncomputable def dueF : List Int → List Int → List (Int × Int)
  | _, [] => []
  | pre, m :: r => nrm (bk m 1 pre.reverse) :: dueF (pre ++ [m]) r
noncomputable def stp (p q : Int × Int) (n : Int) : Int × Int := (n * p.1 + q.1, n * p.2 + q.2)
noncomputable def cvF : Int × Int → Int × Int → List Int → List (Int × Int)
  | _, _, [] => []
  | p, q, n :: r => nrm (stp p q n) :: cvF (stp p q n) p r
theorem cv_due : ∀ (rest pre : List Int) (p q : Int × Int), (∀ t b : Int, (p.1 * t + q.1 * b, p.2 * t + q.2 * b) = bk t b pre.reverse) → cvF p q rest = dueF pre rest
  | [], _, _, _, _ => rfl
  | m :: r, pre, p, q, h => by
    have e : stp p q m = bk m 1 pre.reverse := by
      rw [← h m 1]
      unfold stp
      exact Prod.ext (by show m * p.1 + q.1 = p.1 * m + q.1 * 1; grind) (by show m * p.2 + q.2 = p.2 * m + q.2 * 1; grind)
    show nrm (stp p q m) :: cvF (stp p q m) p r = nrm (bk m 1 pre.reverse) :: dueF (pre ++ [m]) r
    rw [cv_due r (pre ++ [m]) (stp p q m) p fun t b => ?_, e]
    rw [List.reverse_append]
    show _ = bk (m * t + b) t pre.reverse
    rw [← h (m * t + b) t]
    unfold stp
    exact Prod.ext (by show (m * p.1 + q.1) * t + p.1 * b = p.1 * (m * t + b) + q.1 * t; grind) (by show (m * p.2 + q.2) * t + p.2 * b = p.2 * (m * t + b) + q.2 * t; grind)
theorem cv_all (row : List Int) : cvF (1, 0) (0, 1) row = dueF [] row := cv_due row [] _ _ fun t b => by
  show (1 * t + 0 * b, 0 * t + 1 * b) = (t, b)
  exact Prod.ext (by show 1 * t + 0 * b = t; omega) (by show 0 * t + 1 * b = b; omega)
theorem step_le {n t b : Int} {M : Nat} (hn : n.natAbs ≤ 3) (ht : t.natAbs ≤ M) (hb : b.natAbs ≤ M) : (n * t).natAbs ≤ 3 * M ∧ (n * t + b).natAbs ≤ 4 * M := by
  have h : (n * t).natAbs ≤ 3 * M := by rw [Int.natAbs_mul]; exact Nat.mul_le_mul hn ht
  exact ⟨h, by omega⟩
theorem bk_le : ∀ (ns : List Int) (t b : Int) (M : Nat), (∀ n ∈ ns, n.natAbs ≤ 3) → t.natAbs ≤ M → b.natAbs ≤ M → (bk t b ns).1.natAbs ≤ M * 4 ^ ns.length ∧ (bk t b ns).2.natAbs ≤ M * 4 ^ (ns.length - 1)
  | [], t, b, M, _, ht, hb => ⟨by show t.natAbs ≤ M * 1; omega, by show b.natAbs ≤ M * 1; omega⟩
  | n :: r, t, b, M, hn, ht, hb => by
    obtain ⟨h1, h2⟩ := bk_le r (n * t + b) t (4 * M) (fun x hx => hn x (.tail _ hx)) (step_le (hn n (.head _)) ht hb).2 (by omega)
    refine ⟨?_, ?_⟩
    · show (bk (n * t + b) t r).1.natAbs ≤ M * 4 ^ (r.length + 1)
      rw [Nat.pow_succ]
      have : 4 * M * 4 ^ r.length = M * (4 ^ r.length * 4) := by rw [Nat.mul_comm 4 M, Nat.mul_assoc, Nat.mul_comm 4]
      omega
    · show (bk (n * t + b) t r).2.natAbs ≤ M * 4 ^ r.length
      cases r with
      | nil => show t.natAbs ≤ M * 1; omega
      | cons x r =>
        have e : (x :: r).length = r.length + 1 := rfl
        rw [e, Nat.pow_succ]
        have h2 : (bk (n * t + b) t (x :: r)).2.natAbs ≤ 4 * M * 4 ^ r.length := h2
        have : 4 * M * 4 ^ r.length = M * (4 ^ r.length * 4) := by rw [Nat.mul_comm 4 M, Nat.mul_assoc, Nat.mul_comm 4]
        omega
theorem bk_one : ∀ (ns : List Int) (t b : Int), (∃ u v : Int, u * t + v * b = 1) → ∃ u v : Int, u * (bk t b ns).1 + v * (bk t b ns).2 = 1
  | [], _, _, h => h
  | n :: r, t, b, ⟨u, v, h⟩ => bk_one r (n * t + b) t ⟨v, u - v * n, by grind⟩
theorem nrm_one {p : Int × Int} (h : ∃ u v : Int, u * p.1 + v * p.2 = 1) : ∃ u v : Int, u * (nrm p).1 + v * (nrm p).2 = 1 := by
  obtain ⟨u, v, h⟩ := h
  unfold nrm
  split
  · exact ⟨u, v, h⟩
  · exact ⟨0 - u, 0 - v, by show (0 - u) * (0 - p.1) + (0 - v) * (0 - p.2) = 1; grind⟩
theorem nrm_abs (p : Int × Int) : (nrm p).1.natAbs = p.1.natAbs ∧ (nrm p).2.natAbs = p.2.natAbs ∧ 0 ≤ (nrm p).2 := by
  unfold nrm
  split
  · exact ⟨rfl, rfl, by assumption⟩
  · exact ⟨by show (0 - p.1).natAbs = _; omega, by show (0 - p.2).natAbs = _; omega, by show 0 ≤ 0 - p.2; omega⟩
theorem due_last : ∀ (rest pre : List Int), rest ≠ [] → (∀ n ∈ pre, n.natAbs ≤ 3) → (∀ n ∈ rest, n.natAbs ≤ 3) → pre.length + rest.length ≤ 4 →
    ∃ (ps : List (Int × Int)) (p : Int × Int), dueF pre rest = ps ++ [p] ∧ p.1.natAbs ≤ 192 ∧ p.2.natAbs ≤ 48 ∧ 0 ≤ p.2 ∧ ∃ u v : Int, u * p.1 + v * p.2 = 1
  | [], _, h, _, _, _ => absurd rfl h
  | [m], pre, _, h1, h2, hl => by
    have hl : pre.length ≤ 3 := by have : [m].length = 1 := rfl; omega
    obtain ⟨e1, e2, e3⟩ := nrm_abs (bk m 1 pre.reverse)
    obtain ⟨b1, b2⟩ := bk_le pre.reverse m 1 3 (fun n hn => h1 n (List.mem_reverse.mp hn)) (h2 m (.head _)) (by decide)
    rw [List.length_reverse] at b1 b2
    have c1 : 4 ^ pre.length ≤ 4 ^ 3 := Nat.pow_le_pow_right (by decide) hl
    have c2 : 4 ^ (pre.length - 1) ≤ 4 ^ 2 := Nat.pow_le_pow_right (by decide) (by omega)
    exact ⟨[], _, rfl, by rw [e1]; omega, by rw [e2]; omega, e3, nrm_one (bk_one _ _ _ ⟨0, 1, by omega⟩)⟩
  | m :: m' :: r, pre, _, h1, h2, hl => by
    obtain ⟨ps, p, e, h⟩ := due_last (m' :: r) (pre ++ [m]) (by simp) (fun n hn => by
      rcases List.mem_append.mp hn with hn | hn
      · exact h1 n hn
      · rw [List.mem_singleton.mp hn]; exact h2 m (.head _)) (fun n hn => h2 n (.tail _ hn)) (by rw [List.length_append]; simp only [List.length_cons, List.length_nil] at hl ⊢; omega)
    refine ⟨nrm (bk m 1 pre.reverse) :: ps, p, ?_, h⟩
    show nrm (bk m 1 pre.reverse) :: dueF (pre ++ [m]) (m' :: r) = _
    rw [e]; rfl
theorem gcd_one {p q : Int} (h : ∃ u v : Int, u * p + v * q = 1) : Nat.gcd p.natAbs q.natAbs = 1 := by
  obtain ⟨u, v, h⟩ := h
  have h1 : ((Nat.gcd p.natAbs q.natAbs : Nat) : Int) ∣ p := Int.gcd_dvd_left ..
  have h2 : ((Nat.gcd p.natAbs q.natAbs : Nat) : Int) ∣ q := Int.gcd_dvd_right ..
  have h3 : ((Nat.gcd p.natAbs q.natAbs : Nat) : Int) ∣ 1 := h ▸ Int.dvd_add (Int.dvd_mul_of_dvd_right h1) (Int.dvd_mul_of_dvd_right h2)
  have := Int.natAbs_dvd_natAbs.mpr h3
  exact Nat.dvd_one.mp this
theorem small_le {i : Int} (h : i.natAbs ≤ 1000000) : small i = true := by
  unfold small
  refine Nat.ble_eq_true_of_le ?_
  by_cases h0 : i.natAbs = 0
  · rw [h0]; decide
  · have h1 : Nat.log2 i.natAbs < 20 := (Nat.log2_lt h0).mpr (by omega)
    omega
end Mine
end

section
open PySem
namespace Mine
set_option autoImplicit false
set_option maxRecDepth 100000

/-! what one construct comes to -/
section
variable {c : C} {φ φ1 φ2 : Vars} {σ σ1 σ2 : Store} {a b e : DX} {l : DL} {u v : AV} {vs : List AV}
theorem e_two {f : AV → AV → Store → R AV} {r : R AV} (ha : a c φ σ = .ok u σ1) (hb : b c φ σ1 = .ok v σ2) (h : f u v σ2 = r) : xTwo f a b c φ σ = r := by
  unfold xTwo; rw [ha, bind_ok, hb, bind_ok]; exact h
theorem e_ints {f : Int → Int → Store → R AV} {x y : Int} {r : R AV} (ha : a c φ σ = .ok (.int x) σ1) (hb : b c φ σ1 = .ok (.int y) σ2) (h : f x y σ2 = r) : xInts f a b c φ σ = r := by
  unfold xInts; rw [ha, bind_ok, hb, bind_ok]; exact h
theorem e_one {f : AV → Store → R AV} {r : R AV} (ha : a c φ σ = .ok u σ1) (h : f u σ1 = r) : xOne f a c φ σ = r := by
  unfold xOne; rw [ha, bind_ok]; exact h
theorem e_cons (ha : a c φ σ = .ok v σ1) (hl : l c φ σ1 = .ok vs σ2) : lCons a l c φ σ = .ok (v :: vs) σ2 := by
  unfold lCons; rw [ha, bind_ok, hl, bind_ok]
theorem e_nil : lNil c φ σ = .ok [] σ := rfl
theorem e_tup (hl : l c φ σ = .ok vs σ1) : xTup l c φ σ = .ok (.tup vs) σ1 := by
  unfold xTup; rw [hl, bind_ok]
theorem e_ite {x : Bool} {r : R AV} {t : DX} (ht : t c φ σ = .ok (.boo x) σ1) (h : ifB x (a c φ σ1) (b c φ σ1) = r) : xIte t a b c φ σ = r := by
  unfold xIte; rw [ht, bind_ok]; exact h
theorem e_call {f : DF} {r : R AV} (hl : l c φ σ = .ok vs σ1) (h : f c vs σ1 = r) : xCall f l c φ σ = r := by
  unfold xCall; rw [hl, bind_ok]; exact h
theorem e_call_ex {f : DF} {k : Nat} (hl : l c φ σ = .ok vs σ1) (h : f c vs σ1 = .ex k σ2) : xCall f l c φ σ = .ex k σ2 := e_call hl h
theorem e_asg {t : T} (ha : a c φ σ = .ok v σ1) (hp : putT t v φ σ1 = .ok φ1 σ2) : sAsg t a c φ σ = .ok (.nxt φ1) σ2 := by
  unfold sAsg; rw [ha, bind_ok, hp, bind_ok]
theorem e_thn {s t : DS} {r : R Fl} (hs : s c φ σ = .ok (.nxt φ1) σ1) (ht : t c φ1 σ1 = r) : sThen s t c φ σ = r := by
  unfold sThen; rw [hs, bind_ok]; exact ht
theorem e_thn_ret {s t : DS} (hs : s c φ σ = .ok (.ret v) σ1) : sThen s t c φ σ = .ok (.ret v) σ1 := by
  unfold sThen; rw [hs, bind_ok]
theorem e_thn_ex {s t : DS} {k : Nat} (hs : s c φ σ = .ex k σ1) : sThen s t c φ σ = .ex k σ1 := by
  unfold sThen; rw [hs, bind_ex]
theorem e_ret (ha : a c φ σ = .ok v σ1) : sRet a c φ σ = .ok (.ret v) σ1 := by
  unfold sRet; rw [ha, bind_ok]
theorem e_ret_ex {k : Nat} (ha : a c φ σ = .ex k σ1) : sRet a c φ σ = .ex k σ1 := by
  unfold sRet; rw [ha, bind_ex]
theorem e_if {x : Bool} {r : R Fl} {s t : DS} (ha : a c φ σ = .ok (.boo x) σ1) (h : ifB x (s c φ σ1) (t c φ σ1) = r) : sIf a s t c φ σ = r := by
  unfold sIf; rw [ha, bind_ok]; exact h
theorem e_for {t : T} {r : R Fl} {s : DS} (ha : a c φ σ = .ok u σ1) (h : walk u σ1 (forLoop (fun φ σ => s c φ σ) t u turns 0 φ σ1) = r) : sFor t a s c φ σ = r := by
  unfold sFor; rw [ha, bind_ok]; exact h
theorem e_app {i k : Nat} {xs : List AV} (hv : φ[i]? = some (.lv (some (.ref k)))) (h : sget σ k = some (.list xs)) (ha : a c φ σ = .ok v σ) (hl : xs.length < 100000) : sApp i a c φ σ = .ok (.nxt φ) (sset σ k (.list (xs ++ [v]))) := by
  unfold sApp
  rw [getV_lv σ _ hv]
  show getL σ k (fun _ => (a c φ σ).bind fun v σ => getL σ k fun l => ifB (Nat.blt (List.length l) 100000) (fL (l ++ [v]) fun l => setO σ k (.list l) fun σ => R.ok (Fl.nxt φ) σ) .bad) = _
  rw [gL h, ha, bind_ok, gL h, show Nat.blt xs.length 100000 = true from Nat.ble_eq_true_of_le hl, ifB_t, fL_eq, setO_eq]
theorem e_def {m : Nat} {ns : List NK} {s : DS} (hm : Nat.beq vs.length m = true) (hs : start ns vs σ = .ok φ σ1) (hb : s c φ σ1 = .ok (.ret v) σ2) : dDef m ns s c vs σ = .ok v σ2 := by
  unfold dDef; rw [hm, ifB_t, hs, bind_ok, hb, bind_ok]
theorem e_def_ex {m k : Nat} {ns : List NK} {s : DS} (hm : Nat.beq vs.length m = true) (hs : start ns vs σ = .ok φ σ1) (hb : s c φ σ1 = .ex k σ2) : dDef m ns s c vs σ = .ex k σ2 := by
  unfold dDef; rw [hm, ifB_t, hs, bind_ok, hb, bind_ex]
theorem walk_ref {β : Type} {r : Nat} {xs : List AV} (h : sget σ r = some (.list xs)) (k : R β) : walk (.ref r) σ k = k := gL h _
theorem walk_rng {β : Type} {x y : Int} (k : R β) : walk (.rng x y) σ k = k := rfl
end

/-! loops -/
section
variable {B : Vars → Store → R Fl} {t : T} {φ φ1 φ2 : Vars} {σ σ1 σ2 : Store} {fuel i : Nat} {res : R Fl}
theorem for_go {it x : AV} (hn : next it i σ (.ok (.nxt φ) σ) (fun v => (putT t v φ σ).bind fun φ σ => (B φ σ).bind fun r σ => Fl.rec (motive := fun _ => R Fl) (fun φ => fN (i + 1) fun i => forLoop B t it fuel i φ σ) (fun v => .ok (.ret v) σ) r) =
      ((putT t x φ σ).bind fun φ σ => (B φ σ).bind fun r σ => Fl.rec (motive := fun _ => R Fl) (fun φ => fN (i + 1) fun i => forLoop B t it fuel i φ σ) (fun v => .ok (.ret v) σ) r))
    (hp : putT t x φ σ = .ok φ1 σ) (hb : B φ1 σ = .ok (.nxt φ2) σ2) (hr : forLoop B t it fuel (i + 1) φ2 σ2 = res) : forLoop B t it (fuel + 1) i φ σ = res := by
  show next it i σ (.ok (.nxt φ) σ) (fun v => (putT t v φ σ).bind fun φ σ => (B φ σ).bind fun r σ => Fl.rec (motive := fun _ => R Fl) (fun φ => fN (i + 1) fun i => forLoop B t it fuel i φ σ) (fun v => .ok (.ret v) σ) r) = res
  rw [hn, hp, bind_ok, hb, bind_ok]
  show fN (i + 1) (fun i => forLoop B t it fuel i φ2 σ2) = res
  rw [fN_eq]
  exact hr
theorem next_ref_go {β : Type} {r : Nat} {xs : List AV} {x : AV} (h : sget σ r = some (.list xs)) (hx : xs[i]? = some x) (d : R β) (k : AV → R β) : next (.ref r) i σ d k = k x := by
  show getL σ r (fun l => nextTup l i d k) = _
  rw [gL h]
  unfold nextTup
  rw [show Nat.blt i xs.length = true from Nat.ble_eq_true_of_le (List.getElem?_eq_some_iff.mp hx).1, ifB_t, nth_of hx]
theorem next_ref_end {β : Type} {r : Nat} {xs : List AV} (h : sget σ r = some (.list xs)) (hi : xs.length ≤ i) (d : R β) (k : AV → R β) : next (.ref r) i σ d k = d := by
  show getL σ r (fun l => nextTup l i d k) = _
  rw [gL h]
  unfold nextTup
  rw [show Nat.blt i xs.length = false from Bool.eq_false_iff.mpr fun q => absurd (Nat.le_of_ble_eq_true q) (by omega)]
  rfl
theorem for_ref_go {r : Nat} {xs : List AV} {x : AV} (h : sget σ r = some (.list xs)) (hx : xs[i]? = some x) (hp : putT t x φ σ = .ok φ1 σ) (hb : B φ1 σ = .ok (.nxt φ2) σ2) (hr : forLoop B t (.ref r) fuel (i + 1) φ2 σ2 = res) : forLoop B t (.ref r) (fuel + 1) i φ σ = res :=
  for_go (next_ref_go h hx _ _) hp hb hr
theorem for_ref_end {r : Nat} {xs : List AV} (h : sget σ r = some (.list xs)) (hi : xs.length ≤ i) : forLoop B t (.ref r) (fuel + 1) i φ σ = .ok (.nxt φ) σ := next_ref_end h hi _ _
theorem for_rng_go {m : Nat} (hi : i < m) (hp : putT t (.int (i : Int)) φ σ = .ok φ1 σ) (hb : B φ1 σ = .ok (.nxt φ2) σ2) (hr : forLoop B t (.rng 0 (m : Int)) fuel (i + 1) φ2 σ2 = res) : forLoop B t (.rng 0 (m : Int)) (fuel + 1) i φ σ = res :=
  for_go (x := .int (i : Int)) (by rw [next_rng, decide_eq_true (by omega : 0 + (i : Int) < (m : Int)), ifB_t, Int.zero_add]) hp hb hr
theorem for_rng_end {m : Nat} (hi : m ≤ i) : forLoop B t (.rng 0 (m : Int)) (fuel + 1) i φ σ = .ok (.nxt φ) σ := by
  show next _ i σ _ _ = _
  rw [next_rng, decide_eq_false (by omega : ¬ (0 + (i : Int) < (m : Int)))]
  rfl
end
end Mine
end

section
open PySem
namespace Mine
set_option autoImplicit false
set_option maxRecDepth 100000

/-! the law's loop -/
abbrev ap (p : Int × Int) : AV := .tup [.int p.1, .int p.2]
abbrev fr45 (m t b z : Option AV) : Vars := [.cl 2, .lv (some (.ref 5)), .lv m, .lv t, .lv b, .lv z, .cl 3, .gl, .gl, .gl, .gl, .gl]
noncomputable abbrev in45 : DS := sThen (sAsg (.swap [3, 4]) (xTup (lCons (xAdd (xMul (xVar 5) (xVar 3)) (xVar 4)) (lCons (xVar 3) lNil)))) sEnd
noncomputable abbrev nrm45 : DX := xIte (xGe (xVar 4) (xInt 0)) (xTup (lCons (xVar 3) (lCons (xVar 4) lNil))) (xTup (lCons (xSub (xInt 0) (xVar 3)) (lCons (xSub (xInt 0) (xVar 4)) lNil)))
noncomputable abbrev turn45 : DS := sThen (sAsg (.swap [3, 4]) (xTup (lCons (xIdx (xVar 6) (xVar 2)) (lCons (xInt 1) lNil)))) (sThen (sFor (.one 5) (xRev (xTake (xVar 6) (xVar 2))) in45) (sThen (sApp 1 nrm45) sEnd))
theorem in45_ok (c : C) (m : Option AV) {t b n : Int} (σ : Store) (h1 : small (n * t) = true) (h2 : small (n * t + b) = true) :
    in45 c (fr45 m (some (.int t)) (some (.int b)) (some (.int n))) σ = .ok (.nxt (fr45 m (some (.int (n * t + b))) (some (.int t)) (some (.int n)))) σ :=
  e_thn (e_asg (e_tup (e_cons (e_ints (e_ints (x := n) (y := t) rfl rfl (okInt_ok h1 σ)) (y := b) rfl (okInt_ok h2 σ)) (e_cons (v := .int t) (σ1 := σ) rfl e_nil))) rfl) rfl
theorem inner45 (c : C) (m : Option AV) (r : Nat) (σ : Store) : ∀ (rest pre : List Int) (fuel : Nat) (t b : Int) (z : Option AV) (M : Nat), sget σ r = some (.list ((pre ++ rest).map .int)) → rest.length < fuel → (∀ n ∈ rest, n.natAbs ≤ 3) → t.natAbs ≤ M → b.natAbs ≤ M → M * 4 ^ rest.length ≤ 1000 →
    ∃ z', forLoop (fun φ σ => in45 c φ σ) (.one 5) (.ref r) fuel pre.length (fr45 m (some (.int t)) (some (.int b)) z) σ = .ok (.nxt (fr45 m (some (.int (bk t b rest).1)) (some (.int (bk t b rest).2)) z')) σ
  | _, _, 0, _, _, _, _, _, hf, _, _, _, _ => absurd hf (Nat.not_lt_zero _)
  | [], pre, fuel + 1, t, b, z, M, h, hf, _, _, _, _ => ⟨z, for_ref_end h (by rw [List.append_nil, List.length_map]; exact Nat.le_refl _)⟩
  | n :: rest, pre, fuel + 1, t, b, z, M, h, hf, hn, ht, hb, hM => by
    have hM' : 4 * M * 4 ^ rest.length ≤ 1000 := by
      have e : (n :: rest).length = rest.length + 1 := rfl
      rw [e, Nat.pow_succ] at hM
      rw [Nat.mul_comm 4 M, Nat.mul_assoc, Nat.mul_comm 4]
      exact hM
    have hp : 0 < 4 ^ rest.length := Nat.pow_pos (by decide)
    have hM4 : 4 * M ≤ 1000 := Nat.le_trans (Nat.le_mul_of_pos_right _ hp) hM'
    obtain ⟨s1, s2⟩ := step_le (hn n (.head _)) ht hb
    have hl : pre.length + 1 = (pre ++ [n]).length := by rw [List.length_append]; rfl
    obtain ⟨z', e⟩ := inner45 c m r σ rest (pre ++ [n]) fuel (n * t + b) t (some (.int n)) (4 * M) (by rw [List.append_assoc]; exact h) (Nat.lt_of_succ_lt_succ hf) (fun x hx => hn x (.tail _ hx)) s2 (by omega) hM'
    refine ⟨z', for_ref_go h (x := .int n) ?_ rfl (in45_ok c m σ (small_le (by omega)) (small_le (by omega))) ?_⟩
    · rw [List.map_append, List.getElem?_append_right (by rw [List.length_map]; exact Nat.le_refl _), List.length_map, Nat.sub_self]; rfl
    · rw [hl]; exact e

abbrev st45 (junk : List O) (due row : List AV) (k : Nat) (S : List AV) : Store := ⟨junk.length + 6, junk ++ [.list due, .list row, .cell (some (.ref 4)), .cell (some (.ref 1)), bx k, .list S]⟩
theorem sget45 {junk : List O} {tl : List O} {j : Nat} (hj : j < 6) (ht : tl.length = 6) : sget ⟨junk.length + 6, junk ++ tl⟩ j = tl[5 - j]? := by
  unfold sget
  rw [if_pos (by show j < junk.length + 6; omega)]
  show (junk ++ tl)[junk.length + 6 - 1 - j]? = _
  rw [List.getElem?_append_right (by omega)]
  congr 1
  omega
theorem st45_new (junk : List O) (due row : List AV) (k : Nat) (S : List AV) (o : O) : snew (st45 junk due row k S) o = st45 (o :: junk) due row k S := by
  show Store.mk (junk.length + 6 + 1) _ = Store.mk (junk.length + 1 + 6) _
  rw [show junk.length + 6 + 1 = junk.length + 1 + 6 by omega]
  rfl
theorem st45_set (junk : List O) (due due' row : List AV) (k : Nat) (S : List AV) : sset (st45 junk due row k S) 5 (.list due') = st45 junk due' row k S := by
  unfold sset
  show Store.mk (junk.length + 6) ((junk ++ _).set (junk.length + 6 - 1 - 5) _) = _
  rw [show junk.length + 6 - 1 - 5 = junk.length by omega, List.set_append_right _ _ (Nat.le_refl _), Nat.sub_self]
  rfl
theorem sget_top (σ : Store) (o : O) : sget (snew σ o) σ.n = some o := by rw [sget_snew, if_pos rfl]
theorem nrm45_ok (c : C) (m z : Option AV) {t b : Int} (σ : Store) (h1 : small (0 - t) = true) (h2 : small (0 - b) = true) :
    nrm45 c (fr45 m (some (.int t)) (some (.int b)) z) σ = .ok (ap (nrm (t, b))) σ := by
  refine e_ite (x := decide (0 ≤ b)) (e_ints (x := b) (y := 0) rfl rfl rfl) ?_
  unfold nrm
  by_cases h : 0 ≤ b
  · rw [decide_eq_true h, ifB_t, if_pos h]
    exact e_tup (e_cons (v := .int t) rfl (e_cons (v := .int b) rfl e_nil))
  · rw [decide_eq_false h, if_neg h]
    exact e_tup (e_cons (e_ints (x := 0) (y := t) rfl rfl (okInt_ok h1 σ)) (e_cons (e_ints (x := 0) (y := b) rfl rfl (okInt_ok h2 σ)) e_nil))
theorem turn45_ok (c : C) (pre rest : List Int) (n : Int) (z0 z1 z2 : Option AV) (junk : List O) (due : List AV) (k : Nat) (S : List AV) (hn : ∀ x ∈ pre ++ n :: rest, x.natAbs ≤ 3) (hl : (pre ++ n :: rest).length ≤ 4) (hd : due.length ≤ 4) :
    ∃ z0' z1' z2' junk', turn45 c (fr45 (some (.int (pre.length : Int))) z0 z1 z2) (st45 junk due ((pre ++ n :: rest).map .int) k S) = .ok (.nxt (fr45 (some (.int (pre.length : Int))) z0' z1' z2')) (st45 junk' (due ++ [ap (nrm (bk n 1 pre.reverse))]) ((pre ++ n :: rest).map .int) k S) := by
  have hpl : pre.length ≤ 3 := by rw [List.length_append, List.length_cons] at hl; omega
  generalize hrow : (pre ++ n :: rest) = row at hn hl ⊢
  have g3 : ∀ (junk : List O) (due : List AV), sget (st45 junk due (row.map .int) k S) 3 = some (.cell (some (.ref 4))) := fun junk due => sget45 (by decide) rfl
  have g4 : ∀ (junk : List O) (due : List AV), sget (st45 junk due (row.map .int) k S) 4 = some (.list (row.map .int)) := fun junk due => sget45 (by decide) rfl
  have g5 : ∀ (junk : List O) (due : List AV), sget (st45 junk due (row.map .int) k S) 5 = some (.list due) := fun junk due => sget45 (by decide) rfl
  have v6 : ∀ (z0 z1 z2 : Option AV), xVar 6 c (fr45 (some (.int (pre.length : Int))) z0 z1 z2) (st45 junk due (row.map .int) k S) = .ok (.ref 4) (st45 junk due (row.map .int) k S) := fun z0 z1 z2 => getV_cl _ _ rfl (g3 junk due)
  have hx : (row.map AV.int)[pre.length]? = some (.int n) := by
    rw [← hrow, List.map_append, List.getElem?_append_right (by rw [List.length_map]; exact Nat.le_refl _), List.length_map, Nat.sub_self]; rfl
  have ht : (row.map AV.int).take pre.length = pre.map .int := by
    rw [← hrow, List.map_append, List.take_append_of_le_length (by rw [List.length_map]; exact Nat.le_refl _), ← List.length_map (f := AV.int), List.take_length]
  have s1 : (sAsg (.swap [3, 4]) (xTup (lCons (xIdx (xVar 6) (xVar 2)) (lCons (xInt 1) lNil)))) c (fr45 (some (.int (pre.length : Int))) z0 z1 z2) (st45 junk due (row.map .int) k S) = .ok (.nxt (fr45 (some (.int (pre.length : Int))) (some (.int n)) (some (.int 1)) z2)) (st45 junk due (row.map .int) k S) := by
    refine e_asg (e_tup (e_cons (e_two (v6 _ _ _) (v := .int (pre.length : Int)) rfl (r := .ok (.int n) (st45 junk due (row.map .int) k S)) ?_) (e_cons (v := .int 1) rfl e_nil))) rfl
    show getL (st45 junk due (row.map .int) k S) 4 (fun l => atI l (pre.length : Int) fun v => .ok v (st45 junk due (row.map .int) k S)) = _
    rw [gL (g4 _ _)]
    show ifB (Nat.blt pre.length 100000) (nth (row.map AV.int) pre.length fun v => .ok v (st45 junk due (row.map .int) k S)) .bad = _
    rw [show Nat.blt pre.length 100000 = true from Nat.ble_eq_true_of_le (by omega), ifB_t, nth_of hx]
  have tk : (xTake (xVar 6) (xVar 2)) c (fr45 (some (.int (pre.length : Int))) (some (.int n)) (some (.int 1)) z2) (st45 junk due (row.map .int) k S) = .ok (.ref (junk.length + 6)) (st45 (.list (pre.map .int) :: junk) due (row.map .int) k S) := by
    refine e_two (v6 _ _ _) (v := .int (pre.length : Int)) rfl ?_
    show getL (st45 junk due (row.map .int) k S) 4 (fun l => ifB (Nat.blt (List.length l) 100000) (fL (List.take pre.length l) fun l => newO (st45 junk due (row.map .int) k S) (.list l) fun k σ => R.ok (AV.ref k) σ) .bad) = _
    rw [gL (g4 _ _), List.length_map, show Nat.blt row.length 100000 = true from Nat.ble_eq_true_of_le (by omega), ifB_t, fL_eq, ht, newO_eq, st45_new]
  have rv : (xRev (xTake (xVar 6) (xVar 2))) c (fr45 (some (.int (pre.length : Int))) (some (.int n)) (some (.int 1)) z2) (st45 junk due (row.map .int) k S) = .ok (.ref (junk.length + 7)) (st45 (.list (pre.reverse.map .int) :: .list (pre.map .int) :: junk) due (row.map .int) k S) := by
    refine e_one tk ?_
    show getL (st45 (.list (pre.map .int) :: junk) due (row.map .int) k S) (junk.length + 6) (fun l => ifB (Nat.blt (List.length l) 100000) (fL (List.reverse l) fun l => newO (st45 (.list (pre.map .int) :: junk) due (row.map .int) k S) (.list l) fun k σ => R.ok (AV.ref k) σ) .bad) = _
    rw [gL (show sget (st45 (.list (pre.map .int) :: junk) due (row.map .int) k S) (junk.length + 6) = some (.list (pre.map .int)) by rw [← st45_new]; exact sget_top (st45 junk due (row.map .int) k S) _), List.length_map, show Nat.blt pre.length 100000 = true from Nat.ble_eq_true_of_le (by omega), ifB_t, fL_eq, ← List.map_reverse, newO_eq, st45_new]
    show R.ok (AV.ref (junk.length + 1 + 6)) _ = _
    rw [show junk.length + 1 + 6 = junk.length + 7 by omega]
  have gt : sget (st45 (.list (pre.reverse.map .int) :: .list (pre.map .int) :: junk) due (row.map .int) k S) (junk.length + 7) = some (.list (([] ++ pre.reverse).map .int)) := by
    rw [← st45_new, show junk.length + 7 = (st45 (.list (pre.map .int) :: junk) due (row.map .int) k S).n by show junk.length + 7 = junk.length + 1 + 6; omega]
    exact sget_top _ _
  obtain ⟨z', e⟩ := inner45 c (some (.int (pre.length : Int))) (junk.length + 7) (st45 (.list (pre.reverse.map .int) :: .list (pre.map .int) :: junk) due (row.map .int) k S) pre.reverse [] turns n 1 z2 3 gt (by rw [List.length_reverse]; unfold turns; omega)
    (fun x hx => hn x (by rw [← hrow]; exact List.mem_append_left _ (List.mem_reverse.mp hx))) (hn n (by rw [← hrow]; exact List.mem_append_right _ (.head _))) (by decide) (by rw [List.length_reverse]; have : 4 ^ pre.length ≤ 4 ^ 3 := Nat.pow_le_pow_right (by decide) hpl; omega)
  obtain ⟨b1, b2⟩ := bk_le pre.reverse n 1 3 (fun x hx => hn x (by rw [← hrow]; exact List.mem_append_left _ (List.mem_reverse.mp hx))) (hn n (by rw [← hrow]; exact List.mem_append_right _ (.head _))) (by decide)
  have c1 : 4 ^ pre.reverse.length ≤ 4 ^ 3 := Nat.pow_le_pow_right (by decide) (by rw [List.length_reverse]; exact hpl)
  have c2 : 4 ^ (pre.reverse.length - 1) ≤ 4 ^ 3 := Nat.pow_le_pow_right (by decide) (by rw [List.length_reverse]; omega)
  refine ⟨some (.int (bk n 1 pre.reverse).1), some (.int (bk n 1 pre.reverse).2), z', (.list (pre.reverse.map .int) :: .list (pre.map .int) :: junk), e_thn s1 (e_thn (e_for rv ((walk_ref gt _).trans e)) (e_thn (e_app rfl (g5 _ _) (nrm45_ok c _ z' _ (small_le ?_) (small_le ?_)) (by omega)) ?_))⟩
  · omega
  · omega
  · rw [st45_set]; rfl
theorem outer45 (c : C) (k : Nat) (S : List AV) : ∀ (rest pre : List Int) (fuel : Nat) (m0 z0 z1 z2 : Option AV) (junk : List O) (ps : List (Int × Int)), rest.length < fuel → (∀ x ∈ pre ++ rest, x.natAbs ≤ 3) → (pre ++ rest).length ≤ 4 → ps.length = pre.length →
    ∃ m' z0' z1' z2' junk', forLoop (fun φ σ => turn45 c φ σ) (.one 2) (.rng 0 ((pre ++ rest).length : Int)) fuel pre.length (fr45 m0 z0 z1 z2) (st45 junk (ps.map ap) ((pre ++ rest).map .int) k S) = .ok (.nxt (fr45 m' z0' z1' z2')) (st45 junk' ((ps ++ dueF pre rest).map ap) ((pre ++ rest).map .int) k S)
  | _, _, 0, _, _, _, _, _, _, hf, _, _, _ => absurd hf (Nat.not_lt_zero _)
  | [], pre, fuel + 1, m0, z0, z1, z2, junk, ps, hf, _, _, _ => ⟨m0, z0, z1, z2, junk, by
    have e : ps ++ dueF pre [] = ps := List.append_nil _
    rw [e]
    exact for_rng_end (by rw [List.append_nil]; exact Nat.le_refl _)⟩
  | n :: rest, pre, fuel + 1, m0, z0, z1, z2, junk, ps, hf, hn, hl, hp => by
    have hl' := hl
    rw [List.length_append, List.length_cons] at hl'
    obtain ⟨y0, y1, y2, junk', e1⟩ := turn45_ok c pre rest n z0 z1 z2 junk (ps.map ap) k S hn hl (by rw [List.length_map]; omega)
    have ea : pre ++ n :: rest = (pre ++ [n]) ++ rest := by rw [List.append_assoc]; rfl
    have el : pre.length + 1 = (pre ++ [n]).length := by rw [List.length_append]; rfl
    obtain ⟨m', z0', z1', z2', junk'', e2⟩ := outer45 c k S rest (pre ++ [n]) fuel (some (.int (pre.length : Int))) y0 y1 y2 junk' (ps ++ [nrm (bk n 1 pre.reverse)]) (Nat.lt_of_succ_lt_succ hf) (by rw [← ea]; exact hn) (by rw [← ea]; exact hl) (by rw [← el, List.length_append, hp]; rfl)
    refine ⟨m', z0', z1', z2', junk'', for_rng_go (by rw [List.length_append, List.length_cons]; omega) rfl e1 ?_⟩
    rw [el, ea]
    have ed : ps ++ dueF pre (n :: rest) = ps ++ [nrm (bk n 1 pre.reverse)] ++ dueF (pre ++ [n]) rest := by rw [List.append_assoc]; rfl
    rw [ed, ← e2, List.map_append (f := ap)]
    rfl
end Mine
end

section
open PySem
namespace Mine
set_option autoImplicit false
set_option maxRecDepth 100000

/-! convergents -/
abbrev fr15 (r n : Nat) (p q : Int × Int) (z : Option AV) : Vars := [.lv (some (.ref r)), .lv (some (.ref n)), .lv (some (ap p)), .lv (some (ap q)), .lv z]
noncomputable abbrev turn15 : DS := sThen (sAsg (.swap [2, 3]) (xTup (lCons (xTup (lCons (xAdd (xMul (xVar 4) (xIdx (xVar 2) (xInt 0))) (xIdx (xVar 3) (xInt 0))) (lCons (xAdd (xMul (xVar 4) (xIdx (xVar 2) (xInt 1))) (xIdx (xVar 3) (xInt 1))) lNil))) (lCons (xVar 2) lNil)))) (sThen (sApp 1 (xIte (xGe (xIdx (xVar 2) (xInt 1)) (xInt 0)) (xVar 2) (xTup (lCons (xSub (xInt 0) (xIdx (xVar 2) (xInt 0))) (lCons (xSub (xInt 0) (xIdx (xVar 2) (xInt 1))) lNil))))) sEnd)
theorem sset_top (σ : Store) (o o' : O) : sset (snew σ o) σ.n o' = snew σ o' := by
  unfold sset
  show Store.mk (σ.n + 1) ((o :: σ.l).set (σ.n + 1 - 1 - σ.n) o') = _
  rw [show σ.n + 1 - 1 - σ.n = 0 by omega]
  rfl
theorem turn15_ok (c : C) (r : Nat) (p q : Int × Int) (m : Int) (σ : Store) (due : List AV) (M : Nat) (hm : m.natAbs ≤ 3) (hp1 : p.1.natAbs ≤ M) (hp2 : p.2.natAbs ≤ M) (hq1 : q.1.natAbs ≤ M) (hq2 : q.2.natAbs ≤ M) (hM : 4 * M ≤ 1000) (hd : due.length < 100000) :
    turn15 c (fr15 r σ.n p q (some (.int m))) (snew σ (.list due)) = .ok (.nxt (fr15 r σ.n (stp p q m) p (some (.int m)))) (snew σ (.list (due ++ [ap (nrm (stp p q m))]))) := by
  obtain ⟨a1, a2⟩ := step_le hm hp1 hq1
  obtain ⟨b1, b2⟩ := step_le hm hp2 hq2
  have k1 : small (m * p.1) = true := small_le (by omega)
  have k2 : small (m * p.1 + q.1) = true := small_le (by omega)
  have k3 : small (m * p.2) = true := small_le (by omega)
  have k4 : small (m * p.2 + q.2) = true := small_le (by omega)
  have i1 : ∀ (z : Option AV) (x y : Int × Int) (τ : Store), (xIdx (xVar 2) (xInt 0)) c (fr15 r σ.n x y z) τ = .ok (.int x.1) τ := fun z x y τ => e_two (v := .int 0) (u := ap x) rfl rfl rfl
  have i2 : ∀ (z : Option AV) (x y : Int × Int) (τ : Store), (xIdx (xVar 2) (xInt 1)) c (fr15 r σ.n x y z) τ = .ok (.int x.2) τ := fun z x y τ => e_two (v := .int 1) (u := ap x) rfl rfl rfl
  have j1 : ∀ (z : Option AV) (x y : Int × Int) (τ : Store), (xIdx (xVar 3) (xInt 0)) c (fr15 r σ.n x y z) τ = .ok (.int y.1) τ := fun z x y τ => e_two (v := .int 0) (u := ap y) rfl rfl rfl
  have j2 : ∀ (z : Option AV) (x y : Int × Int) (τ : Store), (xIdx (xVar 3) (xInt 1)) c (fr15 r σ.n x y z) τ = .ok (.int y.2) τ := fun z x y τ => e_two (v := .int 1) (u := ap y) rfl rfl rfl
  have s1 : (sAsg (.swap [2, 3]) (xTup (lCons (xTup (lCons (xAdd (xMul (xVar 4) (xIdx (xVar 2) (xInt 0))) (xIdx (xVar 3) (xInt 0))) (lCons (xAdd (xMul (xVar 4) (xIdx (xVar 2) (xInt 1))) (xIdx (xVar 3) (xInt 1))) lNil))) (lCons (xVar 2) lNil)))) c (fr15 r σ.n p q (some (.int m))) (snew σ (.list due)) = .ok (.nxt (fr15 r σ.n (stp p q m) p (some (.int m)))) (snew σ (.list due)) :=
    e_asg (v := .tup [ap (stp p q m), ap p]) (e_tup (e_cons (e_tup (e_cons (e_ints (e_ints (x := m) rfl (i1 _ _ _ _) (okInt_ok k1 _)) (j1 _ _ _ _) (okInt_ok k2 _)) (e_cons (e_ints (e_ints (x := m) rfl (i2 _ _ _ _) (okInt_ok k3 _)) (j2 _ _ _ _) (okInt_ok k4 _)) e_nil))) (e_cons (v := ap p) rfl e_nil))) rfl
  have nr : (xIte (xGe (xIdx (xVar 2) (xInt 1)) (xInt 0)) (xVar 2) (xTup (lCons (xSub (xInt 0) (xIdx (xVar 2) (xInt 0))) (lCons (xSub (xInt 0) (xIdx (xVar 2) (xInt 1))) lNil)))) c (fr15 r σ.n (stp p q m) p (some (.int m))) (snew σ (.list due)) = .ok (ap (nrm (stp p q m))) (snew σ (.list due)) := by
    refine e_ite (x := decide (0 ≤ (stp p q m).2)) (e_ints (i2 _ _ _ _) (y := 0) rfl rfl) ?_
    unfold nrm
    by_cases h : 0 ≤ (stp p q m).2
    · rw [decide_eq_true h, ifB_t, if_pos h]; rfl
    · rw [decide_eq_false h, if_neg h]
      exact e_tup (e_cons (e_ints (x := 0) rfl (i1 _ _ _ _) (okInt_ok (small_le (by show (0 - (m * p.1 + q.1)).natAbs ≤ _; omega)) _)) (e_cons (e_ints (x := 0) rfl (i2 _ _ _ _) (okInt_ok (small_le (by show (0 - (m * p.2 + q.2)).natAbs ≤ _; omega)) _)) e_nil))
  refine e_thn s1 (e_thn (e_app rfl (sget_top σ _) nr hd) ?_)
  rw [sset_top]; rfl
theorem loop15 (c : C) (r : Nat) (σ : Store) (hr : r < σ.n) : ∀ (rest pre : List Int) (fuel : Nat) (p q : Int × Int) (z : Option AV) (ps : List (Int × Int)) (M : Nat), sget σ r = some (.list ((pre ++ rest).map .int)) → rest.length < fuel → (∀ x ∈ rest, x.natAbs ≤ 3) → ps.length + rest.length ≤ 4 →
    p.1.natAbs ≤ M → p.2.natAbs ≤ M → q.1.natAbs ≤ M → q.2.natAbs ≤ M → M * 4 ^ rest.length ≤ 1000 →
    ∃ p' q' z', forLoop (fun φ σ => turn15 c φ σ) (.one 4) (.ref r) fuel pre.length (fr15 r σ.n p q z) (snew σ (.list (ps.map ap))) = .ok (.nxt (fr15 r σ.n p' q' z')) (snew σ (.list ((ps ++ cvF p q rest).map ap)))
  | _, _, 0, _, _, _, _, _, _, hf, _, _, _, _, _, _, _ => absurd hf (Nat.not_lt_zero _)
  | [], pre, fuel + 1, p, q, z, ps, M, h, hf, _, _, _, _, _, _, _ => ⟨p, q, z, by
    have e : ps ++ cvF p q [] = ps := List.append_nil _
    rw [e]
    exact for_ref_end (r := r) (xs := (pre ++ []).map .int) (by rw [sget_snew, if_neg (by omega)]; exact h) (by rw [List.append_nil, List.length_map]; exact Nat.le_refl _)⟩
  | n :: rest, pre, fuel + 1, p, q, z, ps, M, h, hf, hn, hl, hp1, hp2, hq1, hq2, hM => by
    have hM' : 4 * M * 4 ^ rest.length ≤ 1000 := by
      have e : (n :: rest).length = rest.length + 1 := rfl
      rw [e, Nat.pow_succ] at hM
      rw [Nat.mul_comm 4 M, Nat.mul_assoc, Nat.mul_comm 4]
      exact hM
    have hp : 0 < 4 ^ rest.length := Nat.pow_pos (by decide)
    have hM4 : 4 * M ≤ 1000 := Nat.le_trans (Nat.le_mul_of_pos_right _ hp) hM'
    have ea : pre ++ n :: rest = (pre ++ [n]) ++ rest := by rw [List.append_assoc]; rfl
    have el : pre.length + 1 = (pre ++ [n]).length := by rw [List.length_append]; rfl
    have hl' : (n :: rest).length = rest.length + 1 := rfl
    obtain ⟨p', q', z', e⟩ := loop15 c r σ hr rest (pre ++ [n]) fuel (stp p q n) p (some (.int n)) (ps ++ [nrm (stp p q n)]) (4 * M) (by rw [← ea]; exact h) (Nat.lt_of_succ_lt_succ hf) (fun x hx => hn x (.tail _ hx)) (by rw [List.length_append]; show ps.length + 1 + _ ≤ 4; omega)
      (step_le (hn n (.head _)) hp1 hq1).2 (step_le (hn n (.head _)) hp2 hq2).2 (by omega) (by omega) hM'
    refine ⟨p', q', z', for_ref_go (r := r) (xs := (pre ++ n :: rest).map .int) (by rw [sget_snew, if_neg (by omega)]; exact h) (x := .int n) ?_ rfl (turn15_ok c r p q n σ (ps.map ap) M (hn n (.head _)) hp1 hp2 hq1 hq2 hM4 (by rw [List.length_map]; omega)) ?_⟩
    · rw [List.map_append, List.getElem?_append_right (by rw [List.length_map]; exact Nat.le_refl _), List.length_map, Nat.sub_self]; rfl
    · have ed : ps ++ cvF p q (n :: rest) = ps ++ [nrm (stp p q n)] ++ cvF (stp p q n) p rest := by rw [List.append_assoc]; rfl
      rw [el, ed, ← e, List.map_append (f := ap)]
      rfl
theorem d15_ok (c : C) (r : Nat) (σ : Store) (row : List Int) (h : sget σ r = some (.list (row.map .int))) (hn : ∀ x ∈ row, x.natAbs ≤ 3) (hl : row.length ≤ 4) :
    d15 c [.ref r] σ = .ok (.ref σ.n) (snew σ (.list ((dueF [] row).map ap))) := by
  have hr : r < σ.n := sget_lt h
  have hM : 1 * 4 ^ row.length ≤ 1000 := by have : 4 ^ row.length ≤ 4 ^ 4 := Nat.pow_le_pow_right (by decide) hl; omega
  obtain ⟨p', q', z', e⟩ := loop15 c r σ hr row [] turns (1, 0) (0, 1) none [] 1 h (by unfold turns; omega) hn (by simpa using hl) (by decide) (by decide) (by decide) (by decide) hM
  rw [cv_all] at e
  have s1 : (sAsg (.swap [1, 2, 3]) (xTup (lCons (xLst lNil) (lCons (xTup (lCons (xInt 1) (lCons (xInt 0) lNil))) (lCons (xTup (lCons (xInt 0) (lCons (xInt 1) lNil))) lNil))))) c [.lv (some (.ref r)), .lv none, .lv none, .lv none, .lv none] σ = .ok (.nxt (fr15 r σ.n (1, 0) (0, 1) none)) (snew σ (.list [])) := by
    refine e_asg (v := .tup [.ref σ.n, ap (1, 0), ap (0, 1)]) (e_tup (e_cons (σ1 := snew σ (.list [])) ?_ rfl)) rfl
    show newO σ (.list []) (fun k σ => R.ok (AV.ref k) σ) = _
    rw [newO_eq]
  exact e_def rfl rfl (e_thn s1 (e_thn (e_for (u := .ref r) rfl ((walk_ref (r := r) (by rw [sget_snew, if_neg (by omega)]; exact h) _).trans e)) (e_thn_ret (e_ret rfl))))

/-! == -/
theorem veq_int (n : Nat) (x : Int) (σ : Store) : veq (n + 1) (.int x) (.int x) σ = .ok true σ := by
  show R.ok (decide (x = x)) σ = _
  rw [decide_eq_true rfl]
theorem veq_pair (n : Nat) (p : Int × Int) (σ : Store) : veq (n + 2) (ap p) (ap p) σ = .ok true σ := by
  show (veq (n + 1) (.int p.1) (.int p.1) σ).bind (fun b _ => ifB b ((veq (n + 1) (.int p.2) (.int p.2) σ).bind fun b _ => ifB b (R.ok true σ) (.ok false σ)) (.ok false σ)) = _
  rw [veq_int, bind_ok, ifB_t, veq_int, bind_ok, ifB_t]
theorem rd_pairs (σ : Store) : ∀ ps : List (Int × Int), rdL (rdb 7) σ (ps.map ap) = .ok ⟨⟩ σ
  | [] => rfl
  | p :: ps => by
    show (R.ok PUnit.unit σ : R PUnit).bind (fun _ _ => rdL (rdb 7) σ (ps.map ap)) = _
    rw [bind_ok]; exact rd_pairs σ ps
theorem eq_pairs (σ : Store) : ∀ ps : List (Int × Int), eqL (veq 7) σ (ps.map ap) (ps.map ap) = .ok true σ
  | [] => rfl
  | p :: ps => by
    show (veq 7 (ap p) (ap p) σ).bind (fun b _ => ifB b (eqL (veq 7) σ (ps.map ap) (ps.map ap)) (.ok false σ)) = _
    rw [veq_pair, bind_ok, ifB_t]; exact eq_pairs σ ps
theorem eqv_refs (σ : Store) (x y : Nat) (ps : List (Int × Int)) (hx : sget σ x = some (.list (ps.map ap))) (hy : sget σ y = some (.list (ps.map ap))) : eqv8 (.ref x) (.ref y) σ = .ok true σ := by
  show (getL σ x fun l => rdL (rdb 7) σ l).bind (fun _ _ => (getL σ y fun l => rdL (rdb 7) σ l).bind fun _ _ => getL σ x fun l => getL σ y fun m => eqL (veq 7) σ l m) = _
  rw [gL hx, rd_pairs, bind_ok, gL hy, rd_pairs, bind_ok, gL hx, gL hy, eq_pairs]
theorem eqv_pair (σ : Store) (p : Int × Int) : eqv8 (ap p) (ap p) σ = .ok true σ := by
  show veq 8 (ap p) (ap p) σ = _
  exact veq_pair 6 p σ
theorem eqv_int (σ : Store) (x y : Int) : eqv8 (.int x) (.int y) σ = .ok (decide (x = y)) σ := rfl
end Mine
end

section
open PySem
namespace Mine
set_option autoImplicit false
set_option maxRecDepth 100000

/-! gcd, ratio, the value of a cut row -/
abbrev fr0 (a b : Nat) : Vars := [.lv (some (.int (a : Int))), .lv (some (.int (b : Int))), .gl]
noncomputable abbrev more0 : DX := xNe (xVar 1) (xInt 0)
noncomputable abbrev turn0 : DS := sThen (sAsg (.swap [0, 1]) (xTup (lCons (xVar 1) (lCons (xMod (xVar 0) (xVar 1)) lNil)))) sEnd
theorem more0_ok (c : C) (a b : Nat) (σ : Store) : more0 c (fr0 a b) σ = .ok (.boo (ifB (decide ((b : Int) = 0)) false true)) σ :=
  e_two (u := .int (b : Int)) (v := .int 0) rfl rfl rfl
theorem whl_go {t : Vars → Store → R AV} {B : Vars → Store → R Fl} {fuel : Nat} {φ φ1 : Vars} {σ σ1 : Store} {r : R Fl} (ht : t φ σ = .ok (.boo true) σ) (hb : B φ σ = .ok (.nxt φ1) σ1) (hr : whl t B fuel φ1 σ1 = r) : whl t B (fuel + 1) φ σ = r := by
  show (t φ σ).sure (fun u σ => onBoo u fun x => ifB x ((B φ σ).sure fun r σ => Fl.rec (motive := fun _ => R Fl) (fun φ => whl t B fuel φ σ) (fun v => .ok (.ret v) σ) r) (.ok (.nxt φ) σ)) = _
  rw [ht, sure_ok]
  show (B φ σ).sure (fun r σ => Fl.rec (motive := fun _ => R Fl) (fun φ => whl t B fuel φ σ) (fun v => .ok (.ret v) σ) r) = _
  rw [hb, sure_ok]
  exact hr
theorem whl_end {t : Vars → Store → R AV} {B : Vars → Store → R Fl} {fuel : Nat} {φ : Vars} {σ : Store} (ht : t φ σ = .ok (.boo false) σ) : whl t B (fuel + 1) φ σ = .ok (.nxt φ) σ := by
  show (t φ σ).sure (fun u σ => onBoo u fun x => ifB x ((B φ σ).sure fun r σ => Fl.rec (motive := fun _ => R Fl) (fun φ => whl t B fuel φ σ) (fun v => .ok (.ret v) σ) r) (.ok (.nxt φ) σ)) = _
  rw [ht, sure_ok]
  rfl
theorem loop0 (c : C) (σ : Store) : ∀ (fuel a b : Nat), b < fuel → a ≤ 1000 → b ≤ 1000 → whl (fun φ σ => more0 c φ σ) (fun φ σ => turn0 c φ σ) fuel (fr0 a b) σ = .ok (.nxt (fr0 (Nat.gcd a b) 0)) σ
  | 0, _, _, h, _, _ => absurd h (Nat.not_lt_zero _)
  | fuel + 1, a, 0, _, _, _ => by
    rw [Nat.gcd_zero_right]
    exact whl_end (more0_ok c a 0 σ)
  | fuel + 1, a, b + 1, hf, ha, hb => by
    have hm : a % (b + 1) < b + 1 := Nat.mod_lt _ (Nat.succ_pos _)
    have e := loop0 c σ fuel (b + 1) (a % (b + 1)) (by omega) hb (by omega)
    rw [Nat.gcd_comm a, Nat.gcd_rec, Nat.gcd_comm]
    refine whl_go ?_ (e_thn (e_asg (v := .tup [.int ((b + 1 : Nat) : Int), .int ((a % (b + 1) : Nat) : Int)]) (e_tup (e_cons (v := .int ((b + 1 : Nat) : Int)) rfl (e_cons (v := .int ((a % (b + 1) : Nat) : Int)) (e_ints (x := (a : Int)) (y := ((b + 1 : Nat) : Int)) rfl rfl ?_) e_nil))) rfl) rfl) e
    · show more0 c (fr0 a (b + 1)) σ = _
      rw [more0_ok, decide_eq_false (by omega)]; rfl
    · show okInt (Int.fmod (a : Int) ((b + 1 : Nat) : Int)) σ = _
      rw [show Int.fmod (a : Int) ((b + 1 : Nat) : Int) = ((a % (b + 1) : Nat) : Int) from by first | exact (Int.natCast_fmod a (b + 1)).symm | exact (Int.ofNat_fmod a (b + 1)).symm | simp [Int.fmod_eq_emod_of_nonneg]]
      exact okInt_ok (small_le (by omega)) _
theorem d0_ok (c : C) (p q : Int) (σ : Store) (hp : p.natAbs ≤ 1000) (hq : q.natAbs < 150) : d0 c [.int p, .int q] σ = .ok (.int ((Nat.gcd p.natAbs q.natAbs : Nat) : Int)) σ := by
  have ab : ∀ (i : Nat) (x : Int) (φ : Vars), xVar i c φ σ = .ok (.int x) σ → (xAbs (xVar i)) c φ σ = .ok (.int ((x.natAbs : Nat) : Int)) σ := fun i x φ h => e_one h (by
    show fI (.ofNat x.natAbs) (fun i => R.ok (AV.int i) σ) = _
    rw [fI_eq]; rfl)
  refine e_def (φ := [.lv (some (.int p)), .lv (some (.int q)), .gl]) rfl rfl (e_thn (e_asg (v := .tup [.int ((p.natAbs : Nat) : Int), .int ((q.natAbs : Nat) : Int)]) (e_tup (e_cons (ab 0 p _ rfl) (e_cons (ab 1 q _ rfl) e_nil))) rfl) (e_thn (φ1 := fr0 (Nat.gcd p.natAbs q.natAbs) 0) (σ1 := σ) ?_ (e_thn_ret (e_ret rfl))))
  exact loop0 c σ turns p.natAbs q.natAbs (by unfold turns; omega) hp (by omega)
theorem d3_zero (c : C) (p : Int) (σ : Store) : d3 c [.int p, .int 0] σ = .ex 4 σ :=
  e_def_ex (φ := [.lv (some (.int p)), .lv (some (.int 0)), .lv none, .gl, .gl]) rfl rfl (e_thn_ex (e_if (x := true) rfl (e_thn_ex rfl)))
theorem d3_ok (c : C) (p q : Int) (σ : Store) (h0 : 0 < q) (hp : p.natAbs ≤ 1000) (hq : q.natAbs < 150) (h1 : ∃ u v : Int, u * p + v * q = 1) : d3 c [.int p, .int q] σ = .ok (ap (p, q)) σ := by
  have dv : ∀ (x : Int), x.natAbs ≤ 1000 → ifB (isNought (((1 : Nat) : Nat) : Int)) .bad (ifB (Nat.blt (Nat.log2 (Int.natAbs (((1 : Nat) : Nat) : Int))) 9000) (okInt (Int.fdiv x (((1 : Nat) : Nat) : Int)) σ) .bad) = R.ok (AV.int x) σ := fun x hx => by
    show okInt (Int.fdiv x 1) σ = _
    rw [Int.fdiv_one]
    exact okInt_ok (small_le (by omega)) _
  have g : d0 c [.int p, .int q] σ = .ok (.int ((1 : Nat) : Int)) σ := by
    rw [d0_ok c p q σ hp hq, gcd_one h1]
  refine e_def (φ := [.lv (some (.int p)), .lv (some (.int q)), .lv none, .gl, .gl]) rfl rfl (e_thn (φ1 := [.lv (some (.int p)), .lv (some (.int q)), .lv none, .gl, .gl]) (σ1 := σ) (e_if (x := decide (q = 0)) (e_two (u := .int q) (v := .int 0) rfl rfl rfl) ?_) (e_thn (φ1 := [.lv (some (.int p)), .lv (some (.int q)), .lv (some (.int ((1 : Nat) : Int))), .gl, .gl]) (σ1 := σ) (e_asg (v := .int ((1 : Nat) : Int)) (e_ite (x := decide (0 < q)) (e_ints (x := q) (y := 0) rfl rfl rfl) ?_) rfl) (e_thn_ret (e_ret (e_tup (e_cons (e_ints (x := p) (y := ((1 : Nat) : Int)) rfl rfl (dv p hp)) (e_cons (e_ints (x := q) (y := ((1 : Nat) : Int)) rfl rfl (dv q (by omega))) e_nil)))))))
  · rw [decide_eq_false (by omega)]; rfl
  · rw [decide_eq_true h0]
    exact e_call (e_cons (v := .int p) rfl (e_cons (v := .int q) rfl e_nil)) g
abbrev fr16 (r : Nat) (x y : Option AV) : Vars := [.lv (some (.ref r)), .lv x, .lv y, .gl, .gl, .gl, .gl]
theorem len_ok {a : DX} {c : C} {φ : Vars} {σ : Store} {r : Nat} {xs : List AV} (ha : a c φ σ = .ok (.ref r) σ) (h : sget σ r = some (.list xs)) (hl : xs.length ≤ 1000) : (xLen a) c φ σ = .ok (.int (xs.length : Int)) σ :=
  e_one ha (by
    show getL σ r (fun l => ifB (Nat.blt (List.length l) 100000) (R.ok (AV.int (.ofNat (List.length l))) σ) .bad) = _
    rw [gL h, show Nat.blt xs.length 100000 = true from Nat.ble_eq_true_of_le (by omega)]; rfl)
theorem last_ok {a b : DX} {c : C} {φ : Vars} {σ σ1 : Store} {r : Nat} {ps : List (Int × Int)} {p : Int × Int} (ha : a c φ σ = .ok (.ref r) σ1) (hb : b c φ σ1 = .ok (.int (-1)) σ1) (h : sget σ1 r = some (.list ((ps ++ [p]).map ap))) : (xIdx a b) c φ σ = .ok (ap p) σ1 :=
  e_two ha hb (by
    show getL σ1 r (fun l => atI l (-1) fun v => R.ok v σ1) = _
    rw [gL h]
    show ifB (Nat.blt 0 ((ps ++ [p]).map ap).length) (ifB (Nat.blt 0 100000) (nth ((ps ++ [p]).map ap) (((ps ++ [p]).map ap).length - 1 - 0) fun v => R.ok v σ1) .bad) .bad = _
    rw [show Nat.blt 0 ((ps ++ [p]).map ap).length = true from Nat.ble_eq_true_of_le (by rw [List.length_map, List.length_append]; exact Nat.le_add_left _ _), ifB_t]
    show nth ((ps ++ [p]).map ap) (((ps ++ [p]).map ap).length - 1 - 0) (fun v => R.ok v σ1) = _
    rw [nth_of (x := ap p) (by
      rw [List.length_map, List.length_append, List.map_append, List.getElem?_append_right (by rw [List.length_map]; show ps.length ≤ ps.length + 1 - 1 - 0; omega), List.length_map, show ps.length + [p].length - 1 - 0 - ps.length = 0 by show ps.length + 1 - 1 - 0 - ps.length = 0; omega]; rfl)])
theorem d16_to (c : C) (r : Nat) (σ : Store) (row : List Int) (ps : List (Int × Int)) (p : Int × Int) (h : sget σ r = some (.list (row.map .int))) (hn : ∀ x ∈ row, x.natAbs ≤ 3) (hl : row.length ≤ 4) (h0 : row ≠ []) (hd : dueF [] row = ps ++ [p]) :
    (∀ v, d3 c [.int p.1, .int p.2] (snew σ (.list ((ps ++ [p]).map ap))) = .ok v (snew σ (.list ((ps ++ [p]).map ap))) → d16 c [.ref r] σ = .ok v (snew σ (.list ((ps ++ [p]).map ap)))) ∧
    (∀ k, d3 c [.int p.1, .int p.2] (snew σ (.list ((ps ++ [p]).map ap))) = .ex k (snew σ (.list ((ps ++ [p]).map ap))) → d16 c [.ref r] σ = .ex k (snew σ (.list ((ps ++ [p]).map ap)))) := by
  have h15 := d15_ok c r σ row h hn hl
  rw [hd] at h15
  have hlen : row.length ≠ 0 := fun e => h0 (List.length_eq_zero_iff.mp e)
  have f1 : (sIf (xEq (xLen (xVar 0)) (xInt 0)) (sThen (sFail (xStr 10) (xStr 11)) sEnd) sEnd) c (fr16 r none none) σ = .ok (.nxt (fr16 r none none)) σ := by
    refine e_if (x := decide (((row.map AV.int).length : Int) = 0)) (e_two (len_ok (r := r) rfl h (by rw [List.length_map]; omega)) (v := .int 0) rfl rfl) ?_
    rw [decide_eq_false (by rw [List.length_map]; omega)]; rfl
  have f2 : (sAsg (.many [1, 2]) (xIdx (xCall d15 (lCons (xVar 0) lNil)) (xNeg (xInt 1)))) c (fr16 r none none) σ = .ok (.nxt (fr16 r (some (.int p.1)) (some (.int p.2)))) (snew σ (.list ((ps ++ [p]).map ap))) :=
    e_asg (last_ok (e_call (e_cons (v := .ref r) rfl e_nil) h15) rfl (sget_top σ _)) rfl
  exact ⟨fun v e => e_def rfl rfl (e_thn f1 (e_thn f2 (e_thn_ret (e_ret (e_call (e_cons (v := .int p.1) rfl (e_cons (v := .int p.2) rfl e_nil)) e))))),
    fun k e => e_def_ex rfl rfl (e_thn f1 (e_thn f2 (e_thn_ex (e_ret_ex (e_call (e_cons (v := .int p.1) rfl (e_cons (v := .int p.2) rfl e_nil)) e)))))⟩
end Mine
end

section
open PySem
namespace Mine
set_option autoImplicit false
set_option maxRecDepth 100000

theorem told_ok {ns : List NE} {y : DX} {c : C} {φ ψ : Vars} {σ σ1 : Store} {v : AV} (hi : inner φ ns σ = .ok ψ σ) (h : y c ψ σ = .ok v σ1) : xTold ns y c φ σ = .ok v σ1 := by
  unfold xTold; rw [hi, bind_ok, h]
theorem told_ex {ns : List NE} {y : DX} {c : C} {φ ψ : Vars} {σ σ1 : Store} {k : Nat} (hi : inner φ ns σ = .ok ψ σ) (h : y c ψ σ = .ex k σ1) : xTold ns y c φ σ = .ok (.str k) σ1 := by
  unfold xTold; rw [hi, bind_ok, h]
theorem inR {n : Nat} (h : n ≤ 4) : inRange (n : Int) = true := by
  have : ∀ n, n < 5 → inRange (Int.ofNat n) = true := by decide +kernel
  exact this n (Nat.lt_succ_of_le h)
theorem onInt_eq {β : Type} (x : Int) (k : Int → R β) : onInt (.int x) k = k x := rfl
theorem ran1_ok {a : DX} {c : C} {φ : Vars} {σ : Store} {n : Nat} (ha : a c φ σ = .ok (.int (n : Int)) σ) (hn : n ≤ 4) : (xRan1 a) c φ σ = .ok (.rng 0 (n : Int)) σ :=
  e_one ha (by
    show onInt (AV.int (n : Int)) (fun b => ifB (inRange b) (R.ok (AV.rng 0 b) σ) R.bad) = _
    rw [onInt_eq, inR hn, ifB_t])
theorem cuts_done (c : C) (row : List Int) (h0 : row ≠ []) (hn : ∀ x ∈ row, x.natAbs ≤ 3) (hl : row.length ≤ 4) (k : Nat) (S : List AV) :
    ∃ σ, d45x (fun _ _ _ => .ok (.ref 4) (b45 (row.map .int) k S)) c [.ref 1] (st2 3 S) = .ok (.boo true) σ ∧ sget σ 1 = some (bx k) ∧ sget σ 0 = some (.list S) := by
  have g3 : ∀ (junk : List O) (due : List AV), sget (st45 junk due (row.map .int) k S) 3 = some (.cell (some (.ref 4))) := fun junk due => sget45 (by decide) rfl
  have g4 : ∀ (junk : List O) (due : List AV), sget (st45 junk due (row.map .int) k S) 4 = some (.list (row.map .int)) := fun junk due => sget45 (by decide) rfl
  have g5 : ∀ (junk : List O) (due : List AV), sget (st45 junk due (row.map .int) k S) 5 = some (.list due) := fun junk due => sget45 (by decide) rfl
  have g1 : ∀ (junk : List O) (due : List AV), sget (st45 junk due (row.map .int) k S) 1 = some (bx k) := fun junk due => sget45 (by decide) rfl
  have g0 : ∀ (junk : List O) (due : List AV), sget (st45 junk due (row.map .int) k S) 0 = some (.list S) := fun junk due => sget45 (by decide) rfl
  have v6 : ∀ (m t b z : Option AV) (junk : List O) (due : List AV), xVar 6 c (fr45 m t b z) (st45 junk due (row.map .int) k S) = .ok (.ref 4) (st45 junk due (row.map .int) k S) := fun m t b z junk due => getV_cl _ _ rfl (g3 junk due)
  obtain ⟨ps, p, hd, hp, hq, hq0, h1⟩ := due_last row [] h0 (fun _ h => by cases h) hn (by simpa using hl)
  obtain ⟨m', z0, z1, z2, junk, e⟩ := outer45 c k S row [] turns none none none none [] [] (by unfold turns; omega) hn hl rfl
  rw [hd] at e
  have s1 : (sAsg (.many [6, 1]) (xTup (lCons (fun _ _ _ => .ok (.ref 4) (b45 (row.map .int) k S)) (lCons (xLst lNil) lNil)))) c p45 (a45 3 S) = .ok (.nxt (fr45 none none none none)) (st45 [] [] (row.map .int) k S) :=
    e_asg (v := .tup [.ref 4, .ref 5]) (σ1 := ⟨6, [.list [], .list (row.map .int), .cell none, .cell (some (.ref 1)), bx k, .list S]⟩) rfl rfl
  have s2 : (sFor (.one 2) (xRan1 (xLen (xVar 6))) turn45) c (fr45 none none none none) (st45 [] [] (row.map .int) k S) = .ok (.nxt (fr45 m' z0 z1 z2)) (st45 junk ((ps ++ [p]).map ap) (row.map .int) k S) := by
    have hlen := len_ok (v6 none none none none [] []) (g4 [] []) (by rw [List.length_map]; omega)
    rw [List.length_map] at hlen
    exact e_for (ran1_ok hlen hl) ((walk_rng _).trans e)
  have h15 := d15_ok c 4 (st45 junk ((ps ++ [p]).map ap) (row.map .int) k S) row (g4 _ _) hn hl
  rw [hd, st45_new] at h15
  have s3 : (sIf (xNe (xCall d15 (lCons (xVar 6) lNil)) (xVar 1)) (sThen (sRet (xBoo false)) sEnd) sEnd) c (fr45 m' z0 z1 z2) (st45 junk ((ps ++ [p]).map ap) (row.map .int) k S) = .ok (.nxt (fr45 m' z0 z1 z2)) (st45 (.list ((ps ++ [p]).map ap) :: junk) ((ps ++ [p]).map ap) (row.map .int) k S) := by
    refine e_if (x := false) (e_two (e_call (e_cons (v6 _ _ _ _ _ _) e_nil) h15) (v := .ref 5) rfl ?_) rfl
    show (eqv8 (.ref (junk.length + 6)) (.ref 5) (st45 (.list ((ps ++ [p]).map ap) :: junk) ((ps ++ [p]).map ap) (row.map .int) k S)).bind (fun b σ => R.ok (AV.boo (ifB b false true)) σ) = _
    rw [eqv_refs _ _ _ (ps ++ [p]) (by rw [← st45_new]; exact sget_top (st45 junk ((ps ++ [p]).map ap) (row.map .int) k S) _) (g5 _ _), bind_ok]
    rfl
  obtain ⟨ok16, ex16⟩ := d16_to c 4 (st45 (.list ((ps ++ [p]).map ap) :: junk) ((ps ++ [p]).map ap) (row.map .int) k S) row ps p (g4 _ _) hn hl h0 hd
  rw [st45_new] at ok16 ex16
  have ar : (lCons (xVar 0) lNil) c [.cl 3, .gl] (st45 (.list ((ps ++ [p]).map ap) :: junk) ((ps ++ [p]).map ap) (row.map .int) k S) = .ok [.ref 4] (st45 (.list ((ps ++ [p]).map ap) :: junk) ((ps ++ [p]).map ap) (row.map .int) k S) :=
    e_cons (getV_cl _ _ rfl (g3 _ _)) e_nil
  have la : (xIdx (xVar 1) (xNeg (xInt 1))) c (fr45 m' z0 z1 z2) (st45 (.list ((ps ++ [p]).map ap) :: .list ((ps ++ [p]).map ap) :: junk) ((ps ++ [p]).map ap) (row.map .int) k S) = .ok (ap p) (st45 (.list ((ps ++ [p]).map ap) :: .list ((ps ++ [p]).map ap) :: junk) ((ps ++ [p]).map ap) (row.map .int) k S) :=
    last_ok (r := 5) rfl rfl (g5 _ _)
  have gt : (xGt (xIdx (xIdx (xVar 1) (xNeg (xInt 1))) (xInt 1)) (xInt 0)) c (fr45 m' z0 z1 z2) (st45 (.list ((ps ++ [p]).map ap) :: .list ((ps ++ [p]).map ap) :: junk) ((ps ++ [p]).map ap) (row.map .int) k S) = .ok (.boo (decide (0 < p.2))) (st45 (.list ((ps ++ [p]).map ap) :: .list ((ps ++ [p]).map ap) :: junk) ((ps ++ [p]).map ap) (row.map .int) k S) :=
    e_ints (x := p.2) (y := 0) (e_two la (v := .int 1) rfl rfl) rfl rfl
  refine ⟨st45 (.list ((ps ++ [p]).map ap) :: .list ((ps ++ [p]).map ap) :: junk) ((ps ++ [p]).map ap) (row.map .int) k S, e_def (φ := p45) (σ1 := a45 3 S) rfl rfl (e_thn s1 (e_thn s2 (e_thn s3 (e_thn_ret (e_ret ?_))))), g1 _ _, g0 _ _⟩
  by_cases hz : 0 < p.2
  · refine e_two (told_ok (ψ := [.cl 3, .gl]) rfl (e_call ar (ok16 _ (d3_ok c p.1 p.2 _ hz (by omega) (by omega) h1)))) (σ2 := (st45 (.list ((ps ++ [p]).map ap) :: .list ((ps ++ [p]).map ap) :: junk) ((ps ++ [p]).map ap) (row.map .int) k S)) (v := ap p) (e_ite gt ?_) ?_
    · rw [decide_eq_true hz, ifB_t]; exact la
    · show (eqv8 (ap p) (ap p) (st45 (.list ((ps ++ [p]).map ap) :: .list ((ps ++ [p]).map ap) :: junk) ((ps ++ [p]).map ap) (row.map .int) k S)).bind (fun b σ => R.ok (AV.boo b) σ) = _
      rw [eqv_pair, bind_ok]
  · have hz' : p.2 = 0 := by omega
    refine e_two (told_ex (ψ := [.cl 3, .gl]) rfl (e_call ar (ex16 4 (by rw [hz']; exact d3_zero c p.1 _)))) (σ2 := (st45 (.list ((ps ++ [p]).map ap) :: .list ((ps ++ [p]).map ap) :: junk) ((ps ++ [p]).map ap) (row.map .int) k S)) (v := .str 4) (e_ite gt ?_) rfl
    rw [decide_eq_false hz]; rfl
theorem cuts_ok (L : List Int) (hL : L.length ≤ 16) : ∃ (k : Nat) (σ : Store), k ≤ 8 ∧ d45 (cc 6) [.ref 1] (st2 3 (L.map .int)) = .ok (.boo true) σ ∧ sget σ 1 = some (bx k) ∧ sget σ 0 = some (.list (L.map .int)) := by
  obtain ⟨vs, h1, h2, h3, e⟩ := draws45 (cc 6) L hL
  obtain ⟨σ, e1, e2, e3⟩ := cuts_done (cc 6) (vs.map fun v : Nat => (v : Int) - 3) (by intro h; rw [List.map_eq_nil_iff.mp h] at h1; cases h1) (fun x hx => by
    obtain ⟨v, hv, rfl⟩ := List.mem_map.mp hx
    have := h3 v hv
    show ((v : Int) - 3).natAbs ≤ 3
    omega) (by rw [List.length_map]; exact h2) (4 + vs.length) (L.map .int)
  rw [List.map_map] at e1
  exact ⟨4 + vs.length, σ, by omega, e.trans e1, e2, e3⟩
end Mine
end

section
open PySem
namespace Mine
set_option autoImplicit false
set_option maxRecDepth 100000
noncomputable abbrev rootc (r1 r2 r3 r4 k : Nat) (S : List AV) := (endB (d46g (kc r1 (a46 (k + 1) S)) (kc r2 (a46 (k + 2) S)) (kc r3 (b46 (k + 3) S)) (kc r4 (c46 (k + 4) S)) (cc 6) [.ref 1] (st2 k S))).map (·.1)
theorem root_0_0 (k : Nat) (S : List AV) : (List.range 3).map (fun r3 => (List.range 2).map fun r4 => rootc 0 0 r3 r4 k S) = List.replicate 3 (List.replicate 2 (some true)) := by kernel_rfl
theorem root_0_1 (k : Nat) (S : List AV) : (List.range 3).map (fun r3 => (List.range 2).map fun r4 => rootc 0 1 r3 r4 k S) = List.replicate 3 (List.replicate 2 (some true)) := by kernel_rfl
theorem root_0_2 (k : Nat) (S : List AV) : (List.range 3).map (fun r3 => (List.range 2).map fun r4 => rootc 0 2 r3 r4 k S) = List.replicate 3 (List.replicate 2 (some true)) := by kernel_rfl
theorem root_0 (k : Nat) (S : List AV) : ∀ r2 r3 r4 : Nat, r2 < 3 → r3 < 3 → r4 < 2 → rootc 0 r2 r3 r4 k S = some true
  | 0, r3, r4, _, h3, h4 => map_rep (map_rep (root_0_0 k S) (List.mem_range.mpr h3)) (List.mem_range.mpr h4)
  | 1, r3, r4, _, h3, h4 => map_rep (map_rep (root_0_1 k S) (List.mem_range.mpr h3)) (List.mem_range.mpr h4)
  | 2, r3, r4, _, h3, h4 => map_rep (map_rep (root_0_2 k S) (List.mem_range.mpr h3)) (List.mem_range.mpr h4)
  | _ + 3, _, _, h, _, _ => absurd h (by omega)
theorem root_1_0 (k : Nat) (S : List AV) : (List.range 3).map (fun r3 => (List.range 2).map fun r4 => rootc 1 0 r3 r4 k S) = List.replicate 3 (List.replicate 2 (some true)) := by kernel_rfl
theorem root_1_1 (k : Nat) (S : List AV) : (List.range 3).map (fun r3 => (List.range 2).map fun r4 => rootc 1 1 r3 r4 k S) = List.replicate 3 (List.replicate 2 (some true)) := by kernel_rfl
theorem root_1_2 (k : Nat) (S : List AV) : (List.range 3).map (fun r3 => (List.range 2).map fun r4 => rootc 1 2 r3 r4 k S) = List.replicate 3 (List.replicate 2 (some true)) := by kernel_rfl
theorem root_1 (k : Nat) (S : List AV) : ∀ r2 r3 r4 : Nat, r2 < 3 → r3 < 3 → r4 < 2 → rootc 1 r2 r3 r4 k S = some true
  | 0, r3, r4, _, h3, h4 => map_rep (map_rep (root_1_0 k S) (List.mem_range.mpr h3)) (List.mem_range.mpr h4)
  | 1, r3, r4, _, h3, h4 => map_rep (map_rep (root_1_1 k S) (List.mem_range.mpr h3)) (List.mem_range.mpr h4)
  | 2, r3, r4, _, h3, h4 => map_rep (map_rep (root_1_2 k S) (List.mem_range.mpr h3)) (List.mem_range.mpr h4)
  | _ + 3, _, _, h, _, _ => absurd h (by omega)
theorem root_2_0 (k : Nat) (S : List AV) : (List.range 3).map (fun r3 => (List.range 2).map fun r4 => rootc 2 0 r3 r4 k S) = List.replicate 3 (List.replicate 2 (some true)) := by kernel_rfl
theorem root_2_1 (k : Nat) (S : List AV) : (List.range 3).map (fun r3 => (List.range 2).map fun r4 => rootc 2 1 r3 r4 k S) = List.replicate 3 (List.replicate 2 (some true)) := by kernel_rfl
theorem root_2_2 (k : Nat) (S : List AV) : (List.range 3).map (fun r3 => (List.range 2).map fun r4 => rootc 2 2 r3 r4 k S) = List.replicate 3 (List.replicate 2 (some true)) := by kernel_rfl
theorem root_2 (k : Nat) (S : List AV) : ∀ r2 r3 r4 : Nat, r2 < 3 → r3 < 3 → r4 < 2 → rootc 2 r2 r3 r4 k S = some true
  | 0, r3, r4, _, h3, h4 => map_rep (map_rep (root_2_0 k S) (List.mem_range.mpr h3)) (List.mem_range.mpr h4)
  | 1, r3, r4, _, h3, h4 => map_rep (map_rep (root_2_1 k S) (List.mem_range.mpr h3)) (List.mem_range.mpr h4)
  | 2, r3, r4, _, h3, h4 => map_rep (map_rep (root_2_2 k S) (List.mem_range.mpr h3)) (List.mem_range.mpr h4)
  | _ + 3, _, _, h, _, _ => absurd h (by omega)
theorem root_3_0 (k : Nat) (S : List AV) : (List.range 3).map (fun r3 => (List.range 2).map fun r4 => rootc 3 0 r3 r4 k S) = List.replicate 3 (List.replicate 2 (some true)) := by kernel_rfl
theorem root_3_1 (k : Nat) (S : List AV) : (List.range 3).map (fun r3 => (List.range 2).map fun r4 => rootc 3 1 r3 r4 k S) = List.replicate 3 (List.replicate 2 (some true)) := by kernel_rfl
theorem root_3_2 (k : Nat) (S : List AV) : (List.range 3).map (fun r3 => (List.range 2).map fun r4 => rootc 3 2 r3 r4 k S) = List.replicate 3 (List.replicate 2 (some true)) := by kernel_rfl
theorem root_3 (k : Nat) (S : List AV) : ∀ r2 r3 r4 : Nat, r2 < 3 → r3 < 3 → r4 < 2 → rootc 3 r2 r3 r4 k S = some true
  | 0, r3, r4, _, h3, h4 => map_rep (map_rep (root_3_0 k S) (List.mem_range.mpr h3)) (List.mem_range.mpr h4)
  | 1, r3, r4, _, h3, h4 => map_rep (map_rep (root_3_1 k S) (List.mem_range.mpr h3)) (List.mem_range.mpr h4)
  | 2, r3, r4, _, h3, h4 => map_rep (map_rep (root_3_2 k S) (List.mem_range.mpr h3)) (List.mem_range.mpr h4)
  | _ + 3, _, _, h, _, _ => absurd h (by omega)
theorem root_4_0 (k : Nat) (S : List AV) : (List.range 3).map (fun r3 => (List.range 2).map fun r4 => rootc 4 0 r3 r4 k S) = List.replicate 3 (List.replicate 2 (some true)) := by kernel_rfl
theorem root_4_1 (k : Nat) (S : List AV) : (List.range 3).map (fun r3 => (List.range 2).map fun r4 => rootc 4 1 r3 r4 k S) = List.replicate 3 (List.replicate 2 (some true)) := by kernel_rfl
theorem root_4_2 (k : Nat) (S : List AV) : (List.range 3).map (fun r3 => (List.range 2).map fun r4 => rootc 4 2 r3 r4 k S) = List.replicate 3 (List.replicate 2 (some true)) := by kernel_rfl
theorem root_4 (k : Nat) (S : List AV) : ∀ r2 r3 r4 : Nat, r2 < 3 → r3 < 3 → r4 < 2 → rootc 4 r2 r3 r4 k S = some true
  | 0, r3, r4, _, h3, h4 => map_rep (map_rep (root_4_0 k S) (List.mem_range.mpr h3)) (List.mem_range.mpr h4)
  | 1, r3, r4, _, h3, h4 => map_rep (map_rep (root_4_1 k S) (List.mem_range.mpr h3)) (List.mem_range.mpr h4)
  | 2, r3, r4, _, h3, h4 => map_rep (map_rep (root_4_2 k S) (List.mem_range.mpr h3)) (List.mem_range.mpr h4)
  | _ + 3, _, _, h, _, _ => absurd h (by omega)
theorem root_5_0 (k : Nat) (S : List AV) : (List.range 3).map (fun r3 => (List.range 2).map fun r4 => rootc 5 0 r3 r4 k S) = List.replicate 3 (List.replicate 2 (some true)) := by kernel_rfl
theorem root_5_1 (k : Nat) (S : List AV) : (List.range 3).map (fun r3 => (List.range 2).map fun r4 => rootc 5 1 r3 r4 k S) = List.replicate 3 (List.replicate 2 (some true)) := by kernel_rfl
theorem root_5_2 (k : Nat) (S : List AV) : (List.range 3).map (fun r3 => (List.range 2).map fun r4 => rootc 5 2 r3 r4 k S) = List.replicate 3 (List.replicate 2 (some true)) := by kernel_rfl
theorem root_5 (k : Nat) (S : List AV) : ∀ r2 r3 r4 : Nat, r2 < 3 → r3 < 3 → r4 < 2 → rootc 5 r2 r3 r4 k S = some true
  | 0, r3, r4, _, h3, h4 => map_rep (map_rep (root_5_0 k S) (List.mem_range.mpr h3)) (List.mem_range.mpr h4)
  | 1, r3, r4, _, h3, h4 => map_rep (map_rep (root_5_1 k S) (List.mem_range.mpr h3)) (List.mem_range.mpr h4)
  | 2, r3, r4, _, h3, h4 => map_rep (map_rep (root_5_2 k S) (List.mem_range.mpr h3)) (List.mem_range.mpr h4)
  | _ + 3, _, _, h, _, _ => absurd h (by omega)
theorem root_6_0 (k : Nat) (S : List AV) : (List.range 3).map (fun r3 => (List.range 2).map fun r4 => rootc 6 0 r3 r4 k S) = List.replicate 3 (List.replicate 2 (some true)) := by kernel_rfl
theorem root_6_1 (k : Nat) (S : List AV) : (List.range 3).map (fun r3 => (List.range 2).map fun r4 => rootc 6 1 r3 r4 k S) = List.replicate 3 (List.replicate 2 (some true)) := by kernel_rfl
theorem root_6_2 (k : Nat) (S : List AV) : (List.range 3).map (fun r3 => (List.range 2).map fun r4 => rootc 6 2 r3 r4 k S) = List.replicate 3 (List.replicate 2 (some true)) := by kernel_rfl
theorem root_6 (k : Nat) (S : List AV) : ∀ r2 r3 r4 : Nat, r2 < 3 → r3 < 3 → r4 < 2 → rootc 6 r2 r3 r4 k S = some true
  | 0, r3, r4, _, h3, h4 => map_rep (map_rep (root_6_0 k S) (List.mem_range.mpr h3)) (List.mem_range.mpr h4)
  | 1, r3, r4, _, h3, h4 => map_rep (map_rep (root_6_1 k S) (List.mem_range.mpr h3)) (List.mem_range.mpr h4)
  | 2, r3, r4, _, h3, h4 => map_rep (map_rep (root_6_2 k S) (List.mem_range.mpr h3)) (List.mem_range.mpr h4)
  | _ + 3, _, _, h, _, _ => absurd h (by omega)
theorem root_7_0 (k : Nat) (S : List AV) : (List.range 3).map (fun r3 => (List.range 2).map fun r4 => rootc 7 0 r3 r4 k S) = List.replicate 3 (List.replicate 2 (some true)) := by kernel_rfl
theorem root_7_1 (k : Nat) (S : List AV) : (List.range 3).map (fun r3 => (List.range 2).map fun r4 => rootc 7 1 r3 r4 k S) = List.replicate 3 (List.replicate 2 (some true)) := by kernel_rfl
theorem root_7_2 (k : Nat) (S : List AV) : (List.range 3).map (fun r3 => (List.range 2).map fun r4 => rootc 7 2 r3 r4 k S) = List.replicate 3 (List.replicate 2 (some true)) := by kernel_rfl
theorem root_7 (k : Nat) (S : List AV) : ∀ r2 r3 r4 : Nat, r2 < 3 → r3 < 3 → r4 < 2 → rootc 7 r2 r3 r4 k S = some true
  | 0, r3, r4, _, h3, h4 => map_rep (map_rep (root_7_0 k S) (List.mem_range.mpr h3)) (List.mem_range.mpr h4)
  | 1, r3, r4, _, h3, h4 => map_rep (map_rep (root_7_1 k S) (List.mem_range.mpr h3)) (List.mem_range.mpr h4)
  | 2, r3, r4, _, h3, h4 => map_rep (map_rep (root_7_2 k S) (List.mem_range.mpr h3)) (List.mem_range.mpr h4)
  | _ + 3, _, _, h, _, _ => absurd h (by omega)
theorem roots_ok (L : List Int) (hL : L.length ≤ 16) (k : Nat) (hk : k ≤ 12) : ∃ σ, d46 (cc 6) [.ref 1] (st2 k (L.map .int)) = .ok (.boo true) σ := by
  obtain ⟨r1, r2, r3, r4, h1, h2, h3, h4, e⟩ := draws46 (cc 6) L hL k hk
  have key : rootc r1 r2 r3 r4 k (L.map .int) = some true := by
    match r1, h1 with
    | 0, _ => exact root_0 k _ r2 r3 r4 h2 h3 h4
    | 1, _ => exact root_1 k _ r2 r3 r4 h2 h3 h4
    | 2, _ => exact root_2 k _ r2 r3 r4 h2 h3 h4
    | 3, _ => exact root_3 k _ r2 r3 r4 h2 h3 h4
    | 4, _ => exact root_4 k _ r2 r3 r4 h2 h3 h4
    | 5, _ => exact root_5 k _ r2 r3 r4 h2 h3 h4
    | 6, _ => exact root_6 k _ r2 r3 r4 h2 h3 h4
    | 7, _ => exact root_7 k _ r2 r3 r4 h2 h3 h4
  obtain ⟨⟨b, x, y⟩, h5, h6⟩ := Option.map_eq_some_iff.mp key
  have h6 : b = true := h6
  subst h6
  obtain ⟨σ, e1, _⟩ := endB_inv h5
  exact ⟨σ, e.trans e1⟩
end Mine
end

section
open PySem PySem.W PyProof.Rows PySem.Calls PySem.Spec
namespace Mine
set_option autoImplicit false
set_option maxRecDepth 100000
set_option maxHeartbeats 2000000

section
variable {D : Wd}
theorem sound_c (W : Wo D) : ∀ n, SoundC D n (cc n)
  | 0 => fun _ _ _ _ _ _ _ _ _ _ _ _ _ hp => hp.elim
  | n + 1 => fun k addr hk A fr p vs as RR hr hf S x hp => by
    match k, hk with
    | 0, hk =>
      have hk : some (458 : Addr) = some addr := hk
      cases hk
      exact F37 W (sound_c W n) (hr.mono (by omega)) hf S x hp
    | 1, hk =>
      have hk : some (410 : Addr) = some addr := hk
      cases hk
      exact F32 W (sound_c W n) (hr.mono (by omega)) hf S x hp
    | k + 2, hk => cases hk

/-- a part of the law is called with the box -/
theorem call_law (W : Wo D) {P f : Addr} {h : Nat} {d : DF} (hF : SoundFP D P h f d) (hfn : FnAt D f) {n : Nat} {A : Around} {fr : List Env} {env : Env} {Γ : Names} {φ : Vars} {p : Pt} {x bn : Str} {i : Nat} {np bp pos : Pos} {σ : Store} {Q : Value → Shared → Prop} {E : Value → Shared → Prop}
    (hr : Room A (24 * n + h)) (hf : A.frames = some fr) (he : EnvOK D.B0 Γ env fr) (S : St D.B0 fr p) (V : Vs Γ env φ p) (hx : Γ[i]? = some (x, .glo)) (hm : D.mg x = some (.ref f)) (hb : Γ[0]? = some (bn, .loc)) (hφ : φ[0]? = some (.lv (some (.ref 1)))) (hP : p.h.get? P = some (tabObj #[]))
    (hd : d (cc n) [.ref 1] p.σ = .ok (.boo true) σ) (k : ∀ q, q.σ = σ → St D.B0 fr q → Step (· = P) fr p q → GrownAt P q.h → Q (.bool true) (sh D.s₀ q))
    (hdx : (x == Str.ofString "__debug__") = false := by decide +kernel) (hdb : (bn == Str.ofString "__debug__") = false := by decide +kernel) (hcb : (bn == Str.ofString "__classdict__") = false := by decide +kernel) : wpAny (model D.prog D.w) A (eval (.Call (.Name x np) [.Name bn bp] [] pos) env) Q E (sh D.s₀ p) := by
  obtain ⟨o, fd, ho, hdt⟩ := hfn
  refine PyProof.Rows.Call_ ?_ rfl
  refine Name_function_global he.kind (he.glo i x hx) ?_ hdx
  refine loadGlobal_global (env := env) (mg := D.mg) (by rw [he.glob]; exact base_ns S W.ok.globs) hm ?_
  have hl : SoundL D h Γ [.Name bn bp] (lCons (xVar 0) lNil) := l_cons (s_var (i := 0) hb (by intro h; cases h) hdb hcb) l_nil
  have e1 : (lCons (xVar 0) lNil) (cc n) φ p.σ = .ok [.ref 1] p.σ := by
    show ((getV φ 0 p.σ fun v => R.ok v p.σ).bind fun v σ => (lNil (cc n) φ σ).bind fun vs σ => .ok (v :: vs) σ) = _
    rw [getV_lv _ _ hφ]
    show ((R.ok (AV.ref 1) p.σ).bind fun v σ => (R.ok [] σ).bind fun vs σ => .ok (v :: vs) σ) = _
    rw [bind_ok, bind_ok]
  obtain ⟨n1, n2, _⟩ := tab_notOwn S hP
  have hl' := hl (sound_c W n) hr hf he (pos := pos) (Q := fun vs s => (s.heap.get? f = some o ∧ o.data = .func fd) ∧ wpAny (model D.prog D.w) A (call (.ref f) vs []) Q E s) (E := E) S V (by
    rw [e1]
    intro q vs e S1 s1 x1
    have hP1 : q.h.get? P = some (tabObj #[]) := (s1.eff P _ hP id fun k hk y => n1 k hk y.symm).1 n2
    refine ⟨⟨S1.base f o ho, hdt⟩, wpAny_call (hF (sound_c W n) hr hf S1 x1.1 hP1 ?_)⟩
    rw [e, hd]
    intro q2 b e2 S2 s2 x2
    obtain ⟨x2, g2⟩ := x2
    cases x2 with
    | boo _ => exact k q2 e2 S2 (s1.anyX.then s2) g2)
  refine callWith_function (o := o) (fd := fd) ?_
  exact evalArgs_plain hl'
end
end Mine
end

section
open PySem PySem.W PyProof.Rows PySem.Calls PySem.Spec
namespace Mine
set_option autoImplicit false
set_option maxRecDepth 100000
set_option maxHeartbeats 2000000

abbrev st2' (k : Nat) (S : List AV) : Store := ⟨2, [bx k, .list S]⟩
theorem ints_vrs {h : Heap} {ρ ρ' : Nat → Addr} {n n' : Nat} : ∀ {L : List Int} {vs : List Value}, VRs h ρ n vs (L.map .int) → VRs h ρ' n' vs (L.map .int)
  | [], _, .nil => .nil
  | i :: L, _, .cons x r => .cons (by cases x with | int _ t => exact .int _ t) (ints_vrs r)
/-- what the parts made is let be: the script at 0, the box at 1 -/
abbrev anew (q : Pt) (i j k : Nat) (L : List Int) : Pt := { q with ρ := fun x => if x = 0 then q.ρ i else q.ρ j, σ := st2' k (L.map .int) }
theorem restart {B0 : Heap} {fr : List Env} {q : Pt} {i j k : Nat} {L : List Int} (S : St B0 fr q) (hij : i ≠ j) (hi : sget q.σ i = some (.list (L.map .int))) (hj : sget q.σ j = some (.list [.ref i, .int k])) : St B0 fr (anew q i j k L) := by
  have li := sget_lt hi
  have lj := sget_lt hj
  obtain ⟨v0, l0, x0⟩ := S.own i _ hi
  obtain ⟨v1, l1, x1⟩ := S.own j _ hj
  have g0 : sget (st2' k (L.map .int)) 0 = some (.list (L.map .int)) := rfl
  have g1 : sget (st2' k (L.map .int)) 1 = some (bx k) := rfl
  have two : ∀ y, y < 2 → y = 0 ∨ y = 1 := fun y h => by omega
  refine ⟨S.base, rfl, fun y o e => ?_, fun a b ha hb e => ?_, fun y hy => ?_, S.frs, fun y l e => ?_, S.str⟩
  · rcases two y (sget_lt e) with rfl | rfl
    · have e : sget (st2' k (L.map .int)) 0 = some o := e
      rw [g0] at e; cases e
      exact ⟨v0, l0, ints_vrs x0⟩
    · have e : sget (st2' k (L.map .int)) 1 = some o := e
      rw [g1] at e; cases e
      refine ⟨v1, l1, ?_⟩
      cases hv : v1.toList with
      | nil => rw [hv] at x1; cases x1
      | cons a r =>
        rw [hv] at x1
        cases x1 with
        | cons y1 r1 =>
          cases y1 with
          | ref _ =>
            refine .cons (VR.ref (ρ := fun x => if x = 0 then q.ρ i else q.ρ j) (k := 0) (show 0 < 2 by decide)) ?_
            cases r1 with
            | cons y2 r2 =>
              cases y2 with
              | int _ t =>
                cases r2
                exact .cons (.int _ t) .nil
  · rcases two a ha with rfl | rfl <;> rcases two b hb with rfl | rfl
    · rfl
    · exact absurd (S.inj i j li lj e) hij
    · exact absurd (S.inj j i lj li e).symm hij
    · rfl
  · rcases two y hy with rfl | rfl
    · exact S.new i li
    · exact S.new j lj
  · rcases two y (sget_lt e) with rfl | rfl
    · exact S.nod i _ hi
    · exact S.nod j _ hj

/-! the law's own block: the box, and globals -/
abbrev gamL (bn a b c d : Str) : Names := [(bn, .loc), (a, .glo), (b, .glo), (c, .glo), (d, .glo)]
abbrev phiL (v : Option AV) : Vars := [.lv v, .gl, .gl, .gl, .gl]
theorem vs_anew {env : Env} {bn a b c d : Str} {q : Pt} {i j k : Nat} {L : List Int} (V : Vs (gamL bn a b c d) env (phiL (some (.ref j))) q) : Vs (gamL bn a b c d) env (phiL (some (.ref 1))) (anew q i j k L) := by
  obtain ⟨m, hn, hm⟩ := V.ns
  refine ⟨rfl, ⟨m, hn, fun y x e => ?_⟩, fun y x t e ht => ?_⟩
  · match y, e with
    | 0, e =>
      have e : some (bn, NT.loc) = some (x, NT.loc) := e
      simp only [Option.some.injEq, Prod.mk.injEq, and_true] at e
      subst e
      obtain ⟨v, e1, e2⟩ := hm 0 bn rfl
      cases e1
      refine ⟨some (.ref 1), rfl, ?_⟩
      cases hv : m bn with
      | none => rw [hv] at e2; exact e2.elim
      | some u =>
        rw [hv] at e2
        cases e2 with
        | ref _ => exact VR.ref (ρ := fun x => if x = 0 then q.ρ i else q.ρ j) (k := 1) (Nat.lt_succ_self _)
    | 1, e => cases e
    | 2, e => cases e
    | 3, e => cases e
    | 4, e => cases e
    | y + 5, e => cases e
  · match y, e with
    | 0, e => cases e; rcases ht with h | h <;> cases h
    | 1, e => cases e; rcases ht with h | h <;> cases h
    | 2, e => cases e; rcases ht with h | h <;> cases h
    | 3, e => cases e; rcases ht with h | h <;> cases h
    | 4, e => cases e; rcases ht with h | h <;> cases h
    | y + 5, e => cases e
theorem keep_tab {B0 : Heap} {X : Addr → Prop} {fr : List Env} {p q : Pt} {P : Addr} {ps : Array Value} (S : St B0 fr p) (s : Step X fr p q) (hx : ¬ X P) (hP : p.h.get? P = some (tabObj ps)) : q.h.get? P = some (tabObj ps) := by
  refine (s.eff P _ hP hx fun k hk y => ?_).1 fun hm => ?_
  · exact S.notOwn hP (fun _ _ z => by cases z) (fun _ z => by cases z) k hk y
  · obtain ⟨_, o', es, n, e', hd⟩ := frs_mem S.frs hm
    rw [hP] at e'; cases e'; cases hd
end Mine
end

section
open PySem PySem.W PyProof.Rows PySem.Calls PySem.Spec
namespace Mine
set_option autoImplicit false
set_option maxRecDepth 100000
set_option maxHeartbeats 2000000

theorem vrs_of_ints {h : Heap} {ρ : Nat → Addr} {n : Nat} : ∀ {vs : List Value} {L : List Int}, IntsAre vs L → VRs h ρ n vs (L.map .int)
  | _, _, .nil => .nil
  | _, _, .cons i t r => .cons (.int i t) (vrs_of_ints r)

section
variable {D : Wd}
set_option maxHeartbeats 4000000 in
/-- box = [list(script[:16]), 0] -/
theorem law_box (W : Wo D) {A : Around} {env : Env} {p : Pt} {scr : Addr} {items : List Value} {L : List Int} {m : Str → Option Value} {ta tb tc : Str} {m' : Nat} {p1 p2 p3 p4 p5 p6 p7 p8 p9 p10 : Pos} {Q : Flow → Shared → Prop} {E : Value → Shared → Prop}
    (hr : Room A m') (hf : A.frames = some [env]) (he : EnvOK D.B0 (gamL (Str.ofString "box") (Str.ofString "list") ta tb tc) env [env]) (S : St D.B0 [env] p) (V : Vs (gamL (Str.ofString "box") (Str.ofString "list") ta tb tc) env (phiL none) p) (hσ : p.σ = ⟨0, []⟩) (hρ : p.ρ 0 = scr)
    (hns : p.h.Ns env.locals m) (hm : m (Str.ofString "script") = some (.ref scr)) (hks : env.kindOf (Str.ofString "script") = some .local) (hl : p.h.IsList scr items.toArray) (hi : IntsAre items L) (hlen : L.length ≤ 63)
    (k : ∀ q, q.σ = ⟨3, [.list [.ref 1, .int 0], .list ((L.take 16).map .int), .list ((L.take 16).map .int)]⟩ → St D.B0 [env] q → Step (Loc env) [env] p q → Vs (gamL (Str.ofString "box") (Str.ofString "list") ta tb tc) env (phiL (some (.ref 2))) q → Q .next (sh D.s₀ q)) :
    wpAny (model D.prog D.w) A (exec (.Assign [.Name (Str.ofString "box") p1] (.List [.Call (.Name (Str.ofString "list") p2) [.Subscript (.Name (Str.ofString "script") p3) (.Slice none (some (.Constant (.int 16) 0 p4)) none p5) p6] [] p7, .Constant (.int 0) 0 p8] p9) p10) env) Q E (sh D.s₀ p) := by
  have hlenI : items.length = L.length := by
    have := (vrs_of_ints (h := p.h) (ρ := p.ρ) (n := 0) hi).length
    rw [List.length_map] at this
    exact this
  refine wpAny_Assign_Name ?_ rfl
  refine PyProof.Rows.List_ (spliced_more ?_ rfl)
  -- list(script[:16])
  refine PyProof.Rows.Call_Name1 (bi_load (i := 1) W.ok he S rfl W.g_list W.b_list ?_ (by decide +kernel)) rfl
  refine PySem.callWith_type rfl (evalArgs_plain (spliced_cons ?_))
  refine Subscript_ (wpAny_Name (wpAny_loadName_local he.kind hks hns hm ?_) (by decide +kernel))
  refine wpAny_Slice (wpAny_pure ?_)
  show wpAny _ _ (mkInt 16) _ _ _
  refine wpAny_mkInt (wpAny_pure ?_)
  show wpAny _ _ _ _ _ (sh D.s₀ { p with h := p.h.push { cls := .type "slice", data := .fields #[.none, .int 16 p.t, .none] }, t := p.t + 1 })
  have S0 : St D.B0 [env] { p with t := p.t + 1 } := S.push (t := p.t + 1) fun _ _ e => e
  have s0 : Step NoX [env] p { p with t := p.t + 1 } := Step.push (t := p.t + 1) fun _ _ e => e
  subst hρ
  refine take_like (D := D) (p := { p with t := p.t + 1 }) (i := 0) (l' := (L.take 16).map .int) S0 hl (by rw [List.size_toArray, hlenI]; exact Nat.le_trans hlen (by decide +kernel)) .none (.int 16 p.t) .none (by simp) ?_ (by with_unfolding_all rfl) ?_
  · rw [show (16 : Int) = ((16 : Nat) : Int) from rfl, slicePick_upto', List.map_take]
    exact (vrs_of_ints hi).take 16
  -- the slice is at hand
  rw [newO_eq]
  intro q1 b1 e1 S1 s1 x1
  have e1 : q1.σ = ⟨1, [.list ((L.take 16).map .int)]⟩ := by rw [e1, hσ]; rfl
  have x1 : VR q1.h q1.ρ q1.σ.n b1 (.ref 0) := by
    have : (p.σ.n : Nat) = 0 := by rw [hσ]
    have x1 : VR q1.h q1.ρ q1.σ.n b1 (.ref p.σ.n) := x1
    rw [this] at x1; exact x1
  refine spliced_nil ?_
  show wpAny _ _ (call (.type "list") [b1]) _ _ (sh D.s₀ q1)
  refine op_list (D := D) hr hf S1 x1 ?_
  have hsh : (L.take 16).length < 100000 := Nat.lt_of_le_of_lt (List.length_take_le ..) (by decide)
  show Post D.B0 D.s₀ [env] NoX NoE q1 RV (getL q1.σ 0 fun l => ifB (Nat.blt (List.length l) 100000) (newO q1.σ (.list l) fun k σ => .ok (.ref k) σ) .bad) _ _
  rw [gL (σ := q1.σ) (j := 0) (l := (L.take 16).map .int) (by rw [e1]; rfl), List.length_map, show Nat.blt (L.take 16).length 100000 = true from Nat.ble_eq_true_of_le hsh]
  show Post D.B0 D.s₀ [env] NoX NoE q1 RV (newO q1.σ (.list ((L.take 16).map .int)) fun k σ => .ok (.ref k) σ) _ _
  rw [newO_eq]
  intro q2 b2 e2 S2 s2 x2
  have e2 : q2.σ = ⟨2, [.list ((L.take 16).map .int), .list ((L.take 16).map .int)]⟩ := by rw [e2, e1]; rfl
  have x2 : VR q2.h q2.ρ q2.σ.n b2 (.ref 1) := by
    have : (q1.σ.n : Nat) = 1 := by rw [e1]
    have x2 : VR q2.h q2.ρ q2.σ.n b2 (.ref q1.σ.n) := x2
    rw [this] at x2; exact x2
  refine spliced_more ?_ rfl
  show wpAny _ _ (mkInt 0) _ _ _
  refine wpAny_mkInt (spliced_none ?_)
  have S2' : St D.B0 [env] { q2 with t := q2.t + 1 } := S2.push (t := q2.t + 1) fun _ _ e => e
  have s2' : Step NoX [env] q2 { q2 with t := q2.t + 1 } := Step.push (t := q2.t + 1) fun _ _ e => e
  show wpAny _ _ (newList [b2, .int 0 q2.t]) _ _ (sh D.s₀ { q2 with t := q2.t + 1 })
  refine new_list (D := D) (p := { q2 with t := q2.t + 1 }) (as := [.ref 1, .int 0]) S2' (.cons x2 (.cons (.int 0 _) .nil)) (by show 2 ≤ sizeLine; decide +kernel) ?_
  rw [newO_eq]
  intro q3 b3 e3 S3 s3 x3
  have e3 : q3.σ = ⟨3, [.list [.ref 1, .int 0], .list ((L.take 16).map .int), .list ((L.take 16).map .int)]⟩ := by
    rw [e3]; show snew q2.σ _ = _; rw [e2]; rfl
  have x3 : VR q3.h q3.ρ q3.σ.n b3 (.ref 2) := by
    have : (q2.σ.n : Nat) = 2 := by rw [e2]
    have x3 : VR q3.h q3.ρ q3.σ.n b3 (.ref q2.σ.n) := x3
    rw [this] at x3; exact x3
  have s13 : Step NoX [env] p q3 := (s0.then s1).then (s2.then (s2'.then s3))
  have V3 := V.on S s13
  refine put_ok (X := Loc env) (EX := NoE) (p := p) (q := q3) (E := E) (s₀ := D.s₀) (Rel2 := fun (q : Pt) (φ : Vars) (_ : Unit) => Vs (gamL (Str.ofString "box") (Str.ofString "list") ta tb tc) env φ q) (f := fun φ σ => R.ok φ σ) (Q2 := fun _ s => Q .next s) he S3 s13.anyX V3 x3 (i := 0) rfl (.inl rfl) (fun _ _ => rfl) ?_ fun q4 φ4 S4 s4 _ V4 h4 => ?_
  · show Post D.B0 D.s₀ [env] (Loc env) NoE p _ (R.ok (phiL (some (.ref 2))) q3.σ) _ E
    intro q b e S' s' x
    exact k q (e.trans e3) S' s' x
  · exact h4 q4 () rfl S4 s4 V4
/-- the whole block of the law -/
theorem law_run (W : Wo D) {A : Around} {env : Env} {scr : Addr} {items : List Value} {L : List Int} {m : Str → Option Value} {h₁ : Heap} {t : Nat} {p1 p2 p3 p4 p5 p6 p7 p8 p9 p10 q1 q2 q3 q4 q5 q6 q7 q8 q9 q10 q11 : Pos} {Q : Flow → Shared → Prop} {E : Value → Shared → Prop}
    (hr : Room A (24 * 6 + 8)) (hf : A.frames = some [env]) (hfl : env.frame = some env.locals) (hk : env.scope.kind = .function) (hg : env.globals = mainGlobals) (hbl : env.builtins = builtinsNs)
    (hks : env.kindOf (Str.ofString "script") = some .local) (hkb : env.kindOf (Str.ofString "box") = some .local) (hkl : env.kindOf (Str.ofString "list") = some .globalImplicit) (hka : env.kindOf (Str.ofString "_law_trace_right") = some .globalImplicit) (hkc : env.kindOf (Str.ofString "_law_cuts_right") = some .globalImplicit) (hkd : env.kindOf (Str.ofString "_law_roots_right") = some .globalImplicit)
    (hB : D.B0.StaysIn h₁) (hLb : D.B0.get? env.locals = none) (hns : h₁.Ns env.locals m) (hm : m (Str.ofString "script") = some (.ref scr)) (hmb : m (Str.ofString "box") = none) (hl : h₁.IsList scr items.toArray) (hi : IntsAre items L) (hlen : L.length ≤ 63) (hT : ∀ P ∈ tabsL, h₁.get? P = some (tabObj #[]))
    (hlaw : ∀ S : List Int, S.length ≤ 16 → ∃ σ1 k σ2 σ3, d44 (cc 6) [.ref 1] (st2' 0 (S.map .int)) = .ok (.boo true) σ1 ∧ sget σ1 1 = some (bx 3) ∧ sget σ1 0 = some (.list (S.map .int)) ∧ d45 (cc 6) [.ref 1] (st2' 3 (S.map .int)) = .ok (.boo true) σ2 ∧ sget σ2 1 = some (bx k) ∧ sget σ2 0 = some (.list (S.map .int)) ∧ d46 (cc 6) [.ref 1] (st2' k (S.map .int)) = .ok (.boo true) σ3)
    (hQ : ∀ q : Pt, D.B0.StaysIn q.h → (∀ P ∈ tabsL, GrownAt P q.h) → Q (.ret (.bool true)) (sh D.s₀ q)) :
    wpAny (model D.prog D.w) A (execs [.Assign [.Name (Str.ofString "box") p1] (.List [.Call (.Name (Str.ofString "list") p2) [.Subscript (.Name (Str.ofString "script") p3) (.Slice none (some (.Constant (.int 16) 0 p4)) none p5) p6] [] p7, .Constant (.int 0) 0 p8] p9) p10,
      .Return (some (.BoolOp .And [.Call (.Name (Str.ofString "_law_trace_right") q1) [.Name (Str.ofString "box") q2] [] q3, .Call (.Name (Str.ofString "_law_cuts_right") q4) [.Name (Str.ofString "box") q5] [] q6, .Call (.Name (Str.ofString "_law_roots_right") q7) [.Name (Str.ofString "box") q8] [] q9] q10)) q11] env) Q E
      ⟨h₁, D.s₀.gens, D.s₀.drawn, t, D.s₀.os⟩ := by
  have he : EnvOK D.B0 (gamL (Str.ofString "box") (Str.ofString "list") (Str.ofString "_law_trace_right") (Str.ofString "_law_cuts_right") (Str.ofString "_law_roots_right")) env [env] := by
    refine ⟨hk, hg, hbl, fun i x e => ?_, fun i x e => ?_, fun i x e => ?_, fun i x e => ?_, by decide +kernel, ⟨env, [], env.locals, rfl, hfl, hfl⟩, hLb⟩
    · match i, e with
      | 0, e => cases e; exact hkb
      | 1, e => cases e
      | 2, e => cases e
      | 3, e => cases e
      | 4, e => cases e
      | i + 5, e => cases e
    · match i, e with
      | 0, e => cases e
      | 1, e => cases e
      | 2, e => cases e
      | 3, e => cases e
      | 4, e => cases e
      | i + 5, e => cases e
    · match i, e with
      | 0, e => cases e
      | 1, e => cases e
      | 2, e => cases e
      | 3, e => cases e
      | 4, e => cases e
      | i + 5, e => cases e
    · match i, e with
      | 0, e => cases e
      | 1, e => cases e; exact hkl
      | 2, e => cases e; exact hka
      | 3, e => cases e; exact hkc
      | 4, e => cases e; exact hkd
      | i + 5, e => cases e
  obtain ⟨oL, esL, epL, eL, dL, _⟩ := id hns
  have hfrL : frL [env] = [env.locals] := by rw [frL, List.filterMap_cons, hfl]; rfl
  have S0 : St D.B0 [env] ⟨fun _ => scr, ⟨0, []⟩, h₁, t⟩ := by
    refine ⟨hB, rfl, fun k o e => ?_, fun j k h _ _ => absurd h (Nat.not_lt_zero _), fun k h => absurd h (Nat.not_lt_zero _), ⟨hk, ⟨env.locals, oL, esL, epL, hfl, hLb, eL, dL⟩, trivial⟩, fun k l e => ?_, fun a hm => ?_⟩
    · exact absurd (sget_lt e) (Nat.not_lt_zero _)
    · exact absurd (sget_lt e) (Nat.not_lt_zero _)
    · rw [hfrL] at hm
      rcases List.mem_cons.mp hm with rfl | hm
      · exact ⟨_, hns⟩
      · cases hm
  have V0 : Vs (gamL (Str.ofString "box") (Str.ofString "list") (Str.ofString "_law_trace_right") (Str.ofString "_law_cuts_right") (Str.ofString "_law_roots_right")) env (phiL none) ⟨fun _ => scr, ⟨0, []⟩, h₁, t⟩ := by
    refine ⟨rfl, ⟨m, hns, fun i x e => ?_⟩, fun i x k e hk => ?_⟩
    · match i, e with
      | 0, e => cases e; exact ⟨none, rfl, by rw [hmb]; trivial⟩
      | 1, e => cases e
      | 2, e => cases e
      | 3, e => cases e
      | 4, e => cases e
      | i + 5, e => cases e
    · match i, e with
      | 0, e => cases e; rcases hk with h | h <;> cases h
      | 1, e => cases e; rcases hk with h | h <;> cases h
      | 2, e => cases e; rcases hk with h | h <;> cases h
      | 3, e => cases e; rcases hk with h | h <;> cases h
      | 4, e => cases e; rcases hk with h | h <;> cases h
      | i + 5, e => cases e
  have nl : ∀ P ∈ tabsL, P ≠ env.locals := fun P hP y => by
    have := hT P hP
    rw [y, eL] at this; cases this; cases dL
  obtain ⟨σ1, kk, σ2, σ3, f1, f2, f3, g1, g2, g3, h1⟩ := hlaw (L.take 16) (List.length_take_le ..)
  have t1 : (523 : Addr) ∈ tabsL := by decide
  have t2 : (528 : Addr) ∈ tabsL := by decide
  have t3 : (533 : Addr) ∈ tabsL := by decide
  show wpAny _ _ _ _ _ (sh D.s₀ ⟨fun _ => scr, ⟨0, []⟩, h₁, t⟩)
  refine wpAny_execs_cons (law_box W hr hf he S0 V0 rfl rfl hns hm hks hl hi hlen fun q0 e0 S0' s0 V0' => ?_)
  -- the box is at hand
  have S1 := restart (i := 1) (j := 2) (k := 0) (L := L.take 16) S0' (by decide) (by rw [e0]; rfl) (by rw [e0]; rfl)
  have V1 := vs_anew (i := 1) (j := 2) (k := 0) (L := L.take 16) V0'
  have P1 : ∀ P ∈ tabsL, q0.h.get? P = some (tabObj #[]) := fun P hP => keep_tab S0 s0 (fun y => nl P hP y) (hT P hP)
  refine wpAny_execs_cons (wpAny_Return_some (PyProof.Rows.BoolOp_and ?_))
  show wpAny _ _ _ _ _ (sh D.s₀ (anew q0 1 2 0 (L.take 16)))
  refine call_law W (F44 W) W.fn_law_trace_right (i := 2) hr hf he S1 V1 rfl W.m_law_trace_right rfl rfl (P1 _ t1) f1 fun q1 e1 S1' s1 G1 => ?_
  refine wpAny_truthy_bool ?_
  show wpAny _ _ _ _ _ _
  have S2 := restart (i := 0) (j := 1) (k := 3) (L := L.take 16) S1' (by decide) (by rw [e1]; exact f3) (by rw [e1]; exact f2)
  have V1' := V1.step S1 s1 (loose_tab (P1 _ t1)) (loc_ne_tab V1 (P1 _ t1))
  have V2 := vs_anew (i := 0) (j := 1) (k := 3) (L := L.take 16) V1'
  have P2 : ∀ P ∈ tabsL, P ≠ 523 → q1.h.get? P = some (tabObj #[]) := fun P hP hn => keep_tab S1 s1 hn (P1 P hP)
  refine PyProof.Rows.BoolOp_and ?_
  show wpAny _ _ _ _ _ (sh D.s₀ (anew q1 0 1 3 (L.take 16)))
  refine call_law W (F45 W) W.fn_law_cuts_right (i := 3) (hr.mono (by omega)) hf he S2 V2 rfl W.m_law_cuts_right rfl rfl (P2 _ t2 (by decide)) g1 fun q2 e2 S2' s2 G2 => ?_
  refine wpAny_truthy_bool ?_
  show wpAny _ _ _ _ _ _
  have S3 := restart (i := 0) (j := 1) (k := kk) (L := L.take 16) S2' (by decide) (by rw [e2]; exact g3) (by rw [e2]; exact g2)
  have V2' := V2.step S2 s2 (loose_tab (P2 _ t2 (by decide))) (loc_ne_tab V2 (P2 _ t2 (by decide)))
  have V3 := vs_anew (i := 0) (j := 1) (k := kk) (L := L.take 16) V2'
  have P3 : q2.h.get? 533 = some (tabObj #[]) := keep_tab S2 s2 (by decide) (P2 _ t3 (by decide))
  have G1' : GrownAt 523 q2.h := grown_on S2 s2 (by decide) G1
  refine PyProof.Rows.BoolOp_one ?_
  show wpAny _ _ _ _ _ (sh D.s₀ (anew q2 0 1 kk (L.take 16)))
  refine call_law W (F46 W) W.fn_law_roots_right (i := 4) hr hf he S3 V3 rfl W.m_law_roots_right rfl rfl P3 h1 fun q3 e3 S3' s3 G3 => ?_
  refine hQ q3 S3'.base fun P hP => ?_
  rcases List.mem_cons.mp hP with rfl | hP
  · exact G3
  rcases List.mem_cons.mp hP with rfl | hP
  · exact grown_on S3 s3 (by decide) G2
  rcases List.mem_cons.mp hP with rfl | hP
  · exact grown_on S3 s3 (by decide) G1'
  · cases hP
end
end Mine
end

open PySem PySem.W PyProof.Rows
namespace Mine
set_option maxRecDepth 100000
theorem fragK_of {β : Type} {h : Heap} {v : β} : ∀ {as : List Addr} {k : Frag → Option β}, fragK h none as k = some v → ∃ K : Frag, (∀ a o, (a, o) ∈ K → h.get? a = some o) ∧ k K = some v
  | [], k, e => ⟨[], (fun _ _ m => by cases m), e⟩
  | a :: as, k, e => by
    unfold fragK at e
    split at e
    · rename_i o ho
      obtain ⟨K, h1, h2⟩ := fragK_of (k := fun K => k ((a, o) :: K)) e
      refine ⟨(a, o) :: K, fun b x m => ?_, h2⟩
      rcases List.mem_cons.mp m with y | y
      · cases y; exact ho
      · exact h1 b x y
    · cases e
theorem lookup_mem {α : Type} : ∀ {l : List (Addr × α)} {a : Addr} {o : α}, l.lookup a = some o → (a, o) ∈ l
  | (b, x) :: r, a, o, e => by
    rw [List.lookup_cons] at e
    split at e
    · rename_i q; cases e; rw [beq_iff_eq.mp q]; exact .head _
    · exact .tail _ (lookup_mem e)
noncomputable def Says (_ : World) (h : Heap) : Prop := (∀ P ∈ tabsL, h.get? P = some (tabObj #[])) ∧ ∃ K : Frag, K.In h ∧ goodK K = goodV
theorem says_of (w : World) (s : Shared) (e : obs s = val w) : Says w s.heap := by
  obtain ⟨e1, e2⟩ := Prod.mk.inj e
  refine ⟨List.map_inj_left.mp e2, ?_⟩
  obtain ⟨K, h1, h2⟩ := fragK_of e1
  exact ⟨K, fun a o x => h1 a o (lookup_mem x), Option.some.inj h2⟩
theorem says_keeps (w : World) (h h' : Heap) (x : Says w h) (k : ∀ b o, h.get? b = some o → h'.get? b = some o) : Says w h' :=
  ⟨fun P hP => k _ _ (x.1 P hP), let ⟨K, h1, h2⟩ := x.2; ⟨K, h1.keeps k, h2⟩⟩
theorem codeHd_tabs {K : Frag} {h : Heap} (hG : goodK K = goodV) (X : K.In h) (hT : ∀ P ∈ tabsL, h.get? P = some (tabObj #[])) : TabsAt [(537, 533), (530, 528), (525, 523)] h := by
  have e := congrArg (fun x => x.2.2.2.2.2.2.2) hG
  simp only [goodK, goodV, Bool.and_eq_true] at e
  obtain ⟨⟨⟨_, e1⟩, e2⟩, e3⟩ := e
  intro q hq
  rcases List.mem_cons.mp hq with rfl | hq
  · exact ⟨codeHd_of_K X e3, hT _ (.head _)⟩
  rcases List.mem_cons.mp hq with rfl | hq
  · exact ⟨codeHd_of_K X e2, hT _ (.tail _ (.head _))⟩
  rcases List.mem_cons.mp hq with rfl | hq
  · exact ⟨codeHd_of_K X e1, hT _ (.tail _ (.tail _ (.head _)))⟩
  · cases hq
theorem noTabs_of {K : Frag} (hG : goodK K = goodV) : noTabs K = true := by
  have e := congrArg (fun x => x.2.2.2.2.2.2.2) hG
  simp only [goodK, goodV, Bool.and_eq_true] at e
  exact e.1.1.1.2
/-- the law's parts, one after the other, for every script -/
theorem law_parts (S : List Int) (hS : S.length ≤ 16) : ∃ σ1 k σ2 σ3, d44 (cc 6) [.ref 1] (st2' 0 (S.map .int)) = .ok (.boo true) σ1 ∧ sget σ1 1 = some (bx 3) ∧ sget σ1 0 = some (.list (S.map .int)) ∧ d45 (cc 6) [.ref 1] (st2' 3 (S.map .int)) = .ok (.boo true) σ2 ∧ sget σ2 1 = some (bx k) ∧ sget σ2 0 = some (.list (S.map .int)) ∧ d46 (cc 6) [.ref 1] (st2' k (S.map .int)) = .ok (.boo true) σ3 := by
  obtain ⟨σ1, f1, f2, f3⟩ := trace_ok S hS
  obtain ⟨k, σ2, hk, g1, g2, g3⟩ := cuts_ok S hS
  obtain ⟨σ3, h1⟩ := roots_ok S hS k (by omega)
  exact ⟨σ1, k, σ2, σ3, f1, f2, f3, g1, g2, g3, h1⟩
end Mine

open PySem PySem.W PyProof.Rows Mine
set_option maxRecDepth 100000 in
set_option maxHeartbeats 8000000 in
theorem PySem.Challenge.cw_rh0044_01_holds : PySem.Challenge.rw_rh0044_01.Holds := by
  w_on
  refine holds_law said fun said => ?_
  refine holds_open (q := qv) (loose := looseL) (XP := XL qv []) (YP := Says) (N := 5706) left says_of says_keeps (fun s e => xl_of s (Bool.and_eq_true_iff.mp e).1) XL.keeps (by rfl) (by rfl) (by rfl) (fun s e => recFacts_of (Bool.and_eq_true_iff.mp e).2) (by rfl) (by assumption) opens_ok ⟨rfl, rfl, rfl, rfl, rfl, by decide +kernel⟩ ?hw ?hc
  case hw => w_witness2
  case hc =>
    intro w s₀ s₁ mg mb G Y fa o pm cd doc dV kV ho hd hcd hD hmg hg args vals as hpre hlay hrd hwl hlo
    obtain ⟨hT8, K, X, hK⟩ := Y
    have hT9 := codeHd_tabs hK X hT8
    refine Ground.open G ?_
    intro T B D TE TW
    try (refine guard_noD D (by decide +kernel) ?_; clear D)
    clear hmg
    wrow_args hpre hlay hrd hwl hlo
    first | refine callC_kw (enter_call ?_) | refine enter_call ?_
    w_top on
    kn_posts
    w_call any ho hd hcd hD T F
    clear hd
    have X' := ghost_K hT9 X (noTabs_of hK)
    have T' := ghost_top hT9 T
    have F' := ghost_fr hT9 F
    rename IntsAre _ _ => hI
    rename Heap.IsList _ _ _ => hL
    rename ¬ _ < _ => hlen
    have W : Wo ⟨PySem.Challenge.rw_rh0044_01.row.prog, w, ghostOf s₁.heap [(537, 533), (530, 528), (525, 523)], K, s₁, mg, mb⟩ :=
      ⟨⟨T'.g, T'.b, X', T'.nolimit⟩, hK, T'.builtins, fun P hP => hideAll_none _ hP, T'.bmain⟩
    have hLb : (ghostOf s₁.heap [(537, 533), (530, 528), (525, 523)]).get? s₁.heap.objs.size = none := ghost_fresh (size_none _)
    refine law_run (D := ⟨PySem.Challenge.rw_rh0044_01.row.prog, w, ghostOf s₁.heap [(537, 533), (530, 528), (525, 523)], K, s₁, mg, mb⟩) W ⟨rfl, Nat.le_of_ble_eq_true rfl, Nat.le_of_ble_eq_true rfl⟩ rfl rfl rfl rfl rfl rfl rfl rfl rfl rfl rfl F'.keep hLb F'.ns rfl rfl (let ⟨o, e, r⟩ := hL; ⟨o, F.keep _ _ e, r⟩) hI (by omega) (fun P hP => F.keep _ _ (hT8 P hP)) law_parts fun q hb hgr => ?_
    refine ⟨⟨.inl ⟨_, .bool true, [], rfl, fun _ => rfl, .bool true, ?_, fun _ => ⟨List.nodup_nil, fun _ h => (by cases h)⟩⟩, hb, rfl, hg⟩, hgr 533 (by decide), hgr 528 (by decide), hgr 523 (by decide), trivial⟩
    wrow_post
