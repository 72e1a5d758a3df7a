import PyProof.Rows.All
import Wide.All
import OpenK.AllK
import Wide.FinOn
import PySem.Challenge.RW_sa0109_01
set_option Elab.async false
set_option maxRecDepth 100000
set_option maxHeartbeats 8000000
set_option linter.unusedVariables false

section
open PySem PySem.W PySem.Calls PyProof.Rows
namespace Mine

abbrev V := PySem.W.Dat

inductive Slot where
  | free
  | val (x : V)
  | own (xs : List V)

abbrev St := List Slot
abbrev D := St → Option V
abbrev DL := St → Option (List V)
abbrev DB := St → Option Bool

inductive Res where
  | nxt (σ : St)
  | ret (v : V)

abbrev DS := St → Option Res

/-- forced in the kernel: k meets a written number -/
def fN {α : Type} (n : Nat) (k : Nat → α) : α := match n with
  | 0 => k 0
  | m + 1 => k (m + 1)
def fI {α : Type} (i : Int) (k : Int → α) : α := match i with
  | .ofNat n => fN n fun n => k (.ofNat n)
  | .negSucc n => fN n fun n => k (.negSucc n)
theorem fN_eq {α : Type} (n : Nat) (k : Nat → α) : fN n k = k n := by cases n <;> rfl
theorem fI_eq {α : Type} (i : Int) (k : Int → α) : fI i k = k i := by cases i <;> simp only [fI, fN_eq]

def rI (i : Int) : Option V := fI i fun i => some (.int i)
theorem rI_eq (i : Int) : rI i = some (.int i) := fI_eq i _
def rB (b : Bool) : Option V := match b with | true => some (.bool true) | false => some (.bool false)
theorem rB_eq (b : Bool) : rB b = some (.bool b) := by cases b <;> rfl

def getS : St → Nat → Slot
  | [], _ => .free
  | s :: _, 0 => s
  | _ :: r, n + 1 => getS r n

/-- the slots with one set, forced -/
def setK {α : Type} : St → Nat → Slot → (St → α) → α
  | [], _, _, k => k []
  | _ :: r, 0, x, k => k (x :: r)
  | s :: r, n + 1, x, k => setK r n x fun r' => k (s :: r')
theorem setK_eq {α : Type} : ∀ (σ : St) (n : Nat) (x : Slot) (k : St → α), setK σ n x k = k (σ.set n x)
  | [], _, _, _ => rfl
  | _ :: _, 0, _, _ => rfl
  | s :: r, n + 1, x, k => by rw [setK, setK_eq r n x]; rfl

def setL {α : Type} : List V → Nat → V → (List V → α) → α
  | [], _, _, k => k []
  | _ :: r, 0, x, k => k (x :: r)
  | s :: r, n + 1, x, k => setL r n x fun r' => k (s :: r')
theorem setL_eq {α : Type} : ∀ (σ : List V) (n : Nat) (x : V) (k : List V → α), setL σ n x k = k (σ.set n x)
  | [], _, _, _ => rfl
  | _ :: _, 0, _, _ => rfl
  | s :: r, n + 1, x, k => by rw [setL, setL_eq r n x]; rfl

/-- a list's spine, forced -/
def fL {α : Type} : List V → (List V → α) → α
  | [], k => k []
  | x :: r, k => fL r fun r' => k (x :: r')
theorem fL_eq {α : Type} : ∀ (xs : List V) (k : List V → α), fL xs k = k xs
  | [], _ => rfl
  | x :: r, k => by rw [fL, fL_eq r]

def eqI : Int → Int → Bool
  | .ofNat a, .ofNat b => Nat.beq a b
  | .negSucc a, .negSucc b => Nat.beq a b
  | _, _ => false
theorem eqI_eq (a b : Int) : eqI a b = decide (a = b) := by
  cases a with
  | ofNat a => cases b with
    | ofNat b => rw [eqI, Bool.eq_iff_iff, Nat.beq_eq, decide_eq_true_iff]; exact Int.ofNat_inj.symm
    | negSucc b => simp [eqI]
  | negSucc a => cases b with
    | ofNat b => simp [eqI]
    | negSucc b => rw [eqI, Bool.eq_iff_iff, Nat.beq_eq, decide_eq_true_iff]; exact Int.negSucc_inj.symm
def ltI : Int → Int → Bool
  | .ofNat a, .ofNat b => Nat.blt a b
  | .negSucc a, .negSucc b => Nat.blt b a
  | .negSucc _, .ofNat _ => true
  | .ofNat _, .negSucc _ => false
theorem ltI_eq (a b : Int) : ltI a b = decide (a < b) := by
  cases a with
  | ofNat a => cases b with
    | ofNat b => rw [ltI, Bool.eq_iff_iff, Nat.blt_eq, decide_eq_true_iff]; exact Int.ofNat_lt.symm
    | negSucc b => rw [ltI, eq_comm, decide_eq_false_iff_not, Int.ofNat_eq_natCast, Int.negSucc_eq]; omega
  | negSucc a => cases b with
    | ofNat b => rw [ltI, eq_comm, decide_eq_true_iff, Int.ofNat_eq_natCast, Int.negSucc_eq]; omega
    | negSucc b => rw [ltI, Bool.eq_iff_iff, Nat.blt_eq, decide_eq_true_iff, Int.negSucc_eq, Int.negSucc_eq]; omega

mutual
def eqV : V → V → Option Bool
  | .none, .none => some true
  | .int a, .int b => some (eqI a b)
  | .tuple xs, .tuple ys => eqVs xs ys
  | .list xs, .list ys => eqVs xs ys
  | _, _ => none
def eqVs : List V → List V → Option Bool
  | [], [] => some true
  | x :: xs, y :: ys => match eqV x y with
    | some true => eqVs xs ys
    | r => r
  | [], _ :: _ => some false
  | _ :: _, [] => some false
end

/-- expressions -/
def dI (i : Int) : D := fun _ => some (.int i)
def dN : D := fun _ => some .none
def dB (b : Bool) : D := fun _ => some (.bool b)
def dV (i : Nat) : D := fun σ => match getS σ i with | .val x => some x | _ => none

def int2 (f : Int → Int → Option V) (a b : D) : D := fun σ => match a σ with
  | some (.int i) => (match b σ with | some (.int j) => f i j | _ => none)
  | _ => none
def dAdd : D → D → D := int2 fun i j => rI (i + j)
def dSub : D → D → D := int2 fun i j => rI (i - j)
/-- small factors alone -/
def small (i : Int) : Bool := ltI i 1000000 && ltI (-1000000) i
def dMul : D → D → D := int2 fun i j => if small i && small j then rI (i * j) else none
def dDiv : D → D → D := int2 fun i j => if eqI j 0 then none else if small j then rI (i.fdiv j) else none
def dMod : D → D → D := int2 fun i j => if eqI j 0 then none else rI (i.fmod j)
def dPow : D → D → D := int2 fun i j => if small i && ltI (-1) j && ltI j 64 then rI (i ^ j.toNat) else none
def dNeg (a : D) : D := fun σ => match a σ with | some (.int i) => rI (-i) | _ => none

def dCat (a b : D) : DL := fun σ => match a σ with
  | some (.list xs) => (match b σ with | some (.list ys) => (if Nat.blt (xs.length + ys.length) 1000 then fL (xs ++ ys) some else none) | _ => none)
  | _ => none

/-- a new list's value -/
def dNew (a : DL) : D := fun σ => match a σ with | some xs => some (.list xs) | none => none

def int2B (f : Int → Int → Bool) (a b : D) : DB := fun σ => match a σ with
  | some (.int i) => (match b σ with | some (.int j) => some (f i j) | _ => none)
  | _ => none
def tEq : D → D → DB := int2B eqI
def tNe : D → D → DB := int2B fun i j => !eqI i j
def tLt : D → D → DB := int2B ltI
def tGt : D → D → DB := int2B fun i j => ltI j i
def tGe : D → D → DB := int2B fun i j => !ltI i j
/-- lists, tuples -/
def tEqL (a b : D) : DB := fun σ => match a σ with
  | some (.list xs) => (match b σ with | some (.list ys) => (if kqdOk 9 (.list xs) && kqdOk 9 (.list ys) then eqVs xs ys else none) | _ => none)
  | _ => none
def tNeL (a b : D) : DB := fun σ => match tEqL a b σ with | some r => some (!r) | none => none
/-- bools -/
def tNeB (a b : D) : DB := fun σ => match a σ with
  | some (.bool x) => (match b σ with | some (.bool y) => some (xor x y) | _ => none)
  | _ => none
def tIsNone (a : D) : DB := fun σ => match a σ with | some .none => some true | some _ => some false | none => none
def tIsNot (a : D) : DB := fun σ => match a σ with | some .none => some false | some _ => some true | none => none
def inV (x : V) : List V → Option Bool
  | [] => some false
  | y :: ys => match eqV y x with
    | some true => some true
    | some false => inV x ys
    | none => none
def tIn (a b : D) : DB := fun σ => match a σ with
  | some x => (match b σ with | some (.list ys) => (if kqdOk 8 x && ys.all (kqdOk 8) then inV x ys else none) | _ => none)
  | none => none
def tNotIn (a b : D) : DB := fun σ => match tIn a b σ with | some r => some (!r) | none => none
/-- a < b < c -/
def tLt2 (a b c : D) : DB := fun σ => match a σ with
  | some (.int i) => (match b σ with
    | some (.int j) => (if ltI i j then (match c σ with | some (.int k) => some (ltI j k) | _ => none) else some false)
    | _ => none)
  | _ => none
def tAnd (a b : DB) : DB := fun σ => match a σ with | some true => b σ | r => r
def tOr (a b : DB) : DB := fun σ => match a σ with | some false => b σ | r => r
/-- a value's truth: a bool -/
def tV (a : D) : DB := fun σ => match a σ with | some (.bool b) => some b | _ => none
def dT (a : DB) : D := fun σ => match a σ with | some b => rB b | none => none
def dIf (t : DB) (a b : D) : D := fun σ => match t σ with | some true => a σ | some false => b σ | none => none
def dIfL (t : DB) (a b : DL) : DL := fun σ => match t σ with | some true => a σ | some false => b σ | none => none
def dAnd (a b : D) : D := fun σ => match a σ with | some (.bool true) => b σ | some (.bool false) => some (.bool false) | _ => none

def getL : List V → Nat → Option V
  | [], _ => none
  | x :: _, 0 => some x
  | _ :: r, n + 1 => getL r n
theorem getL_eq : ∀ (xs : List V) (n : Nat), getL xs n = xs[n]?
  | [], _ => rfl
  | _ :: _, 0 => rfl
  | _ :: r, n + 1 => by rw [getL, getL_eq r n]; rfl
def atL (xs : List V) : Int → Option V
  | .ofNat n => if Nat.blt n 1000000 then getL xs n else none
  | .negSucc _ => none
/-- xs[i], 0 ≤ i -/
def dAt (a b : D) : D := fun σ => match a σ with
  | some (.list xs) => (match b σ with | some (.int i) => atL xs i | _ => none)
  | _ => none
def dAtT (a : D) (n : Nat) : D := fun σ => match a σ with | some (.tuple xs) => getL xs n | _ => none
def lastL : List V → Option V
  | [] => none
  | [x] => some x
  | _ :: r => lastL r
def dLast (a : D) : D := fun σ => match a σ with | some (.list xs) => lastL xs | _ => none
def dAtO (i : Nat) (b : D) : D := fun σ => match getS σ i with
  | .own xs => (match b σ with | some (.int i) => atL xs i | _ => none)
  | _ => none

def lenI (xs : List V) : Int := .ofNat xs.length
def dLen (a : D) : D := fun σ => match a σ with | some (.list xs) => if Nat.blt xs.length 1000000 then rI (lenI xs) else none | _ => none
def dLenO (i : Nat) : D := fun σ => match getS σ i with | .own xs => if Nat.blt xs.length 1000000 then rI (lenI xs) else none | _ => none
def dMax : D → D → D := int2 fun i j => if ltI i j then rI j else rI i

def ds2 (a b : D) : DL := fun σ => match a σ with | some x => (match b σ with | some y => some [x, y] | none => none) | none => none
def ds0 : DL := fun _ => some []
def dsC (a : D) (r : DL) : DL := fun σ => match a σ with | some x => (match r σ with | some y => some (x :: y) | none => none) | none => none
def dTup (a : DL) : D := fun σ => match a σ with | some xs => some (.tuple xs) | none => none

def takeK {α : Type} : List V → Nat → (List V → α) → α
  | [], _, k => k []
  | _ :: _, 0, k => k []
  | x :: r, n + 1, k => takeK r n fun r' => k (x :: r')
theorem takeK_eq {α : Type} : ∀ (xs : List V) (n : Nat) (k : List V → α), takeK xs n k = k (xs.take n)
  | [], _, _ => by simp [takeK]
  | _ :: _, 0, _ => rfl
  | x :: r, n + 1, k => by rw [takeK, takeK_eq r n]; rfl
def takeI (xs : List V) : Int → Option (List V)
  | .ofNat n => if Nat.blt xs.length 1000000 then takeK xs n some else none
  | .negSucc _ => none
/-- xs[:n], 0 ≤ n -/
def dTake (a b : D) : DL := fun σ => match a σ with
  | some (.list xs) => (match b σ with | some (.int i) => takeI xs i | _ => none)
  | _ => none
def dTakeO (i : Nat) (b : D) : DL := fun σ => match getS σ i with
  | .own xs => (match b σ with | some (.int i) => takeI xs i | _ => none)
  | _ => none
def revK {α : Type} : List V → List V → (List V → α) → α
  | [], acc, k => k acc
  | x :: r, acc, k => revK r (x :: acc) k
/-- xs[::-1] -/
def dRev (a : D) : DL := fun σ => match a σ with | some (.list xs) => (if Nat.blt xs.length 1000000 then revK xs [] some else none) | _ => none
/-- list(xs) -/
def dCopy (a : D) : DL := fun σ => match a σ with | some (.list xs) => (if Nat.blt xs.length 1000000 then some xs else none) | _ => none
/-- [x] * n -/
def repI (x : V) (i : Int) : Option (List V) := if ltI i 1000 && ltI (-1000) i then fL (List.replicate i.toNat x) some else none
def dRep (a b : D) : DL := fun σ => match a σ with
  | some x => (match b σ with | some (.int i) => repI x i | _ => none)
  | none => none

/-- a call -/
def dCall (F : List V → Option V) (as : DL) : D := fun σ => match as σ with | some xs => F xs | none => none

/-- the comprehension [elt for x in src if tst], its items ints -/
def compK (elt : D) (tst : DB) (σ : St) : List V → Option (List V)
  | [] => some []
  | x :: r => match tst (.val x :: σ) with
    | some true => (match elt (.val x :: σ) with
      | some (.int i) => (match compK elt tst σ r with | some ys => some (.int i :: ys) | none => none)
      | _ => none)
    | some false => compK elt tst σ r
    | none => none

/-- statements -/
def sNil : DS := fun σ => some (.nxt σ)
def sSeq (a b : DS) : DS := fun σ => match a σ with
  | some (.nxt σ') => b σ'
  | r => r
def sSet (i : Nat) (a : D) : DS := fun σ => match a σ with | some x => setK σ i (.val x) fun σ' => some (.nxt σ') | none => none
def sOwn (i : Nat) (a : DL) : DS := fun σ => match a σ with | some x => setK σ i (.own x) fun σ' => some (.nxt σ') | none => none
/-- an own list is frozen -/
def sFrz (i : Nat) (a : DS) : DS := fun σ => match getS σ i with | .own x => setK σ i (.val (.list x)) a | _ => none
def sRet (a : D) : DS := fun σ => match a σ with | some x => some (.ret x) | none => none
def sIf (t : DB) (a b : DS) : DS := fun σ => match t σ with | some true => a σ | some false => b σ | none => none
def sWhile (t : DB) (b : DS) : Nat → DS
  | 0, _ => none
  | n + 1, σ => match t σ with
    | some true => (match b σ with
      | some (.nxt σ') => sWhile t b n σ'
      | r => r)
    | some false => some (.nxt σ)
    | none => none
def pushK {α : Type} : List V → V → (List V → α) → α
  | [], x, k => k [x]
  | y :: r, x, k => pushK r x fun r' => k (y :: r')
theorem pushK_eq {α : Type} : ∀ (xs : List V) (x : V) (k : List V → α), pushK xs x k = k (xs ++ [x])
  | [], _, _ => rfl
  | y :: r, x, k => by rw [pushK, pushK_eq r x]; rfl
def sPush (i : Nat) (a : D) : DS := fun σ => match a σ with
  | some x => (match getS σ i with
    | .own xs => if Nat.blt xs.length 1000000 then pushK xs x fun ys => setK σ i (.own ys) fun σ' => some (.nxt σ') else none
    | _ => none)
  | none => none
def sExt (i : Nat) (a : D) : DS := fun σ => match a σ with
  | some (.list ys) => (match getS σ i with
    | .own xs => if Nat.blt (xs.length + ys.length) 1000000 then fL (xs ++ ys) fun ys => setK σ i (.own ys) fun σ' => some (.nxt σ') else none
    | _ => none)
  | _ => none
/-- own[b] = a; the value first -/
def sPut (i : Nat) (b a : D) : DS := fun σ => match a σ with
  | some x => (match b σ with
    | some (.int (.ofNat n)) => (match getS σ i with
      | .own xs => if Nat.blt n 1000000 && Nat.blt n xs.length then setL xs n x fun ys => setK σ i (.own ys) fun σ' => some (.nxt σ') else none
      | _ => none)
    | _ => none)
  | none => none
def popK {α : Type} : List V → (List V → V → Option α) → Option α
  | [], _ => none
  | [x], k => k [] x
  | x :: r, k => popK r fun r' y => k (x :: r') y
/-- j = own.pop() -/
def sPop (j i : Nat) : DS := fun σ => match getS σ i with
  | .own xs => if Nat.blt xs.length 1000000 then popK xs fun ys x => setK σ i (.own ys) fun σ' => setK σ' j (.val x) fun σ'' => some (.nxt σ'') else none
  | _ => none
/-- a, b = x, y -/
abbrev RS := St → Option Slot
def rV (a : D) : RS := fun σ => match a σ with | some x => some (.val x) | none => none
def rO (a : DL) : RS := fun σ => match a σ with | some x => some (.own x) | none => none
def evS : List RS → St → Option (List Slot)
  | [], _ => some []
  | r :: rs, σ => match r σ with | some x => (match evS rs σ with | some xs => some (x :: xs) | none => none) | none => none
def putS : List Nat → List Slot → St → Option Res
  | i :: is, x :: xs, σ => setK σ i x fun σ' => putS is xs σ'
  | _, _, σ => some (.nxt σ)
/-- the stores from the last to the first, as the model has them -/
def sTup (is : List Nat) (rs : List RS) : DS := fun σ => match evS rs σ with | some xs => putS is.reverse xs.reverse σ | none => none
def putV : List Nat → List V → St → Option Res
  | i :: is, x :: xs, σ => setK σ i (.val x) fun σ' => putV is xs σ'
  | [], [], σ => some (.nxt σ)
  | _, _, _ => none
/-- a, b, c = f(..) -/
def sUnp (is : List Nat) (a : D) : DS := fun σ => match a σ with
  | some (.tuple xs) => putV is xs σ
  | _ => none
def sFail : DS := fun _ => none
/-- a turn for each item -/
def sFor (put : V → DS) (b : DS) : List V → DS
  | [], σ => some (.nxt σ)
  | x :: r, σ => match put x σ with
    | some (.nxt σ₁) => (match b σ₁ with
      | some (.nxt σ₂) => sFor put b r σ₂
      | r => r)
    | r => r
def put1 (i : Nat) (x : V) : DS := fun σ => setK σ i (.val x) fun σ' => some (.nxt σ')
def putT (is : List Nat) (x : V) : DS := fun σ => match x with
  | .tuple xs => putV is xs σ
  | _ => none
def sForL (put : V → DS) (a : D) (b : DS) : DS := fun σ => match a σ with
  | some (.list xs) => sFor put b xs σ
  | _ => none
/-- for i, x in enumerate(a) -/
def enumL : Nat → List V → List V
  | _, [] => []
  | n, x :: r => fN n fun n => .tuple [.int (.ofNat n), x] :: enumL (n + 1) r
def sEnum (is : List Nat) (a : D) (b : DS) : DS := fun σ => match a σ with
  | some (.list xs) => sFor (putT is) b (enumL 0 xs) σ
  | _ => none
def rangeL (step : Int) : Nat → Int → List V
  | 0, _ => []
  | n + 1, i => fI i fun i => .int i :: rangeL step n (i + step)
/-- for i in range(a) -/
def sRange (i : Nat) (a : D) (b : DS) : DS := fun σ => match a σ with
  | some (.int n) => if ltI n 1000 && ltI (-1000) n then sFor (put1 i) b (rangeL 1 n.toNat 0) σ else none
  | _ => none
/-- for i in range(a, -1, -1) -/
def sDown (i : Nat) (a : D) (b : DS) : DS := fun σ => match a σ with
  | some (.int n) => if ltI n 1000 && ltI (-1000) n then sFor (put1 i) b (rangeL (-1) (n + 1).toNat n) σ else none
  | _ => none

/-- a def's value -/
def fn (j k : Nat) (b : DS) : List V → Option V := fun as => if Nat.beq as.length j then
  match b (as.map .val ++ List.replicate k .free) with
  | some (.ret v) => some v
  | some (.nxt _) => some .none
  | none => none
  else none

def ltVs : List V → List V → Option Bool
  | [], [] => some false
  | .int a :: xs, .int b :: ys => if eqI a b then ltVs xs ys else some (ltI a b)
  | [], _ :: _ => some true
  | .int _ :: _, [] => some false
  | _, _ => none
/-- two keys: a number, a list of numbers -/
def ltK : V → V → Option Bool
  | .tuple [.int a, .list xs], .tuple [.int b, .list ys] =>
    if eqI a b then (if kqdOk 9 (.list xs) && kqdOk 9 (.list ys) then (match eqVs xs ys with | some true => some false | some false => ltVs xs ys | none => none) else none) else some (ltI a b)
  | _, _ => none
def kasRun {α : Type} (cmp : Nat → Nat → Option Bool) : KasT α → Option α
  | .ret a => some a
  | .ask i j k => match cmp i j with
    | some true => kasRun cmp (k true)
    | some false => kasRun cmp (k false)
    | none => none
def cmpK (ks : List V) (i j : Nat) : Option Bool := match getL ks i with
  | some x => (match getL ks j with | some y => ltK x y | none => none)
  | none => none
def keysK (F : List V → Option V) : List V → Option (List V)
  | [] => some []
  | x :: r => match F [x] with
    | some (.tuple [.int i, .list ys]) => (match keysK F r with | some ks => some (.tuple [.int i, .list ys] :: ks) | none => none)
    | _ => none
def pickL (xs : List V) : List Nat → Option (List V)
  | [] => some []
  | i :: r => match getL xs i with
    | some x => (match pickL xs r with | some ys => some (x :: ys) | none => none)
    | none => none
/-- sorted(a, key=F) -/
def dSorted (F : List V → Option V) (a : D) : DL := fun σ => match a σ with
  | some (.list xs) => (match keysK F xs with
    | some ks => if Nat.blt xs.length 2 then some xs else if Nat.blt xs.length 64 then (match kasRun (cmpK ks) (kas_sort xs.length) with
      | some p => if Nat.beq p.size xs.length then pickL xs p.toList else none
      | none => none) else none
    | none => none)
  | _ => none
/-- [elt for x in a if t]; the names that the comprehension sees: its own, then `vs` -/
def seen (σ : St) : List Nat → Option St
  | [] => some []
  | i :: r => match getS σ i with
    | .val x => (match seen σ r with | some t => some (.val x :: t) | none => none)
    | _ => none
def dComp (a : D) (vs : List Nat) (elt : D) (tst : DB) : DL := fun σ => match a σ with
  | some (.list xs) => (match seen σ vs with
    | some t => if Nat.blt xs.length 1000000 then compK elt tst t xs else none
    | none => none)
  | _ => none
def tTrue : DB := fun _ => some true
end Mine
end

section
open PySem PySem.W
namespace Mine
-- ['a', 'b', 'one', 'other', 'times', 'rest'] own []
def b_extended : DS := (sSeq (sTup [2, 3] [rV (dTup (dsC (dV 0) (dsC (dI 1) (dsC (dI 0) ds0)))), rV (dTup (dsC (dV 1) (dsC (dI 0) (dsC (dI 1) ds0))))]) (sSeq (sWhile (tNe (dAtT (dV 3) 0) (dI 0)) (sSeq (sSet 4 (dDiv (dAtT (dV 2) 0) (dAtT (dV 3) 0))) (sSeq (sSet 5 (dTup (dsC (dSub (dAtT (dV 2) 0) (dMul (dV 4) (dAtT (dV 3) 0))) (dsC (dSub (dAtT (dV 2) 1) (dMul (dV 4) (dAtT (dV 3) 1))) (dsC (dSub (dAtT (dV 2) 2) (dMul (dV 4) (dAtT (dV 3) 2))) ds0))))) (sSeq (sTup [2, 3] [rV (dV 3), rV (dV 5)]) sNil))) 40) (sSeq (sRet (dIf (tGe (dAtT (dV 2) 0) (dI 0)) (dV 2) (dTup (dsC (dSub (dI 0) (dAtT (dV 2) 0)) (dsC (dSub (dI 0) (dAtT (dV 2) 1)) (dsC (dSub (dI 0) (dAtT (dV 2) 2)) ds0)))))) sNil)))
def f_extended : List V → Option V := fn 2 4 b_extended
-- ['a', 'm', 'g', 's', 't'] own []
def b_inverse_mod : DS := (sSeq (sUnp [2, 3, 4] (dCall f_extended (dsC (dMod (dV 0) (dV 1)) (dsC (dV 1) ds0)))) (sSeq (sRet (dIf (tEq (dV 2) (dI 1)) (dMod (dV 3) (dV 1)) dN)) sNil))
def f_inverse_mod : List V → Option V := fn 2 3 b_inverse_mod
-- ['a', 'many'] own []
def b_mtrim : DS := (sSeq (sSet 1 (dLen (dV 0))) (sSeq (sWhile (tAnd (tGt (dV 1) (dI 0)) (tEq (dAt (dV 0) (dSub (dV 1) (dI 1))) (dI 0))) (sSeq (sSet 1 (dSub (dV 1) (dI 1))) sNil) 40) (sSeq (sRet (dNew (dCopy (dNew (dTake (dV 0) (dV 1)))))) sNil)))
def f_mtrim : List V → Option V := fn 1 1 b_mtrim
-- ['a'] own []
def b_mdegree : DS := (sSeq (sRet (dSub (dLen (dV 0)) (dI 1))) sNil)
def f_mdegree : List V → Option V := fn 1 0 b_mdegree
-- ['a', 'b', 'p', 'found', 'at'] own ['found']
def b_madd : DS := (sSeq (sOwn 3 ds0) (sSeq (sRange 4 (dMax (dLen (dV 0)) (dLen (dV 1))) (sSeq (sPush 3 (dMod (dAdd (dIf (tLt (dV 4) (dLen (dV 0))) (dAt (dV 0) (dV 4)) (dI 0)) (dIf (tLt (dV 4) (dLen (dV 1))) (dAt (dV 1) (dV 4)) (dI 0))) (dV 2))) sNil)) (sSeq (sFrz 3 (sRet (dCall f_mtrim (dsC (dV 3) ds0)))) sNil)))
def f_madd : List V → Option V := fn 3 2 b_madd
-- ['a', 'p'] own []
def b_mneg : DS := (sSeq (sRet (dNew (dComp (dV 0) [1] (dMod (dNeg (dV 0)) (dV 1)) tTrue))) sNil)
def f_mneg : List V → Option V := fn 2 0 b_mneg
-- ['a', 'b', 'p'] own []
def b_msub : DS := (sSeq (sRet (dCall f_madd (dsC (dV 0) (dsC (dCall f_mneg (dsC (dV 1) (dsC (dV 2) ds0))) (dsC (dV 2) ds0))))) sNil)
def f_msub : List V → Option V := fn 3 0 b_msub
-- ['a', 'number', 'p'] own []
def b_mscale : DS := (sSeq (sRet (dCall f_mtrim (dsC (dNew (dComp (dV 0) [2, 1] (dMod (dMul (dV 0) (dV 2)) (dV 1)) tTrue)) ds0))) sNil)
def f_mscale : List V → Option V := fn 3 0 b_mscale
-- ['a', 'b', 'p', 'found', 'at', 'one', 'spot', 'other'] own ['found']
def b_mmul : DS := (sSeq (sIf (tOr (tEq (dLen (dV 0)) (dI 0)) (tEq (dLen (dV 1)) (dI 0))) (sSeq (sRet (dNew ds0)) sNil) sNil) (sSeq (sOwn 3 (dRep (dI 0) (dSub (dAdd (dLen (dV 0)) (dLen (dV 1))) (dI 1)))) (sSeq (sEnum [4, 5] (dV 0) (sSeq (sIf (tNe (dV 5) (dI 0)) (sSeq (sEnum [6, 7] (dV 1) (sSeq (sPut 3 (dAdd (dV 4) (dV 6)) (dMod (dAdd (dAtO 3 (dAdd (dV 4) (dV 6))) (dMul (dV 5) (dV 7))) (dV 2))) sNil)) sNil) sNil) sNil)) (sSeq (sFrz 3 (sRet (dCall f_mtrim (dsC (dV 3) ds0)))) sNil))))
def f_mmul : List V → Option V := fn 3 5 b_mmul
-- ['a', 'b', 'p', 'rest', 'quotient', 'turn', 'at', 'number', 'spot', 'other'] own ['quotient', 'rest']
def b_mdivmod : DS := (sSeq (sTup [3, 4] [rO (dCopy (dV 0)), rO (dRep (dI 0) (dMax (dI 0) (dAdd (dSub (dLen (dV 0)) (dLen (dV 1))) (dI 1))))]) (sSeq (sSet 5 (dCall f_inverse_mod (dsC (dLast (dV 1)) (dsC (dV 2) ds0)))) (sSeq (sDown 6 (dSub (dLen (dV 0)) (dLen (dV 1))) (sSeq (sSet 7 (dMod (dMul (dAtO 3 (dSub (dAdd (dV 6) (dLen (dV 1))) (dI 1))) (dV 5)) (dV 2))) (sSeq (sPut 4 (dV 6) (dV 7)) (sSeq (sIf (tNe (dV 7) (dI 0)) (sSeq (sEnum [8, 9] (dV 1) (sSeq (sPut 3 (dAdd (dV 6) (dV 8)) (dMod (dSub (dAtO 3 (dAdd (dV 6) (dV 8))) (dMul (dV 7) (dV 9))) (dV 2))) sNil)) sNil) sNil) sNil)))) (sSeq (sFrz 4 (sRet (dTup (dsC (dCall f_mtrim (dsC (dV 4) ds0)) (dsC (dCall f_mtrim (dsC (dNew (dTakeO 3 (dSub (dLen (dV 1)) (dI 1)))) ds0)) ds0))))) sNil))))
def f_mdivmod : List V → Option V := fn 3 7 b_mdivmod
-- ['a', 'b', 'p'] own []
def b_mrest : DS := (sSeq (sRet (dAtT (dCall f_mdivmod (dsC (dV 0) (dsC (dV 1) (dsC (dV 2) ds0)))) 1)) sNil)
def f_mrest : List V → Option V := fn 3 0 b_mrest
-- ['a', 'b', 'p'] own []
def b_mquotient : DS := (sSeq (sRet (dAtT (dCall f_mdivmod (dsC (dV 0) (dsC (dV 1) (dsC (dV 2) ds0)))) 0)) sNil)
def f_mquotient : List V → Option V := fn 3 0 b_mquotient
-- ['a', 'p'] own []
def b_mmonic : DS := (sSeq (sRet (dIf (tGt (dLen (dV 0)) (dI 0)) (dCall f_mscale (dsC (dV 0) (dsC (dCall f_inverse_mod (dsC (dLast (dV 0)) (dsC (dV 1) ds0))) (dsC (dV 1) ds0)))) (dNew ds0))) sNil)
def f_mmonic : List V → Option V := fn 2 0 b_mmonic
-- ['a', 'n', 'f', 'p', 'found', 'square'] own []
def b_mpower_mod : DS := (sSeq (sTup [4, 5] [rV (dCall f_mrest (dsC (dNew (dsC (dI 1) ds0)) (dsC (dV 2) (dsC (dV 3) ds0)))), rV (dCall f_mrest (dsC (dV 0) (dsC (dV 2) (dsC (dV 3) ds0))))]) (sSeq (sWhile (tGt (dV 1) (dI 0)) (sSeq (sIf (tEq (dMod (dV 1) (dI 2)) (dI 1)) (sSeq (sSet 4 (dCall f_mrest (dsC (dCall f_mmul (dsC (dV 4) (dsC (dV 5) (dsC (dV 3) ds0)))) (dsC (dV 2) (dsC (dV 3) ds0))))) sNil) sNil) (sSeq (sSet 1 (dDiv (dV 1) (dI 2))) (sSeq (sIf (tGt (dV 1) (dI 0)) (sSeq (sSet 5 (dCall f_mrest (dsC (dCall f_mmul (dsC (dV 5) (dsC (dV 5) (dsC (dV 3) ds0)))) (dsC (dV 2) (dsC (dV 3) ds0))))) sNil) sNil) sNil))) 40) (sSeq (sRet (dV 4)) sNil)))
def f_mpower_mod : List V → Option V := fn 4 2 b_mpower_mod
-- ['some', 'p', 'found', 'one'] own []
def b_mproduct : DS := (sSeq (sSet 2 (dNew (dsC (dI 1) ds0))) (sSeq (sForL (put1 3) (dV 0) (sSeq (sSet 2 (dCall f_mmul (dsC (dV 2) (dsC (dV 3) (dsC (dV 1) ds0))))) sNil)) (sSeq (sRet (dV 2)) sNil)))
def f_mproduct : List V → Option V := fn 2 2 b_mproduct
-- ['a', 'b', 'p'] own []
def b_mgcd : DS := (sSeq (sWhile (tGt (dLen (dV 1)) (dI 0)) (sSeq (sTup [0, 1] [rV (dV 1), rV (dCall f_mrest (dsC (dV 0) (dsC (dV 1) (dsC (dV 2) ds0))))]) sNil) 40) (sSeq (sRet (dCall f_mmonic (dsC (dV 0) (dsC (dV 2) ds0)))) sNil))
def f_mgcd : List V → Option V := fn 3 0 b_mgcd
-- ['f', 'p', 'found', 'degree', 'power', 'common'] own ['found']
def b_distinct_degrees : DS := (sSeq (sTup [2, 3, 4] [rO ds0, rV (dI 0), rV (dNew (dsC (dI 0) (dsC (dI 1) ds0)))]) (sSeq (sWhile (tGe (dCall f_mdegree (dsC (dV 0) ds0)) (dMul (dI 2) (dAdd (dV 3) (dI 1)))) (sSeq (sSet 3 (dAdd (dV 3) (dI 1))) (sSeq (sSet 4 (dCall f_mpower_mod (dsC (dV 4) (dsC (dV 1) (dsC (dV 0) (dsC (dV 1) ds0)))))) (sSeq (sSet 5 (dCall f_mgcd (dsC (dCall f_msub (dsC (dV 4) (dsC (dNew (dsC (dI 0) (dsC (dI 1) ds0))) (dsC (dV 1) ds0)))) (dsC (dV 0) (dsC (dV 1) ds0))))) (sSeq (sIf (tGt (dCall f_mdegree (dsC (dV 5) ds0)) (dI 0)) (sSeq (sPush 2 (dTup (dsC (dV 5) (dsC (dV 3) ds0)))) (sSeq (sSet 0 (dCall f_mquotient (dsC (dV 0) (dsC (dV 5) (dsC (dV 1) ds0))))) (sSeq (sSet 4 (dCall f_mrest (dsC (dV 4) (dsC (dV 0) (dsC (dV 1) ds0))))) sNil))) sNil) sNil)))) 40) (sSeq (sIf (tGt (dCall f_mdegree (dsC (dV 0) ds0)) (dI 0)) (sSeq (sPush 2 (dTup (dsC (dV 0) (dsC (dCall f_mdegree (dsC (dV 0) ds0)) ds0)))) sNil) sNil) (sSeq (sFrz 2 (sRet (dV 2))) sNil))))
def f_distinct_degrees : List V → Option V := fn 2 4 b_distinct_degrees
-- ['a', 'many', 'f', 'p', 'found', 'square', 'turn'] own []
def b_trace_power : DS := (sSeq (sTup [4, 5] [rV (dNew ds0), rV (dCall f_mrest (dsC (dV 0) (dsC (dV 2) (dsC (dV 3) ds0))))]) (sSeq (sRange 6 (dV 1) (sSeq (sSet 4 (dCall f_madd (dsC (dV 4) (dsC (dV 5) (dsC (dV 3) ds0))))) (sSeq (sSet 5 (dCall f_mrest (dsC (dCall f_mmul (dsC (dV 5) (dsC (dV 5) (dsC (dV 3) ds0)))) (dsC (dV 2) (dsC (dV 3) ds0))))) sNil))) (sSeq (sRet (dV 4)) sNil)))
def f_trace_power : List V → Option V := fn 4 3 b_trace_power
-- ['a', 'degree', 'f', 'p'] own []
def b_split_power : DS := (sSeq (sIf (tEq (dV 3) (dI 2)) (sSeq (sRet (dCall f_msub (dsC (dCall f_trace_power (dsC (dV 0) (dsC (dV 1) (dsC (dV 2) (dsC (dV 3) ds0))))) (dsC (dNew (dsC (dI 1) ds0)) (dsC (dV 3) ds0))))) sNil) sNil) (sSeq (sRet (dCall f_msub (dsC (dCall f_mpower_mod (dsC (dV 0) (dsC (dDiv (dSub (dPow (dV 3) (dV 1)) (dI 1)) (dI 2)) (dsC (dV 2) (dsC (dV 3) ds0))))) (dsC (dNew (dsC (dI 1) ds0)) (dsC (dV 3) ds0))))) sNil))
def f_split_power : List V → Option V := fn 4 0 b_split_power
-- ['f', 'degree', 'a', 'p', 'common'] own []
def b_split_once : DS := (sSeq (sSet 4 (dCall f_mgcd (dsC (dV 2) (dsC (dV 0) (dsC (dV 3) ds0))))) (sSeq (sIf (tLt2 (dI 0) (dCall f_mdegree (dsC (dV 4) ds0)) (dCall f_mdegree (dsC (dV 0) ds0))) (sSeq (sRet (dV 4)) sNil) sNil) (sSeq (sSet 4 (dCall f_mgcd (dsC (dCall f_split_power (dsC (dV 2) (dsC (dV 1) (dsC (dV 0) (dsC (dV 3) ds0))))) (dsC (dV 0) (dsC (dV 3) ds0))))) (sSeq (sRet (dIf (tLt2 (dI 0) (dCall f_mdegree (dsC (dV 4) ds0)) (dCall f_mdegree (dsC (dV 0) ds0))) (dV 4) dN)) sNil))))
def f_split_once : List V → Option V := fn 4 1 b_split_once
-- ['number', 'p', 'found'] own ['found']
def b_counted : DS := (sSeq (sOwn 2 ds0) (sSeq (sWhile (tGt (dV 0) (dI 0)) (sSeq (sPush 2 (dMod (dV 0) (dV 1))) (sSeq (sSet 0 (dDiv (dV 0) (dV 1))) sNil)) 40) (sSeq (sFrz 2 (sRet (dCall f_mtrim (dsC (dV 2) ds0)))) sNil)))
def f_counted : List V → Option V := fn 2 1 b_counted
-- ['f', 'degree', 'choices', 'p', 'a', 'part', 'number'] own []
def b_first_split : DS := (sSeq (sForL (fun _ => sFail) (dV 2) sFail) (sSeq (sTup [6, 5] [rV (dV 3), rV dN]) (sSeq (sWhile (tIsNone (dV 5)) (sSeq (sSet 5 (dCall f_split_once (dsC (dV 0) (dsC (dV 1) (dsC (dCall f_counted (dsC (dV 6) (dsC (dV 3) ds0))) (dsC (dV 3) ds0)))))) (sSeq (sSet 6 (dIf (tEq (dV 3) (dI 2)) (dMul (dI 2) (dV 6)) (dAdd (dV 6) (dI 1)))) sNil)) 40) (sSeq (sRet (dV 5)) sNil))))
def f_first_split : List V → Option V := fn 4 3 b_first_split
-- ['a'] own []
def b_morder : DS := (sSeq (sRet (dTup (dsC (dLen (dV 0)) (dsC (dNew (dRev (dV 0))) ds0)))) sNil)
def f_morder : List V → Option V := fn 1 0 b_morder
-- ['f', 'degree', 'choices', 'p', 'waiting', 'found', 'here', 'part'] own ['found', 'waiting']
def b_equal_degree : DS := (sSeq (sTup [4, 5] [rO (dIfL (tGt (dCall f_mdegree (dsC (dV 0) ds0)) (dI 0)) (dsC (dCall f_mmonic (dsC (dV 0) (dsC (dV 3) ds0))) ds0) ds0), rO ds0]) (sSeq (sWhile (tGt (dLenO 4) (dI 0)) (sSeq (sPop 6 4) (sSeq (sIf (tEq (dCall f_mdegree (dsC (dV 6) ds0)) (dV 1)) (sSeq (sPush 5 (dV 6)) sNil) (sSeq (sSet 7 (dCall f_first_split (dsC (dV 6) (dsC (dV 1) (dsC (dV 2) (dsC (dV 3) ds0)))))) (sSeq (sPush 4 (dV 7)) (sSeq (sPush 4 (dCall f_mquotient (dsC (dV 6) (dsC (dV 7) (dsC (dV 3) ds0))))) sNil)))) sNil)) 40) (sSeq (sFrz 5 (sRet (dNew (dSorted f_morder (dV 5))))) sNil)))
def f_equal_degree : List V → Option V := fn 4 4 b_equal_degree
-- ['f', 'choices', 'p', 'found', 'product', 'degree'] own ['found']
def b_prime_parts : DS := (sSeq (sOwn 3 ds0) (sSeq (sForL (putT [4, 5]) (dCall f_distinct_degrees (dsC (dV 0) (dsC (dV 2) ds0))) (sSeq (sExt 3 (dCall f_equal_degree (dsC (dV 4) (dsC (dV 5) (dsC (dV 1) (dsC (dV 2) ds0)))))) sNil)) (sSeq (sFrz 3 (sRet (dNew (dSorted f_morder (dV 3))))) sNil)))
def f_prime_parts : List V → Option V := fn 3 3 b_prime_parts
-- ['a', 'b', 'm', 'p'] own []
def b_gf_multiply : DS := (sSeq (sRet (dCall f_mrest (dsC (dCall f_mmul (dsC (dV 0) (dsC (dV 1) (dsC (dV 3) ds0)))) (dsC (dV 2) (dsC (dV 3) ds0))))) sNil)
def f_gf_multiply : List V → Option V := fn 4 0 b_gf_multiply
-- ['a', 'n', 'm', 'p', 'found', 'square'] own []
def b_gf_power : DS := (sSeq (sIf (tLt (dV 1) (dI 0)) (sSeq sFail sNil) sNil) (sSeq (sTup [4, 5] [rV (dNew (dsC (dI 1) ds0)), rV (dNew (dCopy (dV 0)))]) (sSeq (sWhile (tGt (dV 1) (dI 0)) (sSeq (sIf (tEq (dMod (dV 1) (dI 2)) (dI 1)) (sSeq (sSet 4 (dCall f_gf_multiply (dsC (dV 4) (dsC (dV 5) (dsC (dV 2) (dsC (dV 3) ds0)))))) sNil) sNil) (sSeq (sSet 1 (dDiv (dV 1) (dI 2))) (sSeq (sIf (tGt (dV 1) (dI 0)) (sSeq (sSet 5 (dCall f_gf_multiply (dsC (dV 5) (dsC (dV 5) (dsC (dV 2) (dsC (dV 3) ds0)))))) sNil) sNil) sNil))) 40) (sSeq (sRet (dV 4)) sNil))))
def f_gf_power : List V → Option V := fn 4 2 b_gf_power
-- ['a'] own []
def b_number_of : DS := (sSeq (sRet (dIf (tGt (dLen (dV 0)) (dI 0)) (dAt (dV 0) (dI 0)) (dI 0))) sNil)
def f_number_of : List V → Option V := fn 1 0 b_number_of
-- ['a', 'm', 'p', 'found', 'here', 'turn'] own []
def b_gf_trace : DS := (sSeq (sTup [3, 4] [rV (dNew ds0), rV (dNew (dCopy (dV 0)))]) (sSeq (sRange 5 (dCall f_mdegree (dsC (dV 1) ds0)) (sSeq (sSet 3 (dCall f_madd (dsC (dV 3) (dsC (dV 4) (dsC (dV 2) ds0))))) (sSeq (sSet 4 (dCall f_gf_power (dsC (dV 4) (dsC (dV 2) (dsC (dV 1) (dsC (dV 2) ds0)))))) sNil))) (sSeq (sRet (dCall f_number_of (dsC (dV 3) ds0))) sNil)))
def f_gf_trace : List V → Option V := fn 3 3 b_gf_trace
-- ['f', 'a', 'm', 'p', 'found', 'number'] own []
def b_gf_at : DS := (sSeq (sSet 4 (dNew ds0)) (sSeq (sForL (put1 5) (dNew (dRev (dV 0))) (sSeq (sSet 4 (dCall f_madd (dsC (dCall f_gf_multiply (dsC (dV 4) (dsC (dV 1) (dsC (dV 2) (dsC (dV 3) ds0))))) (dsC (dCall f_mscale (dsC (dNew (dsC (dI 1) ds0)) (dsC (dV 5) (dsC (dV 3) ds0)))) (dsC (dV 3) ds0))))) sNil)) (sSeq (sRet (dV 4)) sNil)))
def f_gf_at : List V → Option V := fn 4 2 b_gf_at
-- ['f', 'row', 'p', 'found', 'number'] own []
def b_law_at : DS := (sSeq (sSet 3 (dNew ds0)) (sSeq (sForL (put1 4) (dNew (dRev (dV 0))) (sSeq (sSet 3 (dCall f_madd (dsC (dCall f_mmul (dsC (dV 3) (dsC (dV 1) (dsC (dV 2) ds0)))) (dsC (dNew (dIfL (tGt (dV 4) (dI 0)) (dsC (dV 4) ds0) ds0)) (dsC (dV 2) ds0))))) sNil)) (sSeq (sRet (dV 3)) sNil)))
def f_law_at : List V → Option V := fn 3 2 b_law_at
-- ['script', 'p', 'f', 'k', 'inner', 'whole', 'root', 'is_split', 'parts', 'here', 'seen', 'turn']
def b_law : DS := (sSeq (sSet 5 (dCall f_law_at (dsC (dV 2) (dsC (dV 4) (dsC (dV 1) ds0))))) (sSeq (sIf (tOr (tNe (dLen (dV 5)) (dAdd (dMul (dV 3) (dV 1)) (dI 1))) (tNeL (dCall f_law_at (dsC (dV 5) (dsC (dNew (dsC (dI 1) (dsC (dI 1) ds0))) (dsC (dV 1) ds0)))) (dV 5))) (sSeq (sRet (dB false)) sNil) sNil) (sSeq (sSet 6 (dIf (tGt (dV 3) (dI 1)) (dNew (dsC (dI 0) (dsC (dI 1) ds0))) (dCall f_mrest (dsC (dNew (dsC (dI 0) (dsC (dI 1) ds0))) (dsC (dV 2) (dsC (dV 1) ds0)))))) (sSeq (sSet 7 (dT (tEq (dCall f_gf_trace (dsC (dV 6) (dsC (dV 2) (dsC (dV 1) ds0)))) (dI 0)))) (sSeq (sIf (tOr (tNeB (dT (tEq (dAt (dV 2) (dSub (dV 3) (dI 1))) (dI 0))) (dV 7)) (tNeL (dCall f_distinct_degrees (dsC (dV 5) (dsC (dV 1) ds0))) (dNew (dsC (dTup (dsC (dV 5) (dsC (dIf (tV (dV 7)) (dV 3) (dMul (dV 3) (dV 1))) ds0))) ds0)))) (sSeq (sRet (dB false)) sNil) sNil) (sSeq (sIf (tGt (dMul (dV 3) (dV 1)) (dI 5)) (sSeq (sRet (dB true)) sNil) sNil) (sSeq (sSet 8 (dCall f_prime_parts (dsC (dV 5) (dsC (dNew ds0) (dsC (dV 1) ds0))))) (sSeq (sIf (tOr (tNe (dLen (dV 8)) (dIf (tV (dV 7)) (dV 1) (dI 1))) (tNeL (dCall f_mproduct (dsC (dV 8) (dsC (dV 1) ds0))) (dV 5))) (sSeq (sRet (dB false)) sNil) sNil) (sSeq (sTup [9, 10] [rV (dAt (dV 8) (dI 0)), rV (dNew ds0)]) (sSeq (sRange 11 (dLen (dV 8)) (sSeq (sIf (tOr (tIn (dV 9) (dV 10)) (tOr (tNotIn (dV 9) (dV 8)) (tNe (dLen (dV 9)) (dAdd (dIf (tV (dV 7)) (dV 3) (dMul (dV 3) (dV 1))) (dI 1))))) (sSeq (sRet (dB false)) sNil) sNil) (sSeq (sTup [10, 9] [rV (dNew (dCat (dV 10) (dNew (dsC (dV 9) ds0)))), rV (dCall f_law_at (dsC (dV 9) (dsC (dNew (dsC (dI 1) (dsC (dI 1) ds0))) (dsC (dV 1) ds0))))]) sNil))) (sSeq (sRet (dAnd (dT (tEqL (dV 9) (dAt (dV 8) (dI 0)))) (dT (tEqL (dNew (dComp (dV 8) [2, 1, 4] (dV 0) (tNeL (dCall f_gf_at (dsC (dV 1) (dsC (dCall f_mrest (dsC (dV 3) (dsC (dV 0) (dsC (dV 2) ds0)))) (dsC (dV 0) (dsC (dV 2) ds0))))) (dNew ds0)))) (dNew ds0))))) sNil)))))))))))
end Mine
end

section
open PySem PySem.W PySem.Calls PyProof.Rows
namespace Mine

abbrev PMap := Addr → Option Obj

mutual
inductive Rd (φ : PMap) : Value → V → Prop
  | none : Rd φ Value.none PySem.W.Dat.none
  | bool (b : Bool) : Rd φ (Value.bool b) (PySem.W.Dat.bool b)
  | int (i : Int) (t : Tok) : Rd φ (Value.int i t) (PySem.W.Dat.int i)
  | list {a : Addr} {vs : List Value} {n : Nat} {xs : List V} : φ a = some { cls := .type "list", data := .seq vs.toArray n } → Rds φ vs xs → Rd φ (Value.ref a) (PySem.W.Dat.list xs)
  | tuple {a : Addr} {vs : List Value} {n : Nat} {xs : List V} : φ a = some { cls := .type "tuple", data := .seq vs.toArray n } → Rds φ vs xs → Rd φ (Value.ref a) (PySem.W.Dat.tuple xs)
inductive Rds (φ : PMap) : List Value → List V → Prop
  | nil : Rds φ [] []
  | cons {v : Value} {vs : List Value} {x : V} {xs : List V} : Rd φ v x → Rds φ vs xs → Rds φ (v :: vs) (x :: xs)
end

mutual
theorem Rd.mono {φ φ' : PMap} (hs : ∀ a o, φ a = some o → φ' a = some o) : ∀ {v : Value} {x : V}, Rd φ v x → Rd φ' v x
  | _, _, .none => .none
  | _, _, .bool b => .bool b
  | _, _, .int i t => .int i t
  | _, _, .list h r => .list (hs _ _ h) (Rds.mono hs r)
  | _, _, .tuple h r => .tuple (hs _ _ h) (Rds.mono hs r)
theorem Rds.mono {φ φ' : PMap} (hs : ∀ a o, φ a = some o → φ' a = some o) : ∀ {v : List Value} {x : List V}, Rds φ v x → Rds φ' v x
  | _, _, .nil => .nil
  | _, _, .cons h r => .cons (Rd.mono hs h) (Rds.mono hs r)
end

theorem Rds.len {φ : PMap} : ∀ {v : List Value} {x : List V}, Rds φ v x → v.length = x.length
  | _, _, .nil => rfl
  | _, _, .cons _ r => by rw [List.length_cons, List.length_cons, Rds.len r]
theorem Rds.get {φ : PMap} : ∀ {vs : List Value} {xs : List V}, Rds φ vs xs → ∀ {i : Nat} {x : V}, xs[i]? = some x → ∃ v, vs[i]? = some v ∧ Rd φ v x
  | _, _, .nil, i, x, e => by simp at e
  | _, _, .cons h _, 0, x, e => by simp at e; subst e; exact ⟨_, rfl, h⟩
  | _, _, .cons _ r, i + 1, x, e => by simpa using Rds.get r (by simpa using e)
theorem Rds.append {φ : PMap} : ∀ {vs : List Value} {xs : List V}, Rds φ vs xs → ∀ {ws : List Value} {ys : List V}, Rds φ ws ys → Rds φ (vs ++ ws) (xs ++ ys)
  | _, _, .nil, _, _, h => h
  | _, _, .cons h r, _, _, h' => .cons h (Rds.append r h')
theorem Rds.take {φ : PMap} : ∀ {vs : List Value} {xs : List V}, Rds φ vs xs → ∀ n, Rds φ (vs.take n) (xs.take n)
  | _, _, .nil, n => by simpa using Rds.nil
  | _, _, .cons _ _, 0 => .nil
  | _, _, .cons h r, n + 1 => .cons h (Rds.take r n)
theorem Rds.reverse {φ : PMap} : ∀ {vs : List Value} {xs : List V}, Rds φ vs xs → Rds φ vs.reverse xs.reverse
  | _, _, .nil => .nil
  | _, _, .cons h r => by rw [List.reverse_cons, List.reverse_cons]; exact Rds.append (Rds.reverse r) (.cons h .nil)
theorem Rds.set {φ : PMap} : ∀ {vs : List Value} {xs : List V}, Rds φ vs xs → ∀ (i : Nat) {v : Value} {x : V}, Rd φ v x → Rds φ (vs.set i v) (xs.set i x)
  | _, _, .nil, i, _, _, _ => .nil
  | _, _, .cons _ r, 0, _, _, h' => .cons h' r
  | _, _, .cons h r, i + 1, _, _, h' => .cons h (Rds.set r i h')

/-- what an expression does to heap and frozen part -/
structure Ext (h : Heap) (φ : PMap) (h' : Heap) (φ' : PMap) : Prop where
  keep : ∀ b o, h.get? b = some o → h'.get? b = some o
  below : ∀ b o, h.get? b = some o → φ' b = φ b
  inn : ∀ a o, φ' a = some o → h'.get? a = some o

theorem Ext.refl {h : Heap} {φ : PMap} (i : ∀ a o, φ a = some o → h.get? a = some o) : Ext h φ h φ := ⟨fun _ _ e => e, fun _ _ _ => rfl, i⟩
theorem Ext.trans {h h' h'' : Heap} {φ φ' φ'' : PMap} (x : Ext h φ h' φ') (y : Ext h' φ' h'' φ'') : Ext h φ h'' φ'' :=
  ⟨fun b o e => y.keep b o (x.keep b o e), fun b o e => (y.below b o (x.keep b o e)).trans (x.below b o e), y.inn⟩
theorem Ext.sub {h h' : Heap} {φ φ' : PMap} (x : Ext h φ h' φ') (i : ∀ a o, φ a = some o → h.get? a = some o) : ∀ a o, φ a = some o → φ' a = some o :=
  fun a o e => (x.below a o (i a o e)).trans e
theorem Ext.of_keep {h h' : Heap} {φ : PMap} (i : ∀ a o, φ a = some o → h.get? a = some o) (k : ∀ b o, h.get? b = some o → h'.get? b = some o) : Ext h φ h' φ :=
  ⟨k, fun _ _ _ => rfl, fun a o e => k a o (i a o e)⟩

def PMap.add (φ : PMap) (a : Addr) (o : Obj) : PMap := fun b => if b = a then some o else φ b
/-- a new object is frozen -/
theorem Ext.add {h h' : Heap} {φ : PMap} {a : Addr} {o : Obj} (i : ∀ a o, φ a = some o → h.get? a = some o) (k : ∀ b o, h.get? b = some o → h'.get? b = some o)
    (hn : h.get? a = none) (ha : h'.get? a = some o) : Ext h φ h' (φ.add a o) := by
  refine ⟨k, fun b x e => ?_, fun b x e => ?_⟩
  · unfold PMap.add
    rw [if_neg]
    rintro rfl
    rw [hn] at e; cases e
  · unfold PMap.add at e
    split at e
    · rename_i q; subst q; cases e; exact ha
    · exact k b x (i b x e)

theorem get_size (h : Heap) : h.get? h.objs.size = none := by
  cases q : h.get? h.objs.size with
  | none => rfl
  | some o => exact absurd (Heap.lt_size q) (Nat.lt_irrefl _)

def Sh (s s' : Shared) : Prop := ∃ h' tk, s' = { s with heap := h', toks := tk }
theorem Sh.refl (s : Shared) : Sh s s := ⟨s.heap, s.toks, rfl⟩
theorem Sh.trans {s s' s'' : Shared} (x : Sh s s') (y : Sh s' s'') : Sh s s'' := by
  obtain ⟨h, t, rfl⟩ := x
  obtain ⟨h', t', rfl⟩ := y
  exact ⟨h', t', rfl⟩
theorem Sh.mk' {s s' : Shared} (x : Sh s s') (h : Heap) (t : Nat) : Sh s { s' with heap := h, toks := t } := x.trans ⟨h, t, rfl⟩

structure Cx where
  prog : Program
  w : World
  p : Program
  mg : Str → Option Value
  mb : Str → Option Value

abbrev Cx.M (C : Cx) : Model := model C.prog C.w

def builtinNames : List Str := ["len", "max", "range", "list", "enumerate", "sorted"]

/-- what the module left: facts that all that keeps keeps -/
structure Gw (C : Cx) (h : Heap) : Prop where
  g : h.Ns mainGlobals C.mg
  b : h.Ns builtinsNs C.mb
  nolimit : h.NoLimit
  builtins : ∀ x : Str, x ≠ "__name__" → C.mb x = bootBuiltins x
  free : ∀ x ∈ builtinNames, C.mg x = none
  fn : ∀ d ∈ recsOf C.p, ∃ a o pm code doc, C.mg d.name = some (.ref a) ∧ h.get? a = some o ∧ o.data = .func (docDef d.name d.params d.body d.scope pm code doc) ∧ h.CodeRec code d.name
theorem Gw.keeps {C : Cx} {h h' : Heap} (T : Gw C h) (hk : ∀ b o, h.get? b = some o → h'.get? b = some o) : Gw C h' where
  g := T.g.keeps hk
  b := T.b.keeps hk
  nolimit := T.nolimit.keeps hk
  builtins := T.builtins
  free := T.free
  fn := fun d hd => let ⟨a, o, pm, code, doc, h1, h2, h3, h4⟩ := T.fn d hd; ⟨a, o, pm, code, doc, h1, hk _ _ h2, h3, h4.keeps hk⟩

structure EV where
  L : Addr
  cl : List (Str × Addr)
  q : Str
  fn : Option Addr
  cd : Value
  fr : Option Addr
abbrev EV.env (e : EV) (sc : Scope) : Env :=
  { scope := sc, locals := e.L, globals := mainGlobals, cells := e.cl, qual := e.q, func := e.fn, code := e.cd, frame := e.fr, builtins := builtinsNs }

def Loads (ev : EV) (sc : Scope) (m : Str → Option Value) (φ : PMap) (x : Str) (v : Value) : Prop :=
  (sc.names.lookup x = some .local ∧ m x = some v) ∨
  ((sc.names.lookup x = some .cell ∨ sc.names.lookup x = some .free) ∧ ∃ c o, ev.cl.lookup x = some c ∧ φ c = some o ∧ o.data = .cell (some v))

def SlotOK (ev : EV) (sc : Scope) (φ : PMap) (P : Addr → Prop) (h : Heap) (m : Str → Option Value) (x : Str) (a : Addr) : Slot → Prop
  | .free => True
  | .val V => ∃ v, Loads ev sc m φ x v ∧ Rd φ v V
  | .own xs => (sc.names.lookup x = some .local ∧ m x = some (.ref a)) ∧ (∃ vs : List Value, h.PlainList a vs.toArray ∧ Rds φ vs xs) ∧ φ a = none ∧ ¬ P a ∧ a ≠ ev.L

structure Sl (ev : EV) (sc : Scope) (nm : List Str) (φ : PMap) (P : Addr → Prop) (h : Heap) (m : Str → Option Value) (as : Nat → Addr) (σ : St) : Prop where
  ns : h.Ns ev.L m
  ok : ∀ i x, nm[i]? = some x → SlotOK ev sc φ P h m x (as i) (getS σ i)
  apart : ∀ i j xs ys, nm[i]?.isSome → nm[j]?.isSome → getS σ i = .own xs → getS σ j = .own ys → i ≠ j → as i ≠ as j

structure Fm (C : Cx) (h₀ : Heap) (P : Addr → Prop) (ev : EV) (sc : Scope) (nm : List Str) (φ : PMap) (σ : St) (h : Heap) : Prop where
  gw : Gw C h₀
  keep : ∀ b o, h₀.get? b = some o → h.get? b = some o
  base : ∀ b o, h₀.get? b = some o → P b
  live : ∀ b, P b → ∃ o, h.get? b = some o
  pL : ¬ P ev.L
  fL : φ ev.L = none
  inn : ∀ a o, φ a = some o → h.get? a = some o
  sl : ∃ m as, Sl ev sc nm φ P h m as σ

theorem Loads.ext {ev : EV} {sc : Scope} {m : Str → Option Value} {φ φ' : PMap} {x : Str} {v : Value} (l : Loads ev sc m φ x v) (hs : ∀ a o, φ a = some o → φ' a = some o) : Loads ev sc m φ' x v :=
  l.imp id fun ⟨k, c, o, h1, h2, h3⟩ => ⟨k, c, o, h1, hs _ _ h2, h3⟩

theorem Fm.ext {C : Cx} {h₀ h h' : Heap} {P : Addr → Prop} {ev : EV} {sc : Scope} {nm : List Str} {φ φ' : PMap} {σ : St} (F : Fm C h₀ P ev sc nm φ σ h) (X : Ext h φ h' φ') : Fm C h₀ P ev sc nm φ' σ h' := by
  have hs := X.sub F.inn
  obtain ⟨m, as, S⟩ := F.sl
  obtain ⟨oL, _, _, hL, _⟩ := id S.ns
  refine ⟨F.gw, fun b o e => X.keep b o (F.keep b o e), F.base, fun b hb => ?_, F.pL, ?_, X.inn, m, as, S.ns.keeps X.keep, fun i x hx => ?_, S.apart⟩
  · obtain ⟨o, ho⟩ := F.live b hb
    exact ⟨o, X.keep b o ho⟩
  · rw [X.below _ _ hL, F.fL]
  · have q := S.ok i x hx
    cases hg : getS σ i with
    | free => trivial
    | val V =>
      rw [hg] at q
      obtain ⟨v, l, r⟩ := q
      exact ⟨v, l.ext hs, r.mono hs⟩
    | own xs =>
      rw [hg] at q
      obtain ⟨l, ⟨vs, hp, r⟩, hn, hP, hL'⟩ := q
      obtain ⟨k, hk⟩ := id hp
      exact ⟨l, ⟨vs, hp.at fun o e => X.keep _ o e, r.mono hs⟩, (X.below _ _ hk).trans hn, hP, hL'⟩

def AOK (n : Nat) (A : Around) : Prop := A.handled = none ∧ A.depth + n < recursionLimit ∧ A.units + 8 * n + 200 < cLine
theorem AOK.room {n : Nat} {A : Around} (h : AOK n A) : A.depth < recursionLimit := by have := h.2.1; omega
theorem AOK.units {n : Nat} {A : Around} (h : AOK n A) : A.units + 100 < cLine := by have := h.2.2; omega
theorem AOK.deeper {n : Nat} {A : Around} {env : Env} (h : AOK (n + 1) A) : AOK n (A.deeper env) := by
  refine ⟨h.1, ?_, ?_⟩
  · have := h.2.1
    show A.depth + 1 + n < recursionLimit
    omega
  · have := h.2.2
    show A.units + 3 + 8 * n + 200 < cLine
    omega
theorem AOK.in1 {n : Nat} {A : Around} (h : AOK (n + 1) A) : AOK n A.in1 := by
  refine ⟨h.1, ?_, ?_⟩
  · have := h.2.1
    show A.depth + n < recursionLimit
    omega
  · have := h.2.2
    show A.units + 1 + 8 * n + 200 < cLine
    omega
theorem AOK.le {n k : Nat} {A : Around} (h : AOK n A) (hk : k ≤ n) : AOK k A := ⟨h.1, by have := h.2.1; omega, by have := h.2.2; omega⟩

def PostE (φ : PMap) (s : Shared) (x : V) (v : Value) (s' : Shared) : Prop := ∃ φ', Ext s.heap φ s'.heap φ' ∧ Sh s s' ∧ Rd φ' v x
def PostB (φ : PMap) (s : Shared) (x : Bool) (v : Bool) (s' : Shared) : Prop := v = x ∧ ∃ φ', Ext s.heap φ s'.heap φ' ∧ Sh s s'
/-- a new list that is in no one's hands -/
def PostL (φ : PMap) (s : Shared) (xs : List V) (v : Value) (s' : Shared) : Prop :=
  ∃ φ' a, ∃ vs : List Value, Ext s.heap φ s'.heap φ' ∧ Sh s s' ∧ v = .ref a ∧ s.heap.get? a = none ∧ φ' a = none ∧ s'.heap.PlainList a vs.toArray ∧ Rds φ' vs xs

abbrev noE : Value → Shared → Prop := fun _ _ => False

def SE (C : Cx) (n : Nat) (sc : Scope) (nm : List Str) (e : Expr) (d : D) : Prop :=
  ∀ ev A h₀ P φ σ s x, AOK n A → Fm C h₀ P ev sc nm φ σ s.heap → d σ = some x → wpAny C.M A (eval e (ev.env sc)) (PostE φ s x) noE s
def SL (C : Cx) (n : Nat) (sc : Scope) (nm : List Str) (e : Expr) (d : DL) : Prop :=
  ∀ ev A h₀ P φ σ s x, AOK n A → Fm C h₀ P ev sc nm φ σ s.heap → d σ = some x → wpAny C.M A (eval e (ev.env sc)) (PostL φ s x) noE s
def SB (C : Cx) (n : Nat) (sc : Scope) (nm : List Str) (e : Expr) (d : DB) : Prop :=
  ∀ ev A h₀ P φ σ s x, AOK n A → Fm C h₀ P ev sc nm φ σ s.heap → d σ = some x → wpAny C.M A (isTrue e (ev.env sc) (eval e (ev.env sc))) (PostB φ s x) noE s

theorem PostE.intro {φ φ' : PMap} {s s' : Shared} {x : V} {v : Value} (X : Ext s.heap φ s'.heap φ') (S : Sh s s') (R : Rd φ' v x) : PostE φ s x v s' := ⟨φ', X, S, R⟩
theorem PostE.tok {φ φ' : PMap} {s s' : Shared} {x : V} {v : Value} {t : Nat} (X : Ext s.heap φ s'.heap φ') (S : Sh s s') (R : Rd φ' v x) : PostE φ s x v { s' with toks := t } := ⟨φ', X, S.mk' _ _, R⟩

theorem rule_post {α : Type} {M : Model} {A : Around} {t : Sem α} {Q Q' : α → Shared → Prop} {E : Value → Shared → Prop} {s : Shared} (h : wpAny M A t Q noE s) (hq : ∀ a s', Q a s' → Q' a s') : wpAny M A t Q' E s :=
  wpAny_mono h hq fun _ _ x => x.elim

section
variable {C : Cx} {n : Nat} {sc : Scope} {nm : List Str} {ev : EV} {A : Around} {h₀ : Heap} {P : Addr → Prop} {φ : PMap} {σ : St} {s : Shared} {E : Value → Shared → Prop}
  {e₁ e₂ : Expr} {d₁ d₂ : D} {x₁ x₂ : V}

theorem one (H : SE C n sc nm e₁ d₁) (ha : AOK n A) (F : Fm C h₀ P ev sc nm φ σ s.heap) (q : d₁ σ = some x₁) {Q : Value → Shared → Prop}
    (h : ∀ a s' φ', Ext s.heap φ s'.heap φ' → Sh s s' → Fm C h₀ P ev sc nm φ' σ s'.heap → Rd φ' a x₁ → Q a s') : wpAny C.M A (eval e₁ (ev.env sc)) Q E s :=
  rule_post (H ev A h₀ P φ σ s x₁ ha F q) fun a s' ⟨φ', X, S, R⟩ => h a s' φ' X S (F.ext X) R

theorem two (H₁ : SE C n sc nm e₁ d₁) (H₂ : SE C n sc nm e₂ d₂) (ha : AOK n A) (F : Fm C h₀ P ev sc nm φ σ s.heap) (q₁ : d₁ σ = some x₁) (q₂ : d₂ σ = some x₂) {Q : Value → Value → Shared → Prop}
    (h : ∀ a b s' φ', Ext s.heap φ s'.heap φ' → Sh s s' → Fm C h₀ P ev sc nm φ' σ s'.heap → Rd φ' a x₁ → Rd φ' b x₂ → Q a b s') :
    wpAny C.M A (eval e₁ (ev.env sc)) (fun a s₁ => wpAny C.M A (eval e₂ (ev.env sc)) (fun b s₂ => Q a b s₂) E s₁) E s :=
  one H₁ ha F q₁ fun a s₁ φ₁ X₁ S₁ F₁ R₁ => one H₂ ha F₁ q₂ fun b s₂ φ₂ X₂ S₂ F₂ R₂ =>
    h a b s₂ φ₂ (X₁.trans X₂) (S₁.trans S₂) F₂ (R₁.mono (X₂.sub F₁.inn)) R₂
end

section
variable {C : Cx} {n : Nat} {sc : Scope} {nm : List Str}

theorem se_int {i : Int} {k : Nat} {pos : Pos} : SE C n sc nm (.Constant (.int i) k pos) (dI i) := by
  intro ev A h₀ P φ σ s x ha F q
  cases q
  exact wpAny_Constant_int ⟨φ, .refl F.inn, ⟨_, _, rfl⟩, .int _ _⟩
theorem se_none {k : Nat} {pos : Pos} : SE C n sc nm (.Constant .none k pos) dN := by
  intro ev A h₀ P φ σ s x ha F q
  cases q
  exact Constant_none ⟨φ, .refl F.inn, .refl _, .none⟩
theorem se_bool {b : Bool} {k : Nat} {pos : Pos} : SE C n sc nm (.Constant (.bool b) k pos) (dB b) := by
  intro ev A h₀ P φ σ s x ha F q
  cases q
  exact Constant_bool ⟨φ, .refl F.inn, .refl _, .bool _⟩

theorem int2_some {f : Int → Int → Option V} {a b : D} {σ : St} {x : V} (h : int2 f a b σ = some x) : ∃ i j, a σ = some (.int i) ∧ b σ = some (.int j) ∧ f i j = some x := by
  unfold int2 at h
  split at h
  · split at h
    · exact ⟨_, _, by assumption, by assumption, h⟩
    · cases h
  · cases h

theorem se_int2 {e₁ e₂ : Expr} {d₁ d₂ : D} {op : Operator} {pos : Pos} {f : Int → Int → Option V} (H₁ : SE C n sc nm e₁ d₁) (H₂ : SE C n sc nm e₂ d₂)
    (hop : ∀ A s i t j u x E (Q : Value → Shared → Prop), AOK n A → f i j = some x → (∀ z, x = .int z → Q (.int z s.toks) { s with toks := s.toks + 1 }) → wpAny C.M A (binaryOp op (.int i t) (.int j u)) Q E s)
    (hz : ∀ i j x, f i j = some x → ∃ z, x = .int z) :
    SE C n sc nm (.BinOp e₁ op e₂ pos) (int2 f d₁ d₂) := by
  intro ev A h₀ P φ σ s x ha F q
  obtain ⟨i, j, q₁, q₂, q₃⟩ := int2_some q
  refine wpAny_BinOp (two H₁ H₂ ha F q₁ q₂ fun a b s' φ' X S F' R₁ R₂ => ?_)
  cases R₁
  cases R₂
  refine hop A s' i _ j _ x _ _ ha q₃ fun z hz => ?_
  subst hz
  exact ⟨φ', X, S.mk' _ _, .int _ _⟩

theorem se_add {e₁ e₂ : Expr} {d₁ d₂ : D} {pos : Pos} (H₁ : SE C n sc nm e₁ d₁) (H₂ : SE C n sc nm e₂ d₂) : SE C n sc nm (.BinOp e₁ .Add e₂ pos) (dAdd d₁ d₂) :=
  se_int2 H₁ H₂ (fun A s i t j u x E Q ha q h => PyProof.Rows.add_int (h _ (by rw [rI_eq] at q; exact (Option.some.inj q).symm))) fun i j x q => ⟨_, by rw [rI_eq] at q; exact (Option.some.inj q).symm⟩
theorem se_sub {e₁ e₂ : Expr} {d₁ d₂ : D} {pos : Pos} (H₁ : SE C n sc nm e₁ d₁) (H₂ : SE C n sc nm e₂ d₂) : SE C n sc nm (.BinOp e₁ .Sub e₂ pos) (dSub d₁ d₂) :=
  se_int2 H₁ H₂ (fun A s i t j u x E Q ha q h => PyProof.Rows.sub_int (h _ (by rw [rI_eq] at q; exact (Option.some.inj q).symm))) fun i j x q => ⟨_, by rw [rI_eq] at q; exact (Option.some.inj q).symm⟩
end
end Mine
end

section
open PySem PySem.W PySem.Calls PyProof.Rows
namespace Mine

theorem small_iff {i : Int} (h : small i = true) : -1000000 < i ∧ i < 1000000 := by
  unfold small at h
  rw [Bool.and_eq_true, ltI_eq, ltI_eq, decide_eq_true_iff, decide_eq_true_iff] at h
  exact ⟨h.2, h.1⟩
theorem eqI_false {i j : Int} (h : eqI i j = false) : i ≠ j := by
  rw [eqI_eq, decide_eq_false_iff_not] at h; exact h
theorem eqI_beq (i j : Int) : eqI i j = (i == j) := by rw [eqI_eq]; by_cases h : i = j <;> simp [h]

section
variable {C : Cx} {n : Nat} {sc : Scope} {nm : List Str}

theorem rI_some {i : Int} {x : V} (q : rI i = some x) : x = .int i := by rw [rI_eq] at q; exact (Option.some.inj q).symm

theorem se_mul {e₁ e₂ : Expr} {d₁ d₂ : D} {pos : Pos} (H₁ : SE C n sc nm e₁ d₁) (H₂ : SE C n sc nm e₂ d₂) : SE C n sc nm (.BinOp e₁ .Mult e₂ pos) (dMul d₁ d₂) := by
  have inv : ∀ {i j : Int} {x : V}, (if small i && small j then rI (i * j) else none) = some x → small i = true ∧ small j = true ∧ x = .int (i * j) := by
    intro i j x q
    split at q
    · rename_i h
      rw [Bool.and_eq_true] at h
      exact ⟨h.1, h.2, rI_some q⟩
    · cases q
  refine se_int2 H₁ H₂ (fun A s i t j u x E Q ha q h => ?_) fun i j x q => ⟨_, (inv q).2.2⟩
  obtain ⟨h1, h2, h3⟩ := inv q
  have b := small_iff h1
  exact PyProof.Rows.mul_int (h _ h3) (.of_left (intBits_le_64 (by omega) (by omega)))
theorem se_div {e₁ e₂ : Expr} {d₁ d₂ : D} {pos : Pos} (H₁ : SE C n sc nm e₁ d₁) (H₂ : SE C n sc nm e₂ d₂) : SE C n sc nm (.BinOp e₁ .FloorDiv e₂ pos) (dDiv d₁ d₂) := by
  have inv : ∀ {i j : Int} {x : V}, (if eqI j 0 then none else if small j then rI (i.fdiv j) else none) = some x → j ≠ 0 ∧ small j = true ∧ x = .int (i.fdiv j) := by
    intro i j x q
    split at q
    · cases q
    · rename_i h
      split at q
      · rename_i h'
        exact ⟨eqI_false (Bool.eq_false_iff.mpr h), h', rI_some q⟩
      · cases q
  refine se_int2 H₁ H₂ (fun A s i t j u x E Q ha q h => ?_) fun i j x q => ⟨_, (inv q).2.2⟩
  obtain ⟨h1, h2, h3⟩ := inv q
  have b := small_iff h2
  exact PyProof.Rows.floordiv_int h1 (h _ h3) (.inl (PyProof.noPylong_small (by omega)))
theorem se_mod {e₁ e₂ : Expr} {d₁ d₂ : D} {pos : Pos} (H₁ : SE C n sc nm e₁ d₁) (H₂ : SE C n sc nm e₂ d₂) : SE C n sc nm (.BinOp e₁ .Mod e₂ pos) (dMod d₁ d₂) := by
  have inv : ∀ {i j : Int} {x : V}, (if eqI j 0 then none else rI (i.fmod j)) = some x → j ≠ 0 ∧ x = .int (i.fmod j) := by
    intro i j x q
    split at q
    · cases q
    · rename_i h
      exact ⟨eqI_false (Bool.eq_false_iff.mpr h), rI_some q⟩
  refine se_int2 H₁ H₂ (fun A s i t j u x E Q ha q h => ?_) fun i j x q => ⟨_, (inv q).2⟩
  obtain ⟨h1, h3⟩ := inv q
  exact PyProof.Rows.mod_int' h1 (h _ h3)
theorem se_pow {e₁ e₂ : Expr} {d₁ d₂ : D} {pos : Pos} (H₁ : SE C n sc nm e₁ d₁) (H₂ : SE C n sc nm e₂ d₂) : SE C n sc nm (.BinOp e₁ .Pow e₂ pos) (dPow d₁ d₂) := by
  have inv : ∀ {i j : Int} {x : V}, (if small i && ltI (-1) j && ltI j 64 then rI (i ^ j.toNat) else none) = some x → small i = true ∧ -1 < j ∧ j < 64 ∧ x = .int (i ^ j.toNat) := by
    intro i j x q
    split at q
    · rename_i h
      rw [Bool.and_eq_true, Bool.and_eq_true, ltI_eq, ltI_eq, decide_eq_true_iff, decide_eq_true_iff] at h
      exact ⟨h.1.1, h.1.2, h.2, rI_some q⟩
    · cases q
  refine se_int2 H₁ H₂ (fun A s i t j u x E Q ha q h => ?_) fun i j x q => ⟨_, (inv q).2.2.2⟩
  obtain ⟨h1, h2, h4, h3⟩ := inv q
  have b := small_iff h1
  have b64 : Builtin.Int.intBits i ≤ 64 := intBits_le_64 (by omega) (by omega)
  refine PyProof.Rows.pow_int (by omega) ?_ (h _ h3)
  have : (Builtin.Int.intBits i : Int) * j ≤ 64 * 64 := Int.mul_le_mul (by omega) (by omega) (by omega) (by omega)
  omega

theorem se_neg {e : Expr} {d : D} {pos : Pos} (H : SE C n sc nm e d) : SE C n sc nm (.UnaryOp .USub e pos) (dNeg d) := by
  intro ev A h₀ P φ σ s x ha F q
  unfold dNeg at q
  split at q
  · rename_i i hq
    refine UnaryOp_ (one H ha F hq fun a s' φ' X S F' R => ?_)
    cases R
    cases rI_some q
    exact PyProof.Rows.neg_int ⟨φ', X, S.mk' _ _, .int _ _⟩
  · cases q

/-- a comparison of two ints, as a value and as a test -/
theorem int2B_some {f : Int → Int → Bool} {a b : D} {σ : St} {x : Bool} (h : int2B f a b σ = some x) : ∃ i j, a σ = some (.int i) ∧ b σ = some (.int j) ∧ f i j = x := by
  unfold int2B at h
  split at h
  · split at h
    · exact ⟨_, _, by assumption, by assumption, Option.some.inj h⟩
    · cases h
  · cases h

/-- a comparison: whatever the test gives -/
def SC (C : Cx) (n : Nat) (op : CmpOp) (d₁ d₂ : D) (t : DB) : Prop :=
  ∀ σ x, t σ = some x → ∃ x₁ x₂, d₁ σ = some x₁ ∧ d₂ σ = some x₂ ∧
    ∀ A s φ a b E (Q : Value → Shared → Prop), AOK n A → (∀ a o, φ a = some o → s.heap.get? a = some o) → Rd φ a x₁ → Rd φ b x₂ →
      (∀ h' tk, (∀ b o, s.heap.get? b = some o → h'.get? b = some o) → Q (.bool x) { s with heap := h', toks := tk }) → wpAny C.M A (compareOp op a b) Q E s

theorem sb_cmp {e₁ e₂ : Expr} {d₁ d₂ : D} {op : CmpOp} {t : DB} {pos : Pos} (H₁ : SE C n sc nm e₁ d₁) (H₂ : SE C n sc nm e₂ d₂) (K : SC C n op d₁ d₂ t)
    (hm : behindInMarks op e₂ = false := by with_unfolding_all rfl) : SB C n sc nm (.Compare e₁ [op] [e₂] pos) t := by
  intro ev A h₀ P φ σ s x ha F q
  obtain ⟨x₁, x₂, q₁, q₂, k⟩ := K σ x q
  refine wpAny_isTrue_Compare1 (two H₁ H₂ ha F q₁ q₂ fun a b s' φ' X S F' R₁ R₂ => ?_) hm
  refine k A s' φ' a b _ _ ha X.inn R₁ R₂ fun h' tk hk => ?_
  exact wpAny_truthy_bool ⟨rfl, φ', X.trans (.of_keep X.inn hk), S.mk' _ _⟩
theorem se_cmp {e₁ e₂ : Expr} {d₁ d₂ : D} {op : CmpOp} {t : DB} {pos : Pos} (H₁ : SE C n sc nm e₁ d₁) (H₂ : SE C n sc nm e₂ d₂) (K : SC C n op d₁ d₂ t)
    (hm : behindInMarks op e₂ = false := by with_unfolding_all rfl) : SE C n sc nm (.Compare e₁ [op] [e₂] pos) (dT t) := by
  intro ev A h₀ P φ σ s x ha F q
  unfold dT at q
  split at q
  · rename_i b hb
    obtain ⟨x₁, x₂, q₁, q₂, k⟩ := K σ b hb
    rw [rB_eq] at q
    cases q
    refine wpAny_Compare1 (two H₁ H₂ ha F q₁ q₂ fun a b s' φ' X S F' R₁ R₂ => ?_) hm
    exact k A s' φ' a b _ _ ha X.inn R₁ R₂ fun h' tk hk => ⟨φ', X.trans (.of_keep X.inn hk), S.mk' _ _, .bool _⟩
  · cases q

theorem sc_int {op : CmpOp} {d₁ d₂ : D} {f : Int → Int → Bool}
    (k : ∀ A s i t j u E (Q : Value → Shared → Prop), Q (.bool (f i j)) s → wpAny C.M A (compareOp op (.int i t) (.int j u)) Q E s) : SC C n op d₁ d₂ (int2B f d₁ d₂) := by
  intro σ x q
  obtain ⟨i, j, q₁, q₂, q₃⟩ := int2B_some q
  refine ⟨_, _, q₁, q₂, fun A s φ a b E Q ha hi R₁ R₂ h => ?_⟩
  cases R₁
  cases R₂
  subst q₃
  exact k A s i _ j _ E Q (h s.heap s.toks fun _ _ e => e)
theorem sc_eq {d₁ d₂ : D} : SC C n .Eq d₁ d₂ (tEq d₁ d₂) := sc_int fun A s i t j u E Q h => PyProof.Rows.eq_int (by rw [← eqI_beq]; exact h)
theorem sc_ne {d₁ d₂ : D} : SC C n .NotEq d₁ d₂ (tNe d₁ d₂) := sc_int fun A s i t j u E Q h => PyProof.Rows.ne_int (by rw [bne, ← eqI_beq]; exact h)
theorem sc_lt {d₁ d₂ : D} : SC C n .Lt d₁ d₂ (tLt d₁ d₂) := sc_int fun A s i t j u E Q h => PyProof.Rows.lt_int (by rw [← ltI_eq]; exact h)
theorem sc_gt {d₁ d₂ : D} : SC C n .Gt d₁ d₂ (tGt d₁ d₂) := sc_int fun A s i t j u E Q h => PyProof.Rows.gt_int (by rw [← ltI_eq]; exact h)
theorem sc_ge {d₁ d₂ : D} : SC C n .GtE d₁ d₂ (tGe d₁ d₂) := sc_int fun A s i t j u E Q h => PyProof.Rows.ge_int (by
  have e : decide (j ≤ i) = !ltI i j := by rw [ltI_eq]; by_cases c : i < j <;> simp [c] <;> omega
  rw [e]; exact h)

theorem isNone_of {φ : PMap} {v : Value} {x : V} (R : Rd φ v x) : (v == .none) = (match x with | .none => true | _ => false) := by cases R <;> rfl
theorem sb_isNone {e : Expr} {d : D} {k : Nat} {p pos : Pos} (H : SE C n sc nm e d) : SB C n sc nm (.Compare e [.Is] [.Constant .none k p] pos) (tIsNone d) := by
  refine sb_cmp H (se_none (k := k)) (fun σ x q => ?_)
  unfold tIsNone at q
  split at q
  · rename_i hq
    cases q
    refine ⟨_, _, hq, rfl, fun A s φ a b E Q ha hi R₁ R₂ h => ?_⟩
    cases R₂; cases R₁
    exact is_none (h s.heap s.toks fun _ _ e => e)
  · rename_i y hq hn
    cases q
    refine ⟨_, _, hn, rfl, fun A s φ a b E Q ha hi R₁ R₂ h => ?_⟩
    cases R₂
    refine is_none ?_
    rw [isNone_of R₁]
    cases y <;> first | exact h s.heap s.toks fun _ _ e => e | exact absurd rfl hq
  · cases q
theorem sb_isNot {e : Expr} {d : D} {k : Nat} {p pos : Pos} (H : SE C n sc nm e d) : SB C n sc nm (.Compare e [.IsNot] [.Constant .none k p] pos) (tIsNot d) := by
  refine sb_cmp H (se_none (k := k)) (fun σ x q => ?_)
  unfold tIsNot at q
  split at q
  · rename_i hq
    cases q
    refine ⟨_, _, hq, rfl, fun A s φ a b E Q ha hi R₁ R₂ h => ?_⟩
    cases R₂; cases R₁
    exact isNot_none (h s.heap s.toks fun _ _ e => e)
  · rename_i y hq hn
    cases q
    refine ⟨_, _, hn, rfl, fun A s φ a b E Q ha hi R₁ R₂ h => ?_⟩
    cases R₂
    refine isNot_none ?_
    rw [isNone_of R₁]
    cases y <;> first | exact h s.heap s.toks fun _ _ e => e | exact absurd rfl hq
  · cases q

theorem sb_and {a b : Expr} {p : Pos} {ta tb : DB} (H₁ : SB C n sc nm a ta) (H₂ : SB C n sc nm b tb) : SB C n sc nm (.BoolOp .And [a, b] p) (tAnd ta tb) := by
  intro ev A h₀ P φ σ s x ha F q
  unfold tAnd at q
  split at q
  · rename_i hq
    refine isTrue_and (rule_post (H₁ ev A h₀ P φ σ s true ha F hq) fun c s' hc => ?_)
    obtain ⟨rfl, φ', X, S⟩ := hc
    refine isTrue_and (rule_post (H₂ ev A h₀ P φ' σ s' x ha (F.ext X) q) fun c s'' hc => ?_)
    obtain ⟨rfl, φ'', X', S'⟩ := hc
    cases c with
    | true => exact isTrue_and_nil ⟨rfl, φ'', X.trans X', S.trans S'⟩
    | false => exact ⟨rfl, φ'', X.trans X', S.trans S'⟩
  · rename_i hq
    refine isTrue_and (rule_post (H₁ ev A h₀ P φ σ s x ha F q) fun c s' hc => ?_)
    obtain ⟨rfl, φ', X, S⟩ := hc
    cases c with
    | true => exact absurd q hq
    | false => exact ⟨rfl, φ', X, S⟩
theorem sb_or {a b : Expr} {p : Pos} {ta tb : DB} (H₁ : SB C n sc nm a ta) (H₂ : SB C n sc nm b tb) : SB C n sc nm (.BoolOp .Or [a, b] p) (tOr ta tb) := by
  intro ev A h₀ P φ σ s x ha F q
  unfold tOr at q
  split at q
  · rename_i hq
    refine isTrue_or (rule_post (H₁ ev A h₀ P φ σ s false ha F hq) fun c s' hc => ?_)
    obtain ⟨rfl, φ', X, S⟩ := hc
    refine isTrue_or (rule_post (H₂ ev A h₀ P φ' σ s' x ha (F.ext X) q) fun c s'' hc => ?_)
    obtain ⟨rfl, φ'', X', S'⟩ := hc
    cases c with
    | false => exact isTrue_or_nil ⟨rfl, φ'', X.trans X', S.trans S'⟩
    | true => exact ⟨rfl, φ'', X.trans X', S.trans S'⟩
  · rename_i hq
    refine isTrue_or (rule_post (H₁ ev A h₀ P φ σ s x ha F q) fun c s' hc => ?_)
    obtain ⟨rfl, φ', X, S⟩ := hc
    cases c with
    | false => exact absurd q hq
    | true => exact ⟨rfl, φ', X, S⟩
theorem sb_or3 {a b c : Expr} {p : Pos} {ta tb tc : DB} (H₁ : SB C n sc nm a ta) (H₂ : SB C n sc nm b tb) (H₃ : SB C n sc nm c tc) : SB C n sc nm (.BoolOp .Or [a, b, c] p) (tOr ta (tOr tb tc)) := by
  intro ev A h₀ P φ σ s x ha F q
  unfold tOr at q
  split at q
  · rename_i hq
    refine isTrue_or (rule_post (H₁ ev A h₀ P φ σ s false ha F hq) fun c s' hc => ?_)
    obtain ⟨rfl, φ', X, S⟩ := hc
    refine rule_post (sb_or (p := p) H₂ H₃ ev A h₀ P φ' σ s' x ha (F.ext X) q) fun c s'' hc => ?_
    obtain ⟨rfl, φ'', X', S'⟩ := hc
    exact ⟨rfl, φ'', X.trans X', S.trans S'⟩
  · rename_i hq
    refine isTrue_or (rule_post (H₁ ev A h₀ P φ σ s x ha F q) fun c s' hc => ?_)
    obtain ⟨rfl, φ', X, S⟩ := hc
    cases c with
    | false => exact absurd q hq
    | true => exact ⟨rfl, φ', X, S⟩
/-- a name that holds a bool -/
theorem sb_val {e : Expr} {d : D} (H : SE C n sc nm e d)
    (he : ∀ env whole, isTrue e env whole = (do let v ← whole; standAt e.pos; holding [v] (truthy v)) := by intro _ _; rfl) : SB C n sc nm e (tV d) := by
  intro ev A h₀ P φ σ s x ha F q
  unfold tV at q
  split at q
  · rename_i b hq
    cases q
    refine isTrue_plain (one H ha F hq fun a s' φ' X S F' R => ?_) (he _ _)
    cases R
    exact wpAny_truthy_bool ⟨rfl, φ', X, S⟩
  · cases q

theorem se_if {t a b : Expr} {p : Pos} {dt : DB} {da db : D} (Ht : SB C n sc nm t dt) (Ha : SE C n sc nm a da) (Hb : SE C n sc nm b db) : SE C n sc nm (.IfExp t a b p) (dIf dt da db) := by
  intro ev A h₀ P φ σ s x ha F q
  unfold dIf at q
  split at q
  · rename_i hq
    refine IfExp_ (rule_post (Ht ev A h₀ P φ σ s true ha F hq) fun c s' hc => ?_)
    obtain ⟨rfl, φ', X, S⟩ := hc
    exact rule_post (Ha ev A h₀ P φ' σ s' x ha (F.ext X) q) fun v s'' ⟨φ'', X', S', R⟩ => ⟨φ'', X.trans X', S.trans S', R⟩
  · rename_i hq
    refine IfExp_ (rule_post (Ht ev A h₀ P φ σ s false ha F hq) fun c s' hc => ?_)
    obtain ⟨rfl, φ', X, S⟩ := hc
    exact rule_post (Hb ev A h₀ P φ' σ s' x ha (F.ext X) q) fun v s'' ⟨φ'', X', S', R⟩ => ⟨φ'', X.trans X', S.trans S', R⟩
  · cases q
theorem PostL.trans {φ φ' : PMap} {s s' s'' : Shared} {xs : List V} {v : Value} (i : ∀ a o, φ' a = some o → s'.heap.get? a = some o) (X : Ext s.heap φ s'.heap φ') (S : Sh s s') (p : PostL φ' s' xs v s'') : PostL φ s xs v s'' := by
  obtain ⟨φ'', a, vs, X', S', hv, hn, hf, hp, R⟩ := p
  refine ⟨φ'', a, vs, X.trans X', S.trans S', hv, ?_, hf, hp, R⟩
  cases h : s.heap.get? a with
  | none => rfl
  | some o => rw [X.keep _ _ h] at hn; cases hn
theorem sl_if {t a b : Expr} {p : Pos} {dt : DB} {da db : DL} (Ht : SB C n sc nm t dt) (Ha : SL C n sc nm a da) (Hb : SL C n sc nm b db) : SL C n sc nm (.IfExp t a b p) (dIfL dt da db) := by
  intro ev A h₀ P φ σ s x ha F q
  unfold dIfL at q
  split at q
  · rename_i hq
    refine IfExp_ (rule_post (Ht ev A h₀ P φ σ s true ha F hq) fun c s' hc => ?_)
    obtain ⟨rfl, φ', X, S⟩ := hc
    exact rule_post (Ha ev A h₀ P φ' σ s' x ha (F.ext X) q) fun v s'' p => p.trans X.inn X S
  · rename_i hq
    refine IfExp_ (rule_post (Ht ev A h₀ P φ σ s false ha F hq) fun c s' hc => ?_)
    obtain ⟨rfl, φ', X, S⟩ := hc
    exact rule_post (Hb ev A h₀ P φ' σ s' x ha (F.ext X) q) fun v s'' p => p.trans X.inn X S
  · cases q
/-- a new list, frozen -/
theorem se_new {e : Expr} {d : DL} (H : SL C n sc nm e d) : SE C n sc nm e (dNew d) := by
  intro ev A h₀ P φ σ s x ha F q
  unfold dNew at q
  split at q
  · rename_i xs hq
    cases q
    refine rule_post (H ev A h₀ P φ σ s xs ha F hq) fun v s' p => ?_
    obtain ⟨φ', a, vs, X, S, rfl, hn, hf, ⟨k, hp⟩, R⟩ := p
    have hs : ∀ b o, φ' b = some o → (φ'.add a { cls := .type "list", data := .seq vs.toArray k }) b = some o := fun b o e => by
      unfold PMap.add
      rw [if_neg]; exact e
      rintro rfl
      rw [hf] at e; cases e
    refine ⟨φ'.add a { cls := .type "list", data := .seq vs.toArray k }, ⟨X.keep, fun b o e => ?_, fun b o e => ?_⟩, S, .list (n := k) (by simp [PMap.add]) (R.mono hs)⟩
    · unfold PMap.add
      rw [if_neg]; exact X.below b o e
      rintro rfl
      rw [hn] at e; cases e
    · unfold PMap.add at e
      split at e
      · rename_i q; subst q; cases e; exact hp
      · exact X.inn b o e
  · cases q

theorem se_name {x : Str} {pos : Pos} {i : Nat} (hi : nm[i]? = some x := by rfl) (hk : sc.kind = .function := by rfl) (hd : (x == ("__debug__" : Str)) = false := by decide +kernel)
    (hn : (x == ("__classdict__" : Str)) = false := by decide +kernel) : SE C n sc nm (.Name x pos) (dV i) := by
  intro ev A h₀ P φ σ s y ha F q
  obtain ⟨m, as, S⟩ := F.sl
  have o := S.ok i x hi
  unfold dV at q
  split at q
  · rename_i z hz
    cases q
    rw [hz] at o
    obtain ⟨v, l, R⟩ := o
    have fin : PostE φ s y v s := ⟨φ, .refl F.inn, .refl _, R⟩
    refine wpAny_Name ?_ hd
    rcases l with ⟨h1, h2⟩ | ⟨h1 | h1, c, ob, h2, h3, h4⟩
    · exact wpAny_loadName_local hk h1 S.ns h2 fin
    · exact wpAny_loadName_cell hk h1 h2 ⟨ob, F.inn _ _ h3, h4⟩ fin
    · exact wpAny_loadName_free hk h1 h2 ⟨ob, F.inn _ _ h3, h4⟩ fin hn
  · cases q
/-- an own list's name -/
theorem own_name {x : Str} {pos : Pos} {i : Nat} {ev : EV} {A : Around} {h₀ : Heap} {P : Addr → Prop} {φ : PMap} {σ : St} {s : Shared} {E : Value → Shared → Prop} {xs : List V} {Q : Value → Shared → Prop}
    (hi : nm[i]? = some x) (hk : sc.kind = .function) (hd : (x == ("__debug__" : Str)) = false) (F : Fm C h₀ P ev sc nm φ σ s.heap) (q : getS σ i = .own xs)
    (h : ∀ a vs, s.heap.PlainList a (List.toArray vs) → Rds φ vs xs → Q (.ref a) s) : wpAny C.M A (eval (.Name x pos) (ev.env sc)) Q E s := by
  obtain ⟨m, as, S⟩ := F.sl
  have o := S.ok i x hi
  rw [q] at o
  obtain ⟨⟨h1, h2⟩, ⟨vs, h3, h4⟩, h5, h6, h7⟩ := o
  exact wpAny_Name (wpAny_loadName_local hk h1 S.ns h2 (h _ _ h3 h4)) hd
end
end Mine
end

section
open PySem PySem.W PySem.Calls PyProof.Rows
namespace Mine

theorem blt_iff {a b : Nat} (h : Nat.blt a b = true) : a < b := by rwa [Nat.blt_eq] at h
theorem dat_list {x : V} {xs : List V} (h : x = .list xs) : x = .list xs := h

section
variable {C : Cx} {n : Nat} {sc : Scope} {nm : List Str}

def SA (C : Cx) (n : Nat) (sc : Scope) (nm : List Str) (es : List Expr) (d : DL) : Prop :=
  (∀ σ xs, d σ = some xs → xs.length = es.length) ∧
  ∀ pos ev A h₀ P φ σ s xs, AOK n A → Fm C h₀ P ev sc nm φ σ s.heap → d σ = some xs →
    wpAny C.M A (spliced (backTo pos (starEach es (ev.env sc)))) (fun vs s' => ∃ φ', Ext s.heap φ s'.heap φ' ∧ Sh s s' ∧ Rds φ' vs xs) noE s

theorem sa_nil : SA C n sc nm [] ds0 := by
  refine ⟨fun σ xs q => ?_, fun pos ev A h₀ P φ σ s xs ha F q => ?_⟩
  · cases q; rfl
  · cases q
    exact spliced_nil ⟨φ, .refl F.inn, .refl _, .nil⟩
theorem sa_cons {e : Expr} {es : List Expr} {d : D} {ds : DL} (H : SE C n sc nm e d) (R : SA C n sc nm es ds)
    (he : ∀ env, starEach (e :: es) env = (false, eval e env) :: starEach es env := by intro _; rfl) : SA C n sc nm (e :: es) (dsC d ds) := by
  have inv : ∀ {σ xs}, dsC d ds σ = some xs → ∃ x r, d σ = some x ∧ ds σ = some r ∧ xs = x :: r := by
    intro σ xs q
    unfold dsC at q
    split at q
    · split at q
      · cases q; exact ⟨_, _, by assumption, by assumption, rfl⟩
      · cases q
    · cases q
  refine ⟨fun σ xs q => ?_, fun pos ev A h₀ P φ σ s xs ha F q => ?_⟩
  · obtain ⟨x, r, _, q₂, rfl⟩ := inv q
    rw [List.length_cons, List.length_cons, R.1 _ _ q₂]
  · obtain ⟨x, r, q₁, q₂, rfl⟩ := inv q
    rw [he]
    refine spliced_cons (one H ha F q₁ fun v s' φ' X S F' R₁ => ?_)
    refine wpAny_mono (R.2 pos ev A h₀ P φ' σ s' r ha F' q₂) (fun vs s'' p => ?_) fun _ _ x => x
    obtain ⟨φ'', X', S', R₂⟩ := p
    exact ⟨φ'', X.trans X', S.trans S', .cons (R₁.mono (X'.sub F'.inn)) R₂⟩

theorem keep_push (h : Heap) (o : Obj) : ∀ b x, h.get? b = some x → (h.push o).get? b = some x := fun _ _ e => Heap.get?_push_of_some _ e

/-- a new list object at the end -/
theorem postL_push {φ φ' : PMap} {s s' : Shared} {vs : List Value} {xs : List V} (X : Ext s.heap φ s'.heap φ') (S : Sh s s') (R : Rds φ' vs xs) (t : Nat) :
    PostL φ s xs (.ref s'.heap.objs.size) { s' with heap := s'.heap.push { cls := .type "list", data := .seq vs.toArray }, toks := t } := by
  have hn : s'.heap.get? s'.heap.objs.size = none := get_size _
  refine ⟨φ', _, vs, X.trans (.of_keep X.inn (keep_push _ _)), S.mk' _ _, rfl, ?_, ?_, ⟨0, Heap.get?_push_size _ rfl⟩, R⟩
  · cases h : s.heap.get? s'.heap.objs.size with
    | none => rfl
    | some o => rw [X.keep _ _ h] at hn; cases hn
  · cases h : φ' s'.heap.objs.size with
    | none => rfl
    | some o => rw [X.inn _ _ h] at hn; cases hn

theorem sl_list {es : List Expr} {pos : Pos} {ds : DL} (H : SA C n sc nm es ds) (hl : es.length ≤ 100 := by decide) : SL C n sc nm (.List es pos) ds := by
  intro ev A h₀ P φ σ s xs ha F q
  refine List_ (rule_post (H.2 pos ev A h₀ P φ σ s xs ha F q) fun vs s' p => ?_)
  obtain ⟨φ', X, S, R⟩ := p
  have hz : vs.toArray.size ≤ sizeLine := by
    rw [List.size_toArray, R.len, H.1 _ _ q, sizeLine_eq]; omega
  exact wpAny_newObj_type (postL_push X S R _) hz
theorem se_tup {es : List Expr} {k : Nat} {pos : Pos} {ds : DL} (H : SA C n sc nm es ds) (hl : es.length ≤ 100 := by decide) : SE C n sc nm (.Tuple es k pos) (dTup ds) := by
  intro ev A h₀ P φ σ s x ha F q
  unfold dTup at q
  split at q
  · rename_i xs hq
    cases q
    refine Tuple_ (rule_post (H.2 pos ev A h₀ P φ σ s xs ha F hq) fun vs s' p => ?_)
    obtain ⟨φ', X, S, R⟩ := p
    have hz : vs.toArray.size ≤ sizeLine := by
      rw [List.size_toArray, R.len, H.1 _ _ hq, sizeLine_eq]; omega
    have Y : Ext s'.heap φ' (s'.heap.push { cls := .type "tuple", data := .seq vs.toArray }) (φ'.add s'.heap.objs.size { cls := .type "tuple", data := .seq vs.toArray }) :=
      .add X.inn (keep_push _ _) (get_size _) (Heap.get?_push_size _ rfl)
    exact wpAny_newObj_type ⟨_, X.trans Y, S.mk' _ _, .tuple (n := 0) (by simp [PMap.add]) (R.mono (Y.sub X.inn))⟩ hz
  · cases q

theorem call_node {M : Model} {A : Around} {E : Value → Shared → Prop} {s : Shared} {env : Env} {f : Str} {p pos : Pos} {args : List Expr} {Q : Value → Shared → Prop}
    (h : wpAny M A (eval (.Name f p) env) (fun v s₁ => wpAny M A (callWith pos v [] (backTo pos (starEach args env)) []) Q E s₁) E s) : wpAny M A (eval (.Call (.Name f p) args [] pos) env) Q E s := by
  show wpAny M A (do callWith pos (← eval (.Name f p) env) [] (backTo pos (starEach args env)) (backToKw pos (keywordEach [] env))) Q E s
  exact wpAny_bind h

/-- a def's contract -/
def SF (C : Cx) (k : Nat) (f : Str) (F : List V → Option V) : Prop :=
  (∃ d ∈ recsOf C.p, d.name = f) ∧
  ∀ a A s φ vs xs x, C.mg f = some (.ref a) → AOK k A → Gw C s.heap → (∀ a o, φ a = some o → s.heap.get? a = some o) → Rds φ vs xs → F xs = some x →
    wpAny C.M A (call (.ref a) vs) (PostE φ s x) noE s

theorem Fm.gw' {h₀ h : Heap} {P : Addr → Prop} {ev : EV} {φ : PMap} {σ : St} (F : Fm C h₀ P ev sc nm φ σ h) : Gw C h := F.gw.keeps F.keep

theorem glob_name {x : Str} {pos : Pos} {v : Value} {ev : EV} {A : Around} {s : Shared} {E : Value → Shared → Prop} {Q : Value → Shared → Prop}
    (hx : sc.names.lookup x = some .globalImplicit) (hk : sc.kind = .function) (hd : (x == ("__debug__" : Str)) = false) (G : Gw C s.heap) (hv : C.mg x = some v) (h : Q v s) :
    wpAny C.M A (eval (.Name x pos) (ev.env sc)) Q E s := Name_function_global hk hx (loadGlobal_global G.g hv h) hd
theorem bi_name {x : Str} {pos : Pos} {v : Value} {ev : EV} {A : Around} {s : Shared} {E : Value → Shared → Prop} {Q : Value → Shared → Prop}
    (hx : sc.names.lookup x = some .globalImplicit) (hk : sc.kind = .function) (hd : (x == ("__debug__" : Str)) = false) (G : Gw C s.heap) (hb : x ∈ builtinNames) (hv : bootBuiltins x = some v) (hn : x ≠ "__name__") (h : Q v s) :
    wpAny C.M A (eval (.Name x pos) (ev.env sc)) Q E s :=
  Name_function_global hk hx (loadGlobal_builtin G.g (G.free x hb) G.b ((G.builtins x hn).trans hv) h) hd

theorem se_call {k : Nat} {f : Str} {Ff : List V → Option V} {p pos : Pos} {e : Expr} {es : List Expr} {ds : DL} (HF : SF C k f Ff) (H : SA C n sc nm (e :: es) ds) (hkn : k ≤ n := by decide)
    (hx : sc.names.lookup f = some .globalImplicit := by rfl) (hk : sc.kind = .function := by rfl) (hd : (f == ("__debug__" : Str)) = false := by decide +kernel)
    (he : ∀ env, starEach (e :: es) env = (false, eval e env) :: starEach es env := by intro _; rfl) : SE C n sc nm (.Call (.Name f p) (e :: es) [] pos) (dCall Ff ds) := by
  intro ev A h₀ P φ σ s x ha F q
  unfold dCall at q
  split at q
  · rename_i xs hq
    obtain ⟨⟨d, hd', rfl⟩, HC⟩ := HF
    obtain ⟨a, o, pm, code, doc, h1, h2, h3, h4⟩ := F.gw'.fn d hd'
    refine call_node (glob_name hx hk hd F.gw' h1 ?_)
    refine callWith_def h3 (rule_post (H.2 pos ev A h₀ P φ σ s xs ha F hq) fun vs s' r => ?_) (he _)
    obtain ⟨φ', X, S, R⟩ := r
    refine ⟨X.keep _ _ h2, rule_post (HC a A s' φ' vs xs x h1 (ha.le hkn) (F.ext X).gw' X.inn R q) fun v s'' ⟨φ'', X', S', R'⟩ => ⟨φ'', X.trans X', S.trans S', R'⟩⟩
  · cases q

/-- len -/
theorem boot_len' : bootBuiltins "len" = some (.builtin "len") := by decide +kernel
theorem boot_max' : bootBuiltins "max" = some (.builtin "max") := by decide +kernel
theorem boot_list' : bootBuiltins "list" = some (.type "list") := by decide +kernel
theorem boot_range' : bootBuiltins "range" = some (.type "range") := by decide +kernel
theorem boot_enumerate' : bootBuiltins "enumerate" = some (.type "enumerate") := by decide +kernel
theorem boot_sorted' : bootBuiltins "sorted" = some (.builtin "sorted") := by decide +kernel

theorem len_rule {A : Around} {s : Shared} {E : Value → Shared → Prop} {Q : Value → Shared → Prop} {a : Addr} {vs : List Value} {xs : List V} {x : V} {φ : PMap} (hp : s.heap.PlainList a vs.toArray) (R : Rds φ vs xs)
    (q : (if Nat.blt xs.length 1000000 then rI (lenI xs) else none) = some x) (h : ∀ t t', x = .int (xs.length : Nat) → Q (.int (xs.length : Nat) t) { s with toks := t' }) : wpAny C.M A (call (.builtin "len") [.ref a]) Q E s := by
  split at q
  · rename_i hb
    have hb' := blt_iff hb
    have e : (vs.toArray.size : Int) = (xs.length : Nat) := by rw [List.size_toArray, R.len]
    refine call_len_list hp.isList (by rw [e]; omega) ?_
    rw [e]
    exact h _ _ (by rw [rI_some q]; rfl)
  · cases q
theorem se_len {p pos : Pos} {e : Expr} {d : D} (H : SE C n sc nm e d) (hx : sc.names.lookup (Str.ofString "len") = some .globalImplicit := by rfl) (hk : sc.kind = .function := by rfl)
    (he : ∀ env, starEach [e] env = (false, eval e env) :: starEach [] env := by intro _; rfl) : SE C n sc nm (.Call (.Name "len" p) [e] [] pos) (dLen d) := by
  intro ev A h₀ P φ σ s x ha F q
  unfold dLen at q
  split at q
  · rename_i xs hq
    refine call_node (bi_name hx hk (by decide +kernel) F.gw' (by decide +kernel) boot_len' (by decide +kernel) ?_)
    refine callWith_builtin1 ?_ (he _)
    rw [he]
    refine spliced_cons (one H ha F hq fun a s' φ' X S F' R => spliced_nil ?_)
    cases R with
    | list ho R' =>
      refine len_rule ⟨_, X.inn _ _ ho⟩ R' q fun t t' hx => ?_
      subst hx
      exact ⟨φ', X, S.mk' _ _, .int _ _⟩
  · cases q
theorem se_lenO {x : Str} {i : Nat} {p p' pos : Pos} (hi : nm[i]? = some x := by rfl) (hx : sc.names.lookup (Str.ofString "len") = some .globalImplicit := by rfl) (hk : sc.kind = .function := by rfl)
    (hd : (x == ("__debug__" : Str)) = false := by decide +kernel) : SE C n sc nm (.Call (.Name "len" p) [.Name x p'] [] pos) (dLenO i) := by
  intro ev A h₀ P φ σ s y ha F q
  unfold dLenO at q
  split at q
  · rename_i xs hq
    refine call_node (bi_name hx hk (by decide +kernel) F.gw' (by decide +kernel) boot_len' (by decide +kernel) ?_)
    refine callWith_builtin1 ?_ rfl
    show wpAny C.M A (spliced ((false, eval (.Name x p') (ev.env sc)) :: [])) _ _ s
    refine spliced_cons (own_name hi hk hd F hq fun a vs hp R => spliced_nil ?_)
    refine len_rule hp R q fun t t' hx => ?_
    subst hx
    exact ⟨φ, .refl F.inn, ⟨_, _, rfl⟩, .int _ _⟩
  · cases q
theorem se_max {p pos : Pos} {e₁ e₂ : Expr} {d₁ d₂ : D} (H₁ : SE C n sc nm e₁ d₁) (H₂ : SE C n sc nm e₂ d₂) (hx : sc.names.lookup (Str.ofString "max") = some .globalImplicit := by rfl) (hk : sc.kind = .function := by rfl)
    (he : ∀ env, starEach [e₁, e₂] env = (false, eval e₁ env) :: starEach [e₂] env := by intro _; rfl) (he' : ∀ env, starEach [e₂] env = (false, eval e₂ env) :: starEach [] env := by intro _; rfl) :
    SE C n sc nm (.Call (.Name "max" p) [e₁, e₂] [] pos) (dMax d₁ d₂) := by
  intro ev A h₀ P φ σ s x ha F q
  obtain ⟨i, j, q₁, q₂, q₃⟩ := int2_some q
  refine call_node (bi_name hx hk (by decide +kernel) F.gw' (by decide +kernel) boot_max' (by decide +kernel) ?_)
  refine callWith_builtin1 ?_ (he _) (by rw [he']; rfl)
  rw [he, he']
  refine spliced_cons (one H₁ ha F q₁ fun a s₁ φ₁ X₁ S₁ F₁ R₁ => spliced_cons (one H₂ ha F₁ q₂ fun b s₂ φ₂ X₂ S₂ F₂ R₂ => spliced_nil ?_))
  cases R₁
  cases R₂
  refine PySem.max_two_ints ha.1 fun h' tk hk => ?_
  rw [ltI_eq] at q₃
  by_cases c : j > i
  · rw [if_pos c]
    rw [if_pos (by simpa using c)] at q₃
    cases rI_some q₃
    exact ⟨φ₂, (X₁.trans X₂).trans (.of_keep X₂.inn hk), (S₁.trans S₂).mk' _ _, .int _ _⟩
  · rw [if_neg c]
    rw [if_neg (by simpa using c)] at q₃
    cases rI_some q₃
    exact ⟨φ₂, (X₁.trans X₂).trans (.of_keep X₂.inn hk), (S₁.trans S₂).mk' _ _, .int _ _⟩
/-- list(x) -/
theorem sl_copy {p pos : Pos} {e : Expr} {d : D} (H : SE C n sc nm e d) (hx : sc.names.lookup (Str.ofString "list") = some .globalImplicit := by rfl) (hk : sc.kind = .function := by rfl)
    (he : ∀ env, starEach [e] env = (false, eval e env) :: starEach [] env := by intro _; rfl) : SL C n sc nm (.Call (.Name "list" p) [e] [] pos) (dCopy d) := by
  intro ev A h₀ P φ σ s x ha F q
  unfold dCopy at q
  split at q
  · rename_i xs hq
    split at q
    · rename_i hb
      cases q
      refine call_node (bi_name hx hk (by decide +kernel) F.gw' (by decide +kernel) boot_list' (by decide +kernel) ?_)
      refine Pv.callWith_type1 ?_ (he _)
      rw [he]
      refine spliced_cons (one H ha F hq fun a s' φ' X S F' R => spliced_nil ?_)
      cases R with
      | @list a vs k _ ho R' =>
        have hz : vs.toArray.size ≤ sizeLine := by
          have := blt_iff hb
          rw [List.size_toArray, R'.len, sizeLine_eq]; omega
        refine PySem.call_list_seq a (.inl rfl) (X.inn _ _ ho) rfl rfl (fun h' c' hk hn => ?_) hz
        have hn' : s'.heap.get? s'.heap.objs.size = none := get_size _
        refine ⟨φ', _, vs, X.trans (.of_keep X.inn hk), S.mk' _ _, rfl, ?_, ?_, ⟨c', hn⟩, R'⟩
        · cases h : s.heap.get? s'.heap.objs.size with
          | none => rfl
          | some o => rw [X.keep _ _ h] at hn'; cases hn'
        · cases h : φ' s'.heap.objs.size with
          | none => rfl
          | some o => rw [X.inn _ _ h] at hn'; cases hn'
    · cases q
  · cases q

theorem plain_get {k : Int} {x : V} {xs : List V} (q : atL xs k = some x) : 0 ≤ k ∧ k < 1000000 ∧ xs[k.toNat]? = some x := by
  unfold atL at q
  split at q
  · rename_i m
    split at q
    · rename_i hb
      have := blt_iff hb
      rw [getL_eq] at q
      exact ⟨by simp, by simp; omega, by simpa using q⟩
    · cases q
  · cases q

theorem at_rule {A : Around} {s : Shared} {E : Value → Shared → Prop} {Q : Value → Shared → Prop} {value slice : Expr} {a : Addr} {vs : List Value} {xs : List V} {x : V} {φ : PMap} {k : Int} {u : Tok} (hp : s.heap.PlainList a vs.toArray) (R : Rds φ vs xs)
    (q : atL xs k = some x) (hs : ∀ o i, subscripted slice false o i = operate [o, i] (getItem o i)) (h : ∀ v, Rd φ v x → Q v s) : wpAny C.M A (subscriptTail value slice (.ref a) (.int k u)) Q E s := by
  obtain ⟨h0, h1, h2⟩ := plain_get q
  obtain ⟨v, hv, hr⟩ := R.get h2
  exact tail_any hp.isList.typeIs slot_list_getitem.lookup (wpAny_getItem_list hp.isList h0 (by omega) (by simpa using hv) (h v hr)) (hs _ _)
theorem se_at {e₁ e₂ : Expr} {pos : Pos} {d₁ d₂ : D} (H₁ : SE C n sc nm e₁ d₁) (H₂ : SE C n sc nm e₂ d₂) (hs : ∀ o i, subscripted e₂ false o i = operate [o, i] (getItem o i) := by intro _ _; rfl) :
    SE C n sc nm (.Subscript e₁ e₂ pos) (dAt d₁ d₂) := by
  intro ev A h₀ P φ σ s x ha F q
  unfold dAt at q
  split at q
  · rename_i xs hq₁
    split at q
    · rename_i i hq₂
      refine Subscript_ (two H₁ H₂ ha F hq₁ hq₂ fun a b s' φ' X S F' R₁ R₂ => ?_)
      cases R₂
      cases R₁ with
      | list ho R =>
        exact at_rule ⟨_, X.inn _ _ ho⟩ R q hs fun v hv => ⟨φ', X, S, hv⟩
    · cases q
  · cases q
theorem se_atO {x : Str} {i : Nat} {e₂ : Expr} {p pos : Pos} {d₂ : D} (H₂ : SE C n sc nm e₂ d₂) (hi : nm[i]? = some x := by rfl) (hk : sc.kind = .function := by rfl)
    (hd : (x == ("__debug__" : Str)) = false := by decide +kernel) (hs : ∀ o i, subscripted e₂ false o i = operate [o, i] (getItem o i) := by intro _ _; rfl) :
    SE C n sc nm (.Subscript (.Name x p) e₂ pos) (dAtO i d₂) := by
  intro ev A h₀ P φ σ s y ha F q
  unfold dAtO at q
  split at q
  · rename_i xs hq₁
    split at q
    · rename_i j hq₂
      refine Subscript_ (own_name hi hk hd F hq₁ fun a vs hp R => one H₂ ha F hq₂ fun b s' φ' X S F' R₂ => ?_)
      cases R₂
      exact at_rule (hp.at fun o e => X.keep _ o e) (R.mono (X.sub F.inn)) q hs fun v hv => ⟨φ', X, S, hv⟩
    · cases q
  · cases q
theorem se_atT {e : Expr} {k : Int} {c j : Nat} {p pos : Pos} {d : D} (H : SE C n sc nm e d) (hk : k = (j : Int) := by rfl) (hj : j < 1000 := by decide) : SE C n sc nm (.Subscript e (.Constant (.int k) c p) pos) (dAtT d j) := by
  intro ev A h₀ P φ σ s x ha F q
  unfold dAtT at q
  split at q
  · rename_i xs hq
    rw [getL_eq] at q
    refine Subscript_ (one H ha F hq fun a s' φ' X S F' R => wpAny_Constant_int ?_)
    cases R with
    | tuple ho R' =>
      obtain ⟨v, hv, hr⟩ := R'.get q
      subst hk
      refine item_tupleT (j := j) ⟨_, X.inn _ _ ho, rfl, _, rfl⟩ (by omega) (by omega) ?_ hv ⟨φ', X, S.mk' _ _, hr⟩ rfl
      have hl := (List.getElem?_eq_some_iff.mp hv).1
      unfold seqIndex?
      have h1 : ¬ ((j : Int) < 0) := by omega
      simp only [h1, if_false]
      rw [if_pos (by simp; omega)]
      simp
  · cases q
end
end Mine
end

section
open PySem PySem.W PySem.Calls PyProof.Rows PySem.Spec PyProof.V
namespace Mine

mutual
theorem eqV_iff : ∀ (x y : V) (b : Bool), eqV x y = some b → (b = true ↔ x = y)
  | .none, y, b, h => by cases y <;> simp [eqV] at h; simp [← h]
  | .bool _, y, b, h => by cases y <;> simp [eqV] at h
  | .str _, y, b, h => by cases y <;> simp [eqV] at h
  | .bytes _, y, b, h => by cases y <;> simp [eqV] at h
  | .int a, y, b, h => by
    cases y <;> simp [eqV] at h
    rw [← h, eqI_eq, decide_eq_true_iff]
    simp
  | .tuple xs, y, b, h => by
    cases y <;> simp [eqV] at h
    rw [eqVs_iff xs _ b h]; simp
  | .list xs, y, b, h => by
    cases y <;> simp [eqV] at h
    rw [eqVs_iff xs _ b h]; simp
theorem eqVs_iff : ∀ (x y : List V) (b : Bool), eqVs x y = some b → (b = true ↔ x = y)
  | [], [], b, h => by simp [eqVs] at h; simp [← h]
  | [], _ :: _, b, h => by simp [eqVs] at h; simp [← h]
  | _ :: _, [], b, h => by simp [eqVs] at h; simp [← h]
  | x :: xs, y :: ys, b, h => by
    rw [eqVs] at h
    cases q : eqV x y with
    | none => rw [q] at h; cases h
    | some c =>
      have i := eqV_iff x y c q
      rw [q] at h
      cases c with
      | true =>
        have e : x = y := i.mp rfl
        rw [eqVs_iff xs ys b h, e]; simp
      | false =>
        cases h
        have e : ¬ x = y := fun e => by simpa using i.mpr e
        simp [e]
end
theorem inV_iff (x : V) : ∀ (ys : List V) (b : Bool), inV x ys = some b → (b = true ↔ x ∈ ys)
  | [], b, h => by simp [inV] at h; simp [← h]
  | y :: ys, b, h => by
    rw [inV] at h
    cases q : eqV y x with
    | none => rw [q] at h; cases h
    | some c =>
      have i := eqV_iff y x c q
      rw [q] at h
      cases c with
      | true =>
        cases h
        have e : y = x := i.mp rfl
        simp [e]
      | false =>
        have e : ¬ y = x := fun e => by simpa using i.mpr e
        have e' : ¬ x = y := fun q => e q.symm
        rw [inV_iff x ys b h]; simp [e']

mutual
theorem Rd.reads {φ : PMap} {h : Heap} (i : ∀ a o, φ a = some o → h.get? a = some o) : ∀ {v : Value} {x : V}, Rd φ v x → ∃ as, Reads h v (kqdP x) as
  | _, _, .none => ⟨_, Reads.none⟩
  | _, _, .bool b => ⟨_, Reads.bool b⟩
  | _, _, .int j t => ⟨_, Reads.int j t⟩
  | _, _, .list hm r => by
    obtain ⟨as, q⟩ := Rds.reads i r
    rw [kqdP]
    exact ⟨_, reads_list_at (i _ _ hm) rfl rfl (by simpa using q)⟩
  | _, _, .tuple hm r => by
    obtain ⟨as, q⟩ := Rds.reads i r
    rw [kqdP]
    exact ⟨as, reads_tuple_at (i _ _ hm) rfl rfl (by simpa using q)⟩
theorem Rds.reads {φ : PMap} {h : Heap} (i : ∀ a o, φ a = some o → h.get? a = some o) : ∀ {v : List Value} {x : List V}, Rds φ v x → ∃ as, ReadsAll h v (kqdPs x) as
  | _, _, .nil => ⟨_, ReadsAll.nil⟩
  | _, _, .cons a r => by
    obtain ⟨as, q⟩ := Rd.reads i a
    obtain ⟨bs, p⟩ := Rds.reads i r
    rw [kqdPs]
    exact ⟨_, ReadsAll.cons q p⟩
end

section
variable {C : Cx} {n : Nat} {sc : Scope} {nm : List Str}

theorem shaped_of {x : V} (h : kqdOk 9 x = true) : SeqAt.shaped (kqdP x) = true := by
  have la := kqd_lay 9 x h
  unfold SeqAt.shaped; rw [la.1, Bool.true_and]; exact decide_eq_true (Nat.le_trans la.2 (by decide))
theorem eqL_some {a b : D} {σ : St} {r : Bool} (q : tEqL a b σ = some r) : ∃ xs ys, a σ = some (.list xs) ∧ b σ = some (.list ys) ∧ kqdOk 9 (.list xs) = true ∧ kqdOk 9 (.list ys) = true ∧ eqVs xs ys = some r := by
  unfold tEqL at q
  split at q
  · split at q
    · split at q
      · rename_i h
        rw [Bool.and_eq_true] at h
        exact ⟨_, _, by assumption, by assumption, h.1, h.2, q⟩
      · cases q
    · cases q
  · cases q
theorem eqv_of {xs ys : List V} {r : Bool} (h1 : kqdOk 9 (.list xs) = true) (h2 : kqdOk 9 (.list ys) = true) (q : eqVs xs ys = some r) : PyData.eqv (kqdP (.list xs)) (kqdP (.list ys)) = r := by
  rw [Bool.eq_iff_iff, kqd_eqv 9 _ _ 9 h1 h2, eqVs_iff xs ys r q]; simp
theorem sc_eqL {d₁ d₂ : D} : SC C n .Eq d₁ d₂ (tEqL d₁ d₂) := by
  intro σ r q
  obtain ⟨xs, ys, q₁, q₂, h1, h2, h3⟩ := eqL_some q
  refine ⟨_, _, q₁, q₂, fun A s φ a b E Q ha hi R₁ R₂ h => ?_⟩
  obtain ⟨as, r1⟩ := R₁.reads hi
  obtain ⟨bs, r2⟩ := R₂.reads hi
  refine eq_dataH r1 r2 (shaped_of h1) (shaped_of h2) (by have := ha.units; omega) ?_
  rw [eqv_of h1 h2 h3]
  exact h s.heap s.toks fun _ _ e => e
theorem sc_neL {d₁ d₂ : D} : SC C n .NotEq d₁ d₂ (tNeL d₁ d₂) := by
  intro σ r q
  unfold tNeL at q
  split at q
  · rename_i r' q'
    cases q
    obtain ⟨xs, ys, q₁, q₂, h1, h2, h3⟩ := eqL_some q'
    refine ⟨_, _, q₁, q₂, fun A s φ a b E Q ha hi R₁ R₂ h => ?_⟩
    obtain ⟨as, r1⟩ := R₁.reads hi
    obtain ⟨bs, r2⟩ := R₂.reads hi
    refine ne_dataH r1 r2 (shaped_of h1) (shaped_of h2) (by have := ha.units; omega) ?_
    rw [eqv_of h1 h2 h3]
    exact h s.heap s.toks fun _ _ e => e
  · cases q
theorem sc_neB {d₁ d₂ : D} : SC C n .NotEq d₁ d₂ (tNeB d₁ d₂) := by
  intro σ r q
  unfold tNeB at q
  split at q
  · split at q
    · cases q
      refine ⟨_, _, by assumption, by assumption, fun A s φ a b E Q ha hi R₁ R₂ h => ?_⟩
      cases R₁
      cases R₂
      refine PyProof.Rows.ne_bool ?_
      exact h s.heap s.toks fun _ _ e => e
    · cases q
  · cases q
theorem in_some {a b : D} {σ : St} {r : Bool} (q : tIn a b σ = some r) : ∃ x ys, a σ = some x ∧ b σ = some (.list ys) ∧ kqdOk 8 x = true ∧ (∀ y ∈ ys, kqdOk 8 y = true) ∧ inV x ys = some r := by
  unfold tIn at q
  split at q
  · split at q
    · split at q
      · rename_i h
        rw [Bool.and_eq_true, List.all_eq_true] at h
        exact ⟨_, _, by assumption, by assumption, h.1, h.2, q⟩
      · cases q
    · cases q
  · cases q
theorem any_of {x : V} {ys : List V} {r : Bool} (h1 : kqdOk 8 x = true) (h2 : ∀ y ∈ ys, kqdOk 8 y = true) (q : inV x ys = some r) : ((kqdPs ys).any fun y => PyData.eqv y (kqdP x)) = r := by
  rw [Bool.eq_iff_iff, kqd_any ys x h2 h1, inV_iff x ys r q]
theorem sc_in {d₁ d₂ : D} : SC C n .In d₁ d₂ (tIn d₁ d₂) := by
  intro σ r q
  obtain ⟨x, ys, q₁, q₂, h1, h2, h3⟩ := in_some q
  refine ⟨_, _, q₁, q₂, fun A s φ a b E Q ha hi R₁ R₂ h => ?_⟩
  obtain ⟨as, r1⟩ := R₁.reads hi
  obtain ⟨bs, r2⟩ := R₂.reads hi
  rw [kqdP] at r2
  have l := kqd_layL h2
  have ld := kqd_lay 8 x h1
  have l2 := ld.2
  have u := ha.units
  refine SeqAt.in_list_reads r2 r1 l.1 ld.1 ?_ (by rw [any_of h1 h2 h3]; exact h s.heap s.toks fun _ _ e => e)
  have := Nat.min_le_right (PyData.depthAll (kqdPs ys)) (kqdP x).depth
  omega
theorem sc_notIn {d₁ d₂ : D} : SC C n .NotIn d₁ d₂ (tNotIn d₁ d₂) := by
  intro σ r q
  unfold tNotIn at q
  split at q
  · rename_i r' q'
    cases q
    obtain ⟨x, ys, q₁, q₂, h1, h2, h3⟩ := in_some q'
    refine ⟨_, _, q₁, q₂, fun A s φ a b E Q ha hi R₁ R₂ h => ?_⟩
    obtain ⟨as, r1⟩ := R₁.reads hi
    obtain ⟨bs, r2⟩ := R₂.reads hi
    rw [kqdP] at r2
    have l := kqd_layL h2
    have ld := kqd_lay 8 x h1
    have l2 := ld.2
    have u := ha.units
    refine SeqAt.notIn_list_reads r2 r1 l.1 ld.1 ?_ (by rw [any_of h1 h2 h3]; exact h s.heap s.toks fun _ _ e => e)
    have := Nat.min_le_right (PyData.depthAll (kqdPs ys)) (kqdP x).depth
    omega
  · cases q

/-- a < b < c as a test -/
theorem sb_lt2 {a b c : Expr} {pos : Pos} {da db dc : D} (Ha : SE C n sc nm a da) (Hb : SE C n sc nm b db) (Hc : SE C n sc nm c dc)
    (hm : lastMarks [.Lt, .Lt] [b, c] = false := by with_unfolding_all rfl) : SB C n sc nm (.Compare a [.Lt, .Lt] [b, c] pos) (tLt2 da db dc) := by
  intro ev A h₀ P φ σ s x ha F q
  unfold tLt2 at q
  split at q
  · rename_i i qa
    split at q
    · rename_i j qb
      refine isTrue_chain (one Ha ha F qa fun u s₁ φ₁ X₁ S₁ F₁ R₁ => ?_) hm
      refine test_link (one Hb ha F₁ qb fun v s₂ φ₂ X₂ S₂ F₂ R₂ => ?_)
      cases R₁
      cases R₂
      refine PyProof.Rows.lt_int ?_
      rw [← ltI_eq]
      refine wpAny_truthy_bool ?_
      split at q
      · rename_i hlt
        rw [if_pos hlt]
        split at q
        · rename_i k qc
          cases q
          refine test_last (one Hc ha F₂ qc fun w s₃ φ₃ X₃ S₃ F₃ R₃ => ?_)
          cases R₃
          refine PyProof.Rows.lt_int ?_
          rw [← ltI_eq]
          exact wpAny_truthy_bool ⟨rfl, φ₃, (X₁.trans X₂).trans X₃, (S₁.trans S₂).trans S₃⟩
        · cases q
      · rename_i hlt
        rw [if_neg hlt]
        cases q
        exact ⟨rfl, φ₂, X₁.trans X₂, S₁.trans S₂⟩
    · cases q
  · cases q
/-- a and b, both bools -/
theorem se_and {a b : Expr} {pos : Pos} {da db : D} (Ha : SE C n sc nm a da) (Hb : SE C n sc nm b db) : SE C n sc nm (.BoolOp .And [a, b] pos) (dAnd da db) := by
  intro ev A h₀ P φ σ s x ha F q
  unfold dAnd at q
  split at q
  · rename_i qa
    refine BoolOp_and (one Ha ha F qa fun u s₁ φ₁ X₁ S₁ F₁ R₁ => ?_)
    cases R₁
    refine wpAny_truthy_bool ?_
    rw [if_pos rfl]
    exact BoolOp_one (rule_post (Hb ev A h₀ P φ₁ σ s₁ x ha F₁ q) fun v s'' ⟨φ'', X', S', R⟩ => ⟨φ'', X₁.trans X', S₁.trans S', R⟩)
  · rename_i qa
    cases q
    refine BoolOp_and (one Ha ha F qa fun u s₁ φ₁ X₁ S₁ F₁ R₁ => ?_)
    cases R₁
    refine wpAny_truthy_bool ?_
    rw [if_neg (by simp)]
    exact ⟨φ₁, X₁, S₁, .bool _⟩
  · cases q

/-- slices -/
theorem pick_upto (items : Array Value) (k : Nat) : slicePick items none (some (k : Int)) none = (items.toList.take k).toArray := by
  by_cases h : k ≤ items.size
  · exact slicePick_upto items k h
  · have e : sliceBounds none (some (k : Int)) none items.size = sliceBounds none (some ((items.size : Nat) : Int)) none items.size := by
      simp only [sliceBounds, Option.getD_none]
      have h1 : ¬ ((k : Int) < 0) := by omega
      have h2 : ¬ (((items.size : Nat) : Int) < 0) := by omega
      simp only [h1, h2, if_false, show (1 : Int) > 0 by decide, if_true]
      congr 1
      congr 1; omega
    have e' : slicePick items none (some (k : Int)) none = slicePick items none (some ((items.size : Nat) : Int)) none := by
      unfold slicePick
      rw [e]
    rw [e', slicePick_upto items items.size (Nat.le_refl _)]
    rw [List.take_of_length_le (by simp), List.take_of_length_le (by simp; omega)]
theorem takeI_some {xs ys : List V} {i : Int} (q : takeI xs i = some ys) : ∃ k : Nat, i = (k : Int) ∧ xs.length < 1000000 ∧ ys = xs.take k := by
  unfold takeI at q
  split at q
  · rename_i k
    split at q
    · rename_i h
      rw [takeK_eq] at q
      exact ⟨k, rfl, blt_iff h, (Option.some.inj q).symm⟩
    · cases q
  · cases q
theorem take_rule {A : Around} {s : Shared} {E : Value → Shared → Prop} {value : Expr} {u : Option Expr} {p : Pos} {l : Addr} {vs : List Value} {xs ys : List V} {φ : PMap} {i : Int} {t : Tok} {s₀ : Shared} {φ₀ : PMap} (X : Ext s₀.heap φ₀ s.heap φ) (S : Sh s₀ s)
    (hp : s.heap.PlainList l vs.toArray) (R : Rds φ vs xs) (q : takeI xs i = some ys) :
    wpAny C.M A (subscriptTail value (.Slice none u none p) (.ref l) (.ref s.heap.objs.size)) (PostL φ₀ s₀ ys) E { s with heap := s.heap.push { cls := .type "slice", data := .fields #[.none, .int i t, .none] } } := by
  obtain ⟨k, rfl, hz, rfl⟩ := takeI_some q
  have hz' : vs.toArray.size ≤ sizeLine := by rw [List.size_toArray, R.len, sizeLine_eq]; omega
  refine tail_any (s := { s with heap := s.heap.push { cls := .type "slice", data := .fields #[.none, .int k t, .none] } }) (hp.isList.push _).typeIs slot_list_getitem.lookup
    (wpAny_getItem_list_slice (hp.isList.push _) (Heap.IsSliceOf.new ..) .none (.int _ _) .none (by decide) ?_ hz') rfl
  rw [pick_upto]
  have e : vs.toArray.toList.take k = vs.take k := by simp
  rw [e]
  have Y : Ext s.heap φ (s.heap.push { cls := .type "slice", data := .fields #[.none, .int k t, .none] }) φ := .of_keep X.inn (keep_push _ _)
  exact postL_push (s' := { s with heap := s.heap.push { cls := .type "slice", data := .fields #[.none, .int k t, .none] } }) (X.trans Y) (S.mk' _ _) (R.take k) _
theorem sl_take {e₁ e₂ : Expr} {p pos : Pos} {d₁ d₂ : D} (H₁ : SE C n sc nm e₁ d₁) (H₂ : SE C n sc nm e₂ d₂) : SL C n sc nm (.Subscript e₁ (.Slice none (some e₂) none p) pos) (dTake d₁ d₂) := by
  intro ev A h₀ P φ σ s ys ha F q
  unfold dTake at q
  split at q
  · rename_i xs q₁
    split at q
    · rename_i i q₂
      refine Subscript_ (one H₁ ha F q₁ fun a s₁ φ₁ X₁ S₁ F₁ R₁ => wpAny_Slice ?_)
      simp only [evalPart_none, evalPart_some]
      refine wpAny_pure (one H₂ ha F₁ q₂ fun b s₂ φ₂ X₂ S₂ F₂ R₂ => wpAny_pure ?_)
      cases R₂
      cases R₁ with
      | list ho R => exact take_rule (X₁.trans X₂) (S₁.trans S₂) ⟨_, X₂.keep _ _ (X₁.inn _ _ ho)⟩ (R.mono (X₂.sub F₁.inn)) q
    · cases q
  · cases q
theorem sl_takeO {x : Str} {i : Nat} {e₂ : Expr} {p p' pos : Pos} {d₂ : D} (H₂ : SE C n sc nm e₂ d₂) (hi : nm[i]? = some x := by rfl) (hk : sc.kind = .function := by rfl)
    (hd : (x == ("__debug__" : Str)) = false := by decide +kernel) : SL C n sc nm (.Subscript (.Name x p') (.Slice none (some e₂) none p) pos) (dTakeO i d₂) := by
  intro ev A h₀ P φ σ s ys ha F q
  unfold dTakeO at q
  split at q
  · rename_i xs q₁
    split at q
    · rename_i i q₂
      refine Subscript_ (own_name hi hk hd F q₁ fun a vs hp R => wpAny_Slice ?_)
      simp only [evalPart_none, evalPart_some]
      refine wpAny_pure (one H₂ ha F q₂ fun b s₂ φ₂ X₂ S₂ F₂ R₂ => wpAny_pure ?_)
      cases R₂
      exact take_rule X₂ S₂ (hp.at fun o e => X₂.keep _ o e) (R.mono (X₂.sub F.inn)) q
    · cases q
  · cases q
theorem revK_eq {α : Type} : ∀ (xs acc : List V) (k : List V → α), revK xs acc k = k (xs.reverse ++ acc)
  | [], acc, k => by simp [revK]
  | x :: r, acc, k => by rw [revK, revK_eq r]; simp
theorem sl_rev {e : Expr} {c : Nat} {p0 p1 p2 pos : Pos} {d : D} (H : SE C n sc nm e d) : SL C n sc nm (.Subscript e (.Slice none none (some (.UnaryOp .USub (.Constant (.int 1) c p0) p1)) p2) pos) (dRev d) := by
  intro ev A h₀ P φ σ s ys ha F q
  unfold dRev at q
  split at q
  · rename_i xs hq
    split at q
    · rename_i hb
      have hb' := blt_iff hb
      rw [revK_eq, List.append_nil] at q
      cases q
      refine Subscript_ (one H ha F hq fun a s' φ' X S F' R => wpAny_Slice ?_)
      simp only [evalPart_none, evalPart_some]
      refine wpAny_pure (wpAny_pure (UnaryOp_ (wpAny_Constant_int (PyProof.Rows.neg_int ?_))))
      cases R with
      | @list l vs k _ ho R =>
        have hp : s'.heap.PlainList l vs.toArray := ⟨_, X.inn _ _ ho⟩
        have hz' : vs.toArray.size ≤ sizeLine := by rw [List.size_toArray, R.len, sizeLine_eq]; omega
        refine tail_any (T := "list") (hp.isList.push _).typeIs slot_list_getitem.lookup
          (wpAny_getItem_list_slice (hp.isList.push _) (Heap.IsSliceOf.new ..) .none .none (.int _ _) (by decide) ?_ hz') rfl
        rw [krv_pick]
        have e : vs.toArray.toList.reverse = vs.reverse := by simp
        rw [e]
        have Y : ∀ o, Ext s'.heap φ' (s'.heap.push o) φ' := fun o => .of_keep X.inn (keep_push _ _)
        exact postL_push (s' := { s' with heap := s'.heap.push _, toks := _ }) (X.trans (Y _)) (S.mk' _ _) R.reverse _
    · cases q
  · cases q
theorem lastL_eq : ∀ (xs : List V) (x : V), lastL xs = some x → xs[xs.length - 1]? = some x ∧ 0 < xs.length
  | [], x, h => by simp [lastL] at h
  | [y], x, h => by simp [lastL] at h; simp [h]
  | y :: z :: r, x, h => by
    rw [lastL] at h
    have := lastL_eq (z :: r) x h
    simp at this ⊢
    exact this
    simp
theorem se_last {e : Expr} {c : Nat} {p0 p1 pos : Pos} {d : D} (H : SE C n sc nm e d) (hz : True := trivial) : SE C n sc nm (.Subscript e (.UnaryOp .USub (.Constant (.int 1) c p0) p1) pos) (dLast d) := by
  intro ev A h₀ P φ σ s x ha F q
  unfold dLast at q
  split at q
  · rename_i xs hq
    obtain ⟨h1, h2⟩ := lastL_eq xs x q
    refine Subscript_ (one H ha F hq fun a s' φ' X S F' R => ?_)
    refine UnaryOp_ (wpAny_Constant_int (PyProof.Rows.neg_int ?_))
    cases R with
    | @list l vs k _ ho R =>
      obtain ⟨v, hv, hr⟩ := R.get h1
      have hp : s'.heap.PlainList l vs.toArray := ⟨_, X.inn _ _ ho⟩
      have hl : vs.toArray.size = xs.length := by rw [List.size_toArray, R.len]
      refine tail_any (T := "list") (s := { s' with toks := _ }) hp.isList.typeIs slot_list_getitem.lookup (wpAny_getItem_list_neg hp.isList (by decide) (by rw [hl]; omega) (by decide) ?_ ⟨φ', X, S.mk' _ _, hr⟩) rfl
      rw [hl]
      have : (-1 + (xs.length : Int)).toNat = xs.length - 1 := by omega
      rw [this]
      simpa using hv
  · cases q
/-- list + list -/
theorem sl_cat {e₁ e₂ : Expr} {pos : Pos} {d₁ d₂ : D} (H₁ : SE C n sc nm e₁ d₁) (H₂ : SE C n sc nm e₂ d₂) : SL C n sc nm (.BinOp e₁ .Add e₂ pos) (dCat d₁ d₂) := by
  intro ev A h₀ P φ σ s zs ha F q
  unfold dCat at q
  split at q
  · rename_i xs q₁
    split at q
    · rename_i ys q₂
      split at q
      · rename_i hb
        have hb' := blt_iff hb
        rw [fL_eq] at q
        cases q
        refine wpAny_BinOp (two H₁ H₂ ha F q₁ q₂ fun a b s' φ' X S F' R₁ R₂ => ?_)
        cases R₁ with
        | @list l vs k _ ho R₁ =>
          cases R₂ with
          | @list l' ws k' _ ho' R₂ =>
            refine PySem.P.add_list (X.inn _ _ ho) (X.inn _ _ ho') ?_ ?_
            · have e : vs.toArray ++ ws.toArray = (vs ++ ws).toArray := by simp
              rw [e]
              exact postL_push X S (R₁.append R₂) _
            · rw [List.size_toArray, List.size_toArray, R₁.len, R₂.len, sizeLine_eq]; omega
      · cases q
    · cases q
  · cases q
theorem rep_fold (v : Value) : ∀ (k : Nat) (acc : Array Value), List.foldl (fun x1 x2 => x1 ++ x2) acc (List.replicate k #[v]) = acc ++ (List.replicate k v).toArray
  | 0, acc => by simp
  | k + 1, acc => by
    rw [List.replicate_succ, List.foldl_cons, rep_fold v k, List.replicate_succ]
    apply Array.ext'
    simp
theorem Rds.replicate {φ : PMap} {v : Value} {x : V} (R : Rd φ v x) : ∀ k, Rds φ (List.replicate k v) (List.replicate k x)
  | 0 => .nil
  | k + 1 => .cons R (Rds.replicate R k)
theorem sl_rep {e₁ e₂ : Expr} {p pos : Pos} {d₁ d₂ : D} (H₁ : SE C n sc nm e₁ d₁) (H₂ : SE C n sc nm e₂ d₂)
    (he : ∀ env, starEach [e₁] env = (false, eval e₁ env) :: starEach [] env := by intro _; rfl) : SL C n sc nm (.BinOp (.List [e₁] p) .Mult e₂ pos) (dRep d₁ d₂) := by
  intro ev A h₀ P φ σ s zs ha F q
  unfold dRep at q
  split at q
  · rename_i x q₁
    split at q
    · rename_i i q₂
      unfold repI at q
      split at q
      · rename_i hb
        rw [Bool.and_eq_true, ltI_eq, ltI_eq, decide_eq_true_iff, decide_eq_true_iff] at hb
        rw [fL_eq] at q
        cases q
        have HL : SE C n sc nm (.List [e₁] p) (dNew (dsC d₁ ds0)) := se_new (sl_list (sa_cons H₁ sa_nil he) (by simp))
        have q₀ : dNew (dsC d₁ ds0) σ = some (.list [x]) := by simp [dNew, dsC, ds0, q₁]
        refine wpAny_BinOp (two HL H₂ ha F q₀ q₂ fun a b s' φ' X S F' R₁ R₂ => ?_)
        cases R₂ with
        | int _ u =>
          cases R₁ with
          | @list l vs k _ ho R₁ =>
            obtain ⟨v, rfl, hv⟩ : ∃ v, vs = [v] ∧ Rd φ' v x := by
              cases R₁ with
              | cons h r => cases r; exact ⟨_, rfl, h⟩
            have hl := X.inn _ _ ho
            refine wpAny_binaryOp_repeat_ref (T := "list") (U := "int") (by decide) ⟨_, hl, rfl⟩ (fun z => typeIs_int z i u) noFill_list_mul PySem.F.fills_int_mul PySem.F.slot_int_rmul repeat_list PySem.F.slot_int_index.lookup ?_
            refine call_meets PySem.F.slot_int_rmul (typeIs_int s' i u) PySem.F.entry_int_rmul (PySem.F.args_int_rmul_2 _ _) (int___rmul___int_list i u l _ k) ⟨hl, rfl, ⟨_, hl, rfl⟩, ?_⟩
            refine call_meets PySem.F.slot_list_mul ⟨_, hl, rfl⟩ PySem.F.entry_list_mul (PySem.F.args_list_mul_2 _ _) (AutoListH.list___mul___list_int_3 l _ k i u ?_ ?_ ?_) ⟨hl, ?_⟩
            · simp [Builtin.List.listFitsIndex]; omega
            · simp; omega
            · simp [Builtin.List.listTooLong, sizeLine]; omega
            · show PostL φ s _ (.ref s'.heap.objs.size) { s' with heap := s'.heap.push { cls := .type "list", data := .seq (List.foldl (fun x1 x2 => x1 ++ x2) #[] (List.replicate (if (([v] : List Value).toArray).isEmpty = true then 0 else i.toNat) ([v] : List Value).toArray)) } }
              have e : List.foldl (fun x1 x2 => x1 ++ x2) #[] (List.replicate (if (([v] : List Value).toArray).isEmpty = true then 0 else i.toNat) ([v] : List Value).toArray) = (List.replicate i.toNat v).toArray := by
                have := rep_fold v i.toNat #[]
                simpa using this
              rw [e]
              exact postL_push X S (Rds.replicate hv _) _
      · cases q
    · cases q
  · cases q
end
end Mine
end

section
open PySem PySem.W PySem.Calls PyProof.Rows PySem.Spec PyProof.V
namespace Mine

/-- what a statement does beside its frame: P stays, what is frozen stays frozen -/
structure Aft (P : Addr → Prop) (h : Heap) (φ : PMap) (h' : Heap) (φ' : PMap) : Prop where
  keep : ∀ b, P b → h'.get? b = h.get? b
  below : ∀ b, P b → φ' b = φ b
  sub : ∀ a o, φ a = some o → φ' a = some o
  inn : ∀ a o, φ' a = some o → h'.get? a = some o
theorem Aft.refl {P : Addr → Prop} {h : Heap} {φ : PMap} (i : ∀ a o, φ a = some o → h.get? a = some o) : Aft P h φ h φ := ⟨fun _ _ => rfl, fun _ _ => rfl, fun _ _ e => e, i⟩
theorem Aft.trans {P : Addr → Prop} {h h' h'' : Heap} {φ φ' φ'' : PMap} (x : Aft P h φ h' φ') (y : Aft P h' φ' h'' φ'') : Aft P h φ h'' φ'' :=
  ⟨fun b hb => (y.keep b hb).trans (x.keep b hb), fun b hb => (y.below b hb).trans (x.below b hb), fun a o e => y.sub a o (x.sub a o e), y.inn⟩
theorem Aft.mono {P P' : Addr → Prop} {h h' : Heap} {φ φ' : PMap} (x : Aft P' h φ h' φ') (hp : ∀ b, P b → P' b) : Aft P h φ h' φ' :=
  ⟨fun b hb => x.keep b (hp b hb), fun b hb => x.below b (hp b hb), x.sub, x.inn⟩

section
variable {C : Cx} {n : Nat} {sc : Scope} {nm : List Str} {ev : EV} {A : Around} {h₀ : Heap} {P : Addr → Prop} {φ : PMap} {σ : St} {s : Shared} {E : Value → Shared → Prop}

theorem Fm.aft (F : Fm C h₀ P ev sc nm φ σ s.heap) {h' : Heap} {φ' : PMap} (X : Ext s.heap φ h' φ') : Aft P s.heap φ h' φ' :=
  ⟨fun b hb => by obtain ⟨o, ho⟩ := F.live b hb; rw [ho, X.keep _ _ ho], fun b hb => by obtain ⟨o, ho⟩ := F.live b hb; exact X.below _ _ ho, X.sub F.inn, X.inn⟩

def PostS (C : Cx) (h₀ : Heap) (P : Addr → Prop) (ev : EV) (sc : Scope) (nm : List Str) (φ : PMap) (s : Shared) (r : Res) (f : Flow) (s' : Shared) : Prop :=
  ∃ φ', Aft P s.heap φ s'.heap φ' ∧ Sh s s' ∧ match r with
    | .nxt σ' => f = .next ∧ Fm C h₀ P ev sc nm φ' σ' s'.heap
    | .ret x => ∃ v, f = .ret v ∧ Rd φ' v x

def SS (C : Cx) (n : Nat) (sc : Scope) (nm : List Str) (ss : List Stmt) (d : DS) : Prop :=
  ∀ ev A h₀ P φ σ s r, AOK n A → Fm C h₀ P ev sc nm φ σ s.heap → d σ = some r → wpAny C.M A (execs ss (ev.env sc)) (PostS C h₀ P ev sc nm φ s r) noE s
def S1 (C : Cx) (n : Nat) (sc : Scope) (nm : List Str) (st : Stmt) (d : DS) : Prop :=
  ∀ ev A h₀ P φ σ s r, AOK n A → Fm C h₀ P ev sc nm φ σ s.heap → d σ = some r → wpAny C.M A (exec st (ev.env sc)) (PostS C h₀ P ev sc nm φ s r) noE s

theorem PostS.trans {r : Res} {f : Flow} {φ' : PMap} {s' s'' : Shared} (a : Aft P s.heap φ s'.heap φ') (S : Sh s s') (p : PostS C h₀ P ev sc nm φ' s' r f s'') : PostS C h₀ P ev sc nm φ s r f s'' := by
  obtain ⟨φ'', X, S', q⟩ := p
  exact ⟨φ'', a.trans X, S.trans S', q⟩

theorem ss_nil : SS C n sc nm [] sNil := by
  intro ev A h₀ P φ σ s r ha F q
  cases q
  exact wpAny_execs_nil ⟨φ, .refl F.inn, .refl _, rfl, F⟩
theorem ss_cons {st : Stmt} {rest : List Stmt} {d₁ d₂ : DS} (H₁ : S1 C n sc nm st d₁) (H₂ : SS C n sc nm rest d₂) : SS C n sc nm (st :: rest) (sSeq d₁ d₂) := by
  intro ev A h₀ P φ σ s r ha F q
  unfold sSeq at q
  split at q
  · rename_i σ' hq
    refine wpAny_execs_cons (rule_post (H₁ ev A h₀ P φ σ s _ ha F hq) fun f s' p => ?_)
    obtain ⟨φ', a, S, rfl, F'⟩ := p
    exact rule_post (H₂ ev A h₀ P φ' σ' s' r ha F' q) fun f s'' p => p.trans a S
  · rename_i hn
    refine wpAny_execs_cons (rule_post (H₁ ev A h₀ P φ σ s r ha F q) fun f s' p => ?_)
    cases r with
    | nxt σ' => exact absurd q (hn σ')
    | ret x =>
      obtain ⟨φ', a, S, v, rfl, R⟩ := p
      exact ⟨φ', a, S, v, rfl, R⟩

theorem s1_fail {st : Stmt} : S1 C n sc nm st sFail := by
  intro ev A h₀ P φ σ s r ha F q
  cases q
theorem ss_fail {st : List Stmt} : SS C n sc nm st sFail := by
  intro ev A h₀ P φ σ s r ha F q
  cases q

theorem s1_ret {e : Expr} {pos : Pos} {d : D} (H : SE C n sc nm e d) : S1 C n sc nm (.Return (some e) pos) (sRet d) := by
  intro ev A h₀ P φ σ s r ha F q
  unfold sRet at q
  split at q
  · rename_i x hx
    cases q
    refine wpAny_Return_some (one H ha F hx fun v s' φ' X S F' R => ?_)
    exact ⟨φ', F.aft X, S, v, rfl, R⟩
  · cases q
theorem s1_if {t : Expr} {a b : List Stmt} {pos : Pos} {dt : DB} {da db : DS} (Ht : SB C n sc nm t dt) (Ha : SS C n sc nm a da) (Hb : SS C n sc nm b db) : S1 C n sc nm (.If t a b pos) (sIf dt da db) := by
  intro ev A h₀ P φ σ s r ha F q
  unfold sIf at q
  split at q
  · rename_i hq
    refine wpAny_If (rule_post (Ht ev A h₀ P φ σ s true ha F hq) fun c s' hc => ?_)
    obtain ⟨rfl, φ', X, S⟩ := hc
    rw [if_pos rfl]
    exact rule_post (Ha ev A h₀ P φ' σ s' r ha (F.ext X) q) fun f s'' p => p.trans (F.aft X) S
  · rename_i hq
    refine wpAny_If (rule_post (Ht ev A h₀ P φ σ s false ha F hq) fun c s' hc => ?_)
    obtain ⟨rfl, φ', X, S⟩ := hc
    rw [if_neg (by simp)]
    exact rule_post (Hb ev A h₀ P φ' σ s' r ha (F.ext X) q) fun f s'' p => p.trans (F.aft X) S
  · cases q
theorem s1_while {t : Expr} {b : List Stmt} {pos : Pos} {dt : DB} {db : DS} {k : Nat} (Ht : SB C n sc nm t dt) (Hb : SS C n sc nm b db) : S1 C n sc nm (.While t b [] pos) (sWhile dt db k) := by
  intro ev A h₀ P φ σ s r ha F q
  refine wpAny_While ?_
  refine codeAny_whileLoop (fun k s' => ∃ φ' σ', Aft P s.heap φ s'.heap φ' ∧ Sh s s' ∧ Fm C h₀ P ev sc nm φ' σ' s'.heap ∧ sWhile dt db k σ' = some r) (fun k s₁ hI => ?_) k ⟨φ, σ, .refl F.inn, .refl _, F, q⟩
  obtain ⟨φ₁, σ₁, a₁, S₁, F₁, q₁⟩ := hI
  cases k with
  | zero => cases q₁
  | succ k =>
    unfold sWhile at q₁
    split at q₁
    · rename_i hq
      refine rule_post (Ht ev A h₀ P φ₁ σ₁ s₁ true ha F₁ hq) fun c s₂ hc => ?_
      obtain ⟨rfl, φ₂, X₂, S₂⟩ := hc
      rw [if_pos rfl]
      split at q₁
      · rename_i σ₃ hb
        refine rule_post (Hb ev A h₀ P φ₂ σ₁ s₂ _ ha (F₁.ext X₂) hb) fun f s₃ p => ?_
        obtain ⟨φ₃, a₃, S₃, rfl, F₃⟩ := p
        exact ⟨k, Nat.lt_succ_self _, φ₃, σ₃, (a₁.trans (F₁.aft X₂)).trans a₃, (S₁.trans S₂).trans S₃, F₃, q₁⟩
      · rename_i hn
        refine rule_post (Hb ev A h₀ P φ₂ σ₁ s₂ r ha (F₁.ext X₂) q₁) fun f s₃ p => ?_
        cases r with
        | nxt σ' => exact absurd q₁ (hn σ')
        | ret x =>
          obtain ⟨φ₃, a₃, S₃, v, rfl, R⟩ := p
          exact ⟨φ₃, (a₁.trans (F₁.aft X₂)).trans a₃, (S₁.trans S₂).trans S₃, v, rfl, R⟩
    · rename_i hq
      cases q₁
      refine rule_post (Ht ev A h₀ P φ₁ σ₁ s₁ false ha F₁ hq) fun c s₂ hc => ?_
      obtain ⟨rfl, φ₂, X₂, S₂⟩ := hc
      rw [if_neg (by simp)]
      exact wpAny_execs_nil ⟨φ₂, a₁.trans (F₁.aft X₂), S₁.trans S₂, rfl, F₁.ext X₂⟩
    · cases q₁

theorem getS_set : ∀ (σ : St) (i j : Nat) (x : Slot), getS (σ.set i x) j = if j = i ∧ i < σ.length then x else getS σ j
  | [], i, j, x => by simp [getS]
  | y :: r, 0, 0, x => by simp [getS]
  | y :: r, 0, j + 1, x => by simp [getS]
  | y :: r, i + 1, 0, x => by simp [getS]
  | y :: r, i + 1, j + 1, x => by
    show getS (r.set i x) j = _
    rw [getS_set r i j x]
    simp [getS]

/-- an own list is frozen: nothing happens in the program -/
theorem Fm.freeze {i : Nat} {x : Str} {xs : List V} (F : Fm C h₀ P ev sc nm φ σ s.heap) (hi : nm[i]? = some x) (hq : getS σ i = .own xs) :
    ∃ φ', Aft P s.heap φ s.heap φ' ∧ Fm C h₀ P ev sc nm φ' (σ.set i (.val (.list xs))) s.heap := by
  obtain ⟨m, as, S⟩ := F.sl
  have ok := S.ok i x hi
  rw [hq] at ok
  obtain ⟨⟨hk, hm⟩, ⟨vs, ⟨k, hp⟩, R⟩, hn, hP, hL⟩ := ok
  have hs : ∀ b o, φ b = some o → (φ.add (as i) { cls := .type "list", data := .seq vs.toArray k }) b = some o := fun b o e => by
    unfold PMap.add
    rw [if_neg]; exact e
    rintro rfl
    rw [hn] at e; cases e
  have hinn : ∀ b o, (φ.add (as i) { cls := .type "list", data := .seq vs.toArray k }) b = some o → s.heap.get? b = some o := fun b o e => by
    unfold PMap.add at e
    split at e
    · rename_i q; subst q; cases e; exact hp
    · exact F.inn b o e
  refine ⟨φ.add (as i) { cls := .type "list", data := .seq vs.toArray k }, ⟨fun _ _ => rfl, fun b hb => ?_, hs, hinn⟩, F.gw, F.keep, F.base, F.live, F.pL, ?_, hinn, m, as, S.ns, fun j y hy => ?_, fun j l xs' ys' hnj hnl hj hl hne => ?_⟩
  · unfold PMap.add
    rw [if_neg]
    rintro rfl
    exact hP hb
  · unfold PMap.add
    rw [if_neg (Ne.symm hL)]
    exact F.fL
  · rw [getS_set]
    split
    · rename_i h
      obtain ⟨rfl, _⟩ := h
      rw [hi] at hy
      cases hy
      exact ⟨_, .inl ⟨hk, hm⟩, .list (n := k) (by simp [PMap.add]) (R.mono hs)⟩
    · rename_i hji
      have q := S.ok j y hy
      cases hg : getS σ j with
      | free => trivial
      | val V =>
        rw [hg] at q
        obtain ⟨v, l, r⟩ := q
        exact ⟨v, l.ext hs, r.mono hs⟩
      | own ys =>
        rw [hg] at q
        obtain ⟨l, ⟨ws, hp', r⟩, hn', hP', hL'⟩ := q
        refine ⟨l, ⟨ws, hp', r.mono hs⟩, ?_, hP', hL'⟩
        unfold PMap.add
        rw [if_neg]; exact hn'
        by_cases hj : j = i
        · exfalso
          subst hj
          refine hji ⟨rfl, ?_⟩
          have : ∀ (σ : St) (i : Nat), getS σ i = .own xs → i < σ.length := by
            intro σ
            induction σ with
            | nil => intro i h; simp [getS] at h
            | cons a r ih =>
              intro i h
              cases i with
              | zero => simp
              | succ i => have := ih i h; simp; omega
          exact this σ j hq
        · exact S.apart j i ys xs (by rw [hy]; rfl) (by rw [hi]; rfl) hg hq hj
  · rw [getS_set] at hj hl
    split at hj
    · cases hj
    · split at hl
      · cases hl
      · exact S.apart j l xs' ys' hnj hnl hj hl hne
theorem s1_frz {i : Nat} {x : Str} {st : Stmt} {d : DS} (H : S1 C n sc nm st d) (hi : nm[i]? = some x := by rfl) : S1 C n sc nm st (sFrz i d) := by
  intro ev A h₀ P φ σ s r ha F q
  unfold sFrz at q
  split at q
  · rename_i xs hq
    rw [setK_eq] at q
    obtain ⟨φ', a, F'⟩ := F.freeze hi hq
    exact rule_post (H ev A h₀ P φ' _ s r ha F' q) fun f s'' p => p.trans a (.refl _)
  · cases q

/-- the frame, with a word on where its own lists lie -/
def FmO (C : Cx) (h₀ : Heap) (P : Addr → Prop) (ev : EV) (sc : Scope) (nm : List Str) (φ : PMap) (σ : St) (h : Heap) (O : Addr → Prop) : Prop :=
  Fm C h₀ P ev sc nm φ σ h ∧ ∃ m as, Sl ev sc nm φ P h m as σ ∧ ∀ j xs, nm[j]?.isSome → getS σ j = .own xs → O (as j)
theorem Fm.toO {h : Heap} (F : Fm C h₀ P ev sc nm φ σ h) : FmO C h₀ P ev sc nm φ σ h (fun a => ∃ o, h.get? a = some o) := by
  refine ⟨F, ?_⟩
  obtain ⟨m, as, S⟩ := F.sl
  refine ⟨m, as, S, fun j xs hj hg => ?_⟩
  obtain ⟨x, hx⟩ := Option.isSome_iff_exists.mp hj
  have q := S.ok j x hx
  rw [hg] at q
  obtain ⟨_, ⟨vs, ⟨k, hp⟩, _⟩, _⟩ := q
  exact ⟨_, hp⟩
theorem FmO.ext {h h' : Heap} {φ' : PMap} {O : Addr → Prop} (F : FmO C h₀ P ev sc nm φ σ h O) (X : Ext h φ h' φ') : FmO C h₀ P ev sc nm φ' σ h' O := by
  obtain ⟨F, m, as, S, hO⟩ := F
  refine ⟨F.ext X, m, as, ?_, hO⟩
  have F1 : Fm C h₀ P ev sc nm φ σ h := ⟨F.gw, F.keep, F.base, F.live, F.pL, F.fL, F.inn, m, as, S⟩
  have hs := X.sub F.inn
  refine ⟨S.ns.keeps X.keep, fun i x hx => ?_, S.apart⟩
  have q := S.ok i x hx
  cases hg : getS σ i with
  | free => trivial
  | val V =>
    rw [hg] at q
    obtain ⟨v, l, r⟩ := q
    exact ⟨v, l.ext hs, r.mono hs⟩
  | own xs =>
    rw [hg] at q
    obtain ⟨l, ⟨vs, hp, r⟩, hn, hP, hL'⟩ := q
    obtain ⟨k, hk⟩ := id hp
    exact ⟨l, ⟨vs, hp.at fun o e => X.keep _ o e, r.mono hs⟩, (X.below _ _ hk).trans hn, hP, hL'⟩

/-- what may be stored into a slot -/
def Pend (φ : PMap) (P : Addr → Prop) (ev : EV) (h : Heap) (O : Addr → Prop) (v : Value) : Slot → Prop
  | .free => False
  | .val x => Rd φ v x
  | .own xs => ∃ a, ∃ vs : List Value, v = .ref a ∧ h.PlainList a vs.toArray ∧ Rds φ vs xs ∧ φ a = none ∧ ¬ P a ∧ a ≠ ev.L ∧ ¬ O a

def addrOf : Value → Addr
  | .ref a => a
  | _ => 0
theorem getS_len : ∀ (σ : St) (i : Nat), ¬ i < σ.length → getS σ i = .free := by
  intro σ
  induction σ with
  | nil => intro i _; rfl
  | cons a r ih =>
    intro i h
    cases i with
    | zero => simp at h
    | succ i => exact ih i (by simpa using h)

theorem FmO.store {h h' : Heap} {O : Addr → Prop} {i : Nat} {x : Str} {v : Value} {sl : Slot} {m : Str → Option Value} {as : Nat → Addr} (F : Fm C h₀ P ev sc nm φ σ h) (S : Sl ev sc nm φ P h m as σ)
    (hO : ∀ j xs, nm[j]?.isSome → getS σ j = .own xs → O (as j)) (hi : nm[i]? = some x) (hl : sc.names.lookup x = some .local) (hnd : nm.Nodup) (R : Pend φ P ev h O v sl)
    (hn : h'.Ns ev.L (fun y => if y = x then some v else m y)) (hs : Heap.SameBut ev.L h h') : FmO C h₀ P ev sc nm φ (σ.set i sl) h' (fun b => O b ∨ v = .ref b) := by
  have hne : ∀ j y, nm[j]? = some y → j ≠ i → y ≠ x := fun j y hy hji e => by
    subst e
    obtain ⟨l1, e1⟩ := List.getElem?_eq_some_iff.mp hy
    obtain ⟨l2, e2⟩ := List.getElem?_eq_some_iff.mp hi
    exact hji ((List.getElem_inj hnd).mp (e1.trans e2.symm))
  have hisS : nm[i]?.isSome = true := by rw [hi]; rfl
  have same : ∀ b, b ≠ ev.L → h'.get? b = h.get? b := fun b hb => hs.2 b hb
  have pne : ∀ b, P b → b ≠ ev.L := fun b hb e => F.pL (e ▸ hb)
  obtain ⟨as', ha1, ha2⟩ : ∃ as' : Nat → Addr, as' i = addrOf v ∧ ∀ j, j ≠ i → as' j = as j := ⟨fun j => if j = i then addrOf v else as j, by simp, fun j hj => by simp [hj]⟩
  have key : Sl ev sc nm φ P h' (fun y => if y = x then some v else m y) as' (σ.set i sl) := by
    refine ⟨hn, fun j y hy => ?_, fun j k xs ys hnj hnk hj hk hjk => ?_⟩
    · rw [getS_set]
      by_cases hji : j = i
      · subst hji
        rw [hi] at hy
        cases hy
        by_cases hlen : j < σ.length
        · rw [if_pos ⟨rfl, hlen⟩]
          cases sl with
          | free => exact R.elim
          | val z => exact ⟨v, .inl ⟨hl, by simp⟩, R⟩
          | own zs =>
            obtain ⟨a, vs, rfl, hp, hr, hf, hP, hL, _⟩ := R
            rw [show as' j = a from ha1]
            exact ⟨⟨hl, by simp⟩, ⟨vs, hp.extBut hs.extBut hL, hr⟩, hf, hP, hL⟩
        · rw [if_neg (fun c => hlen c.2), getS_len σ j hlen]
          trivial
      · rw [if_neg (fun c => hji c.1)]
        have hy' := hne j y hy hji
        have q := S.ok j y hy
        rw [ha2 j hji]
        cases hg : getS σ j with
        | free => trivial
        | val V =>
          rw [hg] at q
          obtain ⟨u, l, r⟩ := q
          refine ⟨u, ?_, r⟩
          rcases l with ⟨h1, h2⟩ | h1
          · exact .inl ⟨h1, by simp [hy', h2]⟩
          · exact .inr h1
        | own ys =>
          rw [hg] at q
          obtain ⟨⟨l1, l2⟩, ⟨ws, hp', r⟩, hn', hP', hL'⟩ := q
          exact ⟨⟨l1, by simp [hy', l2]⟩, ⟨ws, hp'.extBut hs.extBut hL', r⟩, hn', hP', hL'⟩
    · have new : ∀ l zs, nm[l]?.isSome = true → l ≠ i → getS σ l = .own zs → sl = .own xs ∨ sl = .own ys → addrOf v ≠ as l := fun l zs hl' hli hg hsl e => by
        have : ∃ ws, sl = .own ws := hsl.elim (fun h => ⟨_, h⟩) fun h => ⟨_, h⟩
        obtain ⟨ws, rfl⟩ := this
        obtain ⟨a, vs, rfl, _, _, _, _, _, hno⟩ := R
        exact hno (by have := hO l zs hl' hg; rw [← e] at this; exact this)
      rw [getS_set] at hj hk
      by_cases h1 : j = i
      · have h2 : ¬ k = i := fun h2 => hjk (h1.trans h2.symm)
        rw [if_neg (fun c => h2 c.1)] at hk
        rw [h1, ha1, ha2 k h2]
        by_cases hlen : i < σ.length
        · rw [if_pos ⟨h1, hlen⟩] at hj
          exact new k ys hnk h2 hk (.inl hj)
        · rw [if_neg (fun c => hlen c.2), h1, getS_len σ i hlen] at hj
          cases hj
      · rw [if_neg (fun c => h1 c.1)] at hj
        by_cases h2 : k = i
        · rw [ha2 j h1, h2, ha1]
          by_cases hlen : i < σ.length
          · rw [if_pos ⟨h2, hlen⟩] at hk
            exact (new j xs hnj h1 hj (.inr hk)).symm
          · rw [if_neg (fun c => hlen c.2), h2, getS_len σ i hlen] at hk
            cases hk
        · rw [if_neg (fun c => h2 c.1)] at hk
          rw [ha2 j h1, ha2 k h2]
          exact S.apart j k xs ys hnj hnk hj hk hjk
  refine ⟨⟨F.gw, fun b o e => ?_, F.base, fun b hb => ?_, F.pL, F.fL, fun a o e => ?_, _, _, key⟩, _, _, key, fun j xs hnj hj => ?_⟩
  · rw [same b (pne b (F.base b o e))]; exact F.keep b o e
  · rw [same b (pne b hb)]; exact F.live b hb
  · rw [same a (fun q => by rw [q, F.fL] at e; cases e)]; exact F.inn a o e
  · rw [getS_set] at hj
    by_cases h1 : j = i
    · by_cases hlen : i < σ.length
      · rw [if_pos ⟨h1, hlen⟩] at hj
        subst hj
        obtain ⟨a, vs, rfl, _⟩ := R
        refine .inr ?_
        rw [h1, ha1]; rfl
      · rw [if_neg (fun c => hlen c.2), h1, getS_len σ i hlen] at hj
        cases hj
    · rw [if_neg (fun c => h1 c.1)] at hj
      refine .inl ?_
      rw [ha2 j h1]
      exact hO j xs hnj hj

theorem FmO.aftSame {h h' : Heap} (F : Fm C h₀ P ev sc nm φ σ h) (hs : Heap.SameBut ev.L h h') : Aft P h φ h' φ :=
  ⟨fun b hb => hs.2 b fun e => F.pL (e ▸ hb), fun _ _ => rfl, fun _ _ e => e, fun a o e => (hs.2 a fun q => by rw [q, F.fL] at e; cases e).trans (F.inn a o e)⟩

/-- a store into a name -/
theorem store_slot {O : Addr → Prop} {i : Nat} {x : Str} {v : Value} {sl : Slot} {Q : Unit → Shared → Prop} (F : FmO C h₀ P ev sc nm φ σ s.heap O) (hi : nm[i]? = some x) (hl : sc.names.lookup x = some .local) (hnd : nm.Nodup)
    (hk : sc.kind = .function) (R : Pend φ P ev s.heap O v sl)
    (h : ∀ h', Heap.SameBut ev.L s.heap h' → FmO C h₀ P ev sc nm φ (σ.set i sl) h' (fun b => O b ∨ v = .ref b) → Aft P s.heap φ h' φ → Q () { s with heap := h', toks := s.toks + 1 }) :
    wpAny C.M A (storeName (ev.env sc) x v) Q E s := by
  obtain ⟨F, m, as, S, hO⟩ := F
  refine wpAny_storeName_local hl S.ns (fun h' hn hs => h h' hs (FmO.store F S hO hi hl hnd R hn hs) (FmO.aftSame F hs)) ?_
  show (sc.kind == .class || (sc.kind == .module && _)) = false
  rw [hk]; rfl

theorem s1_set {e : Expr} {x : Str} {p pos : Pos} {i : Nat} {d : D} (H : SE C n sc nm e d) (hi : nm[i]? = some x := by rfl) (hl : sc.names.lookup x = some .local := by rfl) (hnd : nm.Nodup := by decide +kernel)
    (hk : sc.kind = .function := by rfl) (hs : ∀ ev : EV, swapsWith e (some (.Name x p)) pos.line (ev.env sc) = pure false := by intro _; rfl) : S1 C n sc nm (.Assign [.Name x p] e pos) (sSet i d) := by
  intro ev A h₀ P φ σ s r ha F q
  unfold sSet at q
  split at q
  · rename_i y hy
    rw [setK_eq] at q
    cases q
    refine wpAny_Assign_Name (one H ha F hy fun v s' φ' X S F' R => ?_) (hs _)
    refine store_slot (sl := .val y) F'.toO hi hl hnd hk R fun h' hsb F'' a => ?_
    exact ⟨φ', (F.aft X).trans a, S.mk' _ _, rfl, F''.1⟩
  · cases q
theorem s1_own {e : Expr} {x : Str} {p pos : Pos} {i : Nat} {d : DL} (H : SL C n sc nm e d) (hi : nm[i]? = some x := by rfl) (hl : sc.names.lookup x = some .local := by rfl) (hnd : nm.Nodup := by decide +kernel)
    (hk : sc.kind = .function := by rfl) (hs : ∀ ev : EV, swapsWith e (some (.Name x p)) pos.line (ev.env sc) = pure false := by intro _; rfl) : S1 C n sc nm (.Assign [.Name x p] e pos) (sOwn i d) := by
  intro ev A h₀ P φ σ s r ha F q
  unfold sOwn at q
  split at q
  · rename_i y hy
    rw [setK_eq] at q
    cases q
    refine wpAny_Assign_Name (rule_post (H ev A h₀ P φ σ s y ha F hy) fun v s' p => ?_) (hs _)
    obtain ⟨φ', a, vs, X, S, rfl, hn, hf, hp, R⟩ := p
    have hL : ∃ o, s.heap.get? ev.L = some o := by
      obtain ⟨m, as, Sl⟩ := F.sl
      obtain ⟨o, _, _, ho, _⟩ := Sl.ns
      exact ⟨o, ho⟩
    refine store_slot (sl := .own y) (F.toO.ext X) hi hl hnd hk ⟨a, vs, rfl, hp, R, hf, fun hP => ?_, fun e => ?_, fun hO => ?_⟩ fun h' hsb F'' aft => ?_
    · obtain ⟨o, ho⟩ := F.live a hP
      rw [hn] at ho; cases ho
    · obtain ⟨o, ho⟩ := hL
      rw [← e, hn] at ho; cases ho
    · obtain ⟨o, ho⟩ := hO
      rw [hn] at ho; cases ho
    · exact ⟨φ', (F.aft X).trans aft, S.mk' _ _, rfl, F''.1⟩
  · cases q
end
end Mine
end

section
open PySem PySem.W PySem.Calls PyProof.Rows PySem.Spec PyProof.V
namespace Mine

section
variable {C : Cx} {n : Nat} {sc : Scope} {nm : List Str} {ev : EV} {A : Around} {h₀ : Heap} {P : Addr → Prop} {φ : PMap} {σ : St} {s : Shared} {E : Value → Shared → Prop}

theorem own_open {i : Nat} {x : Str} {xs : List V} (F : Fm C h₀ P ev sc nm φ σ s.heap) (hi : nm[i]? = some x) (hq : getS σ i = .own xs) (hk : sc.kind = .function) (hd : (x == ("__debug__" : Str)) = false) :
    ∃ a, ∃ vs : List Value, (∀ pos (E : Value → Shared → Prop) (Q : Value → Shared → Prop), Q (.ref a) s → wpAny C.M A (eval (.Name x pos) (ev.env sc)) Q E s) ∧ s.heap.PlainList a vs.toArray ∧ Rds φ vs xs ∧
      ∀ h₁ φ₁, Ext s.heap φ h₁ φ₁ → ∀ h' xs' (ws : List Value), Heap.SameBut a h₁ h' → h'.PlainList a ws.toArray → Rds φ₁ ws xs' →
        Fm C h₀ P ev sc nm φ₁ (σ.set i (.own xs')) h' ∧ Aft P s.heap φ h' φ₁ := by
  obtain ⟨m, as, S⟩ := F.sl
  have ok := S.ok i x hi
  rw [hq] at ok
  obtain ⟨⟨hl, hm⟩, ⟨vs, hp, R⟩, hn, hP, hL⟩ := ok
  refine ⟨as i, vs, fun pos E Q h => wpAny_Name (wpAny_loadName_local hk hl S.ns hm h) hd, hp, R, fun h₁ φ₁ X h' xs' ws hs hp' R' => ?_⟩
  obtain ⟨k, hpk⟩ := id hp
  have hs1 := X.sub F.inn
  have hn1 : φ₁ (as i) = none := (X.below _ _ hpk).trans hn
  have same : ∀ b, b ≠ as i → h'.get? b = h₁.get? b := fun b hb => hs.2 b hb
  have hinn : ∀ b o, φ₁ b = some o → h'.get? b = some o := fun b o e => (same b (fun q => by rw [q, hn1] at e; cases e)).trans (X.inn b o e)
  have hPk : ∀ b, P b → h'.get? b = s.heap.get? b := fun b hb => by
    obtain ⟨o, ho⟩ := F.live b hb
    rw [same b (fun q => hP (q ▸ hb)), X.keep b o ho, ho]
  have hLk : h₁.get? ev.L = h'.get? ev.L := (same ev.L (Ne.symm hL)).symm
  obtain ⟨oL, eL, pL, hoL, rL⟩ := id S.ns
  have hisS : nm[i]?.isSome = true := by rw [hi]; rfl
  refine ⟨⟨F.gw, fun b o e => ?_, F.base, fun b hb => ?_, F.pL, ?_, hinn, m, as, ⟨oL, eL, pL, ?_, rL⟩, fun j y hy => ?_, fun j l zs ys hnj hnl hj hl' hjl => ?_⟩, hPk, fun b hb => ?_, hs1, hinn⟩
  · rw [hPk b (F.base b o e)]; exact F.keep b o e
  · obtain ⟨o, ho⟩ := F.live b hb
    exact ⟨o, (hPk b hb).trans ho⟩
  · rw [X.below _ _ hoL, F.fL]
  · rw [← hLk]; exact X.keep _ _ hoL
  · rw [getS_set]
    by_cases hji : j = i
    · subst hji
      by_cases hlen : j < σ.length
      · rw [if_pos ⟨rfl, hlen⟩]
        rw [hi] at hy
        cases hy
        exact ⟨⟨hl, hm⟩, ⟨ws, hp', R'⟩, hn1, hP, hL⟩
      · rw [if_neg (fun c => hlen c.2), getS_len σ j hlen]
        trivial
    · rw [if_neg (fun c => hji c.1)]
      have q := S.ok j y hy
      cases hg : getS σ j with
      | free => trivial
      | val V =>
        rw [hg] at q
        obtain ⟨u, l, r⟩ := q
        exact ⟨u, l.ext hs1, r.mono hs1⟩
      | own ys =>
        rw [hg] at q
        obtain ⟨l, ⟨us, hp'', r⟩, hn', hP', hL'⟩ := q
        obtain ⟨k', hk'⟩ := id hp''
        have hne : as j ≠ as i := S.apart j i ys xs (by rw [hy]; rfl) hisS hg hq hji
        exact ⟨l, ⟨us, (hp''.at fun o e => X.keep _ o e).extBut hs.extBut hne, r.mono hs1⟩, (X.below _ _ hk').trans hn', hP', hL'⟩
  · rw [getS_set] at hj hl'
    have ownOf : ∀ l zs, (if l = i ∧ i < σ.length then Slot.own xs' else getS σ l) = .own zs → ∃ ys, getS σ l = .own ys := fun l zs h => by
      by_cases c : l = i ∧ i < σ.length
      · exact ⟨xs, c.1 ▸ hq⟩
      · rw [if_neg c] at h; exact ⟨zs, h⟩
    obtain ⟨_, q1⟩ := ownOf j zs hj
    obtain ⟨_, q2⟩ := ownOf l ys hl'
    exact S.apart j l _ _ hnj hnl q1 q2 hjl
  · obtain ⟨o, ho⟩ := F.live b hb
    exact X.below _ _ ho

/-- x.append(e) -/
theorem s1_push {x : Str} {i : Nat} {e : Expr} {p1 p2 pos pos' : Pos} {d : D} (H : SE C n sc nm e d) (hi : nm[i]? = some x := by rfl) (hk : sc.kind = .function := by rfl) (hd : (x == ("__debug__" : Str)) = false := by decide +kernel)
    (hs : ∀ env, starEach [e] env = [(false, eval e env)] := by intro _; rfl) (hline : (p2.endLine == pos.line) = true := by rfl) (hint : ∀ ev : EV, interactive (ev.env sc) = false := by intro _; rfl) :
    S1 C n sc nm (.Expr (.Call (.Attribute (.Name x p1) "append" p2) [e] [] pos) pos') (sPush i d) := by
  intro ev A h₀ P φ σ s r ha F q
  unfold sPush at q
  split at q
  · rename_i y hy
    split at q
    · rename_i xs hq
      split at q
      · rename_i hb
        have hb' := blt_iff hb
        rw [pushK_eq, setK_eq] at q
        cases q
        obtain ⟨a, vs, hname, hp, R, mt⟩ := own_open (A := A) F hi hq hk hd
        refine wpAny_Expr ?_ (hint _) rfl
        refine Call_method1 rfl (hs _) hline (hname _ _ _ ?_)
        obtain ⟨kk, hpk⟩ := id hp
        refine ⟨"list", "list.append", PySem.F.plainAttrs_list, slot_list_append, type_list_append, hp.isList.typeIs, fun b e => by cases e; exact ⟨_, hpk, rfl⟩, ?_⟩
        refine Calls.callWith_builtin rfl (Calls.evalArgs_plain (spliced_cons (one H ha F hy fun v s' φ' X S F' R' => spliced_nil ?_)))
        refine wpAny_list_append_plain (hp.at fun o e => X.keep _ o e) (fun h' hp' hsb => ?_) (by rw [List.size_toArray, R.len, sizeLine_eq]; omega)
        have e1 : vs.toArray.push v = (vs ++ [v]).toArray := by simp
        rw [e1] at hp'
        obtain ⟨F'', aft⟩ := mt s'.heap φ' X h' (xs ++ [y]) (vs ++ [v]) hsb hp' ((R.mono (X.sub F.inn)).append (.cons R' .nil))
        exact ⟨φ', aft, S.mk' _ _, rfl, F''⟩
      · cases q
    · cases q
  · cases q
/-- x.extend(e) -/
theorem s1_ext {x : Str} {i : Nat} {e : Expr} {p1 p2 pos pos' : Pos} {d : D} (H : SE C n sc nm e d) (hi : nm[i]? = some x := by rfl) (hk : sc.kind = .function := by rfl) (hd : (x == ("__debug__" : Str)) = false := by decide +kernel)
    (hs : ∀ env, starEach [e] env = [(false, eval e env)] := by intro _; rfl) (hline : (p2.endLine == pos.line) = true := by rfl) (hint : ∀ ev : EV, interactive (ev.env sc) = false := by intro _; rfl) :
    S1 C n sc nm (.Expr (.Call (.Attribute (.Name x p1) "extend" p2) [e] [] pos) pos') (sExt i d) := by
  intro ev A h₀ P φ σ s r ha F q
  unfold sExt at q
  split at q
  · rename_i ys hy
    split at q
    · rename_i xs hq
      split at q
      · rename_i hb
        have hb' := blt_iff hb
        rw [fL_eq, setK_eq] at q
        cases q
        obtain ⟨a, vs, hname, hp, R, mt⟩ := own_open (A := A) F hi hq hk hd
        refine wpAny_Expr ?_ (hint _) rfl
        refine Call_method1 rfl (hs _) hline (hname _ _ _ ?_)
        obtain ⟨kk, hpk⟩ := id hp
        refine ⟨"list", "list.extend", PySem.F.plainAttrs_list, PySem.F.slot_list_extend, PySem.F.type_list_extend, hp.isList.typeIs, fun b e => by cases e; exact ⟨_, hpk, rfl⟩, ?_⟩
        refine PySem.P.extend_list (one H ha F hy fun v s' φ' X S F' R' => ?_)
        cases R' with
        | @list b ws k' _ ho R' =>
          have hl1 := R.len
          have hl2 := R'.len
          refine ⟨b, vs.toArray, ws.toArray, kk, k', ?_, ?_, ?_, rfl, X.keep _ _ hpk, X.inn _ _ ho, ?_⟩
          · rw [List.size_toArray, sizeLine_eq]; omega
          · rw [List.size_toArray, List.size_toArray, sizeLine_eq]; omega
          · simp [Builtin.List.listTooLong, sizeLine]; intro _; omega
          · have hsb : Heap.SameBut a s'.heap (s'.heap.update a (Obj.mapSeq fun xs => xs ++ ws.toArray)) := Heap.SameBut.update ..
            have hp' : (s'.heap.update a (Obj.mapSeq fun xs => xs ++ ws.toArray)).PlainList a (vs ++ ws).toArray := by
              have u := IsL.update (X.keep _ _ hpk) (fun xs => xs ++ ws.toArray)
              have e1 : vs.toArray ++ ws.toArray = (vs ++ ws).toArray := by simp
              rw [e1] at u
              exact ⟨_, u⟩
            obtain ⟨F'', aft⟩ := mt s'.heap φ' X _ (xs ++ ys) (vs ++ ws) hsb hp' ((R.mono (X.sub F.inn)).append R')
            exact ⟨φ', aft, S.mk' _ _, rfl, F''⟩
      · cases q
    · cases q
  · cases q
/-- x[b] = e -/
theorem s1_put {x : Str} {i : Nat} {b e : Expr} {p1 p2 pos : Pos} {db d : D} (Hb : SE C n sc nm b db) (H : SE C n sc nm e d) (hi : nm[i]? = some x := by rfl) (hk : sc.kind = .function := by rfl) (hd : (x == ("__debug__" : Str)) = false := by decide +kernel)
    (hs : ∀ ev : EV, swapsWith e (some (.Subscript (.Name x p1) b p2)) pos.line (ev.env sc) = pure false := by intro _; rfl) :
    S1 C n sc nm (.Assign [.Subscript (.Name x p1) b p2] e pos) (sPut i db d) := by
  intro ev A h₀ P φ σ s r ha F q
  unfold sPut at q
  split at q
  · rename_i y hy
    split at q
    · rename_i k hkq
      split at q
      · rename_i xs hq
        split at q
        · rename_i hb
          rw [Bool.and_eq_true] at hb
          have hb1 := blt_iff hb.1
          have hb2 := blt_iff hb.2
          rw [setL_eq, setK_eq] at q
          cases q
          refine wpAny_Assign_Subscript (one H ha F hy fun v s₁ φ₁ X₁ S₁ F₁ R₁ => ?_) (hs _)
          obtain ⟨a, vs, hname, hp, R, mt⟩ := own_open (A := A) F₁ hi hq hk hd
          refine hname _ _ _ (one Hb ha F₁ hkq fun u s₂ φ₂ X₂ S₂ F₂ R₂ => ?_)
          cases R₂
          have hl := R.len
          obtain ⟨kk, hpk⟩ := id hp
          have hp₂ := X₂.keep _ _ hpk
          refine ki_setAt (l := a) (items := vs.toArray) hp₂ (by simp) (by simp; omega) (by rw [List.size_toArray]; simp; omega) ?_
          have e1 : vs.toArray.setIfInBounds ((k : Nat) : Int).toNat v = (vs.set k v).toArray := by simp
          have u := IsL.update hp₂ (fun z => z.setIfInBounds ((k : Nat) : Int).toNat v)
          rw [e1] at u
          obtain ⟨F'', aft⟩ := mt s₂.heap φ₂ X₂ _ (xs.set k y) (vs.set k v) (Heap.SameBut.update ..) ⟨_, u⟩ ((R.mono (X₂.sub F₁.inn)).set k (R₁.mono (X₂.sub F₁.inn)))
          exact ⟨φ₂, (F.aft X₁).trans aft, (S₁.trans S₂).mk' _ _, rfl, F''⟩
        · cases q
      · cases q
    · cases q
  · cases q

theorem popK_eq : ∀ (xs : List V) (k : List V → V → Option Res), (popK xs k = none) ∨ ∃ ys y, xs = ys ++ [y] ∧ popK xs k = k ys y
  | [], k => .inl rfl
  | [x], k => .inr ⟨[], x, rfl, rfl⟩
  | x :: z :: r, k => by
    rcases popK_eq (z :: r) (fun r' y => k (x :: r') y) with h | ⟨ys, y, h1, h2⟩
    · exact .inl h
    · exact .inr ⟨x :: ys, y, by rw [h1]; rfl, h2⟩
theorem Rds.snoc {φ : PMap} : ∀ {vs : List Value} {ys : List V} {y : V}, Rds φ vs (ys ++ [y]) → ∃ ws w, vs = ws ++ [w] ∧ Rds φ ws ys ∧ Rd φ w y
  | _, [], y, h => by
    cases h with
    | cons h r => cases r; exact ⟨[], _, rfl, .nil, h⟩
  | _, x :: ys, y, h => by
    cases h with
    | cons h r =>
      obtain ⟨ws, w, rfl, h1, h2⟩ := Rds.snoc r
      exact ⟨_ :: ws, w, rfl, .cons h h1, h2⟩
/-- y = x.pop() -/
theorem s1_pop {x y : Str} {i j : Nat} {p0 p1 p2 pos pos' : Pos} (hi : nm[i]? = some x := by rfl) (hj : nm[j]? = some y := by rfl) (hl : sc.names.lookup y = some .local := by rfl) (hnd : nm.Nodup := by decide +kernel)
    (hk : sc.kind = .function := by rfl) (hd : (x == ("__debug__" : Str)) = false := by decide +kernel) (hline : (p2.endLine == pos.line) = true := by rfl)
    (hs : ∀ ev : EV, swapsWith (.Call (.Attribute (.Name x p1) "pop" p2) [] [] pos) (some (.Name y p0)) pos'.line (ev.env sc) = pure false := by intro _; rfl) :
    S1 C n sc nm (.Assign [.Name y p0] (.Call (.Attribute (.Name x p1) "pop" p2) [] [] pos) pos') (sPop j i) := by
  intro ev A h₀ P φ σ s r ha F q
  unfold sPop at q
  split at q
  · rename_i xs hq
    split at q
    · rename_i hb
      have hb' := blt_iff hb
      rcases popK_eq xs (fun ys x => setK σ i (.own ys) fun σ' => setK σ' j (.val x) fun σ'' => some (.nxt σ'')) with h | ⟨ys, z, hxs, h⟩
      · rw [h] at q; cases q
      · rw [h, setK_eq, setK_eq] at q
        cases q
        subst hxs
        obtain ⟨a, vs, hname, hp, R, mt⟩ := own_open (A := A) F hi hq hk hd
        obtain ⟨ws, wv, rfl, R1, R2⟩ := R.snoc
        obtain ⟨kk, hpk⟩ := id hp
        refine wpAny_Assign_Name ?_ (hs _)
        refine Call_method0 rfl hline (hname _ _ _ ?_)
        refine ⟨"list", "list.pop", PySem.F.plainAttrs_list, PySem.F.slot_list_pop, PySem.F.type_list_pop, hp.isList.typeIs, fun b e => by cases e; exact ⟨_, hpk, rfl⟩, ?_⟩
        refine PySem.P.pop_list hpk (y := wv) (by simp) ?_ (by have := R1.len; rw [List.size_toArray, sizeLine_eq]; simp at hb' ⊢; omega)
        have u := IsL.update hpk (fun xs => xs.eraseIdxIfInBounds ((ws ++ [wv]).toArray.size - 1))
        have e1 : (ws ++ [wv]).toArray.eraseIdxIfInBounds ((ws ++ [wv]).toArray.size - 1) = ws.toArray := by
          unfold Array.eraseIdxIfInBounds
          rw [dif_pos (by simp)]
          apply Array.ext'
          rw [Array.toList_eraseIdx]
          simp [List.eraseIdx_append_of_length_le]
        rw [e1] at u
        obtain ⟨F'', aft⟩ := mt s.heap φ (.refl F.inn) _ ys ws (Heap.SameBut.update ..) ⟨_, u⟩ R1
        refine store_slot (sl := .val z) F''.toO hj hl hnd hk R2 fun h' hsb F3 aft' => ?_
        exact ⟨φ, aft.trans aft', ⟨_, _, rfl⟩, rfl, F3.1⟩
    · cases q
  · cases q

/-- tuple displays whose items go into slots -/
inductive PL (h₁ : Heap) (φ : PMap) (h : Heap) : List Value → List Slot → List Addr → Prop
  | nil : PL h₁ φ h [] [] []
  | val {v : Value} {x : V} {vs : List Value} {sls : List Slot} {as : List Addr} : Rd φ v x → PL h₁ φ h vs sls as → PL h₁ φ h (v :: vs) (.val x :: sls) as
  | own {a : Addr} {ws : List Value} {xs : List V} {vs : List Value} {sls : List Slot} {as : List Addr} : h.PlainList a ws.toArray → Rds φ ws xs → φ a = none → h₁.get? a = none → a ∉ as →
      PL h₁ φ h vs sls as → PL h₁ φ h (.ref a :: vs) (.own xs :: sls) (a :: as)
theorem PL.fresh {h₁ h : Heap} {φ : PMap} {vs : List Value} {sls : List Slot} {as : List Addr} (p : PL h₁ φ h vs sls as) : ∀ b ∈ as, h₁.get? b = none := by
  induction p with
  | nil => intro b hb; cases hb
  | val _ _ ih => exact ih
  | own _ _ _ hn _ _ ih =>
    intro b hb
    rcases List.mem_cons.mp hb with rfl | hb
    · exact hn
    · exact ih b hb
theorem PL.weaken {h₁ h₁' h : Heap} {φ : PMap} {vs : List Value} {sls : List Slot} {as : List Addr} (p : PL h₁' φ h vs sls as) (hk : ∀ b o, h₁.get? b = some o → h₁'.get? b = some o) : PL h₁ φ h vs sls as := by
  induction p with
  | nil => exact .nil
  | val r _ ih => exact .val r ih
  | own hp r hf hn hm _ ih =>
    refine .own hp r hf ?_ hm ih
    cases q : h₁.get? _ with
    | none => rfl
    | some o => rw [hk _ _ q] at hn; cases hn
theorem PL.loose {h₁ h : Heap} {φ : PMap} {vs : List Value} {sls : List Slot} {as : List Addr} (p : PL h₁ φ h vs sls as) : ∀ b ∈ as, φ b = none := by
  induction p with
  | nil => intro b hb; cases hb
  | val _ _ ih => exact ih
  | own _ _ hf _ _ _ ih =>
    intro b hb
    rcases List.mem_cons.mp hb with rfl | hb
    · exact hf
    · exact ih b hb
theorem PL.snocV {h₁ h : Heap} {φ : PMap} {vs : List Value} {sls : List Slot} {as : List Addr} {v : Value} {x : V} (p : PL h₁ φ h vs sls as) (R : Rd φ v x) : PL h₁ φ h (vs ++ [v]) (sls ++ [.val x]) as := by
  induction p with
  | nil => exact .val R .nil
  | val r _ ih => exact .val r ih
  | own hp r hf hn hm _ ih => exact .own hp r hf hn hm ih
theorem PL.snocO {h₁ h : Heap} {φ : PMap} {vs : List Value} {sls : List Slot} {as : List Addr} {a : Addr} {ws : List Value} {xs : List V} (p : PL h₁ φ h vs sls as) (hp : h.PlainList a ws.toArray) (R : Rds φ ws xs) (hf : φ a = none) (hn : h₁.get? a = none)
    (hm : a ∉ as) : PL h₁ φ h (vs ++ [.ref a]) (sls ++ [.own xs]) (as ++ [a]) := by
  induction p with
  | nil => exact .own hp R hf hn (by simp) .nil
  | val r _ ih => exact .val r (ih hm)
  | own hp' r hf' hn' hm' _ ih =>
    refine .own hp' r hf' hn' (fun q => ?_) (ih fun q => hm (.tail _ q))
    rcases List.mem_append.mp q with q | q
    · exact hm' q
    · exact hm (by rw [← List.mem_singleton.mp q]; exact .head _)
theorem PL.rev {h₁ h : Heap} {φ : PMap} {vs : List Value} {sls : List Slot} {as : List Addr} (p : PL h₁ φ h vs sls as) : PL h₁ φ h vs.reverse sls.reverse as.reverse := by
  induction p with
  | nil => exact .nil
  | val r _ ih => rw [List.reverse_cons, List.reverse_cons]; exact ih.snocV r
  | own hp r hf hn hm _ ih => rw [List.reverse_cons, List.reverse_cons, List.reverse_cons]; exact ih.snocO hp r hf hn (by simpa using hm)
theorem PL.ofRds {h₁ h : Heap} {φ : PMap} : ∀ {vs : List Value} {xs : List V}, Rds φ vs xs → PL h₁ φ h vs (xs.map .val) []
  | _, _, .nil => .nil
  | _, _, .cons r rs => .val r (PL.ofRds rs)
theorem PL.len {h₁ h : Heap} {φ : PMap} {vs : List Value} {sls : List Slot} {as : List Addr} (p : PL h₁ φ h vs sls as) : vs.length = sls.length := by
  induction p with
  | nil => rfl
  | val _ _ ih => simp [ih]
  | own _ _ _ _ _ _ ih => simp [ih]
theorem PL.at {h₁ h h' : Heap} {φ : PMap} {vs : List Value} {sls : List Slot} {as : List Addr} (p : PL h₁ φ h vs sls as) (hk : ∀ b ∈ as, ∀ o, h.get? b = some o → h'.get? b = some o) : PL h₁ φ h' vs sls as := by
  induction p with
  | nil => exact .nil
  | val r _ ih => exact .val r (ih hk)
  | own hp r hf hn hm _ ih => exact .own (hp.at fun o e => hk _ (.head _) o e) r hf hn hm (ih fun b hb => hk b (.tail _ hb))

def SR (C : Cx) (n : Nat) (sc : Scope) (nm : List Str) (es : List Expr) (rs : List RS) : Prop :=
  (∀ σ sls, evS rs σ = some sls → sls.length = es.length) ∧
  ∀ pos ev A h₀ P φ σ s sls, AOK n A → Fm C h₀ P ev sc nm φ σ s.heap → evS rs σ = some sls →
    wpAny C.M A (spliced (backTo pos (starEach es (ev.env sc)))) (fun vs s' => ∃ φ' as, Ext s.heap φ s'.heap φ' ∧ Sh s s' ∧ PL s.heap φ' s'.heap vs sls as) noE s
theorem sr_nil : SR C n sc nm [] [] := by
  refine ⟨fun σ sls q => by cases q; rfl, fun pos ev A h₀ P φ σ s r ha F q => ?_⟩
  cases q
  exact spliced_nil ⟨φ, [], .refl F.inn, .refl _, .nil⟩
theorem evS_cons {r : RS} {rs : List RS} {σ : St} {sls : List Slot} (q : evS (r :: rs) σ = some sls) : ∃ x xs, r σ = some x ∧ evS rs σ = some xs ∧ sls = x :: xs := by
  unfold evS at q
  split at q
  · split at q
    · cases q; exact ⟨_, _, by assumption, by assumption, rfl⟩
    · cases q
  · cases q
theorem sr_val {e : Expr} {es : List Expr} {d : D} {rs : List RS} (H : SE C n sc nm e d) (R : SR C n sc nm es rs)
    (he : ∀ env, starEach (e :: es) env = (false, eval e env) :: starEach es env := by intro _; rfl) : SR C n sc nm (e :: es) (rV d :: rs) := by
  refine ⟨fun σ sls q => ?_, fun pos ev A h₀ P φ σ s sls ha F q => ?_⟩
  · obtain ⟨x, xs, _, h2, rfl⟩ := evS_cons q
    simp [R.1 _ _ h2]
  · obtain ⟨x, xs, h1, h2, rfl⟩ := evS_cons q
    unfold rV at h1
    split at h1
    · rename_i y hy
      cases h1
      rw [he]
      refine spliced_cons (one H ha F hy fun v s' φ' X S F' R₁ => ?_)
      refine wpAny_mono (R.2 pos ev A h₀ P φ' σ s' xs ha F' h2) (fun vs s'' p => ?_) fun _ _ x => x
      obtain ⟨φ'', as, X', S', p⟩ := p
      exact ⟨φ'', as, X.trans X', S.trans S', .val (R₁.mono (X'.sub F'.inn)) (p.weaken X.keep)⟩
    · cases h1
theorem sr_own {e : Expr} {es : List Expr} {d : DL} {rs : List RS} (H : SL C n sc nm e d) (R : SR C n sc nm es rs)
    (he : ∀ env, starEach (e :: es) env = (false, eval e env) :: starEach es env := by intro _; rfl) : SR C n sc nm (e :: es) (rO d :: rs) := by
  refine ⟨fun σ sls q => ?_, fun pos ev A h₀ P φ σ s sls ha F q => ?_⟩
  · obtain ⟨x, xs, _, h2, rfl⟩ := evS_cons q
    simp [R.1 _ _ h2]
  · obtain ⟨x, xs, h1, h2, rfl⟩ := evS_cons q
    unfold rO at h1
    split at h1
    · rename_i y hy
      cases h1
      rw [he]
      refine spliced_cons (rule_post (H ev A h₀ P φ σ s y ha F hy) fun v s' r => ?_)
      obtain ⟨φ', a, ws, X, S, rfl, hn, hf, hp, R₁⟩ := r
      have F' := F.ext X
      refine wpAny_mono (R.2 pos ev A h₀ P φ' σ s' xs ha F' h2) (fun vs s'' p => ?_) fun _ _ x => x
      obtain ⟨φ'', as, X', S', p⟩ := p
      obtain ⟨k, hpk⟩ := id hp
      refine ⟨φ'', a :: as, X.trans X', S.trans S', .own (hp.at fun o e => X'.keep _ o e) (R₁.mono (X'.sub F'.inn)) ((X'.below _ _ hpk).trans hf) hn (fun hm => ?_) (p.weaken X.keep)⟩
      have := p.fresh a hm
      rw [hpk] at this; cases this
    · cases h1

/-- functions that store into names, in order -/
inductive Tg (env : Env) (nm : List Str) (sc : Scope) : List (Value → Sem Unit) → List Nat → Prop
  | nil : Tg env nm sc [] []
  | cons {t : Value → Sem Unit} {i : Nat} {x : Str} {ts : List (Value → Sem Unit)} {is : List Nat} : nm[i]? = some x → sc.names.lookup x = some .local →
      (∀ (M : Model) (A : Around) (E : Value → Shared → Prop) (s : Shared) v (Q : Unit → Shared → Prop), wpAny M A (storeName env x v) Q E s → wpAny M A (t v) Q E s) → Tg env nm sc ts is → Tg env nm sc (t :: ts) (i :: is)
theorem aio {ts : List (Value → Sem Unit)} {is : List Nat} (hnd : nm.Nodup) (hk : sc.kind = .function) {h₁ : Heap} {s₀ : Shared} {φ₀ : PMap} (T : Tg (ev.env sc) nm sc ts is) :
    ∀ {vs : List Value} {sls : List Slot} {as : List Addr} {σ : St} {r : Res} {s : Shared} {O : Addr → Prop}, PL h₁ φ s.heap vs sls as → FmO C h₀ P ev sc nm φ σ s.heap O → Aft P s₀.heap φ₀ s.heap φ → Sh s₀ s →
      (∀ b, P b → ∃ o, h₁.get? b = some o) → (∃ o, h₁.get? ev.L = some o) → (∀ b ∈ as, ¬ O b) → vs.length = is.length → putS is sls σ = some r →
      wpAny C.M A (assignInOrder ts vs) (fun _ s' => PostS C h₀ P ev sc nm φ₀ s₀ r .next s') noE s := by
  induction T with
  | nil =>
    intro vs sls as σ r s O p F a S hP hL hO hlen q
    cases p with
    | nil =>
      cases q
      exact wpAny_pure ⟨φ, a, S, rfl, F.1⟩
    | val _ _ => simp at hlen
    | own _ _ _ _ _ _ => simp at hlen
  | cons hi hl ht T ih =>
    intro vs sls as σ r s O p F a S hP hL hO hlen q
    cases p with
    | nil => simp at hlen
    | val R p =>
      unfold putS at q
      rw [setK_eq] at q
      refine wpAny_bind (wpAny_holding (ht _ _ _ _ _ _ (store_slot (sl := .val _) F hi hl hnd hk R fun h' hsb F' aft => ?_)))
      refine ih (p.at fun b hb o e => ?_) F' (a.trans aft) (S.mk' _ _) hP hL (fun b hb h => ?_) (by simpa using hlen) q
      · have hne : b ≠ ev.L := fun e' => by obtain ⟨o', ho⟩ := hL; rw [← e', p.fresh b hb] at ho; cases ho
        exact (hsb.2 b hne).trans e
      · rcases h with h | h
        · exact hO b hb h
        · subst h
          have := p.loose b hb
          cases R with
          | list e _ => rw [this] at e; cases e
          | tuple e _ => rw [this] at e; cases e
    | own hp R hf hn hm p =>
      unfold putS at q
      rw [setK_eq] at q
      have hneL : ∀ b, h₁.get? b = none → b ≠ ev.L := fun b hb e' => by obtain ⟨o', ho⟩ := hL; rw [← e', hb] at ho; cases ho
      refine wpAny_bind (wpAny_holding (ht _ _ _ _ _ _ (store_slot (sl := .own _) F hi hl hnd hk ⟨_, _, rfl, hp, R, hf, fun hb => ?_, hneL _ hn, hO _ (.head _)⟩ fun h' hsb F' aft => ?_)))
      · obtain ⟨o, ho⟩ := hP _ hb
        rw [hn] at ho; cases ho
      · refine ih (p.at fun b hb o e => (hsb.2 b (hneL b (p.fresh b hb))).trans e) F' (a.trans aft) (S.mk' _ _) hP hL (fun b hb h => ?_) (by simpa using hlen) q
        rcases h with h | h
        · exact hO b (.tail _ hb) h
        · cases h; exact hm hb

theorem Fm.liveL {h : Heap} (F : Fm C h₀ P ev sc nm φ σ h) : ∃ o, h.get? ev.L = some o := by
  obtain ⟨m, as, S⟩ := F.sl
  obtain ⟨o, _, _, ho, _⟩ := S.ns
  exact ⟨o, ho⟩
theorem tg_bind {env : Env} {i : Nat} {x : Str} {ts : List (Value → Sem Unit)} {is : List Nat} (hi : nm[i]? = some x) (hl : sc.names.lookup x = some .local) (T : Tg env nm sc ts is) : Tg env nm sc ((fun v => bindName env x v) :: ts) (i :: is) :=
  .cons hi hl (fun M A E s v Q h => wpAny_bindName h) T
theorem tg_name {env : Env} {i : Nat} {x : Str} {p : Pos} {ts : List (Value → Sem Unit)} {is : List Nat} (hi : nm[i]? = some x) (hl : sc.names.lookup x = some .local) (T : Tg env nm sc ts is) : Tg env nm sc (assign (.Name x p) env :: ts) (i :: is) :=
  .cons hi hl (fun M A E s v Q h => wpAny_assign_Name h) T

theorem s1_tup {names : List Str} {elts es : List Expr} {is : List Nat} {rs : List RS} {k k' : Nat} {tpos vpos pos : Pos} (HR : SR C n sc nm es rs)
    (hT : ∀ ev : EV, Tg (ev.env sc) nm sc (names.reverse.map fun n => bindName (ev.env sc) n) is.reverse) (hlen : es.length = is.length) (hn : names.length = es.length) (hle : es.length ≤ 100) (hnd : nm.Nodup) (hk : sc.kind = .function)
    (hs : ∀ ev : EV, swapsWithSole [.Tuple elts k tpos] (.Tuple es k' vpos) pos.line (ev.env sc) = pure false)
    (hw : ∀ ev : EV, swappedStores [.Tuple elts k tpos] (.Tuple es k' vpos) (ev.env sc) = pure (some names)) :
    S1 C n sc nm (.Assign [.Tuple elts k tpos] (.Tuple es k' vpos) pos) (sTup is rs) := by
  intro ev A h₀ P φ σ s r ha F q
  unfold sTup at q
  split at q
  · rename_i sls hq
    refine Assign_Tuple_swapped ?_ (hs _) (hw _)
    refine Tuple_ (rule_post (HR.2 _ ev A h₀ P φ σ s sls ha F hq) fun vs s' p => ?_)
    obtain ⟨φ', as, X, S, p⟩ := p
    have hl1 := p.len
    have hl2 := HR.1 _ _ hq
    have hz : vs.toArray.size ≤ sizeLine := by rw [List.size_toArray, sizeLine_eq]; omega
    refine wpAny_newObj_type ?_ hz
    have Y : Ext s.heap φ (s'.heap.push { cls := .type "tuple", data := .seq vs.toArray }) φ' := X.trans (.of_keep X.inn (keep_push _ _))
    have hnv : names.length = vs.toArray.size := by rw [List.size_toArray]; omega
    rw [hnv]
    refine unpackItems_tuple (s := { s' with heap := s'.heap.push { cls := .type "tuple", data := .seq vs.toArray } }) ha.1 ⟨_, Heap.get?_push_size _ rfl, rfl, _, rfl⟩ fun h' he => ?_
    have keep : ∀ b o, (s'.heap.push { cls := .type "tuple", data := .seq vs.toArray }).get? b = some o → h'.get? b = some o := fun b o e => he b o (fun q => by
      rw [q] at e
      have := get_size (s'.heap.push { cls := .type "tuple", data := .seq vs.toArray })
      rw [this] at e; cases e) e
    have Z : Ext s.heap φ h' φ' := Y.trans (.of_keep Y.inn keep)
    have p2 : PL s.heap φ' h' vs sls as := p.at fun b _ o e => keep b o (keep_push _ _ b o e)
    have e1 : vs.toArray.toList = vs := by simp
    rw [e1]
    exact aio (s := { s' with heap := h' }) hnd hk (hT ev) p2.rev (F.toO.ext Z) (F.aft Z) (S.mk' h' s'.toks) F.live F.liveL (fun b hb h => by
      obtain ⟨o, ho⟩ := h
      rw [p.fresh b (List.mem_reverse.mp hb)] at ho; cases ho) (by rw [List.length_reverse, List.length_reverse]; omega) q
  · cases q
theorem s1_tup2 {x y : Str} {i j : Nat} {e₁ e₂ : Expr} {r₁ r₂ : RS} {k k' : Nat} {p p' tpos vpos pos : Pos} (HR : SR C n sc nm [e₁, e₂] [r₁, r₂]) (hi : nm[i]? = some x := by rfl) (hj : nm[j]? = some y := by rfl)
    (hl : sc.names.lookup x = some .local := by rfl) (hl' : sc.names.lookup y = some .local := by rfl) (hnd : nm.Nodup := by decide +kernel) (hk : sc.kind = .function := by rfl)
    (hs : ∀ ev : EV, swapsWithSole [.Tuple [.Name x p, .Name y p'] k tpos] (.Tuple [e₁, e₂] k' vpos) pos.line (ev.env sc) = pure false := by intro _; rfl)
    (hw : ∀ ev : EV, swappedStores [.Tuple [.Name x p, .Name y p'] k tpos] (.Tuple [e₁, e₂] k' vpos) (ev.env sc) = pure (some [x, y]) := by intro _; rfl) :
    S1 C n sc nm (.Assign [.Tuple [.Name x p, .Name y p'] k tpos] (.Tuple [e₁, e₂] k' vpos) pos) (sTup [i, j] [r₁, r₂]) :=
  s1_tup HR (fun ev => tg_bind hj hl' (tg_bind hi hl .nil)) rfl rfl (by simp) hnd hk hs hw
theorem s1_tup3 {x y z : Str} {i j l : Nat} {e₁ e₂ e₃ : Expr} {r₁ r₂ r₃ : RS} {k k' : Nat} {p p' p'' tpos vpos pos : Pos} (HR : SR C n sc nm [e₁, e₂, e₃] [r₁, r₂, r₃]) (hi : nm[i]? = some x := by rfl) (hj : nm[j]? = some y := by rfl) (hll : nm[l]? = some z := by rfl)
    (hl : sc.names.lookup x = some .local := by rfl) (hl' : sc.names.lookup y = some .local := by rfl) (hl'' : sc.names.lookup z = some .local := by rfl) (hnd : nm.Nodup := by decide +kernel) (hk : sc.kind = .function := by rfl)
    (hs : ∀ ev : EV, swapsWithSole [.Tuple [.Name x p, .Name y p', .Name z p''] k tpos] (.Tuple [e₁, e₂, e₃] k' vpos) pos.line (ev.env sc) = pure false := by intro _; rfl)
    (hw : ∀ ev : EV, swappedStores [.Tuple [.Name x p, .Name y p', .Name z p''] k tpos] (.Tuple [e₁, e₂, e₃] k' vpos) (ev.env sc) = pure (some [x, y, z]) := by intro _; rfl) :
    S1 C n sc nm (.Assign [.Tuple [.Name x p, .Name y p', .Name z p''] k tpos] (.Tuple [e₁, e₂, e₃] k' vpos) pos) (sTup [i, j, l] [r₁, r₂, r₃]) :=
  s1_tup HR (fun ev => tg_bind hll hl'' (tg_bind hj hl' (tg_bind hi hl .nil))) rfl rfl (by simp) hnd hk hs hw

theorem putV_eq : ∀ (is : List Nat) (xs : List V) (σ : St) (r : Res), putV is xs σ = some r → putS is (xs.map .val) σ = some r ∧ xs.length = is.length
  | [], [], σ, r, h => ⟨h, rfl⟩
  | [], _ :: _, σ, r, h => by cases h
  | _ :: _, [], σ, r, h => by cases h
  | i :: is, x :: xs, σ, r, h => by
    unfold putV at h
    rw [setK_eq] at h
    obtain ⟨h1, h2⟩ := putV_eq is xs _ r h
    refine ⟨?_, by simp [h2]⟩
    rw [List.map_cons, putS, setK_eq]
    exact h1
/-- a tuple's items go into names -/
theorem unp_rule {is : List Nat} {xs : List V} {v : Value} {r : Res} {elts : List Expr} {k : Nat} {tpos : Pos} {s₀ : Shared} {φ₀ : PMap} (ha : AOK n A) (F : Fm C h₀ P ev sc nm φ σ s.heap) (a : Aft P s₀.heap φ₀ s.heap φ) (S : Sh s₀ s)
    (R : Rd φ v (.tuple xs)) (q : putV is xs σ = some r) (hT : Tg (ev.env sc) nm sc ((assignEach elts (ev.env sc)).map (·.2)) is) (hl : (assignEach elts (ev.env sc)).length = is.length)
    (hst : (assignEach elts (ev.env sc)).findIdx? (·.1) = none) (hnd : nm.Nodup) (hk : sc.kind = .function) :
    wpAny C.M A (assign (.Tuple elts k tpos) (ev.env sc) v) (fun _ s' => PostS C h₀ P ev sc nm φ₀ s₀ r .next s') noE s := by
  show wpAny C.M A (do standAt tpos; unpack v (assignEach elts (ev.env sc))) _ _ s
  refine wpAny_bind (wpAny_standAt ?_)
  unfold unpack
  obtain ⟨q1, q2⟩ := putV_eq is xs σ r q
  rw [hst, hl]
  cases R with
  | @tuple t vs kk _ ho R =>
    have hlen := R.len
    have e0 : is.length = vs.toArray.size := by rw [List.size_toArray]; omega
    refine wpAny_bind (wpAny_holding ?_)
    rw [e0]
    refine unpackItems_tuple ha.1 ⟨_, F.inn _ _ ho, rfl, _, rfl⟩ fun h' he => ?_
    have keep : ∀ b o, s.heap.get? b = some o → h'.get? b = some o := fun b o e => he b o (fun q => by
      rw [q, get_size] at e; cases e) e
    have Z : Ext s.heap φ h' φ := .of_keep F.inn keep
    have e1 : vs.toArray.toList = vs := by simp
    rw [e1]
    exact aio (h₁ := s.heap) (s := { s with heap := h' }) hnd hk hT (.ofRds R) (F.toO.ext Z) (a.trans (F.aft Z)) (S.mk' h' s.toks) F.live F.liveL (fun b hb => by cases hb) (by omega) q1
theorem s1_unp {is : List Nat} {elts : List Expr} {e : Expr} {d : D} {k : Nat} {tpos pos : Pos} (H : SE C n sc nm e d) (hT : ∀ ev : EV, Tg (ev.env sc) nm sc ((assignEach elts (ev.env sc)).map (·.2)) is)
    (hl : ∀ ev : EV, (assignEach elts (ev.env sc)).length = is.length := by intro _; rfl) (hst : ∀ ev : EV, (assignEach elts (ev.env sc)).findIdx? (·.1) = none := by intro _; rfl) (hnd : nm.Nodup := by decide +kernel) (hk : sc.kind = .function := by rfl)
    (hs : ∀ ev : EV, swapsWithSole [.Tuple elts k tpos] e pos.line (ev.env sc) = pure false := by intro _; rfl)
    (hw : ∀ ev : EV, swappedStores [.Tuple elts k tpos] e (ev.env sc) = pure none := by intro _; rfl) :
    S1 C n sc nm (.Assign [.Tuple elts k tpos] e pos) (sUnp is d) := by
  intro ev A h₀ P φ σ s r ha F q
  unfold sUnp at q
  split at q
  · rename_i xs hq
    refine Assign_Tuple (one H ha F hq fun v s' φ' X S F' R => ?_) (hs _) (hw _)
    exact rule_post (unp_rule ha F' (F.aft X) S R q (hT ev) (hl ev) (hst ev) hnd hk) fun _ _ x => x
  · cases q
end
end Mine
end

section
open PySem PySem.W PySem.Calls PyProof.Rows PySem.Spec PyProof.V
namespace Mine

section
variable {C : Cx} {n : Nat} {sc : Scope} {nm : List Str} {ev : EV} {A : Around} {h₀ : Heap} {P : Addr → Prop} {φ : PMap} {σ : St} {s : Shared} {E : Value → Shared → Prop}

theorem Fm.walk {P' P'' W : Addr → Prop} {h h' : Heap} {φ' : PMap} (F : Fm C h₀ P' ev sc nm φ σ h) (hW : ∀ b, W b → P' b ∧ h₀.get? b = none) (hk : ∀ b o, ¬ W b → h.get? b = some o → h'.get? b = some o)
    (hφ : ∀ b o, h.get? b = some o → φ' b = φ b) (hinn : ∀ a o, φ' a = some o → h'.get? a = some o) (hPP : ∀ b, P'' b → P' b) (hbase : ∀ b o, h₀.get? b = some o → P'' b)
    (hlive : ∀ b, P'' b → ∃ o, h'.get? b = some o) : Fm C h₀ P'' ev sc nm φ' σ h' := by
  obtain ⟨m, as, S⟩ := F.sl
  obtain ⟨oL, eL, pL, hoL, rL⟩ := id S.ns
  have hs : ∀ a o, φ a = some o → φ' a = some o := fun a o e => (hφ a o (F.inn a o e)).trans e
  refine ⟨F.gw, fun b o e => hk b o (fun w => by rw [(hW b w).2] at e; cases e) (F.keep b o e), hbase, hlive, fun q => F.pL (hPP _ q), (hφ _ _ hoL).trans F.fL, hinn, m, as,
    ⟨oL, eL, pL, hk _ _ (fun w => F.pL (hW _ w).1) hoL, rL⟩, fun i x hx => ?_, S.apart⟩
  have q := S.ok i x hx
  cases hg : getS σ i with
  | free => trivial
  | val V =>
    rw [hg] at q
    obtain ⟨v, l, r⟩ := q
    exact ⟨v, l.ext hs, r.mono hs⟩
  | own xs =>
    rw [hg] at q
    obtain ⟨l, ⟨vs, hp, r⟩, hn, hP, hL'⟩ := q
    obtain ⟨k, hpk⟩ := id hp
    exact ⟨l, ⟨vs, hp.at fun o e => hk _ o (fun w => hP (hW _ w).1) e, r.mono hs⟩, (hφ _ _ hpk).trans hn, fun q => hP (hPP _ q), hL'⟩

/-- a frame takes fresh objects under protection -/
theorem Fm.guard {W : Addr → Prop} {h h' : Heap} (F : Fm C h₀ P ev sc nm φ σ h) (hk : ∀ b o, h.get? b = some o → h'.get? b = some o) (hW : ∀ b, W b → h.get? b = none) (hl : ∀ b, W b → ∃ o, h'.get? b = some o) :
    Fm C h₀ (fun b => P b ∨ W b) ev sc nm φ σ h' := by
  have F' := F.ext (.of_keep F.inn hk)
  obtain ⟨m, as, S⟩ := F.sl
  obtain ⟨oL, eL, pL, hoL, rL⟩ := id S.ns
  have nW : ∀ b o, h.get? b = some o → ¬ W b := fun b o e w => by rw [hW b w] at e; cases e
  refine ⟨F'.gw, F'.keep, fun b o e => .inl (F'.base b o e), fun b hb => hb.elim (F'.live b) (hl b), fun hb => hb.elim F'.pL (nW _ _ hoL), F'.fL, F'.inn, m, as, S.ns.keeps hk, fun i x hx => ?_, S.apart⟩
  have q := S.ok i x hx
  cases hg : getS σ i with
  | free => trivial
  | val V =>
    rw [hg] at q
    exact q
  | own xs =>
    rw [hg] at q
    obtain ⟨l, ⟨vs, hp, r⟩, hn, hP, hL'⟩ := q
    obtain ⟨k, hpk⟩ := id hp
    exact ⟨l, ⟨vs, hp.at fun o e => hk _ o e, r⟩, hn, fun q => q.elim hP (nW _ _ hpk), hL'⟩

/-- an iterator, turn by turn -/
structure Steps (C : Cx) (A : Around) (target : Expr) (it : Value) (W : Addr → Prop) (xs : List V) (St : Nat → Heap → PMap → Prop) : Prop where
  item : ∀ i (s : Shared) φ x (Q : Value → Shared → Prop) (E : Value → Shared → Prop), xs[i]? = some x → St i s.heap φ → (∀ a o, φ a = some o → s.heap.get? a = some o) →
    (∀ v h' tk φ', (∀ b o, ¬ W b → s.heap.get? b = some o → h'.get? b = some o) → (∀ b, W b → ∃ o, h'.get? b = some o) → (∀ b o, s.heap.get? b = some o → φ' b = φ b) → (∀ a o, φ' a = some o → h'.get? a = some o) →
      Rd φ' v x → St (i + 1) h' φ' → Q v { s with heap := h', toks := tk }) →
    wpAny C.M A (pyNext it) (fun r s₁ => match r with | none => False | some v => wpAny C.M A (letOwnedTupleGo target it v) (fun _ s₂ => Q v s₂) E s₁) E s
  done : ∀ (s : Shared) φ (Q : Shared → Prop) (E : Value → Shared → Prop), St xs.length s.heap φ → (∀ a o, φ a = some o → s.heap.get? a = some o) →
    (∀ h' tk, (∀ b o, ¬ W b → s.heap.get? b = some o → h'.get? b = some o) → Q { s with heap := h', toks := tk }) → wpAny C.M A (pyNext it) (fun r s₁ => match r with | none => Q s₁ | some _ => False) E s
  frame : ∀ i h φ h' φ', St i h φ → (∀ b, W b → h'.get? b = h.get? b) → (∀ b, W b → φ' b = φ b) → (∀ b o, φ b = some o → φ' b = some o) → St i h' φ'

def SPut (C : Cx) (n : Nat) (sc : Scope) (nm : List Str) (target : Expr) (put : V → DS) : Prop :=
  ∀ ev A h₀ P φ σ s v x r, AOK n A → Fm C h₀ P ev sc nm φ σ s.heap → Rd φ v x → put x σ = some r →
    ∃ σ', r = .nxt σ' ∧ wpAny C.M A (assign target (ev.env sc) v) (fun _ s' => ∃ φ', Aft P s.heap φ s'.heap φ' ∧ Sh s s' ∧ Fm C h₀ P ev sc nm φ' σ' s'.heap) noE s

theorem for_gen {target : Expr} {body : List Stmt} {it : Value} {xs : List V} {St : Nat → Heap → PMap → Prop} {W : Addr → Prop} {put : V → DS} {db : DS} {r : Res} {R : Result → Shared → Prop} {s₀ : Shared} {φ₀ : PMap} (ha : AOK n A)
    (HP : SPut C n sc nm target put) (HB : SS C n sc nm body db) (T : Steps C A target it W xs St) (F : Fm C h₀ (fun b => P b ∨ W b) ev sc nm φ σ s.heap) (hW : ∀ b, W b → h₀.get? b = none ∧ ¬ P b) (hWφ : ∀ b, W b → φ b = none)
    (hbase : ∀ b o, h₀.get? b = some o → P b) (st : St 0 s.heap φ) (q : sFor put db xs σ = some r) (aft : Aft P s₀.heap φ₀ s.heap φ) (S : Sh s₀ s) (hR : ∀ f s', PostS C h₀ P ev sc nm φ₀ s₀ r f s' → R (.ok f) s') :
    codeAny C.M A (.forLoop target it body [] (ev.env sc)) R s := by
  refine codeAny_forLoop_any (fun k s' => ∃ i φ' σ', i ≤ xs.length ∧ k = xs.length - i ∧ Fm C h₀ (fun b => P b ∨ W b) ev sc nm φ' σ' s'.heap ∧ Aft P s₀.heap φ₀ s'.heap φ' ∧ Sh s₀ s' ∧ St i s'.heap φ' ∧ (∀ b, W b → φ' b = none) ∧
    sFor put db (xs.drop i) σ' = some r) (fun k s₁ hI => ?_) xs.length ⟨0, φ, σ, Nat.zero_le _, rfl, F, aft, S, st, hWφ, by simpa using q⟩
  obtain ⟨i, φ₁, σ₁, hi, rfl, F₁, a₁, S₁, st₁, hw₁, q₁⟩ := hI
  have hWP : ∀ b, W b → (P b ∨ W b) ∧ h₀.get? b = none := fun b hb => ⟨.inr hb, (hW b hb).1⟩
  have nW : ∀ b, P b → ¬ W b := fun b hb w => (hW b w).2 hb
  by_cases hlt : i < xs.length
  · have hx : xs[i]? = some xs[i] := by simp [hlt]
    have hd : xs.drop i = xs[i] :: xs.drop (i + 1) := List.drop_eq_getElem_cons hlt
    rw [hd] at q₁
    unfold sFor at q₁
    refine wpAny_mono (T.item i s₁ φ₁ _ (fun v s' => ∃ φ₂, Fm C h₀ (fun b => P b ∨ W b) ev sc nm φ₂ σ₁ s'.heap ∧ Aft P s₀.heap φ₀ s'.heap φ₂ ∧ Sh s₀ s' ∧ St (i + 1) s'.heap φ₂ ∧ (∀ b, W b → φ₂ b = none) ∧ Rd φ₂ v xs[i]) noE hx st₁ F₁.inn
      fun v h' tk φ₂ hk hl hφ hinn hr hst => ?_) (fun rr s₂ hrr => ?_) fun _ _ x => x.elim
    · refine ⟨φ₂, F₁.walk hWP hk hφ hinn (fun _ x => x) (fun b o e => .inl (hbase b o e)) (fun b hb => hb.elim (fun hb => ?_) (hl b)), a₁.trans ⟨fun b hb => ?_, fun b hb => ?_, fun b o e => (hφ b o (F₁.inn b o e)).trans e, hinn⟩, S₁.mk' _ _, hst, fun b hb => ?_, hr⟩
      · obtain ⟨o, ho⟩ := F₁.live b (.inl hb)
        exact ⟨o, hk b o (nW b hb) ho⟩
      · obtain ⟨o, ho⟩ := F₁.live b (.inl hb)
        rw [hk b o (nW b hb) ho, ho]
      · obtain ⟨o, ho⟩ := F₁.live b (.inl hb)
        exact hφ b o ho
      · obtain ⟨o, ho⟩ := F₁.live b (.inr hb)
        rw [hφ b o ho]; exact hw₁ b hb
    · cases rr with
      | none => exact hrr.elim
      | some v =>
        refine wpAny_mono hrr (fun _ s₃ h₃ => ?_) fun _ _ x => x.elim
        obtain ⟨φ₂, F₂, a₂, S₂, st₂, hw₂, hr⟩ := h₃
        split at q₁
        · rename_i σ₂ hput
          obtain ⟨σ', e, wput⟩ := HP ev A h₀ _ φ₂ σ₁ s₃ v _ _ ha F₂ hr hput
          cases e
          refine rule_post wput fun _ s₄ h₄ => ?_
          obtain ⟨φ₃, a₃, S₃, F₃⟩ := h₄
          have st₃ : St (i + 1) s₄.heap φ₃ := T.frame _ _ _ _ _ st₂ (fun b hb => a₃.keep b (.inr hb)) (fun b hb => a₃.below b (.inr hb)) a₃.sub
          have hw₃ : ∀ b, W b → φ₃ b = none := fun b hb => (a₃.below b (.inr hb)).trans (hw₂ b hb)
          have A₃ : Aft P s₀.heap φ₀ s₄.heap φ₃ := a₂.trans (a₃.mono fun b hb => .inl hb)
          split at q₁
          · rename_i σ₃ hbody
            refine rule_post (HB ev A h₀ _ φ₃ _ s₄ _ ha F₃ hbody) fun f s₅ h₅ => ?_
            obtain ⟨φ₄, a₄, S₄, rfl, F₄⟩ := h₅
            refine ⟨xs.length - (i + 1), by omega, i + 1, φ₄, σ₃, hlt, rfl, F₄, A₃.trans (a₄.mono fun b hb => .inl hb), (S₂.trans S₃).trans S₄, T.frame _ _ _ _ _ st₃ (fun b hb => a₄.keep b (.inr hb)) (fun b hb => a₄.below b (.inr hb)) a₄.sub, fun b hb => (a₄.below b (.inr hb)).trans (hw₃ b hb), q₁⟩
          · rename_i hn
            refine rule_post (HB ev A h₀ _ φ₃ _ s₄ r ha F₃ q₁) fun f s₅ h₅ => ?_
            cases r with
            | nxt σ' => exact absurd q₁ (hn σ')
            | ret x =>
              obtain ⟨φ₄, a₄, S₄, v', rfl, R'⟩ := h₅
              exact hR _ _ ⟨φ₄, A₃.trans (a₄.mono fun b hb => .inl hb), (S₂.trans S₃).trans S₄, v', rfl, R'⟩
        · rename_i hn
          obtain ⟨σ', e, _⟩ := HP ev A h₀ _ φ₂ σ₁ s₃ v _ _ ha F₂ hr q₁
          subst e
          exact absurd q₁ (hn σ')
  · have hin : i = xs.length := by omega
    subst hin
    rw [List.drop_length] at q₁
    cases q₁
    refine wpAny_mono (T.done s₁ φ₁ (fun s' => ∃ h' tk, s' = { s₁ with heap := h', toks := tk } ∧ (∀ b o, ¬ W b → s₁.heap.get? b = some o → h'.get? b = some o)) noE st₁ F₁.inn fun h' tk hk => ⟨h', tk, rfl, hk⟩) (fun rr s₂ hrr => ?_) fun _ _ x => x.elim
    cases rr with
    | some v => exact hrr.elim
    | none =>
      obtain ⟨h', tk, rfl, hk⟩ := hrr
      have hinn : ∀ a o, φ₁ a = some o → h'.get? a = some o := fun a o e => hk a o (fun w => by rw [hw₁ a w] at e; cases e) (F₁.inn a o e)
      refine wpAny_execs_nil (hR _ _ ⟨φ₁, a₁.trans ⟨fun b hb => ?_, fun _ _ => rfl, fun _ _ e => e, hinn⟩, S₁.mk' _ _, rfl, ?_⟩)
      · obtain ⟨o, ho⟩ := F₁.live b (.inl hb)
        rw [hk b o (nW b hb) ho, ho]
      · refine F₁.walk hWP hk (fun _ _ _ => rfl) hinn (fun b hb => .inl hb) hbase fun b hb => ?_
        obtain ⟨o, ho⟩ := F₁.live b (.inl hb)
        exact ⟨o, hk b o (nW b hb) ho⟩

theorem sput_name {x : Str} {p : Pos} {i : Nat} (hi : nm[i]? = some x := by rfl) (hl : sc.names.lookup x = some .local := by rfl) (hnd : nm.Nodup := by decide +kernel) (hk : sc.kind = .function := by rfl) : SPut C n sc nm (.Name x p) (put1 i) := by
  intro ev A h₀ P φ σ s v x r ha F R q
  unfold put1 at q
  rw [setK_eq] at q
  cases q
  refine ⟨_, rfl, wpAny_assign_Name (store_slot (sl := .val x) F.toO hi hl hnd hk R fun h' hsb F' aft => ⟨φ, aft, ⟨_, _, rfl⟩, F'.1⟩)⟩
theorem putV_nxt : ∀ (is : List Nat) (xs : List V) (σ : PySem.W.Dat → Prop) (σ : St) (r : Res), putV is xs σ = some r → ∃ σ', r = .nxt σ'
  | [], [], _, σ, r, h => by cases h; exact ⟨_, rfl⟩
  | [], _ :: _, _, σ, r, h => by cases h
  | _ :: _, [], _, σ, r, h => by cases h
  | i :: is, x :: xs, p, σ, r, h => by
    unfold putV at h
    rw [setK_eq] at h
    exact putV_nxt is xs p _ r h
theorem sput_tup {is : List Nat} {elts : List Expr} {k : Nat} {tpos : Pos} (hT : ∀ ev : EV, Tg (ev.env sc) nm sc ((assignEach elts (ev.env sc)).map (·.2)) is)
    (hl : ∀ ev : EV, (assignEach elts (ev.env sc)).length = is.length := by intro _; rfl) (hst : ∀ ev : EV, (assignEach elts (ev.env sc)).findIdx? (·.1) = none := by intro _; rfl) (hnd : nm.Nodup := by decide +kernel) (hk : sc.kind = .function := by rfl) :
    SPut C n sc nm (.Tuple elts k tpos) (putT is) := by
  intro ev A h₀ P φ σ s v x r ha F R q
  unfold putT at q
  split at q
  · rename_i xs
    obtain ⟨σ', rfl⟩ := putV_nxt is xs (fun _ => True) σ r q
    refine ⟨σ', rfl, rule_post (unp_rule ha F (.refl F.inn) (.refl s) R q (hT ev) (hl ev) (hst ev) hnd hk) fun _ s' p => ?_⟩
    obtain ⟨φ', a, S, _, F'⟩ := p
    exact ⟨φ', a, S, F'⟩
  · cases q
theorem sput_fail {t : Expr} : SPut C n sc nm t (fun _ => sFail) := by
  intro ev A h₀ P φ σ s v x r ha F R q
  cases q

/-- letOwnedTupleGo leaves all as it is where the iterator is of another kind -/
theorem go_plain {M : Model} {A : Around} {E : Value → Shared → Prop} {s : Shared} {target : Expr} {I : Addr} {v : Value} {o : Obj} {T : String} {Q : Unit → Shared → Prop} (ho : s.heap.get? I = some o) (hc : o.cls = .type T)
    (hT : ["enumerate", "zip", "dict_itemiterator", "dict_reverseitemiterator", "odict_iterator", "itertools.zip_longest", "itertools.pairwise"].contains T = false) (h : Q () s) : wpAny M A (letOwnedTupleGo target (.ref I) v) Q E s := by
  have main : ∀ a : Addr, wpAny M A (do
      let o ← load I
      match o.cls, o.data with
      | .type n, .fields vs =>
        if ["enumerate", "zip", "dict_itemiterator", "dict_reverseitemiterator", "odict_iterator", "itertools.zip_longest", "itertools.pairwise"].contains n && vs[0]? == some (rawInt a) then
          rule "for.unpacks-the-owned-tuple"
          updateField I 0 .none
      | _, _ => pure ()) Q E s := by
    intro a
    refine wpAny_bind (wpAny_load ho ?_)
    rw [hc]
    cases o.data with
    | fields vs =>
      dsimp only
      rw [hT]
      exact wpAny_pure h
    | _ => exact wpAny_pure h
  unfold letOwnedTupleGo
  split
  · cases v <;> first | exact wpAny_pure h | exact main _
  · cases v <;> first | exact wpAny_pure h | exact main _
  · exact wpAny_pure h

/-- an iterator over a frozen list -/
theorem steps_list {target : Expr} {I ax : Addr} {vs : List Value} {xs : List V} {k : Nat} {φ₀ : PMap} (hh : A.handled = none) (hne : ax ≠ I) (R : Rds φ₀ vs xs) :
    Steps C A target (.ref I) (fun b => b = I) xs (fun i h φ => h.IsListIter I ax i ∧ φ ax = some { cls := .type "list", data := .seq vs.toArray k } ∧ (∀ a o, φ₀ a = some o → φ a = some o) ∧ φ I = none) where
  item := by
    intro i s φ x Q E hx st hinn hQ
    obtain ⟨h1, h2, h3, h4⟩ := st
    obtain ⟨v, hv, hr⟩ := R.get hx
    have hl : s.heap.IsList ax vs.toArray := ⟨_, hinn _ _ h2, rfl, _, rfl⟩
    refine wpAny_pyNext_list_item h1 hl (x := v) (by simpa using hv) fun h' hit hs => ?_
    obtain ⟨o, ho, hc, hd⟩ := id hit
    have e : ∀ b o, ¬ b = I → s.heap.get? b = some o → h'.get? b = some o := fun b o hb e => (hs.2 b hb).trans e
    have hin' : ∀ a o, φ a = some o → h'.get? a = some o := fun a o' e' => by
      by_cases hb : a = I
      · subst hb
        rw [h4] at e'; cases e'
      · exact e a o' hb (hinn _ _ e')
    exact go_plain ho hc (by decide) (hQ v h' _ φ e (fun b hb => ⟨o, hb ▸ ho⟩) (fun _ _ _ => rfl) hin' (hr.mono h3) ⟨hit, h2, h3, h4⟩)
  done := by
    intro s φ Q E st hinn hQ
    obtain ⟨h1, h2, h3, h4⟩ := st
    have hl : s.heap.IsList ax vs.toArray := ⟨_, hinn _ _ h2, rfl, _, rfl⟩
    have hlen := R.len
    refine wpAny_pyNext_list_end hh h1 hl (by simp; omega) fun h' he => ?_
    exact hQ h' _ fun b o hb e => he b o hb e
  frame := by
    intro i h φ h' φ' st hW hWφ hφ
    obtain ⟨h1, h2, h3, h4⟩ := st
    obtain ⟨o, ho, r⟩ := h1
    exact ⟨⟨o, (hW I rfl).trans ho, r⟩, hφ _ _ h2, fun a o e => hφ _ _ (h3 a o e), (hWφ I rfl).trans h4⟩

/-- what a range counts -/
theorem rangeL_get (c : Int) : ∀ (k : Nat) (a : Int) (i : Nat), i < k → (rangeL c k a)[i]? = some (.int (a + i * c))
  | 0, a, i, h => by omega
  | k + 1, a, 0, h => by rw [rangeL, fI_eq]; simp
  | k + 1, a, i + 1, h => by
    rw [rangeL, fI_eq]
    have := rangeL_get c k (a + c) i (by omega)
    rw [List.getElem?_cons_succ, this]
    have e : a + c + (i : Int) * c = a + ((i + 1 : Nat) : Int) * c := by
      rw [Int.natCast_add, Int.add_mul]; omega
    rw [e]
theorem rangeL_len (c : Int) : ∀ (k : Nat) (a : Int), (rangeL c k a).length = k
  | 0, a => rfl
  | k + 1, a => by rw [rangeL, fI_eq, List.length_cons, rangeL_len c k]
theorem steps_range {target : Expr} {I : Addr} {a c : Int} {k : Nat} (hh : A.handled = none) :
    Steps C A target (.ref I) (fun b => b = I) (rangeL c k a) (fun i h φ => IsRangeIter h I (a + (i : Int) * c) ((k : Int) - i) c ∧ φ I = none) where
  item := by
    intro i s φ x Q E hx st hinn hQ
    obtain ⟨h1, h4⟩ := st
    have hlt : i < k := by
      have := (List.getElem?_eq_some_iff.mp hx).1
      rwa [rangeL_len] at this
    rw [rangeL_get c k a i hlt] at hx
    cases hx
    refine wpAny_pyNext_range_item h1 (by omega) fun h' hit hs => ?_
    have e : ∀ b o, ¬ b = I → s.heap.get? b = some o → h'.get? b = some o := fun b o hb e => (hs.2 b hb).trans e
    have hin' : ∀ a o, φ a = some o → h'.get? a = some o := fun a o' e' => by
      by_cases hb : a = I
      · subst hb
        rw [h4] at e'; cases e'
      · exact e a o' hb (hinn _ _ e')
    refine go_plain (s := { s with heap := h', toks := s.toks + 1 }) hit rfl (by decide) (hQ _ h' _ φ e (fun b hb => ⟨_, hb ▸ hit⟩) (fun _ _ _ => rfl) hin' (.int _ _) ⟨?_, h4⟩)
    have e1 : a + ((i + 1 : Nat) : Int) * c = a + (i : Int) * c + c := by rw [Int.natCast_add, Int.add_mul]; omega
    have e2 : (k : Int) - ((i + 1 : Nat) : Int) = (k : Int) - (i : Int) - 1 := by omega
    rw [e1, e2]
    exact hit
  done := by
    intro s φ Q E st hinn hQ
    obtain ⟨h1, h4⟩ := st
    rw [rangeL_len] at h1
    exact wpAny_pyNext_range_end hh h1 (by omega) fun h' he => hQ h' _ fun b o hb e => he b o hb e
  frame := by
    intro i h φ h' φ' st hW hWφ hφ
    obtain ⟨h1, h4⟩ := st
    exact ⟨(hW I rfl).trans h1, (hWφ I rfl).trans h4⟩

theorem enumL_get : ∀ (xs : List V) (m i : Nat) (x : V), (enumL m xs)[i]? = some x → ∃ y, xs[i]? = some y ∧ x = .tuple [.int ((m + i : Nat) : Int), y]
  | [], m, i, x, h => by simp [enumL] at h
  | y :: r, m, 0, x, h => by
    rw [enumL, fN_eq] at h
    simp at h
    exact ⟨y, rfl, by rw [← h]; rfl⟩
  | y :: r, m, i + 1, x, h => by
    rw [enumL, fN_eq] at h
    obtain ⟨z, h1, h2⟩ := enumL_get r (m + 1) i x (by simpa using h)
    refine ⟨z, by simpa using h1, ?_⟩
    rw [h2]
    have : m + 1 + i = m + (i + 1) := by omega
    rw [this]
theorem enumL_len : ∀ (xs : List V) (m : Nat), (enumL m xs).length = xs.length
  | [], m => rfl
  | y :: r, m => by rw [enumL, fN_eq, List.length_cons, List.length_cons, enumL_len r]
theorem steps_enum {elts : List Expr} {kk : Nat} {tpos : Pos} {e it l : Addr} {vs : List Value} {xs : List V} {k : Nat} {φ₀ : PMap} (hh : A.handled = none) (hei : e ≠ it) (R : Rds φ₀ vs xs) :
    Steps C A (.Tuple elts kk tpos) (.ref e) (fun b => b = e ∨ b = it) (enumL 0 xs)
      (fun i h φ => (∃ old, IsEnum h e it (i : Int) old) ∧ h.IsListIter it l i ∧ φ l = some { cls := .type "list", data := .seq vs.toArray k } ∧ (∀ a o, φ₀ a = some o → φ a = some o) ∧ φ e = none ∧ φ it = none) where
  item := by
    intro i s φ x Q E hx st hinn hQ
    obtain ⟨⟨old, h0⟩, h1, h2, h3, h4, h5⟩ := st
    obtain ⟨y, hy, rfl⟩ := enumL_get xs 0 i x hx
    obtain ⟨v, hv, hr⟩ := R.get hy
    have hl : s.heap.IsList l vs.toArray := ⟨_, hinn _ _ h2, rfl, _, rfl⟩
    refine wpAny_pyNext_enum_item h0 h1 hl (x := v) (by simpa using hv) hei fun h' heo hit ht hz hk => ?_
    have hT : s.heap.get? s.heap.objs.size = none := get_size _
    have hTe : s.heap.objs.size ≠ e := fun q => by rw [q, h0] at hT; cases hT
    have hTi : s.heap.objs.size ≠ it := fun q => by
      obtain ⟨o, ho, _⟩ := h1
      rw [q, ho] at hT; cases hT
    refine wpAny_letOwnedTupleGo_enum (s := { s with heap := h', toks := s.toks + 1 }) heo fun h₂ he₂ hs₂ => ?_
    have keep : ∀ b o, ¬ (b = e ∨ b = it) → s.heap.get? b = some o → h₂.get? b = some o := fun b o hb q => by
      rw [hs₂.2 b fun z => hb (.inl z)]
      exact hk b o (fun z => hb (.inl z)) (fun z => hb (.inr z)) q
    have hT2 : h₂.get? s.heap.objs.size = some { cls := .type "tuple", data := .seq #[.int i s.toks, v] } := (hs₂.2 _ hTe).trans ht
    have hit2 : h₂.IsListIter it l (i + 1) := hit.extBut hs₂.extBut hei.symm
    have hφT : φ s.heap.objs.size = none := by
      cases q : φ s.heap.objs.size with
      | none => rfl
      | some o => rw [hinn _ _ q] at hT; cases hT
    have sub : ∀ a o, φ a = some o → (φ.add s.heap.objs.size { cls := .type "tuple", data := .seq #[.int i s.toks, v] }) a = some o := fun a o q => by
      unfold PMap.add
      rw [if_neg]; exact q
      rintro rfl
      rw [hφT] at q; cases q
    have ne : ∀ b, b ≠ s.heap.objs.size → (φ.add s.heap.objs.size { cls := .type "tuple", data := .seq #[.int i s.toks, v] }) b = φ b := fun b hb => by
      unfold PMap.add
      rw [if_neg hb]
    refine hQ (.ref s.heap.objs.size) h₂ _ (φ.add s.heap.objs.size { cls := .type "tuple", data := .seq #[.int i s.toks, v] }) keep (fun b hb => ?_) (fun b o q => ne b fun z => by rw [z, hT] at q; cases q) (fun a o q => ?_) ?_ ?_
    · rcases hb with rfl | rfl
      · exact ⟨_, he₂⟩
      · obtain ⟨o, ho, _⟩ := hit2
        exact ⟨o, ho⟩
    · by_cases ha : a = s.heap.objs.size
      · subst ha
        simp [PMap.add] at q
        rw [hT2, q]
      · rw [ne a ha] at q
        refine keep a o (fun z => ?_) (hinn a o q)
        rcases z with rfl | rfl
        · rw [h4] at q; cases q
        · rw [h5] at q; cases q
    · have e0 : (0 + i : Nat) = i := by omega
      rw [e0]
      refine .tuple (vs := [.int i s.toks, v]) (n := 0) (by simp [PMap.add]) (.cons (.int _ _) (.cons ((hr.mono h3).mono sub) .nil))
    · exact ⟨⟨_, by have : ((i + 1 : Nat) : Int) = (i : Int) + 1 := by omega
                    rw [this]; exact he₂⟩, hit2, sub _ _ h2, fun a o q => sub _ _ (h3 a o q), (ne _ hTe.symm).trans h4, (ne _ hTi.symm).trans h5⟩
  done := by
    intro s φ Q E st hinn hQ
    obtain ⟨⟨old, h0⟩, h1, h2, h3, h4, h5⟩ := st
    rw [enumL_len] at h1 h0
    have hl : s.heap.IsList l vs.toArray := ⟨_, hinn _ _ h2, rfl, _, rfl⟩
    have hlen := R.len
    refine wpAny_pyNext_enum_end hh h0 h1 hl (by simp; omega) fun h' he => ?_
    exact hQ h' _ fun b o hb q => he b o (fun z => hb (.inr z)) q
  frame := by
    intro i h φ h' φ' st hW hWφ hφ
    obtain ⟨⟨old, h0⟩, h1, h2, h3, h4, h5⟩ := st
    obtain ⟨o, ho, r⟩ := h1
    exact ⟨⟨old, (hW e (.inl rfl)).trans h0⟩, ⟨o, (hW it (.inr rfl)).trans ho, r⟩, hφ _ _ h2, fun a o q => hφ _ _ (h3 a o q), (hWφ e (.inl rfl)).trans h4, (hWφ it (.inr rfl)).trans h5⟩

theorem fresh_base {h : Heap} (F : Fm C h₀ P ev sc nm φ σ h) {b : Addr} (hb : h.get? b = none) : h₀.get? b = none ∧ ¬ P b ∧ φ b = none := by
  refine ⟨?_, fun hp => ?_, ?_⟩
  · cases q : h₀.get? b with
    | none => rfl
    | some o => rw [F.keep _ _ q] at hb; cases hb
  · obtain ⟨o, ho⟩ := F.live b hp
    rw [hb] at ho; cases ho
  · cases q : φ b with
    | none => rfl
    | some o => rw [F.inn _ _ q] at hb; cases hb

/-- for target in iter: a frozen list -/
theorem s1_forL {target iter : Expr} {body : List Stmt} {pos : Pos} {put : V → DS} {d : D} {db : DS} (H : SE C n sc nm iter d) (HP : SPut C n sc nm target put) (HB : SS C n sc nm body db)
    (hf : ∀ (ev : EV) x, foldedSetIterable iter (ev.env sc) x = pure x := by intro _ _; rfl) : S1 C n sc nm (.For target iter body [] pos) (sForL put d db) := by
  intro ev A h₀ P φ σ s r ha F q
  unfold sForL at q
  split at q
  · rename_i xs hx
    refine wpAny_For (one H ha F hx fun v s₁ φ₁ X₁ S₁ F₁ R₁ => ?_) (hf ev)
    cases R₁ with
    | @list ax vs k _ ho R =>
      have hl : s₁.heap.IsList ax vs.toArray := ⟨_, F₁.inn _ _ ho, rfl, _, rfl⟩
      refine wpAny_pyIter_list hl ?_
      have hI : s₁.heap.get? s₁.heap.objs.size = none := get_size _
      have hI2 : (s₁.heap.push { cls := .type "list_iterator", data := .fields #[.ref ax, .int 0 0] }).get? s₁.heap.objs.size = some { cls := .type "list_iterator", data := .fields #[.ref ax, .int 0 0] } := Heap.get?_push_size _ rfl
      have fb := fresh_base F₁ hI
      have F₂ : Fm C h₀ (fun b => P b ∨ b = s₁.heap.objs.size) ev sc nm φ₁ σ (s₁.heap.push { cls := .type "list_iterator", data := .fields #[.ref ax, .int 0 0] }) :=
        F₁.guard (W := fun b => b = s₁.heap.objs.size) (keep_push _ _) (fun b hb => hb ▸ hI) fun b hb => ⟨_, hb ▸ hI2⟩
      have hne : ax ≠ s₁.heap.objs.size := fun q => by have := F₁.inn _ _ ho; rw [q, hI] at this; cases this
      exact for_gen (s := { s₁ with heap := _ }) ha HP HB (steps_list (φ₀ := φ₁) (k := k) ha.1 hne R) F₂ (fun b hb => by subst hb; exact ⟨fb.1, fb.2.1⟩) (fun b hb => by subst hb; exact fb.2.2) F.base
        ⟨⟨_, hI2, rfl, rfl⟩, ho, fun _ _ e => e, fb.2.2⟩ q ((F.aft X₁).trans (F₁.aft (.of_keep F₁.inn (keep_push _ _)))) (S₁.mk' _ _) fun f s' p => p
  · cases q

/-- for i, x in enumerate(e) -/
theorem s1_enum {elts : List Expr} {k : Nat} {tpos p pos pos' : Pos} {e : Expr} {body : List Stmt} {is : List Nat} {d : D} {db : DS} (H : SE C n sc nm e d) (HB : SS C n sc nm body db)
    (hT : ∀ ev : EV, Tg (ev.env sc) nm sc ((assignEach elts (ev.env sc)).map (·.2)) is) (hl : ∀ ev : EV, (assignEach elts (ev.env sc)).length = is.length := by intro _; rfl)
    (hst : ∀ ev : EV, (assignEach elts (ev.env sc)).findIdx? (·.1) = none := by intro _; rfl) (hnd : nm.Nodup := by decide +kernel) (hk : sc.kind = .function := by rfl)
    (hx : sc.names.lookup (Str.ofString "enumerate") = some .globalImplicit := by rfl) (he : ∀ env, starEach [e] env = (false, eval e env) :: starEach [] env := by intro _; rfl) :
    S1 C n sc nm (.For (.Tuple elts k tpos) (.Call (.Name "enumerate" p) [e] [] pos') body [] pos) (sEnum is d db) := by
  intro ev A h₀ P φ σ s r ha F q
  unfold sEnum at q
  split at q
  · rename_i xs hxs
    refine wpAny_For ?_ (fun _ => rfl)
    refine call_node (bi_name hx hk (by decide +kernel) F.gw' (by decide +kernel) boot_enumerate' (by decide +kernel) ?_)
    refine Pv.callWith_type1 ?_ (he _)
    rw [he]
    refine spliced_cons (one H ha F hxs fun v s₁ φ₁ X₁ S₁ F₁ R₁ => spliced_nil ?_)
    cases R₁ with
    | @list ax vs kl _ ho R =>
      have hli : s₁.heap.IsList ax vs.toArray := ⟨_, F₁.inn _ _ ho, rfl, _, rfl⟩
      refine call_enumerate_list hli fun h' hen hit hz hkeep => ?_
      have hIe : s₁.heap.get? (s₁.heap.objs.size + 1) = none := by
        cases q : s₁.heap.get? (s₁.heap.objs.size + 1) with
        | none => rfl
        | some o => exact absurd (Heap.lt_size q) (Nat.not_lt.mpr (Nat.le_succ _))
      have hIi : s₁.heap.get? s₁.heap.objs.size = none := get_size _
      have fe := fresh_base F₁ hIe
      have fi := fresh_base F₁ hIi
      obtain ⟨oi, hoi, hri⟩ := id hit
      have F₂ : Fm C h₀ (fun b => P b ∨ (b = s₁.heap.objs.size + 1 ∨ b = s₁.heap.objs.size)) ev sc nm φ₁ σ h' :=
        F₁.guard (W := fun b => b = s₁.heap.objs.size + 1 ∨ b = s₁.heap.objs.size) hkeep (fun b hb => hb.elim (fun h => h ▸ hIe) fun h => h ▸ hIi) fun b hb => hb.elim (fun h => ⟨_, h ▸ hen⟩) fun h => ⟨_, h ▸ hoi⟩
      refine wpAny_pyIter_enum (s := { s₁ with heap := h' }) hen ?_
      have Y : Ext s₁.heap φ₁ h' φ₁ := .of_keep F₁.inn hkeep
      refine for_gen (s := { s₁ with heap := h' }) ha (sput_tup hT hl hst hnd hk) HB (steps_enum (φ₀ := φ₁) (k := kl) ha.1 (Nat.succ_ne_self _) R) F₂
        (fun b hb => by rcases hb with rfl | rfl; exact ⟨fe.1, fe.2.1⟩; exact ⟨fi.1, fi.2.1⟩) (fun b hb => by rcases hb with rfl | rfl; exact fe.2.2; exact fi.2.2) F.base
        ⟨⟨_, hen⟩, hit, ho, fun _ _ e => e, fe.2.2, fi.2.2⟩ q ((F.aft X₁).trans (F₁.aft Y)) (S₁.mk' _ _) fun f s' p => p
  · cases q

theorem range_for {x : Str} {px : Pos} {body : List Stmt} {i : Nat} {db : DS} {r : Res} {a c b : Int} {t u v : Tok} {k : Nat} {rg : Addr} {s₀ : Shared} {φ₀ : PMap} (ha : AOK n A) (HP : SPut C n sc nm (.Name x px) (put1 i)) (HB : SS C n sc nm body db)
    (F : Fm C h₀ P ev sc nm φ σ s.heap) (hr : IsRange s.heap rg a b c t u v) (hsm : Builtin.Range.small a b c = true) (hk : Builtin.Range.rangeSize a b c = (k : Int)) (q : sFor (put1 i) db (rangeL c k a) σ = some r) (aft : Aft P s₀.heap φ₀ s.heap φ) (S : Sh s₀ s)
    {R : Result → Shared → Prop} (hR : ∀ f s', PostS C h₀ P ev sc nm φ₀ s₀ r f s' → R (.ok f) s') :
    wpAny C.M A (pyIter (.ref rg)) (fun it s₂ => codeAny C.M A (.forLoop (.Name x px) it body [] (ev.env sc)) R s₂) E s := by
  refine wpAny_pyIter_range hr hsm ?_
  rw [hk]
  have hI : s.heap.get? s.heap.objs.size = none := get_size _
  have hI2 : (s.heap.push { cls := .type "range_iterator", data := .fields #[rawInt a, rawInt (k : Int), rawInt c] }).get? s.heap.objs.size = some { cls := .type "range_iterator", data := .fields #[rawInt a, rawInt (k : Int), rawInt c] } := Heap.get?_push_size _ rfl
  have fb := fresh_base F hI
  have F₂ : Fm C h₀ (fun b => P b ∨ b = s.heap.objs.size) ev sc nm φ σ (s.heap.push { cls := .type "range_iterator", data := .fields #[rawInt a, rawInt (k : Int), rawInt c] }) :=
    F.guard (W := fun b => b = s.heap.objs.size) (keep_push _ _) (fun b hb => hb ▸ hI) fun b hb => ⟨_, hb ▸ hI2⟩
  exact for_gen (s := { s with heap := _ }) ha HP HB (steps_range (a := a) (c := c) (k := k) ha.1) F₂ (fun b hb => by subst hb; exact ⟨fb.1, fb.2.1⟩) (fun b hb => by subst hb; exact fb.2.2) F.base
    ⟨by simpa using hI2, fb.2.2⟩ q (aft.trans (F.aft (.of_keep F.inn (keep_push _ _)))) (S.mk' _ _) hR
/-- for i in range(e) -/
theorem s1_range {x : Str} {px p pos pos' : Pos} {e : Expr} {body : List Stmt} {i : Nat} {d : D} {db : DS} (H : SE C n sc nm e d) (HB : SS C n sc nm body db)
    (hi : nm[i]? = some x := by rfl) (hl : sc.names.lookup x = some .local := by rfl) (hnd : nm.Nodup := by decide +kernel) (hk : sc.kind = .function := by rfl)
    (hx : sc.names.lookup (Str.ofString "range") = some .globalImplicit := by rfl) (he : ∀ env, starEach [e] env = (false, eval e env) :: starEach [] env := by intro _; rfl) :
    S1 C n sc nm (.For (.Name x px) (.Call (.Name "range" p) [e] [] pos') body [] pos) (sRange i d db) := by
  intro ev A h₀ P φ σ s r ha F q
  unfold sRange at q
  split at q
  · rename_i k hxs
    split at q
    · rename_i hb
      rw [Bool.and_eq_true, ltI_eq, ltI_eq, decide_eq_true_iff, decide_eq_true_iff] at hb
      refine wpAny_For ?_ (fun _ => rfl)
      refine call_node (bi_name hx hk (by decide +kernel) F.gw' (by decide +kernel) boot_range' (by decide +kernel) ?_)
      refine Pv.callWith_type1 ?_ (he _)
      rw [he]
      refine spliced_cons (one H ha F hxs fun v s₁ φ₁ X₁ S₁ F₁ R₁ => spliced_nil ?_)
      cases R₁
      refine call_range_1 ?_
      have Y : ∀ o, Ext s₁.heap φ₁ (s₁.heap.push o) φ₁ := fun o => .of_keep F₁.inn (keep_push _ _)
      have hsz : Builtin.Range.rangeSize 0 k 1 = ((k.toNat : Nat) : Int) := by
        rw [rangeSize_one]; split <;> omega
      exact range_for (s := { s₁ with heap := _, toks := _ }) ha (sput_name hi hl hnd hk) HB (F₁.ext (Y _)) (IsRange.new ..) (small_one (by omega) (by omega) (by omega) (by omega)) hsz q ((F.aft X₁).trans (F₁.aft (Y _))) (S₁.mk' _ _) fun f s' p => p
    · cases q
  · cases q
theorem rangeSize_down (a : Int) : Builtin.Range.rangeSize a (-1) (-1) = (((a + 1).toNat : Nat) : Int) := by
  unfold Builtin.Range.rangeSize
  simp only [show ¬ ((-1 : Int) > 0) by decide, if_false, show (- -1 : Int) = 1 by decide, Int.ediv_one]
  split <;> omega
theorem small_down {a : Int} (h1 : -1000 < a) (h2 : a < 1000) : Builtin.Range.small a (-1) (-1) = true := by
  unfold Builtin.Range.small
  rw [rangeSize_down]
  simp only [Builtin.Range.rangeFitsLong, Bool.and_eq_true, Bool.or_eq_true, decide_eq_true_eq, beq_iff_eq, show ¬ ((-1 : Int) > 0) by decide, if_false]
  omega
/-- for i in range(e, -1, -1) -/
theorem s1_down {x : Str} {px p q1 q2 q3 q4 pos pos' : Pos} {c1 c2 : Nat} {e : Expr} {body : List Stmt} {i : Nat} {d : D} {db : DS} (H : SE C n sc nm e d) (HB : SS C n sc nm body db)
    (hi : nm[i]? = some x := by rfl) (hl : sc.names.lookup x = some .local := by rfl) (hnd : nm.Nodup := by decide +kernel) (hk : sc.kind = .function := by rfl)
    (hx : sc.names.lookup (Str.ofString "range") = some .globalImplicit := by rfl)
    (he : ∀ r env, starEach (e :: r) env = (false, eval e env) :: starEach r env := by intro _ _; rfl) :
    S1 C n sc nm (.For (.Name x px) (.Call (.Name "range" p) [e, .UnaryOp .USub (.Constant (.int 1) c1 q1) q2, .UnaryOp .USub (.Constant (.int 1) c2 q3) q4] [] pos') body [] pos) (sDown i d db) := by
  intro ev A h₀ P φ σ s r ha F q
  unfold sDown at q
  split at q
  · rename_i k hxs
    split at q
    · rename_i hb
      rw [Bool.and_eq_true, ltI_eq, ltI_eq, decide_eq_true_iff, decide_eq_true_iff] at hb
      refine wpAny_For ?_ (fun _ => rfl)
      refine call_node (bi_name hx hk (by decide +kernel) F.gw' (by decide +kernel) boot_range' (by decide +kernel) ?_)
      refine Pv.callWith_type1 ?_ (he _ _)
      rw [he]
      refine spliced_cons (one H ha F hxs fun v s₁ φ₁ X₁ S₁ F₁ R₁ => ?_)
      refine spliced_cons (UnaryOp_ (wpAny_Constant_int (PyProof.Rows.neg_int ?_)))
      refine spliced_cons (UnaryOp_ (wpAny_Constant_int (PyProof.Rows.neg_int (spliced_nil ?_))))
      cases R₁
      refine call_range_3 (by decide) ?_ (.inl (PyProof.noPylong_small (by decide)))
      have Y : ∀ o, Ext s₁.heap φ₁ (s₁.heap.push o) φ₁ := fun o => .of_keep F₁.inn (keep_push _ _)
      exact range_for (s := { s₁ with heap := _, toks := _ }) ha (sput_name hi hl hnd hk) HB (F₁.ext (Y _)) (IsRange.new ..) (small_down (by omega) (by omega)) (rangeSize_down k) q ((F.aft X₁).trans (F₁.aft (Y _))) (S₁.mk' _ _) fun f s' p => p
    · cases q
  · cases q
end
end Mine
end

section
open PySem PySem.W PySem.Calls PyProof.Rows PySem.Spec PyProof.V
namespace Mine

theorem closure_of {env : Env} (f : Str × NameKind → List (Str × Addr) → Sem (ForInStep (List (Str × Addr))))
    (hf : ∀ x k r, f (x, k) r = if k == .free then (do let c ← cellOf env x; pure (ForInStep.yield ((x, c) :: r))) else pure (ForInStep.yield r)) :
    ∀ (names : List (Str × NameKind)) (acc : List (Str × Addr)), (∀ y, (y, NameKind.free) ∈ names → (env.cells.lookup y).isSome = true) →
    ∃ cl : List (Str × Addr), forIn names acc f = pure cl ∧ ∀ y, ((y, NameKind.free) ∈ names ∨ acc.lookup y = env.cells.lookup y) → cl.lookup y = env.cells.lookup y
  | [], acc, h => ⟨acc, by simp, fun y hy => by rcases hy with h | h; cases h; exact h⟩
  | (x, k) :: r, acc, h => by
    by_cases hk : (k == NameKind.free) = true
    · have hx := h x (by rw [eq_of_beq hk]; exact .head _)
      obtain ⟨c, hc⟩ := Option.isSome_iff_exists.mp hx
      obtain ⟨cl, h1, h2⟩ := closure_of f hf r ((x, c) :: acc) (fun y hy => h y (.tail _ hy))
      refine ⟨cl, ?_, fun y hy => h2 y ?_⟩
      · rw [List.forIn_cons, hf, if_pos hk]
        have e : cellOf env x = pure c := by unfold cellOf; rw [hc]
        simp only [e, pure_bind]
        exact h1
      · by_cases hyx : y = x
        · subst hyx
          right
          simp [hc]
        · rcases hy with hy | hy
          · rcases List.mem_cons.mp hy with q | q
            · cases q; exact absurd rfl hyx
            · exact .inl q
          · right
            rw [List.lookup_cons, beq_eq_false_iff_ne.mpr hyx]
            exact hy
    · obtain ⟨cl, h1, h2⟩ := closure_of f hf r acc (fun y hy => h y (.tail _ hy))
      refine ⟨cl, ?_, fun y hy => h2 y ?_⟩
      · rw [List.forIn_cons, hf, if_neg hk]
        simp only [pure_bind]
        exact h1
      · rcases hy with hy | hy
        · rcases List.mem_cons.mp hy with q | q
          · cases q; exact absurd rfl hk
          · exact .inl q
        · exact .inr hy
theorem closureFor_of {env : Env} {scope : Scope} (h : ∀ y, (y, NameKind.free) ∈ scope.names → (env.cells.lookup y).isSome = true) :
    ∃ cl : List (Str × Addr), closureFor scope env = pure cl ∧ ∀ y, (y, NameKind.free) ∈ scope.names → cl.lookup y = env.cells.lookup y := by
  obtain ⟨cl, h1, h2⟩ := closure_of (env := env) (fun x r => if (x.2 == NameKind.free) = true then (do let c ← cellOf env x.1; pure (ForInStep.yield ((x.1, c) :: r))) else pure (ForInStep.yield r)) (fun x k r => rfl) scope.names [] h
  refine ⟨cl, ?_, fun y hy => h2 y (.inl hy)⟩
  simp only [closureFor]
  rw [h1]
  rfl

mutual
theorem Rd.inj {φ : PMap} : ∀ {v : Value} {x y : V}, Rd φ v x → Rd φ v y → x = y
  | _, _, _, .none, h => by cases h; rfl
  | _, _, _, .bool _, h => by cases h; rfl
  | _, _, _, .int _ _, h => by cases h; rfl
  | _, _, _, .list e r, h => by
    cases h with
    | list e' r' =>
      rw [e] at e'
      cases e'
      rw [Rds.inj r r']
    | tuple e' r' =>
      rw [e] at e'
      simp at e'
  | _, _, _, .tuple e r, h => by
    cases h with
    | tuple e' r' =>
      rw [e] at e'
      cases e'
      rw [Rds.inj r r']
    | list e' r' =>
      rw [e] at e'
      simp at e'
theorem Rds.inj {φ : PMap} : ∀ {v : List Value} {x y : List V}, Rds φ v x → Rds φ v y → x = y
  | _, _, _, .nil, h => by cases h; rfl
  | _, _, _, .cons a r, h => by
    cases h with
    | cons a' r' => rw [Rd.inj a a', Rds.inj r r']
end

/-- the comprehension's own scope -/
def rl (scope sc : Scope) : Scope :=
  { scope with names := scope.names.map fun (n, k) => if (k == .free && sc.kind == .function && sc.names.lookup n == some .cell) then (n, .cell) else (n, k) }
def EV.inner (ev : EV) (cl : List (Str × Addr)) (D : Addr) : EV := { L := D, cl := cl, q := ev.q, fn := none, cd := ev.cd, fr := ev.fr }
theorem rl_eq (scope sc : Scope) (ev : EV) (cl : List (Str × Addr)) (D : Addr) : compEnvC scope cl D (ev.env sc) = (ev.inner cl D).env (rl scope sc) := rfl

section
variable {C : Cx} {n : Nat} {sc : Scope} {nm : List Str}

/-- a comprehension's tests -/
def STs (C : Cx) (n : Nat) (sc : Scope) (nm : List Str) (ifs : List Expr) (d : DB) : Prop :=
  ∀ ev A h₀ P φ σ s x, AOK n A → Fm C h₀ P ev sc nm φ σ s.heap → d σ = some x →
    wpAny C.M A (forIn ifs true fun c r => if r = true then do let ok ← isTrue c (ev.env sc) (eval c (ev.env sc)); pure (ForInStep.yield ok) else pure (ForInStep.yield r)) (PostB φ s x) noE s
theorem st_nil : STs C n sc nm [] tTrue := by
  intro ev A h₀ P φ σ s x ha F q
  cases q
  exact wpAny_tests_nil ⟨rfl, φ, .refl F.inn, .refl _⟩
theorem st_one {t : Expr} {d : DB} (H : SB C n sc nm t d) : STs C n sc nm [t] d := by
  intro ev A h₀ P φ σ s x ha F q
  exact wpAny_tests_one (rule_post (H ev A h₀ P φ σ s x ha F q) fun _ _ p => p)

theorem seen_get {σ : St} : ∀ {vs : List Nat} {t : St}, seen σ vs = some t → t.length = vs.length ∧ ∀ j i, vs[j]? = some i → ∃ x, getS σ i = .val x ∧ getS t j = .val x
  | [], t, h => by cases h; exact ⟨rfl, fun j i e => by simp at e⟩
  | i :: r, t, h => by
    unfold seen at h
    split at h
    · rename_i x hx
      split at h
      · rename_i t' ht
        cases h
        obtain ⟨h1, h2⟩ := seen_get ht
        refine ⟨by simp [h1], fun j k e => ?_⟩
        cases j with
        | zero => simp at e; subst e; exact ⟨x, hx, rfl⟩
        | succ j => exact h2 j k (by simpa using e)
      · cases h
    · cases h

theorem compK_out {φ₁ φ' : PMap} {de : D} {dt : DB} {t : St} (p : Value → Bool) (F : Value → Value → Prop) (hp : ∀ v x b, Rd φ₁ v x → dt (.val x :: t) = some b → p v = b)
    (hF : ∀ v x y, Rd φ₁ v x → F v y → ∀ i, de (.val x :: t) = some (.int i) → ∃ tk, y = .int i tk) :
    ∀ {vs : List Value} {xs : List V}, Rds φ₁ vs xs → ∀ {zs : List V} {ys : List Value}, compK de dt t xs = some zs → Paired F (vs.filter p) ys → Rds φ' ys zs
  | _, _, .nil, zs, ys, h, P => by cases h; cases P; exact .nil
  | v :: vs, x :: xs, .cons r rs, zs, ys, h, P => by
    unfold compK at h
    split at h
    · rename_i hb
      split at h
      · rename_i i hi
        split at h
        · rename_i zs' hz
          cases h
          rw [List.filter_cons, hp v x true r hb, if_pos rfl] at P
          cases P with
          | cons f P =>
            obtain ⟨tk, rfl⟩ := hF v x _ r f i hi
            exact .cons (.int _ _) (compK_out p F hp hF rs hz P)
        · cases h
      · cases h
    · rename_i hb
      rw [List.filter_cons, hp v x false r hb, if_neg (by simp)] at P
      exact compK_out p F hp hF rs h P
    · cases h
theorem compK_all {de : D} {dt : DB} {t : St} : ∀ {xs zs : List V}, compK de dt t xs = some zs → ∀ x ∈ xs, ∃ b, dt (.val x :: t) = some b ∧ (b = true → ∃ i, de (.val x :: t) = some (.int i))
  | [], zs, h, x, hx => by cases hx
  | y :: r, zs, h, x, hx => by
    unfold compK at h
    split at h
    · rename_i hb
      split at h
      · rename_i i hi
        split at h
        · rename_i zs' hz
          rcases List.mem_cons.mp hx with rfl | hx
          · exact ⟨true, hb, fun _ => ⟨i, hi⟩⟩
          · exact compK_all hz x hx
        · cases h
      · cases h
    · rename_i hb
      rcases List.mem_cons.mp hx with rfl | hx
      · exact ⟨false, hb, fun h => by cases h⟩
      · exact compK_all h x hx
    · cases h
theorem Rds.mem {φ : PMap} : ∀ {vs : List Value} {xs : List V}, Rds φ vs xs → ∀ v ∈ vs, ∃ x ∈ xs, Rd φ v x
  | _, _, .nil, v, h => by cases h
  | _, _, .cons a r, v, h => by
    rcases List.mem_cons.mp h with rfl | h
    · exact ⟨_, .head _, a⟩
    · obtain ⟨x, hx, hr⟩ := Rds.mem r v h
      exact ⟨x, .tail _ hx, hr⟩

/-- the frame of a comprehension's turn -/
theorem comp_frame {ev : EV} {h₀ : Heap} {P : Addr → Prop} {φ : PMap} {σ t : St} {h h' : Heap} {vs : List Nat} {ynames : List Str} {scope : Scope} {x : Str} {cl : List (Str × Addr)} {D I : Addr} {m : Str → Option Value} {v : Value} {X : V}
    (F : Fm C h₀ P ev sc nm φ σ h) (hD : h.get? D = none) (hI : h.get? I = none) (hk : ∀ b o, b ≠ I → h.get? b = some o → h'.get? b = some o) (hns : h'.Ns D m) (hm : m x = some v) (R : Rd φ v X) (hs : seen σ vs = some t)
    (hx : (rl scope sc).names.lookup x = some .local) (hv : ∀ (j i : Nat) y, vs[j]? = some i → ynames[j]? = some y → nm[i]? = some y ∧ sc.names.lookup y = some .cell ∧ (rl scope sc).names.lookup y = some .cell ∧ cl.lookup y = ev.cl.lookup y)
    (hlen : vs.length = ynames.length) : Fm C h₀ (fun b => ∃ o, h₀.get? b = some o) (ev.inner cl D) (rl scope sc) (x :: ynames) φ (.val X :: t) h' := by
  obtain ⟨m₀, as, S⟩ := F.sl
  have hnk : ∀ b o, h.get? b = some o → h'.get? b = some o := fun b o e => hk b o (fun q => by rw [q, hI] at e; cases e) e
  have hinn : ∀ a o, φ a = some o → h'.get? a = some o := fun a o e => hnk a o (F.inn a o e)
  have h0D : h₀.get? D = none := by
    cases q : h₀.get? D with
    | none => rfl
    | some o => rw [F.keep _ _ q] at hD; cases hD
  have hφD : φ D = none := by
    cases q : φ D with
    | none => rfl
    | some o => rw [F.inn _ _ q] at hD; cases hD
  obtain ⟨tl, tg⟩ := seen_get hs
  refine ⟨F.gw, fun b o e => hnk b o (F.keep b o e), fun b o e => ⟨o, e⟩, fun b hb => ?_, fun hb => ?_, hφD, hinn, m, fun _ => 0, hns, fun j y hy => ?_, fun j l xs ys hj hl h1 h2 hjl => ?_⟩
  · obtain ⟨o, ho⟩ := hb
    exact ⟨o, hnk b o (F.keep b o ho)⟩
  · obtain ⟨o, ho⟩ := hb
    have ho' : h₀.get? D = some o := ho
    rw [h0D] at ho'; cases ho'
  · cases j with
    | zero =>
      simp at hy
      subst hy
      exact ⟨v, .inl ⟨hx, hm⟩, R⟩
    | succ j =>
      have hy' : ynames[j]? = some y := by simpa using hy
      have hjl : j < vs.length := by rw [hlen]; exact (List.getElem?_eq_some_iff.mp hy').1
      obtain ⟨h1, h2, h3, h4⟩ := hv j vs[j] y (by simp [hjl]) hy'
      obtain ⟨z, hz1, hz2⟩ := tg j vs[j] (by simp [hjl])
      show SlotOK _ _ _ _ _ _ _ _ (getS t j)
      rw [hz2]
      have q := S.ok vs[j] y h1
      rw [hz1] at q
      obtain ⟨u, l, r⟩ := q
      refine ⟨u, ?_, r⟩
      rcases l with ⟨l1, _⟩ | ⟨_, c, o, l2, l3, l4⟩
      · rw [h2] at l1; cases l1
      · exact .inr ⟨.inl h3, c, o, h4.trans l2, l3, l4⟩
  · exfalso
    have none_own : ∀ j xs, getS (.val X :: t) j ≠ .own xs := fun j xs q => by
      cases j with
      | zero => cases q
      | succ j =>
        have q' : getS t j = .own xs := q
        by_cases hjl : j < vs.length
        · obtain ⟨z, _, hz2⟩ := tg j vs[j] (by simp [hjl])
          rw [hz2] at q'; cases q'
        · rw [getS_len t j (by omega)] at q'; cases q'
    exact none_own j xs h1

open Classical in
theorem sl_comp {elt iter : Expr} {ifs : List Expr} {scope : Scope} {x : Str} {px pos : Pos} {d de : D} {dt : DB} {vs : List Nat} (ynames : List Str) (H : SE C n sc nm iter d) (He : SE C n (rl scope sc) (x :: ynames) elt de)
    (Ht : STs C n (rl scope sc) (x :: ynames) ifs dt) (hcell : ∀ y ∈ scope.names, y.2 ≠ .cell) (hkind : scope.kind = .function) (hnames : ∀ y ∈ scope.names, y.2 = .local → scope.names.lookup y.1 = some .local)
    (hx : scope.names.lookup x = some .local) (hx' : (rl scope sc).names.lookup x = some .local)
    (hv : ∀ (j i : Nat) y, vs[j]? = some i → ynames[j]? = some y → nm[i]? = some y ∧ sc.names.lookup y = some .cell ∧ (rl scope sc).names.lookup y = some .cell ∧ (y, NameKind.free) ∈ scope.names)
    (hfree : ∀ y, (y, NameKind.free) ∈ scope.names → ∃ j : Nat, ynames[j]? = some y) (hlen : vs.length = ynames.length)
    (hf : ∀ (ev : EV) z, foldedSetIterable iter (ev.env sc) z = pure z := by intro _ _; rfl) :
    SL C n sc nm (.ListComp elt [⟨.Name x px, iter, ifs, 0⟩] scope pos) (dComp d vs de dt) := by
  intro ev A h₀ P φ σ s zs ha F q
  unfold dComp at q
  split at q
  · rename_i xs hxs
    split at q
    · rename_i t hseen
      split at q
      · rename_i hb
        have hb' := blt_iff hb
        obtain ⟨tl, tg⟩ := seen_get hseen
        -- the cells of the captured names
        have hcl : ∀ y, (y, NameKind.free) ∈ scope.names → (ev.cl.lookup y).isSome = true := fun y hy => by
          obtain ⟨j, hj⟩ := hfree y hy
          have hjl : j < vs.length := by rw [hlen]; exact (List.getElem?_eq_some_iff.mp hj).1
          obtain ⟨h1, h2, h3, h4⟩ := hv j vs[j] y (by simp [hjl]) hj
          obtain ⟨z, hz1, hz2⟩ := tg j vs[j] (by simp [hjl])
          obtain ⟨m₀, as, S⟩ := F.sl
          have q := S.ok vs[j] y h1
          rw [hz1] at q
          obtain ⟨u, l, r⟩ := q
          rcases l with ⟨l1, _⟩ | ⟨_, c, o, l2, l3, l4⟩
          · rw [h2] at l1; cases l1
          · rw [l2]; rfl
        obtain ⟨cl, hclos, hcls⟩ := closureFor_of (env := ev.env sc) (scope := scope) hcl
        have hcell' : ∀ y ∈ scope.names, y.2 ≠ .cell := hcell
        rw [eval_ListComp]
        refine wpAny_comprehension_free (use := none) rfl (hf ev) hclos hkind hnames ?_
        show wpAny C.M A (eval iter (ev.env sc)) _ _ s
        refine one H ha F hxs fun a s₁ φ₁ X₁ S₁ F₁ R₁ => ?_
        cases R₁ with
        | @list ax vl k _ ho R =>
          have hL : s₁.heap.IsList ax vl.toArray := ⟨_, F₁.inn _ _ ho, rfl, _, rfl⟩
          refine wpAny_pyIter_list hL ?_
          have hI : s₁.heap.get? s₁.heap.objs.size = none := get_size _
          have hne : ax ≠ s₁.heap.objs.size := fun q => by have := F₁.inn _ _ ho; rw [q, hI] at this; cases this
          have W := Walks.list (prog := C.prog) (w := C.w) ha.1 s₁.heap.objs.size ax hne vl.toArray
          have hlv : vl.length = xs.length := R.len
          refine comp_block_walkC (RR := fun acc D => compPost (model C.prog C.w) A noE none (PostL φ s zs) acc D) W (by rw [List.size_toArray, sizeLine_eq]; omega)
            (fun v => decide (∃ z, Rd φ₁ v z ∧ dt (.val z :: t) = some true)) (fun v y => ∀ z, Rd φ₁ v z → ∃ i tk, y = .int i tk ∧ de (.val z :: t) = some (.int i)) hcell hkind hx
            ⟨⟨_, Heap.get?_push_size _ rfl, rfl, rfl⟩, hL.push _⟩ ?_ ?_ ?_
          · intro b hb
            show b < (s₁.heap.push _).objs.size
            rw [Heap.size_push]
            rcases List.mem_cons.mp hb with rfl | hb
            · exact Nat.lt_succ_self _
            · obtain ⟨o, ho', _⟩ := hL
              rw [List.mem_singleton.mp hb]
              exact Nat.lt_succ_of_lt (Heap.lt_size ho')
          · -- the turns
            have pre : ∀ (D : Addr) (v : Value) (s₃ : Shared) m₃, (s₁.heap.push { cls := .type "list_iterator", data := .fields #[.ref ax, .int 0 0] }).objs.size ≤ D → s₃.heap.Ns D m₃ → m₃ x = some v →
                (∀ b o, b ∉ [s₁.heap.objs.size] → (s₁.heap.push { cls := .type "list_iterator", data := .fields #[.ref ax, .int 0 0] }).get? b = some o → s₃.heap.get? b = some o) → ∀ z, Rd φ₁ v z →
                Fm C h₀ (fun b => ∃ o, h₀.get? b = some o) (ev.inner cl D) (rl scope sc) (x :: ynames) φ₁ (.val z :: t) s₃.heap := by
              intro D v s₃ m₃ hD hns hm hk z hr
              rw [Heap.size_push] at hD
              refine comp_frame (vs := vs) F₁ (I := s₁.heap.objs.size) ?_ hI (fun b o hb e => hk b o (by simpa using hb) (keep_push _ _ b o e)) hns hm hr hseen hx' (fun j i y h1 h2 => ?_) hlen
              · cases q : s₁.heap.get? D with
                | none => rfl
                | some o => exact absurd (Heap.lt_size q) (Nat.not_lt.mpr (Nat.le_of_succ_le hD))
              · obtain ⟨a1, a2, a3, a4⟩ := hv j i y h1 h2
                exact ⟨a1, a2, a3, hcls y a4⟩
            have item : ∀ (i : Nat) v, vl.toArray[i]? = some v → ∃ z ∈ xs, Rd φ₁ v z := fun i v e => R.mem v (by
              have : vl[i]? = some v := by simpa using e
              exact List.mem_of_getElem? this)
            refine ⟨fun D i v s₃ m₃ E' hD hv' hns hm hk htk => ?_, fun D i v s₃ m₃ E' hD hv' hp hns hm hk htk => ?_⟩
            · obtain ⟨z, hz, hr⟩ := item i v hv'
              obtain ⟨b, hb1, hb2⟩ := compK_all q z hz
              have Fz := pre D v s₃ m₃ hD hns hm hk z hr
              refine rule_post (Ht (ev.inner cl D) A h₀ _ φ₁ _ s₃ b ha Fz hb1) fun ok s₄ p => ?_
              obtain ⟨rfl, φ₄, X₄, h₄, tk₄, rfl⟩ := p
              refine ⟨?_, h₄, tk₄, rfl, X₄.keep⟩
              have : (∃ z, Rd φ₁ v z ∧ dt (.val z :: t) = some true) ↔ ok = true := by
                constructor
                · rintro ⟨z', hz1, hz2⟩
                  rw [Rd.inj hz1 hr, hb1] at hz2
                  exact Option.some.inj hz2
                · intro e
                  exact ⟨z, hr, by rw [hb1, e]⟩
              by_cases c : ∃ z, Rd φ₁ v z ∧ dt (.val z :: t) = some true
              · rw [this.mp c]; exact (decide_eq_true c).symm
              · have : ok = false := by
                  cases ok with
                  | false => rfl
                  | true => exact absurd (this.mpr rfl) c
                rw [this]; exact (decide_eq_false c).symm
            · obtain ⟨z, hz, hr⟩ := item i v hv'
              obtain ⟨b, hb1, hb2⟩ := compK_all q z hz
              obtain ⟨z', hz1, hz2⟩ := of_decide_eq_true hp
              rw [Rd.inj hz1 hr, hb1] at hz2
              obtain ⟨i', hi'⟩ := hb2 (Option.some.inj hz2)
              have Fz := pre D v s₃ m₃ hD hns hm hk z hr
              refine rule_post (He (ev.inner cl D) A h₀ _ φ₁ _ s₃ _ ha Fz hi') fun y s₄ p => ?_
              obtain ⟨φ₄, X₄, ⟨h₄, tk₄, rfl⟩, hr4⟩ := p
              refine ⟨fun z'' hz'' => ?_, h₄, tk₄, rfl, X₄.keep⟩
              rw [Rd.inj hz'' hr]
              cases hr4
              exact ⟨_, _, rfl, hi'⟩
          · intro D' D h' tk m' ys vs' hD' hD hDD hn' hl hpl hlen' hP hF hk
            refine ⟨m', hn', fun h'' hs'' => ?_⟩
            have evs : vs' = vl := by
              apply List.ext_getElem?
              intro j
              by_cases hj : j < vs'.length
              · have e1 := hP j vs'[j] (by simp [hj])
                rw [List.getElem?_eq_getElem hj, ← e1]; simp
              · rw [List.getElem?_eq_none (by omega), List.getElem?_eq_none (by rw [List.size_toArray] at hlen'; omega)]
            subst evs
            have out : ∀ φ', Rds φ' ys.toList zs := fun φ' => compK_out _ _ (fun v z b hr hb => by
                by_cases c : ∃ z, Rd φ₁ v z ∧ dt (.val z :: t) = some true
                · obtain ⟨z', h1, h2⟩ := id c
                  rw [Rd.inj h1 hr, hb] at h2
                  rw [decide_eq_true c, Option.some.inj h2]
                · rw [decide_eq_false c]
                  cases b with
                  | false => rfl
                  | true => exact absurd ⟨z, hr, hb⟩ c) (fun v z y hr hf i hi => by
                obtain ⟨i', tk', h1, h2⟩ := hf z hr
                rw [hi] at h2
                cases h2
                exact ⟨tk', h1⟩) R q hF
            have nI : ∀ b o, s₁.heap.get? b = some o → b ≠ s₁.heap.objs.size := fun b o e q => by rw [q, hI] at e; cases e
            have nD : ∀ b o, s₁.heap.get? b = some o → b ≠ D := fun b o e q => by
              have := keep_push s₁.heap { cls := .type "list_iterator", data := .fields #[.ref ax, .int 0 0] } b o e
              rw [q, hD] at this; cases this
            have keep : ∀ b o, s₁.heap.get? b = some o → h''.get? b = some o := fun b o e =>
              (hs''.2 b (nD b o e)).trans (hk b o (by simpa using nI b o e) (keep_push _ _ b o e))
            have hD1 : s₁.heap.get? D' = none := by
              cases q : s₁.heap.get? D' with
              | none => rfl
              | some o => have := keep_push s₁.heap { cls := .type "list_iterator", data := .fields #[.ref ax, .int 0 0] } D' o q; rw [hD'] at this; cases this
            refine ⟨φ₁, D', ys.toList, X₁.trans (.of_keep F₁.inn keep), S₁.mk' h'' tk, rfl, ?_, ?_, ?_, out φ₁⟩
            · cases q : s.heap.get? D' with
              | none => rfl
              | some o => rw [X₁.keep _ _ q] at hD1; cases hD1
            · cases q : φ₁ D' with
              | none => rfl
              | some o => rw [F₁.inn _ _ q] at hD1; cases hD1
            · have := hpl.extBut hs''.extBut hDD
              simpa using this
      · cases q
    · cases q
  · cases q
end
end Mine
end

section
open PySem PySem.W PySem.Calls PyProof.Rows PySem.Spec PyProof.V
namespace Mine

theorem bindL_other {kindOf : Str → Option NameKind} : ∀ (binds : List (Str × Value)) (m : Str → Option Value) (x : Str), (∀ b ∈ binds, b.1 ≠ x) → bindL kindOf binds m x = m x
  | [], m, x, _ => rfl
  | (y, v) :: r, m, x, h => by
    rw [bindL, bindL_other r _ x fun b hb => h b (.tail _ hb)]
    have hne := h (y, v) (.head _)
    split
    · simp [Ne.symm hne]
    · rfl
theorem bindC_other {kindOf : Str → Option NameKind} : ∀ (binds : List (Str × Value)) (m : Str → Option Value) (x : Str), (∀ b ∈ binds, b.1 ≠ x) → bindC kindOf binds m x = m x
  | [], m, x, _ => rfl
  | (y, v) :: r, m, x, h => by
    rw [bindC, bindC_other r _ x fun b hb => h b (.tail _ hb)]
    have hne := h (y, v) (.head _)
    split
    · rfl
    · simp [Ne.symm hne]
theorem bindL_get {kindOf : Str → Option NameKind} : ∀ (binds : List (Str × Value)) (m : Str → Option Value) (x : Str) (v : Value), (binds.map (·.1)).Nodup → (x, v) ∈ binds → kindOf x = some .local → bindL kindOf binds m x = some v
  | (y, u) :: r, m, x, v, hnd, hm, hk => by
    rw [List.map_cons, List.nodup_cons] at hnd
    rw [bindL]
    rcases List.mem_cons.mp hm with e | hm
    · cases e
      rw [if_pos hk, bindL_other r _ y fun b hb q => hnd.1 (q ▸ List.mem_map.mpr ⟨b, hb, rfl⟩)]
      simp
    · exact bindL_get r _ x v hnd.2 hm hk
theorem bindC_get {kindOf : Str → Option NameKind} : ∀ (binds : List (Str × Value)) (m : Str → Option Value) (x : Str) (v : Value), (binds.map (·.1)).Nodup → (x, v) ∈ binds → kindOf x ≠ some .local → bindC kindOf binds m x = some v
  | (y, u) :: r, m, x, v, hnd, hm, hk => by
    rw [List.map_cons, List.nodup_cons] at hnd
    rw [bindC]
    rcases List.mem_cons.mp hm with e | hm
    · cases e
      rw [if_neg hk, bindC_other r _ y fun b hb q => hnd.1 (q ▸ List.mem_map.mpr ⟨b, hb, rfl⟩)]
      simp
    · exact bindC_get r _ x v hnd.2 hm hk

section
variable {C : Cx} {n : Nat}

/-- a def's contract from its body -/
theorem sf_body {d : DefRec} {nm : List Str} {b : DS} {np k : Nat} (hd : d ∈ recsOf C.p) (HB : SS C n d.scope nm d.body b) (hnp : np ≤ nm.length) (hnd : nm.Nodup)
    (hbind : ∀ pm code doc (vs : List Value), vs.length = np → bindArgs (docDef d.name d.params d.body d.scope pm code doc) ⟨vs, []⟩ = pure ((nm.take np).zip vs))
    (hkind : ∀ (i : Nat) x, i < np → nm[i]? = some x → d.scope.names.lookup x = some .local ∨ (d.scope.names.lookup x = some .cell ∧ ((cellsFrom 0 d.scope.names []).lookup x).isSome = true))
    (hco : d.scope.isCoroutine = false) (hgen : d.scope.isGenerator = false) (hk : d.scope.kind = .function) : SF C (n + 1) d.name (fn np k b) := by
  refine ⟨⟨d, hd, rfl⟩, fun a A s φ vs xs x hmg ha G hinn R q => ?_⟩
  unfold fn at q
  split at q
  · rename_i hlen
    have hlx : xs.length = np := by rwa [Nat.beq_eq] at hlen
    have hlv : vs.length = np := R.len.trans hlx
    obtain ⟨a', o, pm, code, doc, h1, h2, h3, h4⟩ := G.fn d hd
    rw [hmg] at h1
    cases h1
    have hcn : ∀ L, (cellsFrom L d.scope.names []).map (·.1) = (cellsFrom 0 d.scope.names []).map (·.1) := fun L => cellsFrom_names d.scope.names L 0 [] [] rfl
    have look_some : ∀ L x, ((cellsFrom 0 d.scope.names []).lookup x).isSome = true → ((cellsFrom L d.scope.names []).lookup x).isSome = true := by
      have gen : ∀ (c1 c2 : List (Str × Addr)) x, c1.map (·.1) = c2.map (·.1) → (c1.lookup x).isSome = true → (c2.lookup x).isSome = true := by
        intro c1
        induction c1 with
        | nil => intro c2 x e h; simp at h
        | cons p r ih =>
          intro c2 x e h
          cases c2 with
          | nil => simp at e
          | cons p2 r2 =>
            simp only [List.map_cons, List.cons.injEq] at e
            rw [List.lookup_cons] at h ⊢
            rw [← e.1]
            cases hb : x == p.1 with
            | true => rfl
            | false => rw [hb] at h; exact ih r2 x e.2 h
      exact fun L x h => gen _ _ x (hcn L).symm h
    have nodupT : (((nm.take np).zip vs).map (·.1)).Nodup := by
      have e : ((nm.take np).zip vs).map (·.1) = nm.take np := by
        rw [List.map_fst_zip]
        rw [List.length_take, hlv]; omega
      rw [e]
      exact hnd.sublist (List.take_sublist _ _)
    have mem_of : ∀ (i : Nat) x v, i < np → nm[i]? = some x → vs[i]? = some v → (x, v) ∈ (nm.take np).zip vs := by
      intro i x v hi hx hv
      have e : ((nm.take np).zip vs)[i]? = some (x, v) := by
        rw [List.getElem?_zip_eq_some]
        exact ⟨by rw [List.getElem?_take_of_lt hi]; exact hx, hv⟩
      exact List.mem_of_getElem? e
    refine wpAny_call ?_
    refine codeAny_call_cells ha.room h2 h3 G.nolimit h4 rfl (hbind pm code doc vs hlv) rfl ?_ (fun s₁ X => ?_) hco hgen hk
    · intro y hy
      obtain ⟨i, hi⟩ := List.getElem?_of_mem hy
      rw [List.getElem?_zip_eq_some] at hi
      have hip : i < np := by
        have := (List.getElem?_eq_some_iff.mp hi.2).1
        omega
      have hx : nm[i]? = some y.1 := by have := hi.1; rwa [List.getElem?_take_of_lt hip] at this
      rcases hkind i y.1 hip hx with h | ⟨h, h'⟩
      · exact .inl h
      · exact .inr ⟨h, look_some _ _ h'⟩
    · obtain ⟨h₁, tk, rfl, keep⟩ := X.done
      have hL0 : s.heap.get? s.heap.objs.size = none := get_size _
      have above : ∀ y c, (cellsFrom (s.heap.objs.size + 1) d.scope.names []).lookup y = some c → s.heap.objs.size < c := fun y c e => X.above y c (mem_of_lookup e)
      have fresh : ∀ c, s.heap.objs.size < c → s.heap.get? c = none := fun c hc => by
        cases q : s.heap.get? c with
        | none => rfl
        | some o => exact absurd (Heap.lt_size q) (Nat.not_lt.mpr (Nat.le_of_lt hc))
      -- the cells are frozen
      let φ₁ : PMap := fun b => if (cellsFrom (s.heap.objs.size + 1) d.scope.names []).any (fun p => p.2 == b) then h₁.get? b else φ b
      have cellIn : ∀ y c, (cellsFrom (s.heap.objs.size + 1) d.scope.names []).lookup y = some c → φ₁ c = h₁.get? c := fun y c e => by
        have : (cellsFrom (s.heap.objs.size + 1) d.scope.names []).any (fun p => p.2 == c) = true := List.any_eq_true.mpr ⟨_, mem_of_lookup e, by simp⟩
        simp only [φ₁, this, if_true]
      have below : ∀ b o, s.heap.get? b = some o → φ₁ b = φ b := fun b o e => by
        have : (cellsFrom (s.heap.objs.size + 1) d.scope.names []).any (fun p => p.2 == b) = false := by
          rw [List.any_eq_false]
          intro p hp hb
          have := X.above p.1 p.2 hp
          rw [eq_of_beq hb] at this
          have := fresh b this
          rw [e] at this; cases this
        simp only [φ₁, this]; rfl
      have inn₁ : ∀ b o, φ₁ b = some o → h₁.get? b = some o := fun b o e => by
        by_cases hb : (cellsFrom (s.heap.objs.size + 1) d.scope.names []).any (fun p => p.2 == b) = true
        · simp only [φ₁, hb, if_true] at e; exact e
        · simp only [φ₁, hb] at e; exact keep b o (hinn b o e)
      have sub₁ : ∀ b o, φ b = some o → φ₁ b = some o := fun b o e => (below b o (hinn b o e)).trans e
      let ev : EV := { L := s.heap.objs.size, cl := cellsFrom (s.heap.objs.size + 1) d.scope.names [], q := d.name ++ ".<locals>.", fn := some a, cd := code, fr := some s.heap.objs.size }
      have hLφ : φ₁ s.heap.objs.size = none := by
        have : (cellsFrom (s.heap.objs.size + 1) d.scope.names []).any (fun p => p.2 == s.heap.objs.size) = false := by
          rw [List.any_eq_false]
          intro p hp hb
          have := X.above p.1 p.2 hp
          rw [eq_of_beq hb] at this
          exact Nat.lt_irrefl _ this
        simp only [φ₁, this]
        cases q : φ s.heap.objs.size with
        | none => simp
        | some o => rw [hinn _ _ q] at hL0; cases hL0
      have F : Fm C s.heap (fun b => ∃ o, s.heap.get? b = some o) ev d.scope nm φ₁ (xs.map .val ++ List.replicate k .free) h₁ := by
        refine ⟨G, keep, fun b o e => ⟨o, e⟩, fun b hb => ?_, fun hb => ?_, hLφ, inn₁, _, fun _ => 0, X.toInCall.ns, fun i y hy => ?_, fun i j zs ws hi hj h1 h2 hij => ?_⟩
        · obtain ⟨o, ho⟩ := hb
          exact ⟨o, keep b o ho⟩
        · obtain ⟨o, ho⟩ := hb
          have ho' : s.heap.get? s.heap.objs.size = some o := ho
          rw [hL0] at ho'; cases ho'
        · by_cases hi : i < np
          · have e1 : getS (xs.map .val ++ List.replicate k .free) i = .val xs[i] := by
              have gen : ∀ (zs : List V) (r : St) (i : Nat) (h : i < zs.length), getS (zs.map .val ++ r) i = .val zs[i] := by
                intro zs
                induction zs with
                | nil => intro r i h; simp at h
                | cons z zs ih =>
                  intro r i h
                  cases i with
                  | zero => rfl
                  | succ i => exact ih r i (by simpa using h)
              exact gen xs _ i (by omega)
            rw [e1]
            obtain ⟨v, hv, hr⟩ := R.get (i := i) (x := xs[i]) (by simp)
            have hm := mem_of i y v hi hy hv
            refine ⟨v, ?_, hr.mono sub₁⟩
            rcases hkind i y hi hy with h | ⟨h, h'⟩
            · exact .inl ⟨h, bindL_get (kindOf := (callEnvC (docDef d.name d.params d.body d.scope pm code doc) s.heap.objs.size a).kindOf) _ _ y v nodupT hm h⟩
            · have hnl : (callEnvC (docDef d.name d.params d.body d.scope pm code doc) s.heap.objs.size a).kindOf y ≠ some .local := by
                show d.scope.names.lookup y ≠ some .local
                rw [h]; decide
              have hC := bindC_get (kindOf := (callEnvC (docDef d.name d.params d.body d.scope pm code doc) s.heap.objs.size a).kindOf) _ (fun _ => none) y v nodupT hm hnl
              obtain ⟨c, hc⟩ := Option.isSome_iff_exists.mp (look_some (s.heap.objs.size + 1) y h')
              have hcell := X.cell y c hc
              rw [hC] at hcell
              obtain ⟨o', ho', hd'⟩ := hcell
              exact .inr ⟨.inl h, c, o', hc, (cellIn y c hc).trans ho', hd'⟩
          · have e1 : getS (xs.map .val ++ List.replicate k .free) i = .free := by
              have gen : ∀ (zs : List V) (i : Nat), zs.length ≤ i → getS (zs.map .val ++ List.replicate k .free) i = .free := by
                intro zs
                induction zs with
                | nil =>
                  intro i _
                  have rep : ∀ (k i : Nat), getS (List.replicate k .free) i = .free := by
                    intro k
                    induction k with
                    | zero => intro i; rfl
                    | succ k ih => intro i; cases i with | zero => rfl | succ i => exact ih i
                  exact rep k i
                | cons z zs ih =>
                  intro i h
                  cases i with
                  | zero => simp at h
                  | succ i => exact ih i (by simpa using h)
              exact gen xs i (by omega)
            rw [e1]; trivial
        · exfalso
          have none_own : ∀ (zs : List V) (i : Nat) ws, getS (zs.map .val ++ List.replicate k .free) i ≠ .own ws := by
            intro zs
            induction zs with
            | nil =>
              intro i ws
              have rep : ∀ (k i : Nat), getS (List.replicate k .free) i = .free := by
                intro k
                induction k with
                | zero => intro i; rfl
                | succ k ih => intro i; cases i with | zero => rfl | succ i => exact ih i
              show getS (List.replicate k .free) i ≠ .own ws
              rw [rep]; intro h; cases h
            | cons z zs ih =>
              intro i ws
              cases i with
              | zero => intro h; cases h
              | succ i => exact ih i ws
          exact none_own xs i zs h1
      have fin : ∀ r f s', PostS C s.heap (fun b => ∃ o, s.heap.get? b = some o) ev d.scope nm φ₁ { s with heap := h₁, toks := tk } r f s' → (match r with | .ret v => some v | .nxt _ => some .none) = some x →
          PostE φ s x (match f with | .ret v => v | _ => .none) s' := by
        rintro r f s' ⟨φ', aft, Sh', hr⟩ hx
        have ext : Ext s.heap φ s'.heap φ' := by
          refine ⟨fun b o e => ?_, fun b o e => ?_, aft.inn⟩
          · rw [aft.keep b ⟨o, e⟩]; exact keep b o e
          · rw [aft.below b ⟨o, e⟩]; exact below b o e
        have sh : Sh s s' := Sh.trans (s' := { s with heap := h₁, toks := tk }) ⟨h₁, tk, rfl⟩ Sh'
        cases r with
        | nxt σ' =>
          cases hx
          obtain ⟨rfl, _⟩ := hr
          exact ⟨φ', ext, sh, .none⟩
        | ret v =>
          cases hx
          obtain ⟨v', rfl, hv⟩ := hr
          exact ⟨φ', ext, sh, hv⟩
      have hn1 : AOK n (A.deeper (ev.env d.scope)) := ha.deeper
      split at q
      · rename_i v hv
        refine rule_post (HB ev _ s.heap _ φ₁ _ { s with heap := h₁, toks := tk } _ hn1 F hv) fun f s' p => ?_
        have := fin _ f s' p q
        cases f <;> exact this
      · rename_i σ' hv
        refine rule_post (HB ev _ s.heap _ φ₁ _ { s with heap := h₁, toks := tk } _ hn1 F hv) fun f s' p => ?_
        have := fin _ f s' p q
        cases f <;> exact this
      · cases q
  · cases q
end
end Mine
end

section
open PySem PySem.W PySem.Calls PyProof.Rows PySem.Spec PyProof.V
open AutoSeq1 (wpAny_loadPart')
open MeetsSeq MeetsSeq2 MeetsSeq3 SeqRoads2 SeqAt
namespace Mine

theorem ltVs_cons {x y : V} {xs ys : List V} {r : Bool} (h : ltVs (x :: xs) (y :: ys) = some r) : ∃ a b, x = .int a ∧ y = .int b ∧ (if a = b then ltVs xs ys = some r else r = decide (a < b)) := by
  cases x <;> cases y <;> simp [ltVs] at h
  rename_i a b
  refine ⟨a, b, rfl, rfl, ?_⟩
  rw [eqI_eq, ltI_eq] at h
  by_cases c : a = b
  · simpa [c] using h
  · simp [c] at h ⊢; exact h.symm

theorem lt_loop (l b : Addr) (vs ws : List Value) (n n2 : Nat) {φ : PMap} {xs ys : List V} (R1 : Rds φ vs xs) (R2 : Rds φ ws ys) (r : Bool) (k : Nat) :
    ∀ i : Nat, xs.length - i = k → i ≤ xs.length → i ≤ ys.length → ltVs (xs.drop i) (ys.drop i) = some r → Meets (Builtin.«list.__eq__.loop» ⟨[.ref l, .ref b, rawInt i, rawInt 0], []⟩)
      (fun A R s => s.heap.get? l = some { cls := .type "list", data := .seq vs.toArray n } ∧ s.heap.get? b = some { cls := .type "list", data := .seq ws.toArray n2 } ∧ R (.ok (.ret (.bool r))) s) := by
  have l1 := R1.len
  have l2 := R2.len
  induction k with
  | zero =>
    intro i hk hi1' hi2' hr prog w A R s h
    obtain ⟨hp, g, d, tk, os⟩ := s; obtain ⟨hl, hb, h⟩ := h
    wp_walk using wpAny_loadPart' hl, wpAny_loadPart' hb
    have hi1 : vs.toArray[((i : Nat) : Int).toNat]? = none := by simp; omega
    rw [hi1]
    have hd : xs.drop i = [] := by simp; omega
    rw [hd] at hr
    wp_walk using wpAny_loadPart' hl, wpAny_loadPart' hb
    show R (.ok (.ret (.bool (decide (vs.toArray.size < ws.toArray.size))))) _
    have e : decide (vs.toArray.size < ws.toArray.size) = r := by
      rw [List.size_toArray, List.size_toArray, l1, l2]
      cases hy : ys.drop i with
      | nil =>
        rw [hy] at hr
        have : r = false := by simpa [ltVs] using hr.symm
        have hlen : ys.length ≤ i := by simpa using hy
        rw [this, decide_eq_false_iff_not]; omega
      | cons y r' =>
        rw [hy] at hr
        have : r = true := by
          simp [ltVs] at hr; exact hr
        have hlen : (ys.drop i).length = r'.length + 1 := by rw [hy]; rfl
        rw [List.length_drop] at hlen
        rw [this, decide_eq_true_iff]; omega
    rw [e]; exact h
  | succ k ih =>
    intro i hk hi1' hi2' hr prog w A R s h
    obtain ⟨hp, g, d, tk, os⟩ := s; obtain ⟨hl, hb, h⟩ := h
    wp_walk using wpAny_loadPart' hl, wpAny_loadPart' hb
    have hlt : i < xs.length := by omega
    have hd : xs.drop i = xs[i] :: xs.drop (i + 1) := List.drop_eq_getElem_cons hlt
    obtain ⟨v, hv, rv⟩ := R1.get (i := i) (x := xs[i]) (by simp)
    have hi1 : vs.toArray[((i : Nat) : Int).toNat]? = some v := by simpa using hv
    rw [hd] at hr
    by_cases hlt2 : i < ys.length
    · have hd2 : ys.drop i = ys[i] :: ys.drop (i + 1) := List.drop_eq_getElem_cons hlt2
      obtain ⟨u, hu, ru⟩ := R2.get (i := i) (x := ys[i]) (by simp)
      have hi2 : ws.toArray[((i : Nat) : Int).toNat]? = some u := by simpa using hu
      rw [hd2] at hr
      obtain ⟨a, c, ea, ec, hac⟩ := ltVs_cons hr
      rw [ea] at rv
      rw [ec] at ru
      cases rv
      cases ru
      rw [hi1, hi2]
      refine wpAny_bind (wpAny_eqBool_int ?_)
      have hc : ((i : Int) + 1) = ((i + 1 : Nat) : Int) := by push_cast; rfl
      by_cases e : a = c
      · rw [if_pos e] at hac
        have eb : (a == c) = true := by simpa using e
        rw [eb]
        wp_walk
        rw [hc]
        exact ⟨plainId_quiet plain_eq_loop _, codeAny_builtin entry_eq_loop (by
          rw [Around.under_plainId plain_eq_loop _]
          exact ih (i + 1) (by omega) (by omega) (by omega) hac prog w A R _ ⟨hl, hb, h⟩)⟩
      · rw [if_neg e] at hac
        have eb : (a == c) = false := by simpa using e
        rw [eb]
        wp_walk using wpAny_loadPart' hl, wpAny_loadPart' hb
        rw [hi1, hi2]
        subst hac
        refine wpAny_bind (m := richCompare .Lt _ _) (PyProof.Rows.lt_int ?_)
        exact wpAny_pure h
    · have hd2 : ys.drop i = [] := by simp; omega
      have hi2 : ws.toArray[((i : Nat) : Int).toNat]? = none := by simp; omega
      rw [hd2] at hr
      rw [hi1, hi2]
      wp_walk using wpAny_loadPart' hl, wpAny_loadPart' hb
      show R (.ok (.ret (.bool (decide (vs.toArray.size < ws.toArray.size))))) _
      have e : decide (vs.toArray.size < ws.toArray.size) = r := by
        have : r = false := by
          cases hx : xs[i] <;> rw [hx] at hr <;> simp [ltVs] at hr
          exact hr
        rw [List.size_toArray, List.size_toArray, l1, l2, this, decide_eq_false_iff_not]; omega
      rw [e]; exact h
end Mine
end

section
open PySem PySem.W PySem.Calls PyProof.Rows PySem.Spec PyProof.V
open AutoSeq1 (wpAny_loadPart')
open MeetsSeq MeetsSeq2 MeetsSeq3 SeqRoads2 SeqAt
namespace Mine

theorem list_lt (l b : Addr) (vs ws : List Value) (n n2 : Nat) {φ : PMap} {xs ys : List V} (R1 : Rds φ vs xs) (R2 : Rds φ ws ys) (r : Bool) (hr : ltVs xs ys = some r) :
    Meets (Builtin.«list.__lt__» ⟨[.ref l, .ref b], []⟩)
      (fun A R s => s.heap.get? l = some { cls := .type "list", data := .seq vs.toArray n } ∧ s.heap.get? b = some { cls := .type "list", data := .seq ws.toArray n2 } ∧ R (.ok (.ret (.bool r))) s) := by
  intro prog w A R s h
  obtain ⟨hp, g, d, tk, os⟩ := s; obtain ⟨hl, hb, h⟩ := h
  have f3 := AutoSeq1.sub_list_list
  wp_walk using wpAny_loadPart' hl, wpAny_loadPart' hb
  exact ⟨plainId_quiet plain_eq_loop _, codeAny_builtin entry_eq_loop (by
    rw [Around.under_plainId plain_eq_loop _]
    exact lt_loop l b vs ws n n2 R1 R2 r _ 0 rfl (Nat.zero_le _) (Nat.zero_le _) (by simpa using hr) prog w A R _ ⟨hl, hb, h⟩)⟩

theorem ltK_inv {x y : V} {r : Bool} (h : ltK x y = some r) : ∃ a xs b ys, x = .tuple [.int a, .list xs] ∧ y = .tuple [.int b, .list ys] ∧
    (if a = b then kqdOk 9 (.list xs) = true ∧ kqdOk 9 (.list ys) = true ∧ ∃ c, eqVs xs ys = some c ∧ (if c = true then r = false else ltVs xs ys = some r) else r = decide (a < b)) := by
  unfold ltK at h
  split at h
  · rename_i a xs b ys
    refine ⟨a, xs, b, ys, rfl, rfl, ?_⟩
    rw [eqI_eq, ltI_eq] at h
    by_cases c : a = b
    · rw [if_pos c]
      rw [if_pos (by simpa using c)] at h
      split at h
      · rename_i hk
        rw [Bool.and_eq_true] at hk
        refine ⟨hk.1, hk.2, ?_⟩
        split at h
        · cases h; exact ⟨true, by assumption, by simp⟩
        · exact ⟨false, by assumption, by simpa using h⟩
        · cases h
      · cases h
    · rw [if_neg c]
      rw [if_neg (by simpa using c)] at h
      exact (Option.some.inj h).symm
  · cases h

section
variable {C : Cx} {n : Nat}

theorem lt_rule {A : Around} {s : Shared} {E : Value → Shared → Prop} {Q : Bool → Shared → Prop} {a b : Addr} {vs ws : List Value} {n n2 : Nat} {φ : PMap} {xs ys : List V} {r : Bool}
    (h1 : s.heap.get? a = some { cls := .type "list", data := .seq vs.toArray n }) (h2 : s.heap.get? b = some { cls := .type "list", data := .seq ws.toArray n2 }) (R1 : Rds φ vs xs) (R2 : Rds φ ws ys) (hr : ltVs xs ys = some r)
    (hu : A.units < cLine) (h : Q r s) : wpAny C.M A (oneLt' false (.ref a) (.ref b)) Q E s := by
  refine kat_one _ _ ?_
  show wpAny C.M A (richCompare .Lt (.ref a) (.ref b)) _ E s
  exact richCompare_meets_room (op := .Lt) ⟨_, h1, rfl⟩ ⟨_, h2, rfl⟩ PySem.F.slot_list_lt PySem.F.entry_list_lt (PySem.F.args_list_lt_2 _ _) (list_lt a b vs ws n n2 R1 R2 r hr) ⟨h1, h2, by simp, h⟩ hu

theorem key_lt {A : Around} {s : Shared} {E : Value → Shared → Prop} {Q : Bool → Shared → Prop} {u v : Value} {φ : PMap} {x y : V} {r : Bool} (ha : AOK n A) (hi : ∀ a o, φ a = some o → s.heap.get? a = some o)
    (R1 : Rd φ u x) (R2 : Rd φ v y) (hr : ltK x y = some r) (h : Q r s) : wpAny C.M A (keyLt' (tuples' true) u v) Q E s := by
  obtain ⟨a, xs, b, ys, rfl, rfl, hc⟩ := ltK_inv hr
  cases R1 with
  | @tuple p vs₁ n₁ _ o₁ r₁ =>
  cases R2 with
  | @tuple q vs₂ n₂ _ o₂ r₂ =>
  cases r₁ with
  | cons ra r₁ =>
  cases r₁ with
  | cons rx r₁ =>
  cases r₁
  cases r₂ with
  | cons rb r₂ =>
  cases r₂ with
  | cons ry r₂ =>
  cases r₂
  cases ra
  cases rb
  refine kat_lt (hi _ _ o₁) rfl (hi _ _ o₂) rfl (kat_cons (wpAny_eqBool_int ?_))
  by_cases c : a = b
  · rw [if_pos c] at hc
    have eb : (a == b) = true := by simpa using c
    rw [eb]
    obtain ⟨k1, k2, d, hd, hc⟩ := hc
    refine kat_yes (kat_cons ?_)
    have rx' := rx
    have ry' := ry
    obtain ⟨as, ax⟩ := rx.reads hi
    obtain ⟨bs, bx⟩ := ry.reads hi
    have l1 := kqd_lay 9 _ k1
    have l2 := kqd_lay 9 _ k2
    have hu := ha.units
    refine eqBoolOverData _ _ _ _ _ _ _ _ _ _ _ _ ax bx l1.1 l2.1 (by have := l1.2; have := Nat.min_le_left (kqdP (.list xs)).depth (kqdP (.list ys)).depth; omega) ?_
    rw [eqv_of k1 k2 hd]
    cases d with
    | true =>
      simp only [if_true] at hc
      subst hc
      exact kat_yes (kat_nil (by simpa using h))
    | false =>
      simp only [Bool.false_eq_true, if_false] at hc
      cases rx' with
      | list m1 q1 =>
      cases ry' with
      | list m2 q2 =>
      refine kat_no ?_
      have e0 : (true && (0 + 1 == 0)) = false := by decide
      rw [e0]
      exact lt_rule (hi _ _ m1) (hi _ _ m2) q1 q2 hc (by omega) h
  · rw [if_neg c] at hc
    have eb : (a == b) = false := by simpa using c
    rw [eb]
    refine kat_no ?_
    have e0 : (true && (0 == 0)) = true := by decide
    rw [e0]
    subst hc
    exact oneLt_int h
end
end Mine
end

section
open PySem PySem.W PySem.Calls PyProof.Rows PySem.Spec PyProof.V
namespace Mine

theorem Ext.upd {h h' : Heap} {φ φ' : PMap} {a : Addr} (g : Obj → Obj) (X : Ext h φ h' φ') (hn : h.get? a = none) (hp : φ' a = none) : Ext h φ (h'.update a g) φ' := by
  refine ⟨fun b o e => ?_, X.below, fun b o e => ?_⟩
  · rw [Heap.get?_update_ne _ _ _ _ (fun q => by rw [q, hn] at e; cases e)]; exact X.keep b o e
  · rw [Heap.get?_update_ne _ _ _ _ (fun q => by rw [q, hp] at e; cases e)]; exact X.inn b o e
theorem Ext.psh {h h' : Heap} {φ φ' : PMap} (o : Obj) (X : Ext h φ h' φ') : Ext h φ (h'.push o) φ' := X.trans (.of_keep X.inn (keep_push _ _))
theorem Ext.size {h h' : Heap} {φ φ' : PMap} (X : Ext h φ h' φ') : h.get? h'.objs.size = none ∧ φ' h'.objs.size = none := by
  have hn' : h'.get? h'.objs.size = none := get_size _
  constructor
  · cases q : h.get? h'.objs.size with
    | none => rfl
    | some o => rw [X.keep _ _ q] at hn'; cases hn'
  · cases q : φ' h'.objs.size with
    | none => rfl
    | some o => rw [X.inn _ _ q] at hn'; cases hn'

theorem kas_go {α : Type} {ask : Nat → Nat → (Bool → Shared → Prop) → Shared → Prop} {cmp : Nat → Nat → Option Bool} {G : α → Shared → Prop} {s : Shared}
    (h : ∀ i j b (K : Bool → Shared → Prop), cmp i j = some b → K b s → ask i j K s) : ∀ (t : KasT α) (p : α), kasRun cmp t = some p → G p s → t.kasWp ask G s
  | .ret a, p, q, g => by
    simp only [kasRun, Option.some.injEq] at q
    subst q; exact g
  | .ask i j k, p, q, g => by
    unfold kasRun at q
    split at q
    · exact h i j true _ (by assumption) (kas_go h (k true) p q g)
    · exact h i j false _ (by assumption) (kas_go h (k false) p q g)
    · cases q

theorem keysK_len {F : List V → Option V} : ∀ {xs ks : List V}, keysK F xs = some ks → ks.length = xs.length
  | [], ks, h => by simp [keysK] at h; subst h; rfl
  | x :: r, ks, h => by
    unfold keysK at h
    split at h
    · split at h
      · rename_i ks' hk
        cases h
        rw [List.length_cons, List.length_cons, keysK_len hk]
      · cases h
    · cases h
theorem keysK_get {F : List V → Option V} : ∀ {xs ks : List V}, keysK F xs = some ks → ∀ {i : Nat} {x : V}, xs[i]? = some x → ∃ k ys, F [x] = some (.tuple [.int k, .list ys]) ∧ ks[i]? = some (.tuple [.int k, .list ys])
  | [], ks, h, i, x, e => by simp at e
  | y :: r, ks, h, i, x, e => by
    unfold keysK at h
    split at h
    · rename_i k ys hF
      split at h
      · rename_i ks' hk
        cases h
        cases i with
        | zero => simp at e; subst e; exact ⟨k, ys, hF, rfl⟩
        | succ i => simpa using keysK_get hk (i := i) (by simpa using e)
      · cases h
    · cases h
theorem keys_shape {F : List V → Option V} : ∀ {xs ks : List V}, keysK F xs = some ks → ∀ {k}, k ∈ ks → ∃ i ys, k = .tuple [.int i, .list ys]
  | [], ks, h, k, e => by simp [keysK] at h; subst h; cases e
  | y :: r, ks, h, k, e => by
    unfold keysK at h
    split at h
    · rename_i k' ys hF
      split at h
      · rename_i ks' hk
        cases h
        rcases List.mem_cons.mp e with rfl | e
        · exact ⟨_, _, rfl⟩
        · exact keys_shape hk e
      · cases h
    · cases h

theorem Rds.pick {φ : PMap} {vs : List Value} {xs : List V} (R : Rds φ vs xs) : ∀ {p : List Nat} {ys : List V}, pickL xs p = some ys → Rds φ (p.map fun i => vs.getD i Value.none) ys
  | [], ys, h => by simp [pickL] at h; subst h; exact .nil
  | i :: p, ys, h => by
    unfold pickL at h
    split at h
    · rename_i x hx
      split at h
      · rename_i ys' hy
        cases h
        rw [getL_eq] at hx
        obtain ⟨v, hv, r⟩ := R.get hx
        refine .cons ?_ (Rds.pick R hy)
        show Rd φ (vs.getD i Value.none) x
        rw [List.getD_eq_getElem?_getD, hv]
        exact r
      · cases h
    · cases h

theorem kat_tups {φ : PMap} {h : Heap} (hi : ∀ a o, φ a = some o → h.get? a = some o) : ∀ {vs : List Value} {ks : List V}, Rds φ vs ks → (∀ k ∈ ks, ∃ i ys, k = .tuple [.int i, .list ys]) →
    ∃ fs : List Value, KatTups h vs fs ∧ fs.length = vs.length ∧ ∀ v ∈ fs, ∃ i t, v = .int i t
  | _, _, .nil, _ => ⟨[], .nil, rfl, fun v hv => by cases hv⟩
  | _, _, .cons (v := v) r rs, hs => by
    obtain ⟨fs, t, hl, hf⟩ := kat_tups hi rs fun k hk => hs k (.tail _ hk)
    obtain ⟨i, ys, rfl⟩ := hs _ (.head _)
    cases r with
    | tuple m q =>
      cases q with
      | cons qi q =>
        cases qi with
        | int _ tk =>
          refine ⟨.int i tk :: fs, .cons (hi _ _ m) rfl rfl (by simp) t, by rw [List.length_cons, List.length_cons, hl], fun v hv => ?_⟩
          rcases List.mem_cons.mp hv with rfl | hv
          · exact ⟨_, _, rfl⟩
          · exact hf v hv

section
variable {C : Cx} {n : Nat} {sc : Scope} {nm : List Str}

/-- where the sorting stands -/
structure So (φ : PMap) (s : Shared) (φ' : PMap) (s' : Shared) (D kS : Addr) (e1 : Nat) : Prop where
  ext : Ext s.heap φ s'.heap φ'
  sh : Sh s s'
  nD : s.heap.get? D = none
  nK : s.heap.get? kS = none
  pD : φ' D = none
  pK : φ' kS = none
  ne : kS ≠ D
  hD : s'.heap.get? D = some (seqObj "list" #[] e1)

theorem So.step {φ φ' φ'' : PMap} {s s' s'' : Shared} {D kS : Addr} {e1 : Nat} {kA : Array Value} {e : Nat} (S : So φ s φ' s' D kS e1) (hK : s'.heap.get? kS = some (seqObj "list" kA e)) (X : Ext s'.heap φ' s''.heap φ'') (h : Sh s' s'') :
    So φ s φ'' s'' D kS e1 :=
  ⟨S.ext.trans X, S.sh.trans h, S.nD, S.nK, (X.below _ _ S.hD).trans S.pD, (X.below _ _ hK).trans S.pK, S.ne, X.keep _ _ S.hD⟩
theorem So.upd {φ φ' : PMap} {s s' : Shared} {D kS : Addr} {e1 : Nat} (S : So φ s φ' s' D kS e1) (g : Obj → Obj) : So φ s φ' { s' with heap := s'.heap.update kS g } D kS e1 :=
  ⟨S.ext.upd g S.nK S.pK, S.sh.trans ⟨_, _, rfl⟩, S.nD, S.nK, S.pD, S.pK, S.ne, by
    show (s'.heap.update kS g).get? D = _
    rw [Heap.get?_update_ne _ _ _ _ S.ne.symm]; exact S.hD⟩

theorem so_tail {φ φ' : PMap} {s s' : Shared} {D kS : Addr} {e1 e : Nat} {A : Around} {E : Value → Shared → Prop} {st : SortSt} {kA : Array Value} {out : List Value} {zs : List V} {Q : PySem.Fin → Shared → Prop}
    (S : So φ s φ' s' D kS e1) (hK : s'.heap.get? kS = some (seqObj "list" kA e)) (hkz : kA.size ≤ 64) (hz : out.length ≤ 64) (hf : failedOf st = none) (ho : (arrOf st).map (·.2) = List.toArray out) (R : Rds φ' out zs)
    (h : ∀ s'', PostL φ s zs (.ref D) s'' → Q (.done (.ret .none)) s'') : wpAny C.M A (ksk_tail D false e1 (.ref kS) st) Q E s' := by
  unfold ksk_tail
  try dsimp only
  rw [ho]
  have S2 := S.upd (Obj.mapSeq fun _ => (#[] : Array Value))
  refine wpAny_bind (listUpdate_at hK rfl ?_ (by rw [sizeLine_eq]; omega) (Nat.zero_le _))
  refine wpAny_bind (wpAny_letGo ?_)
  refine wpAny_bind (seqEpoch_at S2.hD rfl ?_)
  refine wpAny_bind (listUpdate_at S2.hD rfl ?_ (Nat.zero_le _) (by simp only [Bool.false_eq_true, if_false]; rw [List.size_toArray, sizeLine_eq]; omega))
  rw [hf]
  simp only [bne_self_eq_false, Bool.false_eq_true, if_false]
  refine wpAny_pure (h _ ?_)
  refine ⟨φ', D, out, S2.ext.upd _ S.nD S.pD, S2.sh.trans ⟨_, _, rfl⟩, rfl, S.nD, S.pD, ?_, R⟩
  exact ⟨_, get?_update_seq S2.hD fun _ => List.toArray out⟩

theorem so_end {φ φ' : PMap} {s s' : Shared} {D kS : Addr} {e1 e : Nat} {A : Around} {E : Value → Shared → Prop} {kvs vs : List Value} {xs ks zs : List V} {Ff : List V → Option V} {Q : PySem.Fin → Shared → Prop} (ha : AOK n A)
    (S : So φ s φ' s' D kS e1) (hK : s'.heap.get? kS = some (seqObj "list" kvs.toArray e)) (R : Rds φ' vs xs) (RK : Rds φ' kvs ks) (hk : keysK Ff xs = some ks)
    (q : (if Nat.blt xs.length 2 then some xs else if Nat.blt xs.length 64 then (match kasRun (cmpK ks) (kas_sort xs.length) with
      | some p => if Nat.beq p.size xs.length then pickL xs p.toList else none
      | none => none) else none) = some zs)
    (h : ∀ s'', PostL φ s zs (.ref D) s'' → Q (.done (.ret .none)) s'') : wpAny C.M A (ksk_end D false vs.toArray e1 (.ref kS) kvs.toArray) Q E s' := by
  have l1 := R.len
  have l2 := RK.len
  have l3 := keysK_len hk
  unfold ksk_end
  try dsimp only
  rw [if_neg (by simp)]
  by_cases h2 : vs.length < 2
  · have hn : vs.toArray.size < 2 := by rw [List.size_toArray]; exact h2
    rw [if_pos hn, if_pos hn]
    have hb : Nat.blt xs.length 2 = true := by rw [Nat.blt_eq]; omega
    rw [if_pos hb] at q
    cases q
    refine wpAny_bind (wpAny_pure ?_)
    rw [StateT.run_pure]
    refine wpAny_bind (wpAny_pure ?_)
    try dsimp only
    refine so_tail S hK (by rw [List.size_toArray]; omega) (by omega) rfl ?_ R h
    show (kvs.toArray.zip vs.toArray).map (·.2) = _
    apply Array.toList_inj.mp
    rw [Array.toList_map, ksk_zip]
    show List.map Prod.snd (List.zip kvs vs) = vs
    exact List.map_snd_zip (by omega)
  · have hn : ¬ vs.toArray.size < 2 := by rw [List.size_toArray]; exact h2
    rw [if_neg hn, if_neg hn]
    have hb : ¬ Nat.blt xs.length 2 = true := by rw [Nat.blt_eq]; omega
    rw [if_neg hb] at q
    split at q
    · rename_i h64
      rw [Nat.blt_eq] at h64
      split at q
      · rename_i p hp
        split at q
        · rename_i hz
          rw [Nat.beq_eq] at hz
          obtain ⟨fs, T, hfl, hfi⟩ := kat_tups S.ext.inn RK fun k hk' => keys_shape hk hk'
          refine wpAny_bind (kat_kind (T := .type "int") T (by omega) (fun v hv => ?_) (by decide +kernel) ?_)
          · obtain ⟨i, t, rfl⟩ := hfi v hv
            exact Looks.now
          · have et : (Value.type "int" != Value.type "tuple") = true := by decide +kernel
            rw [et, if_neg (by simp)]
            refine wpAny_bind (wpAny_mono (kat_run (Q := fun st' s₂ => s₂ = s' ∧ arrOf st' = p.map (kas_item (kvs.toArray.zip vs.toArray)) ∧ failedOf st' = none) (G := fun p' s₂ => p' = p ∧ s₂ = s')
              (by omega : kvs.length = vs.length) (by omega) (by omega) (fun p' st' s₂ a1 a2 a3 ⟨a4, a5⟩ => ⟨a5, by rw [← a4]; exact a2, a3⟩) ?_) ?_ fun _ _ x => x)
            · rw [l1]
              refine kas_go (cmp := cmpK ks) (fun i j b K hc hK' => ?_) _ p hp ⟨rfl, rfl⟩
              unfold cmpK at hc
              split at hc
              · rename_i x hx
                split at hc
                · rename_i y hy
                  rw [getL_eq] at hx hy
                  obtain ⟨u, hu, ru⟩ := RK.get hx
                  obtain ⟨v, hv, rv⟩ := RK.get hy
                  show wpAny _ _ _ _ _ _
                  rw [List.getD_eq_getElem?_getD, List.getD_eq_getElem?_getD, hu, hv]
                  exact key_lt (C := C) ha S.ext.inn ru rv hc hK'
                · cases hc
              · cases hc
            · rintro ⟨⟨⟩, st'⟩ s₂ ⟨rfl, har, hf⟩
              try dsimp only
              refine so_tail S hK (by rw [List.size_toArray]; omega) ?_ hf (kat_snds (by omega : kvs.length = vs.length) har) (R.pick q) h
              rw [List.length_map, Array.length_toList]; omega
        · cases q
      · cases q
    · cases q
end
end Mine
end

section
open PySem PySem.W PySem.Calls PyProof.Rows PySem.Spec PyProof.V
namespace Mine
section
variable {C : Cx} {n : Nat} {sc : Scope} {nm : List Str}

theorem so_rest {k : Nat} {f : Str} {Ff : List V → Option V} {q : Addr} {φ φ' : PMap} {s s' : Shared} {D kS : Addr} {e1 : Nat} {A : Around} {E : Value → Shared → Prop} {vs : List Value} {xs ks zs : List V} {Q : PySem.Fin → Shared → Prop}
    (HF : SF C k f Ff) (hq : C.mg f = some (.ref q)) (G : Gw C s.heap) (ha : AOK k A)
    (S : So φ s φ' s' D kS e1) (hK : s'.heap.get? kS = some (seqObj "list" #[] 0)) (R : Rds φ' vs xs) (hk : keysK Ff xs = some ks) (h64 : xs.length < 64)
    (q' : (if Nat.blt xs.length 2 then some xs else if Nat.blt xs.length 64 then (match kasRun (cmpK ks) (kas_sort xs.length) with
      | some p => if Nat.beq p.size xs.length then pickL xs p.toList else none
      | none => none) else none) = some zs)
    (h : ∀ s'', PostL φ s zs (.ref D) s'' → Q (.done (.ret .none)) s'') : wpAny C.M A (ksk_rest D (.ref q) false vs.toArray e1 (.ref kS)) Q E s' := by
  have l1 := R.len
  have l3 := keysK_len hk
  unfold ksk_rest
  refine wpAny_bind (wpAny_rule ?_)
  first
    | rw [List.forIn_toArray]
    | (rw [← Array.forIn_toList]; simp only [List.toList_toArray])
    | rw [← Array.forIn_toList]
  refine wpAny_bind (ksk_fold (fun i s₂ => ∃ (φ₂ : PMap) (kvs : List Value) (e : Nat), So φ s φ₂ s₂ D kS e1 ∧ s₂.heap.get? kS = some (seqObj "list" kvs.toArray e) ∧ Rds φ₂ vs xs ∧ Rds φ₂ kvs (ks.take i)) vs 0 s'
    ⟨φ', [], 0, S, hK, R, by simpa using Rds.nil⟩ ?step ?done)
  case step =>
    rintro j x s₂ hx ⟨φ₂, kvs, e, S₂, hK₂, R₂, RK⟩
    simp only [Nat.zero_add] at RK ⊢
    have hj : j < vs.length := (List.getElem?_eq_some_iff.mp hx).1
    have hjx : xs[j]? = some xs[j] := by simp
    obtain ⟨kk, ys, hF, hkj⟩ := keysK_get hk hjx
    obtain ⟨v, hv, rv⟩ := R₂.get hjx
    have hvx : v = x := by rw [hx] at hv; exact (Option.some.inj hv).symm
    subst hvx
    have hz := RK.len
    rw [List.length_take] at hz
    refine wpAny_bind (wpAny_attempt (rule_post (HF.2 q A s₂ φ₂ [v] [xs[j]] _ hq ha (G.keeps S₂.ext.keep) S₂.ext.inn (.cons rv .nil) hF) (fun r s₃ he => ?_)))
    obtain ⟨φ₃, X, H, rr⟩ := he
    try dsimp only
    have S₃ := S₂.step hK₂ X H
    have hK₃ := X.keep _ _ hK₂
    have ea : kvs.toArray.push r = (kvs ++ [r]).toArray := by simp
    obtain ⟨c2, hc2⟩ : ∃ c2, (s₃.heap.update kS (Obj.mapSeq (·.push r))).get? kS = some (seqObj "list" (kvs ++ [r]).toArray c2) := ⟨_, by rw [← ea]; exact get?_update_seq hK₃ (·.push r)⟩
    have sub := X.sub S₂.ext.inn
    have et : ks.take (j + 1) = ks.take j ++ [.tuple [.int kk, .list ys]] := by rw [List.take_add_one, hkj]; simp
    refine wpAny_bind (listUpdate_at hK₃ rfl ?_ (by rw [List.size_toArray, sizeLine_eq]; omega) (Nat.le_trans (Nat.le_of_eq (Array.size_push ..)) (by rw [List.size_toArray, sizeLine_eq]; omega)))
    refine wpAny_pure ⟨rfl, φ₃, kvs ++ [r], c2, S₃.upd _, hc2, R₂.mono sub, ?_⟩
    rw [et]
    exact (RK.mono sub).append (.cons rr .nil)
  case done =>
    rintro s₂ ⟨φ₂, kvs, e, S₂, hK₂, R₂, RK⟩
    have et : ks.take (0 + vs.length) = ks := List.take_of_length_le (by omega)
    rw [et] at RK
    try dsimp only
    refine wpAny_bind (listItems_at hK₂ rfl ?_)
    exact so_end ha S₂ hK₂ R₂ RK hk q' h

theorem sl_sorted {k : Nat} {f : Str} {Ff : List V → Option V} {p p₁ kp pos : Pos} {e : Expr} {d : D} (HF : SF C k f Ff) (H : SE C n sc nm e d) (hkn : k + 2 ≤ n := by decide)
    (hx : sc.names.lookup (Str.ofString "sorted") = some .globalImplicit := by rfl) (hf : sc.names.lookup f = some .globalImplicit := by rfl) (hk : sc.kind = .function := by rfl) (hd : (f == ("__debug__" : Str)) = false := by decide +kernel)
    (he : ∀ env, starEach [e] env = (false, eval e env) :: starEach [] env := by intro _; rfl) : SL C n sc nm (.Call (.Name "sorted" p) [e] [⟨some "key", .Name f p₁, kp⟩] pos) (dSorted Ff d) := by
  intro ev A h₀ P φ σ s zs ha F q
  unfold dSorted at q
  split at q
  · rename_i xs hq
    split at q
    · rename_i ks hks
      have h64 : xs.length < 64 := by
        by_cases c : Nat.blt xs.length 2 = true
        · have := blt_iff c; omega
        · rw [if_neg c] at q
          split at q
          · rename_i c'; exact blt_iff c'
          · cases q
      have HF' := HF
      obtain ⟨⟨dd, hd', rfl⟩, HC⟩ := HF
      obtain ⟨a, o, pm, code, doc, h1, h2, h3, h4⟩ := F.gw'.fn dd hd'
      show wpAny C.M A (do callWith pos (← eval (.Name "sorted" p) (ev.env sc)) [] (backTo pos (starEach [e] (ev.env sc))) (backToKw pos (keywordEach [⟨some "key", .Name dd.name p₁, kp⟩] (ev.env sc)))) _ _ s
      refine wpAny_bind (bi_name hx hk (by decide +kernel) F.gw' (by decide +kernel) boot_sorted' (by decide +kernel) ?_)
      refine callWith_kw ?_ (by rw [he]; rfl) (by rw [he]; rfl)
      rw [he]
      refine spliced_cons (one H ha F hq fun l s₁ φ₁ X₁ S₁ F₁ R₁ => spliced_nil ?_)
      refine kws_cons (glob_name hf hk hd F₁.gw' h1 (kws_nil ?_))
      cases R₁ with
      | @list l vs nn _ ho R =>
        have hp : s₁.heap.PlainList l vs.toArray := ⟨_, X₁.inn _ _ ho⟩
        have hl := hp.isList
        have hlen := R.len
        show wpAny C.M A (call (.builtin "sorted") [.ref l] [(Str.ofString "key", .ref a)]) _ _ s₁
        refine call_function_entry_kw kind_sorted plain_sorted entry_sorted (ksk_s1 _ _) ?_
        unfold Builtin.«sorted»
        refine wpAny_bind (m := checkCount "sorted" 1 1 _) (wpAny_pure ?_)
        refine wpAny_bind (collect_list hl ?_ (by rw [sizeLine_eq]; omega))
        refine wpAny_bind (wpAny_newList ?_ (by rw [sizeLine_eq]; omega))
        obtain ⟨n0, p0⟩ := X₁.size
        have Y : Ext s.heap φ ((s₁.heap.push (seqObj "list" #[] 0)).update s₁.heap.objs.size (Obj.mapSeq (· ++ vs.toArray))) φ₁ := (X₁.psh _).upd _ n0 p0
        generalize hg : (s₁.heap.push (seqObj "list" #[] 0)).update s₁.heap.objs.size (Obj.mapSeq (· ++ vs.toArray)) = g at Y ⊢
        obtain ⟨nD, pD⟩ := Y.size
        have Y2 := Y.psh (seqObj "list" vs.toArray 0)
        have hD2 : (g.push (seqObj "list" vs.toArray 0)).get? g.objs.size = some (seqObj "list" vs.toArray 0) := Heap.get?_push_size _ rfl
        show wpAny _ _ _ _ _ { s₁ with heap := g.push (seqObj "list" vs.toArray 0) }
        refine wpAny_bind (wpAny_holding (wpAny_call_entry_kw slot_list_sort ⟨_, hD2, rfl⟩ entry_list_sort ?body (ksk_l1 _ _)))
        case body =>
          show wpAny C.M A.in1.in1 (Builtin.«list.sort» ⟨[.ref g.objs.size], [(Str.ofString "key", .ref a)]⟩) _ _ _
          rw [ksk_t1]
          generalize g.objs.size = D at nD pD hD2 ⊢
          generalize g.push (seqObj "list" vs.toArray 0) = g₂ at Y2 hD2 ⊢
          have s1 := Heap.SameBut.update g₂ D (Obj.mapSeq fun _ => (#[] : Array Value))
          obtain ⟨e1, ho1⟩ : ∃ e1, (g₂.update D (Obj.mapSeq fun _ => (#[] : Array Value))).get? D = some (seqObj "list" #[] e1) := ⟨_, get?_update_seq hD2 fun _ => #[]⟩
          have Y3 : Ext s.heap φ (g₂.update D (Obj.mapSeq fun _ => (#[] : Array Value))) φ₁ := Y2.upd _ nD pD
          unfold ksk_tree
          refine wpAny_bind (listItems_at hD2 rfl ?_)
          refine wpAny_bind (listUpdate_at hD2 rfl ?_ (by rw [List.size_toArray, sizeLine_eq]; omega) (Nat.zero_le _))
          refine wpAny_bind (seqEpoch_at ho1 rfl ?_)
          refine wpAny_bind (wpAny_newTuple ?_ (by show vs.length ≤ _; rw [sizeLine_eq]; omega))
          refine wpAny_bind (wpAny_newList ?_ (Nat.zero_le _))
          refine wpAny_holding ?_
          have Y4 := Y3.psh (seqObj "tuple" vs.toArray 0)
          have ho2 : ((g₂.update D (Obj.mapSeq fun _ => (#[] : Array Value))).push (seqObj "tuple" vs.toArray 0)).get? D = some (seqObj "list" #[] e1) := Heap.get?_push_of_some _ ho1
          show wpAny C.M A.in1.in1 (ksk_rest D (.ref a) false vs.toArray e1 (.ref ((g₂.update D (Obj.mapSeq fun _ => (#[] : Array Value))).push (seqObj "tuple" vs.toArray 0)).objs.size)) _ _ { s₁ with heap := ((g₂.update D (Obj.mapSeq fun _ => (#[] : Array Value))).push (seqObj "tuple" vs.toArray 0)).push (seqObj "list" #[] 0) }
          generalize (g₂.update D (Obj.mapSeq fun _ => (#[] : Array Value))).push (seqObj "tuple" vs.toArray 0) = g₃ at Y4 ho2 ⊢
          obtain ⟨nK, pK⟩ := Y4.size
          have hne : g₃.objs.size ≠ D := fun e => by have := get_size g₃; rw [e, ho2] at this; cases this
          refine so_rest (C := C) (k := k) (ks := ks) (zs := zs) (φ := φ) (φ' := φ₁) (s := s) (xs := xs) HF' h1 F.gw' ⟨ha.1, ?_, ?_⟩
            ⟨Y4.psh _, S₁.trans ⟨_, _, rfl⟩, nD, nK, pD, pK, hne, Heap.get?_push_of_some _ ho2⟩ (Heap.get?_push_size _ rfl) R hks h64 q fun s'' hp => ⟨_, rfl, ?_⟩
          · have := ha.2.1
            show A.depth + k < recursionLimit
            omega
          · have := ha.2.2
            show A.units + 1 + 1 + 8 * k + 200 < cLine
            omega
          · exact wpAny_pure ⟨_, rfl, hp⟩
    · cases q
  · cases q
end
end Mine
end

section
open PySem PySem.W PySem.Calls PyProof.Rows PySem.Spec PyProof.V
namespace Mine

def defAt (i : Nat) : DefRec := match PySem.Challenge.pw_sa0109_01.main.body[i]? with
  | some (.FunctionDef name args body _ _ _ scope _ _ pos) => ⟨name, args, body, scope, pos⟩
  | _ => ⟨Str.ofString "", ⟨[], [], none, [], [], none, []⟩, [], PySem.Challenge.pw_sa0109_01.main.scope, ⟨0, 0, 0, 0⟩⟩

def kindOK (sc : Scope) (nm : List Str) : Bool := nm.all fun x => (sc.names.lookup x == some .local) || ((sc.names.lookup x == some .cell) && ((cellsFrom 0 sc.names []).lookup x).isSome)

def zipOK (scope sc : Scope) (nm : List Str) : List Nat → List Str → Bool
  | [], [] => true
  | i :: is, y :: ys => (nm[i]? == some y) && (sc.names.lookup y == some .cell) && ((rl scope sc).names.lookup y == some .cell) && scope.names.contains (y, .free) && zipOK scope sc nm is ys
  | _, _ => false
theorem zipOK_get {scope sc : Scope} {nm : List Str} : ∀ {vs : List Nat} {ys : List Str}, zipOK scope sc nm vs ys = true → ∀ (j i : Nat) y, vs[j]? = some i → ys[j]? = some y →
    nm[i]? = some y ∧ sc.names.lookup y = some .cell ∧ (rl scope sc).names.lookup y = some .cell ∧ (y, NameKind.free) ∈ scope.names
  | [], _, h, j, i, y, e, _ => by simp at e
  | _ :: _, [], h, j, i, y, _, e => by simp at e
  | i :: is, y :: ys, h, j, i', y', e, e' => by
    simp only [zipOK, Bool.and_eq_true, beq_iff_eq, List.contains_iff_mem] at h
    cases j with
    | zero =>
      simp at e e'
      subst e
      subst e'
      exact ⟨h.1.1.1.1, h.1.1.1.2, h.1.1.2, h.1.2⟩
    | succ j => exact zipOK_get h.2 j i' y' (by simpa using e) (by simpa using e')
theorem zipOK_len {scope sc : Scope} {nm : List Str} : ∀ {vs : List Nat} {ys : List Str}, zipOK scope sc nm vs ys = true → vs.length = ys.length
  | [], [], _ => rfl
  | [], _ :: _, h => by simp [zipOK] at h
  | _ :: _, [], h => by simp [zipOK] at h
  | _ :: _, _ :: _, h => by
    simp only [zipOK, Bool.and_eq_true] at h
    rw [List.length_cons, List.length_cons, zipOK_len h.2]
def compOK (scope sc : Scope) (nm : List Str) (x : Str) (vs : List Nat) (ys : List Str) : Bool :=
  scope.names.all (fun p => p.2 != .cell) && scope.names.all (fun p => p.2 != .local || scope.names.lookup p.1 == some .local) && (scope.names.lookup x == some .local) && ((rl scope sc).names.lookup x == some .local) &&
  scope.names.all (fun p => p.2 != .free || ys.contains p.1) && zipOK scope sc nm vs ys

section
variable {C : Cx} {n : Nat} {sc : Scope} {nm : List Str}
theorem sl_compr {elt iter : Expr} {ifs : List Expr} {scope : Scope} {x : Str} {px pos : Pos} {d de : D} {dt : DB} {vs : List Nat} (ynames : List Str) (H : SE C n sc nm iter d) (He : SE C n (rl scope sc) (x :: ynames) elt de)
    (Ht : STs C n (rl scope sc) (x :: ynames) ifs dt) (hc : compOK scope sc nm x vs ynames = true := by decide +kernel) (hkind : scope.kind = .function := by rfl)
    (hf : ∀ (ev : EV) z, foldedSetIterable iter (ev.env sc) z = pure z := by intro _ _; rfl) :
    SL C n sc nm (.ListComp elt [⟨.Name x px, iter, ifs, 0⟩] scope pos) (dComp d vs de dt) := by
  simp only [compOK, Bool.and_eq_true, beq_iff_eq, List.all_eq_true, bne_iff_ne, Bool.or_eq_true, List.contains_iff_mem] at hc
  obtain ⟨⟨⟨⟨⟨c1, c2⟩, c3⟩, c4⟩, c5⟩, c6⟩ := hc
  refine sl_comp ynames H He Ht (fun y hy => c1 y hy) hkind (fun y hy e => ?_) c3 c4 (zipOK_get c6) (fun y hy => ?_) (zipOK_len c6) hf
  · rcases c2 y hy with h | h
    · exact absurd e h
    · exact h
  · rcases c5 _ hy with h | h
    · exact absurd rfl h
    · obtain ⟨j, hj, e⟩ := List.mem_iff_getElem.mp h
      exact ⟨j, by rw [List.getElem?_eq_getElem hj, e]⟩

theorem sf_of {d : DefRec} {name : Str} {params : Arguments} {body : List Stmt} {scope : Scope} {pos : Pos} {b : DS} (nm : List Str) (np : Nat) {k : Nat} (he : d = ⟨name, params, body, scope, pos⟩) (hd : d ∈ recsOf C.p) (HB : SS C n scope nm body b)
    (hbind : ∀ pm code doc (vs : List Value), vs.length = np → bindArgs (docDef name params body scope pm code doc) ⟨vs, []⟩ = pure ((nm.take np).zip vs))
    (hnp : np ≤ nm.length := by decide) (hnd : nm.Nodup := by decide +kernel) (hkind : kindOK scope (nm.take np) = true := by decide +kernel)
    (hco : scope.isCoroutine = false := by rfl) (hgen : scope.isGenerator = false := by rfl) (hk : scope.kind = .function := by rfl) : SF C (n + 1) name (fn np k b) := by
  subst he
  refine sf_body hd HB hnp hnd hbind (fun i x hi hx => ?_) hco hgen hk
  simp only [kindOK, List.all_eq_true, Bool.or_eq_true, Bool.and_eq_true, beq_iff_eq] at hkind
  have hm : x ∈ nm.take np := by
    refine List.mem_iff_getElem?.mpr ⟨i, ?_⟩
    rw [List.getElem?_take, if_pos hi]; exact hx
  exact hkind x hm
end

end Mine
end

section
open PySem PySem.W PySem.Calls PyProof.Rows PySem.Spec PyProof.V
namespace Mine
def reachIx : List Nat := [1, 2, 4, 5, 6, 7, 8, 9, 10, 11, 12, 13, 14, 15, 16, 17, 19, 23, 24, 25, 26, 27, 28, 29, 30, 34, 36, 37, 38, 39, 43]
def Reach (C : Cx) : Prop := ∀ i, i ∈ reachIx → defAt i ∈ recsOf C.p
theorem sf_extended {C : Cx} (K : Reach C) : SF C 1 (Str.ofString "extended") f_extended := by
  refine sf_of [Str.ofString "a", Str.ofString "b", Str.ofString "one", Str.ofString "other", Str.ofString "times", Str.ofString "rest"] 2 (b := b_extended) rfl (K 1 (by decide)) ?_ ?_
  refine ss_cons ?_ ?_
  refine s1_tup2 ?_
  refine sr_val ?_ ?_
  refine se_tup ?_
  refine sa_cons ?_ ?_
  exact se_name
  refine sa_cons ?_ ?_
  exact se_int
  refine sa_cons ?_ ?_
  exact se_int
  exact sa_nil
  refine sr_val ?_ ?_
  refine se_tup ?_
  refine sa_cons ?_ ?_
  exact se_name
  refine sa_cons ?_ ?_
  exact se_int
  refine sa_cons ?_ ?_
  exact se_int
  exact sa_nil
  exact sr_nil
  refine ss_cons ?_ ?_
  refine s1_while ?_ ?_
  refine sb_cmp ?_ ?_ sc_ne
  refine se_atT ?_
  exact se_name
  exact se_int
  refine ss_cons ?_ ?_
  refine s1_set ?_
  refine se_div ?_ ?_
  refine se_atT ?_
  exact se_name
  refine se_atT ?_
  exact se_name
  refine ss_cons ?_ ?_
  refine s1_set ?_
  refine se_tup ?_
  refine sa_cons ?_ ?_
  refine se_sub ?_ ?_
  refine se_atT ?_
  exact se_name
  refine se_mul ?_ ?_
  exact se_name
  refine se_atT ?_
  exact se_name
  refine sa_cons ?_ ?_
  refine se_sub ?_ ?_
  refine se_atT ?_
  exact se_name
  refine se_mul ?_ ?_
  exact se_name
  refine se_atT ?_
  exact se_name
  refine sa_cons ?_ ?_
  refine se_sub ?_ ?_
  refine se_atT ?_
  exact se_name
  refine se_mul ?_ ?_
  exact se_name
  refine se_atT ?_
  exact se_name
  exact sa_nil
  refine ss_cons ?_ ?_
  refine s1_tup2 ?_
  refine sr_val ?_ ?_
  exact se_name
  refine sr_val ?_ ?_
  exact se_name
  exact sr_nil
  exact ss_nil
  refine ss_cons ?_ ?_
  refine s1_ret ?_
  refine se_if ?_ ?_ ?_
  refine sb_cmp ?_ ?_ sc_ge
  refine se_atT ?_
  exact se_name
  exact se_int
  exact se_name
  refine se_tup ?_
  refine sa_cons ?_ ?_
  refine se_sub ?_ ?_
  exact se_int
  refine se_atT ?_
  exact se_name
  refine sa_cons ?_ ?_
  refine se_sub ?_ ?_
  exact se_int
  refine se_atT ?_
  exact se_name
  refine sa_cons ?_ ?_
  refine se_sub ?_ ?_
  exact se_int
  refine se_atT ?_
  exact se_name
  exact sa_nil
  exact ss_nil
  · intro pm code doc vs h
    match vs, h with
    | [v0, v1], _ => rfl
theorem sf_inverse_mod {C : Cx} (K : Reach C) : SF C 2 (Str.ofString "inverse_mod") f_inverse_mod := by
  have sf_extended := sf_extended K
  refine sf_of [Str.ofString "a", Str.ofString "m", Str.ofString "g", Str.ofString "s", Str.ofString "t"] 2 (b := b_inverse_mod) rfl (K 2 (by decide)) ?_ ?_
  refine ss_cons ?_ ?_
  refine s1_unp ?_ (fun ev => tg_name rfl rfl (tg_name rfl rfl (tg_name rfl rfl .nil)))
  refine se_call sf_extended ?_
  refine sa_cons ?_ ?_
  refine se_mod ?_ ?_
  exact se_name
  exact se_name
  refine sa_cons ?_ ?_
  exact se_name
  exact sa_nil
  refine ss_cons ?_ ?_
  refine s1_ret ?_
  refine se_if ?_ ?_ ?_
  refine sb_cmp ?_ ?_ sc_eq
  exact se_name
  exact se_int
  refine se_mod ?_ ?_
  exact se_name
  exact se_name
  exact se_none
  exact ss_nil
  · intro pm code doc vs h
    match vs, h with
    | [v0, v1], _ => rfl
theorem sf_mtrim {C : Cx} (K : Reach C) : SF C 1 (Str.ofString "mtrim") f_mtrim := by
  refine sf_of [Str.ofString "a", Str.ofString "many"] 1 (b := b_mtrim) rfl (K 4 (by decide)) ?_ ?_
  refine ss_cons ?_ ?_
  refine s1_set ?_
  refine se_len ?_
  exact se_name
  refine ss_cons ?_ ?_
  refine s1_while ?_ ?_
  refine sb_and ?_ ?_
  refine sb_cmp ?_ ?_ sc_gt
  exact se_name
  exact se_int
  refine sb_cmp ?_ ?_ sc_eq
  refine se_at ?_ ?_
  exact se_name
  refine se_sub ?_ ?_
  exact se_name
  exact se_int
  exact se_int
  refine ss_cons ?_ ?_
  refine s1_set ?_
  refine se_sub ?_ ?_
  exact se_name
  exact se_int
  exact ss_nil
  refine ss_cons ?_ ?_
  refine s1_ret ?_
  refine se_new ?_
  refine sl_copy ?_
  refine se_new ?_
  refine sl_take ?_ ?_
  exact se_name
  exact se_name
  exact ss_nil
  · intro pm code doc vs h
    match vs, h with
    | [v0], _ => rfl
theorem sf_mdegree {C : Cx} (K : Reach C) : SF C 1 (Str.ofString "mdegree") f_mdegree := by
  refine sf_of [Str.ofString "a"] 1 (b := b_mdegree) rfl (K 5 (by decide)) ?_ ?_
  refine ss_cons ?_ ?_
  refine s1_ret ?_
  refine se_sub ?_ ?_
  refine se_len ?_
  exact se_name
  exact se_int
  exact ss_nil
  · intro pm code doc vs h
    match vs, h with
    | [v0], _ => rfl
theorem sf_madd {C : Cx} (K : Reach C) : SF C 2 (Str.ofString "madd") f_madd := by
  have sf_mtrim := sf_mtrim K
  refine sf_of [Str.ofString "a", Str.ofString "b", Str.ofString "p", Str.ofString "found", Str.ofString "at"] 3 (b := b_madd) rfl (K 6 (by decide)) ?_ ?_
  refine ss_cons ?_ ?_
  refine s1_own ?_
  refine sl_list ?_
  exact sa_nil
  refine ss_cons ?_ ?_
  refine s1_range ?_ ?_
  refine se_max ?_ ?_
  refine se_len ?_
  exact se_name
  refine se_len ?_
  exact se_name
  refine ss_cons ?_ ?_
  refine s1_push ?_
  refine se_mod ?_ ?_
  refine se_add ?_ ?_
  refine se_if ?_ ?_ ?_
  refine sb_cmp ?_ ?_ sc_lt
  exact se_name
  refine se_len ?_
  exact se_name
  refine se_at ?_ ?_
  exact se_name
  exact se_name
  exact se_int
  refine se_if ?_ ?_ ?_
  refine sb_cmp ?_ ?_ sc_lt
  exact se_name
  refine se_len ?_
  exact se_name
  refine se_at ?_ ?_
  exact se_name
  exact se_name
  exact se_int
  exact se_name
  exact ss_nil
  refine ss_cons ?_ ?_
  refine s1_frz ?_
  refine s1_ret ?_
  refine se_call sf_mtrim ?_
  refine sa_cons ?_ ?_
  exact se_name
  exact sa_nil
  exact ss_nil
  · intro pm code doc vs h
    match vs, h with
    | [v0, v1, v2], _ => rfl
theorem sf_mneg {C : Cx} (K : Reach C) : SF C 1 (Str.ofString "mneg") f_mneg := by
  refine sf_of [Str.ofString "a", Str.ofString "p"] 2 (b := b_mneg) rfl (K 7 (by decide)) ?_ ?_
  refine ss_cons ?_ ?_
  refine s1_ret ?_
  refine se_new ?_
  refine sl_compr [Str.ofString "p"] ?_ ?_ ?_
  exact se_name
  refine se_mod ?_ ?_
  refine se_neg ?_
  exact se_name
  exact se_name
  exact st_nil
  exact ss_nil
  · intro pm code doc vs h
    match vs, h with
    | [v0, v1], _ => rfl
theorem sf_msub {C : Cx} (K : Reach C) : SF C 3 (Str.ofString "msub") f_msub := by
  have sf_madd := sf_madd K
  have sf_mneg := sf_mneg K
  refine sf_of [Str.ofString "a", Str.ofString "b", Str.ofString "p"] 3 (b := b_msub) rfl (K 8 (by decide)) ?_ ?_
  refine ss_cons ?_ ?_
  refine s1_ret ?_
  refine se_call sf_madd ?_
  refine sa_cons ?_ ?_
  exact se_name
  refine sa_cons ?_ ?_
  refine se_call sf_mneg ?_
  refine sa_cons ?_ ?_
  exact se_name
  refine sa_cons ?_ ?_
  exact se_name
  exact sa_nil
  refine sa_cons ?_ ?_
  exact se_name
  exact sa_nil
  exact ss_nil
  · intro pm code doc vs h
    match vs, h with
    | [v0, v1, v2], _ => rfl
theorem sf_mscale {C : Cx} (K : Reach C) : SF C 2 (Str.ofString "mscale") f_mscale := by
  have sf_mtrim := sf_mtrim K
  refine sf_of [Str.ofString "a", Str.ofString "number", Str.ofString "p"] 3 (b := b_mscale) rfl (K 9 (by decide)) ?_ ?_
  refine ss_cons ?_ ?_
  refine s1_ret ?_
  refine se_call sf_mtrim ?_
  refine sa_cons ?_ ?_
  refine se_new ?_
  refine sl_compr [Str.ofString "p", Str.ofString "number"] ?_ ?_ ?_
  exact se_name
  refine se_mod ?_ ?_
  refine se_mul ?_ ?_
  exact se_name
  exact se_name
  exact se_name
  exact st_nil
  exact sa_nil
  exact ss_nil
  · intro pm code doc vs h
    match vs, h with
    | [v0, v1, v2], _ => rfl
theorem sf_mmul {C : Cx} (K : Reach C) : SF C 2 (Str.ofString "mmul") f_mmul := by
  have sf_mtrim := sf_mtrim K
  refine sf_of [Str.ofString "a", Str.ofString "b", Str.ofString "p", Str.ofString "found", Str.ofString "at", Str.ofString "one", Str.ofString "spot", Str.ofString "other"] 3 (b := b_mmul) rfl (K 10 (by decide)) ?_ ?_
  refine ss_cons ?_ ?_
  refine s1_if ?_ ?_ ?_
  refine sb_or ?_ ?_
  refine sb_cmp ?_ ?_ sc_eq
  refine se_len ?_
  exact se_name
  exact se_int
  refine sb_cmp ?_ ?_ sc_eq
  refine se_len ?_
  exact se_name
  exact se_int
  refine ss_cons ?_ ?_
  refine s1_ret ?_
  refine se_new ?_
  refine sl_list ?_
  exact sa_nil
  exact ss_nil
  exact ss_nil
  refine ss_cons ?_ ?_
  refine s1_own ?_
  refine sl_rep ?_ ?_
  exact se_int
  refine se_sub ?_ ?_
  refine se_add ?_ ?_
  refine se_len ?_
  exact se_name
  refine se_len ?_
  exact se_name
  exact se_int
  refine ss_cons ?_ ?_
  refine s1_enum ?_ ?_ (fun ev => tg_name rfl rfl (tg_name rfl rfl .nil))
  exact se_name
  refine ss_cons ?_ ?_
  refine s1_if ?_ ?_ ?_
  refine sb_cmp ?_ ?_ sc_ne
  exact se_name
  exact se_int
  refine ss_cons ?_ ?_
  refine s1_enum ?_ ?_ (fun ev => tg_name rfl rfl (tg_name rfl rfl .nil))
  exact se_name
  refine ss_cons ?_ ?_
  refine s1_put ?_ ?_
  refine se_add ?_ ?_
  exact se_name
  exact se_name
  refine se_mod ?_ ?_
  refine se_add ?_ ?_
  refine se_atO ?_
  refine se_add ?_ ?_
  exact se_name
  exact se_name
  refine se_mul ?_ ?_
  exact se_name
  exact se_name
  exact se_name
  exact ss_nil
  exact ss_nil
  exact ss_nil
  exact ss_nil
  refine ss_cons ?_ ?_
  refine s1_frz ?_
  refine s1_ret ?_
  refine se_call sf_mtrim ?_
  refine sa_cons ?_ ?_
  exact se_name
  exact sa_nil
  exact ss_nil
  · intro pm code doc vs h
    match vs, h with
    | [v0, v1, v2], _ => rfl
theorem sf_mdivmod {C : Cx} (K : Reach C) : SF C 3 (Str.ofString "mdivmod") f_mdivmod := by
  have sf_inverse_mod := sf_inverse_mod K
  have sf_mtrim := sf_mtrim K
  refine sf_of [Str.ofString "a", Str.ofString "b", Str.ofString "p", Str.ofString "rest", Str.ofString "quotient", Str.ofString "turn", Str.ofString "at", Str.ofString "number", Str.ofString "spot", Str.ofString "other"] 3 (b := b_mdivmod) rfl (K 11 (by decide)) ?_ ?_
  refine ss_cons ?_ ?_
  refine s1_tup2 ?_
  refine sr_own ?_ ?_
  refine sl_copy ?_
  exact se_name
  refine sr_own ?_ ?_
  refine sl_rep ?_ ?_
  exact se_int
  refine se_max ?_ ?_
  exact se_int
  refine se_add ?_ ?_
  refine se_sub ?_ ?_
  refine se_len ?_
  exact se_name
  refine se_len ?_
  exact se_name
  exact se_int
  exact sr_nil
  refine ss_cons ?_ ?_
  refine s1_set ?_
  refine se_call sf_inverse_mod ?_
  refine sa_cons ?_ ?_
  refine se_last ?_
  exact se_name
  refine sa_cons ?_ ?_
  exact se_name
  exact sa_nil
  refine ss_cons ?_ ?_
  refine s1_down ?_ ?_
  refine se_sub ?_ ?_
  refine se_len ?_
  exact se_name
  refine se_len ?_
  exact se_name
  refine ss_cons ?_ ?_
  refine s1_set ?_
  refine se_mod ?_ ?_
  refine se_mul ?_ ?_
  refine se_atO ?_
  refine se_sub ?_ ?_
  refine se_add ?_ ?_
  exact se_name
  refine se_len ?_
  exact se_name
  exact se_int
  exact se_name
  exact se_name
  refine ss_cons ?_ ?_
  refine s1_put ?_ ?_
  exact se_name
  exact se_name
  refine ss_cons ?_ ?_
  refine s1_if ?_ ?_ ?_
  refine sb_cmp ?_ ?_ sc_ne
  exact se_name
  exact se_int
  refine ss_cons ?_ ?_
  refine s1_enum ?_ ?_ (fun ev => tg_name rfl rfl (tg_name rfl rfl .nil))
  exact se_name
  refine ss_cons ?_ ?_
  refine s1_put ?_ ?_
  refine se_add ?_ ?_
  exact se_name
  exact se_name
  refine se_mod ?_ ?_
  refine se_sub ?_ ?_
  refine se_atO ?_
  refine se_add ?_ ?_
  exact se_name
  exact se_name
  refine se_mul ?_ ?_
  exact se_name
  exact se_name
  exact se_name
  exact ss_nil
  exact ss_nil
  exact ss_nil
  exact ss_nil
  refine ss_cons ?_ ?_
  refine s1_frz ?_
  refine s1_ret ?_
  refine se_tup ?_
  refine sa_cons ?_ ?_
  refine se_call sf_mtrim ?_
  refine sa_cons ?_ ?_
  exact se_name
  exact sa_nil
  refine sa_cons ?_ ?_
  refine se_call sf_mtrim ?_
  refine sa_cons ?_ ?_
  refine se_new ?_
  refine sl_takeO ?_
  refine se_sub ?_ ?_
  refine se_len ?_
  exact se_name
  exact se_int
  exact sa_nil
  exact sa_nil
  exact ss_nil
  · intro pm code doc vs h
    match vs, h with
    | [v0, v1, v2], _ => rfl
theorem sf_mrest {C : Cx} (K : Reach C) : SF C 4 (Str.ofString "mrest") f_mrest := by
  have sf_mdivmod := sf_mdivmod K
  refine sf_of [Str.ofString "a", Str.ofString "b", Str.ofString "p"] 3 (b := b_mrest) rfl (K 12 (by decide)) ?_ ?_
  refine ss_cons ?_ ?_
  refine s1_ret ?_
  refine se_atT ?_
  refine se_call sf_mdivmod ?_
  refine sa_cons ?_ ?_
  exact se_name
  refine sa_cons ?_ ?_
  exact se_name
  refine sa_cons ?_ ?_
  exact se_name
  exact sa_nil
  exact ss_nil
  · intro pm code doc vs h
    match vs, h with
    | [v0, v1, v2], _ => rfl
theorem sf_mquotient {C : Cx} (K : Reach C) : SF C 4 (Str.ofString "mquotient") f_mquotient := by
  have sf_mdivmod := sf_mdivmod K
  refine sf_of [Str.ofString "a", Str.ofString "b", Str.ofString "p"] 3 (b := b_mquotient) rfl (K 13 (by decide)) ?_ ?_
  refine ss_cons ?_ ?_
  refine s1_ret ?_
  refine se_atT ?_
  refine se_call sf_mdivmod ?_
  refine sa_cons ?_ ?_
  exact se_name
  refine sa_cons ?_ ?_
  exact se_name
  refine sa_cons ?_ ?_
  exact se_name
  exact sa_nil
  exact ss_nil
  · intro pm code doc vs h
    match vs, h with
    | [v0, v1, v2], _ => rfl
theorem sf_mmonic {C : Cx} (K : Reach C) : SF C 3 (Str.ofString "mmonic") f_mmonic := by
  have sf_inverse_mod := sf_inverse_mod K
  have sf_mscale := sf_mscale K
  refine sf_of [Str.ofString "a", Str.ofString "p"] 2 (b := b_mmonic) rfl (K 14 (by decide)) ?_ ?_
  refine ss_cons ?_ ?_
  refine s1_ret ?_
  refine se_if ?_ ?_ ?_
  refine sb_cmp ?_ ?_ sc_gt
  refine se_len ?_
  exact se_name
  exact se_int
  refine se_call sf_mscale ?_
  refine sa_cons ?_ ?_
  exact se_name
  refine sa_cons ?_ ?_
  refine se_call sf_inverse_mod ?_
  refine sa_cons ?_ ?_
  refine se_last ?_
  exact se_name
  refine sa_cons ?_ ?_
  exact se_name
  exact sa_nil
  refine sa_cons ?_ ?_
  exact se_name
  exact sa_nil
  refine se_new ?_
  refine sl_list ?_
  exact sa_nil
  exact ss_nil
  · intro pm code doc vs h
    match vs, h with
    | [v0, v1], _ => rfl
theorem sf_mpower_mod {C : Cx} (K : Reach C) : SF C 5 (Str.ofString "mpower_mod") f_mpower_mod := by
  have sf_mmul := sf_mmul K
  have sf_mrest := sf_mrest K
  refine sf_of [Str.ofString "a", Str.ofString "n", Str.ofString "f", Str.ofString "p", Str.ofString "found", Str.ofString "square"] 4 (b := b_mpower_mod) rfl (K 15 (by decide)) ?_ ?_
  refine ss_cons ?_ ?_
  refine s1_tup2 ?_
  refine sr_val ?_ ?_
  refine se_call sf_mrest ?_
  refine sa_cons ?_ ?_
  refine se_new ?_
  refine sl_list ?_
  refine sa_cons ?_ ?_
  exact se_int
  exact sa_nil
  refine sa_cons ?_ ?_
  exact se_name
  refine sa_cons ?_ ?_
  exact se_name
  exact sa_nil
  refine sr_val ?_ ?_
  refine se_call sf_mrest ?_
  refine sa_cons ?_ ?_
  exact se_name
  refine sa_cons ?_ ?_
  exact se_name
  refine sa_cons ?_ ?_
  exact se_name
  exact sa_nil
  exact sr_nil
  refine ss_cons ?_ ?_
  refine s1_while ?_ ?_
  refine sb_cmp ?_ ?_ sc_gt
  exact se_name
  exact se_int
  refine ss_cons ?_ ?_
  refine s1_if ?_ ?_ ?_
  refine sb_cmp ?_ ?_ sc_eq
  refine se_mod ?_ ?_
  exact se_name
  exact se_int
  exact se_int
  refine ss_cons ?_ ?_
  refine s1_set ?_
  refine se_call sf_mrest ?_
  refine sa_cons ?_ ?_
  refine se_call sf_mmul ?_
  refine sa_cons ?_ ?_
  exact se_name
  refine sa_cons ?_ ?_
  exact se_name
  refine sa_cons ?_ ?_
  exact se_name
  exact sa_nil
  refine sa_cons ?_ ?_
  exact se_name
  refine sa_cons ?_ ?_
  exact se_name
  exact sa_nil
  exact ss_nil
  exact ss_nil
  refine ss_cons ?_ ?_
  refine s1_set ?_
  refine se_div ?_ ?_
  exact se_name
  exact se_int
  refine ss_cons ?_ ?_
  refine s1_if ?_ ?_ ?_
  refine sb_cmp ?_ ?_ sc_gt
  exact se_name
  exact se_int
  refine ss_cons ?_ ?_
  refine s1_set ?_
  refine se_call sf_mrest ?_
  refine sa_cons ?_ ?_
  refine se_call sf_mmul ?_
  refine sa_cons ?_ ?_
  exact se_name
  refine sa_cons ?_ ?_
  exact se_name
  refine sa_cons ?_ ?_
  exact se_name
  exact sa_nil
  refine sa_cons ?_ ?_
  exact se_name
  refine sa_cons ?_ ?_
  exact se_name
  exact sa_nil
  exact ss_nil
  exact ss_nil
  exact ss_nil
  refine ss_cons ?_ ?_
  refine s1_ret ?_
  exact se_name
  exact ss_nil
  · intro pm code doc vs h
    match vs, h with
    | [v0, v1, v2, v3], _ => rfl
theorem sf_mproduct {C : Cx} (K : Reach C) : SF C 3 (Str.ofString "mproduct") f_mproduct := by
  have sf_mmul := sf_mmul K
  refine sf_of [Str.ofString "some", Str.ofString "p", Str.ofString "found", Str.ofString "one"] 2 (b := b_mproduct) rfl (K 16 (by decide)) ?_ ?_
  refine ss_cons ?_ ?_
  refine s1_set ?_
  refine se_new ?_
  refine sl_list ?_
  refine sa_cons ?_ ?_
  exact se_int
  exact sa_nil
  refine ss_cons ?_ ?_
  refine s1_forL ?_ sput_name ?_
  exact se_name
  refine ss_cons ?_ ?_
  refine s1_set ?_
  refine se_call sf_mmul ?_
  refine sa_cons ?_ ?_
  exact se_name
  refine sa_cons ?_ ?_
  exact se_name
  refine sa_cons ?_ ?_
  exact se_name
  exact sa_nil
  exact ss_nil
  refine ss_cons ?_ ?_
  refine s1_ret ?_
  exact se_name
  exact ss_nil
  · intro pm code doc vs h
    match vs, h with
    | [v0, v1], _ => rfl
theorem sf_mgcd {C : Cx} (K : Reach C) : SF C 5 (Str.ofString "mgcd") f_mgcd := by
  have sf_mmonic := sf_mmonic K
  have sf_mrest := sf_mrest K
  refine sf_of [Str.ofString "a", Str.ofString "b", Str.ofString "p"] 3 (b := b_mgcd) rfl (K 19 (by decide)) ?_ ?_
  refine ss_cons ?_ ?_
  refine s1_while ?_ ?_
  refine sb_cmp ?_ ?_ sc_gt
  refine se_len ?_
  exact se_name
  exact se_int
  refine ss_cons ?_ ?_
  refine s1_tup2 ?_
  refine sr_val ?_ ?_
  exact se_name
  refine sr_val ?_ ?_
  refine se_call sf_mrest ?_
  refine sa_cons ?_ ?_
  exact se_name
  refine sa_cons ?_ ?_
  exact se_name
  refine sa_cons ?_ ?_
  exact se_name
  exact sa_nil
  exact sr_nil
  exact ss_nil
  refine ss_cons ?_ ?_
  refine s1_ret ?_
  refine se_call sf_mmonic ?_
  refine sa_cons ?_ ?_
  exact se_name
  refine sa_cons ?_ ?_
  exact se_name
  exact sa_nil
  exact ss_nil
  · intro pm code doc vs h
    match vs, h with
    | [v0, v1, v2], _ => rfl
theorem sf_distinct_degrees {C : Cx} (K : Reach C) : SF C 6 (Str.ofString "distinct_degrees") f_distinct_degrees := by
  have sf_mdegree := sf_mdegree K
  have sf_mgcd := sf_mgcd K
  have sf_mpower_mod := sf_mpower_mod K
  have sf_mquotient := sf_mquotient K
  have sf_mrest := sf_mrest K
  have sf_msub := sf_msub K
  refine sf_of [Str.ofString "f", Str.ofString "p", Str.ofString "found", Str.ofString "degree", Str.ofString "power", Str.ofString "common"] 2 (b := b_distinct_degrees) rfl (K 23 (by decide)) ?_ ?_
  refine ss_cons ?_ ?_
  refine s1_tup3 ?_
  refine sr_own ?_ ?_
  refine sl_list ?_
  exact sa_nil
  refine sr_val ?_ ?_
  exact se_int
  refine sr_val ?_ ?_
  refine se_new ?_
  refine sl_list ?_
  refine sa_cons ?_ ?_
  exact se_int
  refine sa_cons ?_ ?_
  exact se_int
  exact sa_nil
  exact sr_nil
  refine ss_cons ?_ ?_
  refine s1_while ?_ ?_
  refine sb_cmp ?_ ?_ sc_ge
  refine se_call sf_mdegree ?_
  refine sa_cons ?_ ?_
  exact se_name
  exact sa_nil
  refine se_mul ?_ ?_
  exact se_int
  refine se_add ?_ ?_
  exact se_name
  exact se_int
  refine ss_cons ?_ ?_
  refine s1_set ?_
  refine se_add ?_ ?_
  exact se_name
  exact se_int
  refine ss_cons ?_ ?_
  refine s1_set ?_
  refine se_call sf_mpower_mod ?_
  refine sa_cons ?_ ?_
  exact se_name
  refine sa_cons ?_ ?_
  exact se_name
  refine sa_cons ?_ ?_
  exact se_name
  refine sa_cons ?_ ?_
  exact se_name
  exact sa_nil
  refine ss_cons ?_ ?_
  refine s1_set ?_
  refine se_call sf_mgcd ?_
  refine sa_cons ?_ ?_
  refine se_call sf_msub ?_
  refine sa_cons ?_ ?_
  exact se_name
  refine sa_cons ?_ ?_
  refine se_new ?_
  refine sl_list ?_
  refine sa_cons ?_ ?_
  exact se_int
  refine sa_cons ?_ ?_
  exact se_int
  exact sa_nil
  refine sa_cons ?_ ?_
  exact se_name
  exact sa_nil
  refine sa_cons ?_ ?_
  exact se_name
  refine sa_cons ?_ ?_
  exact se_name
  exact sa_nil
  refine ss_cons ?_ ?_
  refine s1_if ?_ ?_ ?_
  refine sb_cmp ?_ ?_ sc_gt
  refine se_call sf_mdegree ?_
  refine sa_cons ?_ ?_
  exact se_name
  exact sa_nil
  exact se_int
  refine ss_cons ?_ ?_
  refine s1_push ?_
  refine se_tup ?_
  refine sa_cons ?_ ?_
  exact se_name
  refine sa_cons ?_ ?_
  exact se_name
  exact sa_nil
  refine ss_cons ?_ ?_
  refine s1_set ?_
  refine se_call sf_mquotient ?_
  refine sa_cons ?_ ?_
  exact se_name
  refine sa_cons ?_ ?_
  exact se_name
  refine sa_cons ?_ ?_
  exact se_name
  exact sa_nil
  refine ss_cons ?_ ?_
  refine s1_set ?_
  refine se_call sf_mrest ?_
  refine sa_cons ?_ ?_
  exact se_name
  refine sa_cons ?_ ?_
  exact se_name
  refine sa_cons ?_ ?_
  exact se_name
  exact sa_nil
  exact ss_nil
  exact ss_nil
  exact ss_nil
  refine ss_cons ?_ ?_
  refine s1_if ?_ ?_ ?_
  refine sb_cmp ?_ ?_ sc_gt
  refine se_call sf_mdegree ?_
  refine sa_cons ?_ ?_
  exact se_name
  exact sa_nil
  exact se_int
  refine ss_cons ?_ ?_
  refine s1_push ?_
  refine se_tup ?_
  refine sa_cons ?_ ?_
  exact se_name
  refine sa_cons ?_ ?_
  refine se_call sf_mdegree ?_
  refine sa_cons ?_ ?_
  exact se_name
  exact sa_nil
  exact sa_nil
  exact ss_nil
  exact ss_nil
  refine ss_cons ?_ ?_
  refine s1_frz ?_
  refine s1_ret ?_
  exact se_name
  exact ss_nil
  · intro pm code doc vs h
    match vs, h with
    | [v0, v1], _ => rfl
theorem sf_trace_power {C : Cx} (K : Reach C) : SF C 5 (Str.ofString "trace_power") f_trace_power := by
  have sf_madd := sf_madd K
  have sf_mmul := sf_mmul K
  have sf_mrest := sf_mrest K
  refine sf_of [Str.ofString "a", Str.ofString "many", Str.ofString "f", Str.ofString "p", Str.ofString "found", Str.ofString "square", Str.ofString "turn"] 4 (b := b_trace_power) rfl (K 24 (by decide)) ?_ ?_
  refine ss_cons ?_ ?_
  refine s1_tup2 ?_
  refine sr_val ?_ ?_
  refine se_new ?_
  refine sl_list ?_
  exact sa_nil
  refine sr_val ?_ ?_
  refine se_call sf_mrest ?_
  refine sa_cons ?_ ?_
  exact se_name
  refine sa_cons ?_ ?_
  exact se_name
  refine sa_cons ?_ ?_
  exact se_name
  exact sa_nil
  exact sr_nil
  refine ss_cons ?_ ?_
  refine s1_range ?_ ?_
  exact se_name
  refine ss_cons ?_ ?_
  refine s1_set ?_
  refine se_call sf_madd ?_
  refine sa_cons ?_ ?_
  exact se_name
  refine sa_cons ?_ ?_
  exact se_name
  refine sa_cons ?_ ?_
  exact se_name
  exact sa_nil
  refine ss_cons ?_ ?_
  refine s1_set ?_
  refine se_call sf_mrest ?_
  refine sa_cons ?_ ?_
  refine se_call sf_mmul ?_
  refine sa_cons ?_ ?_
  exact se_name
  refine sa_cons ?_ ?_
  exact se_name
  refine sa_cons ?_ ?_
  exact se_name
  exact sa_nil
  refine sa_cons ?_ ?_
  exact se_name
  refine sa_cons ?_ ?_
  exact se_name
  exact sa_nil
  exact ss_nil
  refine ss_cons ?_ ?_
  refine s1_ret ?_
  exact se_name
  exact ss_nil
  · intro pm code doc vs h
    match vs, h with
    | [v0, v1, v2, v3], _ => rfl
theorem sf_split_power {C : Cx} (K : Reach C) : SF C 6 (Str.ofString "split_power") f_split_power := by
  have sf_mpower_mod := sf_mpower_mod K
  have sf_msub := sf_msub K
  have sf_trace_power := sf_trace_power K
  refine sf_of [Str.ofString "a", Str.ofString "degree", Str.ofString "f", Str.ofString "p"] 4 (b := b_split_power) rfl (K 25 (by decide)) ?_ ?_
  refine ss_cons ?_ ?_
  refine s1_if ?_ ?_ ?_
  refine sb_cmp ?_ ?_ sc_eq
  exact se_name
  exact se_int
  refine ss_cons ?_ ?_
  refine s1_ret ?_
  refine se_call sf_msub ?_
  refine sa_cons ?_ ?_
  refine se_call sf_trace_power ?_
  refine sa_cons ?_ ?_
  exact se_name
  refine sa_cons ?_ ?_
  exact se_name
  refine sa_cons ?_ ?_
  exact se_name
  refine sa_cons ?_ ?_
  exact se_name
  exact sa_nil
  refine sa_cons ?_ ?_
  refine se_new ?_
  refine sl_list ?_
  refine sa_cons ?_ ?_
  exact se_int
  exact sa_nil
  refine sa_cons ?_ ?_
  exact se_name
  exact sa_nil
  exact ss_nil
  exact ss_nil
  refine ss_cons ?_ ?_
  refine s1_ret ?_
  refine se_call sf_msub ?_
  refine sa_cons ?_ ?_
  refine se_call sf_mpower_mod ?_
  refine sa_cons ?_ ?_
  exact se_name
  refine sa_cons ?_ ?_
  refine se_div ?_ ?_
  refine se_sub ?_ ?_
  refine se_pow ?_ ?_
  exact se_name
  exact se_name
  exact se_int
  exact se_int
  refine sa_cons ?_ ?_
  exact se_name
  refine sa_cons ?_ ?_
  exact se_name
  exact sa_nil
  refine sa_cons ?_ ?_
  refine se_new ?_
  refine sl_list ?_
  refine sa_cons ?_ ?_
  exact se_int
  exact sa_nil
  refine sa_cons ?_ ?_
  exact se_name
  exact sa_nil
  exact ss_nil
  · intro pm code doc vs h
    match vs, h with
    | [v0, v1, v2, v3], _ => rfl
theorem sf_split_once {C : Cx} (K : Reach C) : SF C 7 (Str.ofString "split_once") f_split_once := by
  have sf_mdegree := sf_mdegree K
  have sf_mgcd := sf_mgcd K
  have sf_split_power := sf_split_power K
  refine sf_of [Str.ofString "f", Str.ofString "degree", Str.ofString "a", Str.ofString "p", Str.ofString "common"] 4 (b := b_split_once) rfl (K 26 (by decide)) ?_ ?_
  refine ss_cons ?_ ?_
  refine s1_set ?_
  refine se_call sf_mgcd ?_
  refine sa_cons ?_ ?_
  exact se_name
  refine sa_cons ?_ ?_
  exact se_name
  refine sa_cons ?_ ?_
  exact se_name
  exact sa_nil
  refine ss_cons ?_ ?_
  refine s1_if ?_ ?_ ?_
  refine sb_lt2 ?_ ?_ ?_
  exact se_int
  refine se_call sf_mdegree ?_
  refine sa_cons ?_ ?_
  exact se_name
  exact sa_nil
  refine se_call sf_mdegree ?_
  refine sa_cons ?_ ?_
  exact se_name
  exact sa_nil
  refine ss_cons ?_ ?_
  refine s1_ret ?_
  exact se_name
  exact ss_nil
  exact ss_nil
  refine ss_cons ?_ ?_
  refine s1_set ?_
  refine se_call sf_mgcd ?_
  refine sa_cons ?_ ?_
  refine se_call sf_split_power ?_
  refine sa_cons ?_ ?_
  exact se_name
  refine sa_cons ?_ ?_
  exact se_name
  refine sa_cons ?_ ?_
  exact se_name
  refine sa_cons ?_ ?_
  exact se_name
  exact sa_nil
  refine sa_cons ?_ ?_
  exact se_name
  refine sa_cons ?_ ?_
  exact se_name
  exact sa_nil
  refine ss_cons ?_ ?_
  refine s1_ret ?_
  refine se_if ?_ ?_ ?_
  refine sb_lt2 ?_ ?_ ?_
  exact se_int
  refine se_call sf_mdegree ?_
  refine sa_cons ?_ ?_
  exact se_name
  exact sa_nil
  refine se_call sf_mdegree ?_
  refine sa_cons ?_ ?_
  exact se_name
  exact sa_nil
  exact se_name
  exact se_none
  exact ss_nil
  · intro pm code doc vs h
    match vs, h with
    | [v0, v1, v2, v3], _ => rfl
theorem sf_counted {C : Cx} (K : Reach C) : SF C 2 (Str.ofString "counted") f_counted := by
  have sf_mtrim := sf_mtrim K
  refine sf_of [Str.ofString "number", Str.ofString "p", Str.ofString "found"] 2 (b := b_counted) rfl (K 29 (by decide)) ?_ ?_
  refine ss_cons ?_ ?_
  refine s1_own ?_
  refine sl_list ?_
  exact sa_nil
  refine ss_cons ?_ ?_
  refine s1_while ?_ ?_
  refine sb_cmp ?_ ?_ sc_gt
  exact se_name
  exact se_int
  refine ss_cons ?_ ?_
  refine s1_push ?_
  refine se_mod ?_ ?_
  exact se_name
  exact se_name
  refine ss_cons ?_ ?_
  refine s1_set ?_
  refine se_div ?_ ?_
  exact se_name
  exact se_name
  exact ss_nil
  refine ss_cons ?_ ?_
  refine s1_frz ?_
  refine s1_ret ?_
  refine se_call sf_mtrim ?_
  refine sa_cons ?_ ?_
  exact se_name
  exact sa_nil
  exact ss_nil
  · intro pm code doc vs h
    match vs, h with
    | [v0, v1], _ => rfl
theorem sf_first_split {C : Cx} (K : Reach C) : SF C 8 (Str.ofString "first_split") f_first_split := by
  have sf_counted := sf_counted K
  have sf_split_once := sf_split_once K
  refine sf_of [Str.ofString "f", Str.ofString "degree", Str.ofString "choices", Str.ofString "p", Str.ofString "a", Str.ofString "part", Str.ofString "number"] 4 (b := b_first_split) rfl (K 28 (by decide)) ?_ ?_
  refine ss_cons ?_ ?_
  refine s1_forL ?_ sput_fail ?_
  exact se_name
  exact ss_fail
  refine ss_cons ?_ ?_
  refine s1_tup2 ?_
  refine sr_val ?_ ?_
  exact se_name
  refine sr_val ?_ ?_
  exact se_none
  exact sr_nil
  refine ss_cons ?_ ?_
  refine s1_while ?_ ?_
  refine sb_isNone ?_
  exact se_name
  refine ss_cons ?_ ?_
  refine s1_set ?_
  refine se_call sf_split_once ?_
  refine sa_cons ?_ ?_
  exact se_name
  refine sa_cons ?_ ?_
  exact se_name
  refine sa_cons ?_ ?_
  refine se_call sf_counted ?_
  refine sa_cons ?_ ?_
  exact se_name
  refine sa_cons ?_ ?_
  exact se_name
  exact sa_nil
  refine sa_cons ?_ ?_
  exact se_name
  exact sa_nil
  refine ss_cons ?_ ?_
  refine s1_set ?_
  refine se_if ?_ ?_ ?_
  refine sb_cmp ?_ ?_ sc_eq
  exact se_name
  exact se_int
  refine se_mul ?_ ?_
  exact se_int
  exact se_name
  refine se_add ?_ ?_
  exact se_name
  exact se_int
  exact ss_nil
  refine ss_cons ?_ ?_
  refine s1_ret ?_
  exact se_name
  exact ss_nil
  · intro pm code doc vs h
    match vs, h with
    | [v0, v1, v2, v3], _ => rfl
theorem sf_morder {C : Cx} (K : Reach C) : SF C 1 (Str.ofString "morder") f_morder := by
  refine sf_of [Str.ofString "a"] 1 (b := b_morder) rfl (K 17 (by decide)) ?_ ?_
  refine ss_cons ?_ ?_
  refine s1_ret ?_
  refine se_tup ?_
  refine sa_cons ?_ ?_
  refine se_len ?_
  exact se_name
  refine sa_cons ?_ ?_
  refine se_new ?_
  refine sl_rev ?_
  exact se_name
  exact sa_nil
  exact ss_nil
  · intro pm code doc vs h
    match vs, h with
    | [v0], _ => rfl
theorem sf_equal_degree {C : Cx} (K : Reach C) : SF C 9 (Str.ofString "equal_degree") f_equal_degree := by
  have sf_first_split := sf_first_split K
  have sf_mdegree := sf_mdegree K
  have sf_mmonic := sf_mmonic K
  have sf_morder := sf_morder K
  have sf_mquotient := sf_mquotient K
  refine sf_of [Str.ofString "f", Str.ofString "degree", Str.ofString "choices", Str.ofString "p", Str.ofString "waiting", Str.ofString "found", Str.ofString "here", Str.ofString "part"] 4 (b := b_equal_degree) rfl (K 27 (by decide)) ?_ ?_
  refine ss_cons ?_ ?_
  refine s1_tup2 ?_
  refine sr_own ?_ ?_
  refine sl_if ?_ ?_ ?_
  refine sb_cmp ?_ ?_ sc_gt
  refine se_call sf_mdegree ?_
  refine sa_cons ?_ ?_
  exact se_name
  exact sa_nil
  exact se_int
  refine sl_list ?_
  refine sa_cons ?_ ?_
  refine se_call sf_mmonic ?_
  refine sa_cons ?_ ?_
  exact se_name
  refine sa_cons ?_ ?_
  exact se_name
  exact sa_nil
  exact sa_nil
  refine sl_list ?_
  exact sa_nil
  refine sr_own ?_ ?_
  refine sl_list ?_
  exact sa_nil
  exact sr_nil
  refine ss_cons ?_ ?_
  refine s1_while ?_ ?_
  refine sb_cmp ?_ ?_ sc_gt
  exact se_lenO
  exact se_int
  refine ss_cons ?_ ?_
  exact s1_pop
  refine ss_cons ?_ ?_
  refine s1_if ?_ ?_ ?_
  refine sb_cmp ?_ ?_ sc_eq
  refine se_call sf_mdegree ?_
  refine sa_cons ?_ ?_
  exact se_name
  exact sa_nil
  exact se_name
  refine ss_cons ?_ ?_
  refine s1_push ?_
  exact se_name
  exact ss_nil
  refine ss_cons ?_ ?_
  refine s1_set ?_
  refine se_call sf_first_split ?_
  refine sa_cons ?_ ?_
  exact se_name
  refine sa_cons ?_ ?_
  exact se_name
  refine sa_cons ?_ ?_
  exact se_name
  refine sa_cons ?_ ?_
  exact se_name
  exact sa_nil
  refine ss_cons ?_ ?_
  refine s1_push ?_
  exact se_name
  refine ss_cons ?_ ?_
  refine s1_push ?_
  refine se_call sf_mquotient ?_
  refine sa_cons ?_ ?_
  exact se_name
  refine sa_cons ?_ ?_
  exact se_name
  refine sa_cons ?_ ?_
  exact se_name
  exact sa_nil
  exact ss_nil
  exact ss_nil
  refine ss_cons ?_ ?_
  refine s1_frz ?_
  refine s1_ret ?_
  refine se_new ?_
  refine sl_sorted sf_morder ?_
  exact se_name
  exact ss_nil
  · intro pm code doc vs h
    match vs, h with
    | [v0, v1, v2, v3], _ => rfl
theorem sf_prime_parts {C : Cx} (K : Reach C) : SF C 10 (Str.ofString "prime_parts") f_prime_parts := by
  have sf_distinct_degrees := sf_distinct_degrees K
  have sf_equal_degree := sf_equal_degree K
  have sf_morder := sf_morder K
  refine sf_of [Str.ofString "f", Str.ofString "choices", Str.ofString "p", Str.ofString "found", Str.ofString "product", Str.ofString "degree"] 3 (b := b_prime_parts) rfl (K 30 (by decide)) ?_ ?_
  refine ss_cons ?_ ?_
  refine s1_own ?_
  refine sl_list ?_
  exact sa_nil
  refine ss_cons ?_ ?_
  refine s1_forL ?_ (sput_tup (fun ev => tg_name rfl rfl (tg_name rfl rfl .nil))) ?_
  refine se_call sf_distinct_degrees ?_
  refine sa_cons ?_ ?_
  exact se_name
  refine sa_cons ?_ ?_
  exact se_name
  exact sa_nil
  refine ss_cons ?_ ?_
  refine s1_ext ?_
  refine se_call sf_equal_degree ?_
  refine sa_cons ?_ ?_
  exact se_name
  refine sa_cons ?_ ?_
  exact se_name
  refine sa_cons ?_ ?_
  exact se_name
  refine sa_cons ?_ ?_
  exact se_name
  exact sa_nil
  exact ss_nil
  refine ss_cons ?_ ?_
  refine s1_frz ?_
  refine s1_ret ?_
  refine se_new ?_
  refine sl_sorted sf_morder ?_
  exact se_name
  exact ss_nil
  · intro pm code doc vs h
    match vs, h with
    | [v0, v1, v2], _ => rfl
theorem sf_gf_multiply {C : Cx} (K : Reach C) : SF C 5 (Str.ofString "gf_multiply") f_gf_multiply := by
  have sf_mmul := sf_mmul K
  have sf_mrest := sf_mrest K
  refine sf_of [Str.ofString "a", Str.ofString "b", Str.ofString "m", Str.ofString "p"] 4 (b := b_gf_multiply) rfl (K 34 (by decide)) ?_ ?_
  refine ss_cons ?_ ?_
  refine s1_ret ?_
  refine se_call sf_mrest ?_
  refine sa_cons ?_ ?_
  refine se_call sf_mmul ?_
  refine sa_cons ?_ ?_
  exact se_name
  refine sa_cons ?_ ?_
  exact se_name
  refine sa_cons ?_ ?_
  exact se_name
  exact sa_nil
  refine sa_cons ?_ ?_
  exact se_name
  refine sa_cons ?_ ?_
  exact se_name
  exact sa_nil
  exact ss_nil
  · intro pm code doc vs h
    match vs, h with
    | [v0, v1, v2, v3], _ => rfl
theorem sf_gf_power {C : Cx} (K : Reach C) : SF C 6 (Str.ofString "gf_power") f_gf_power := by
  have sf_gf_multiply := sf_gf_multiply K
  refine sf_of [Str.ofString "a", Str.ofString "n", Str.ofString "m", Str.ofString "p", Str.ofString "found", Str.ofString "square"] 4 (b := b_gf_power) rfl (K 36 (by decide)) ?_ ?_
  refine ss_cons ?_ ?_
  refine s1_if ?_ ?_ ?_
  refine sb_cmp ?_ ?_ sc_lt
  exact se_name
  exact se_int
  refine ss_cons ?_ ?_
  exact s1_fail
  exact ss_nil
  exact ss_nil
  refine ss_cons ?_ ?_
  refine s1_tup2 ?_
  refine sr_val ?_ ?_
  refine se_new ?_
  refine sl_list ?_
  refine sa_cons ?_ ?_
  exact se_int
  exact sa_nil
  refine sr_val ?_ ?_
  refine se_new ?_
  refine sl_copy ?_
  exact se_name
  exact sr_nil
  refine ss_cons ?_ ?_
  refine s1_while ?_ ?_
  refine sb_cmp ?_ ?_ sc_gt
  exact se_name
  exact se_int
  refine ss_cons ?_ ?_
  refine s1_if ?_ ?_ ?_
  refine sb_cmp ?_ ?_ sc_eq
  refine se_mod ?_ ?_
  exact se_name
  exact se_int
  exact se_int
  refine ss_cons ?_ ?_
  refine s1_set ?_
  refine se_call sf_gf_multiply ?_
  refine sa_cons ?_ ?_
  exact se_name
  refine sa_cons ?_ ?_
  exact se_name
  refine sa_cons ?_ ?_
  exact se_name
  refine sa_cons ?_ ?_
  exact se_name
  exact sa_nil
  exact ss_nil
  exact ss_nil
  refine ss_cons ?_ ?_
  refine s1_set ?_
  refine se_div ?_ ?_
  exact se_name
  exact se_int
  refine ss_cons ?_ ?_
  refine s1_if ?_ ?_ ?_
  refine sb_cmp ?_ ?_ sc_gt
  exact se_name
  exact se_int
  refine ss_cons ?_ ?_
  refine s1_set ?_
  refine se_call sf_gf_multiply ?_
  refine sa_cons ?_ ?_
  exact se_name
  refine sa_cons ?_ ?_
  exact se_name
  refine sa_cons ?_ ?_
  exact se_name
  refine sa_cons ?_ ?_
  exact se_name
  exact sa_nil
  exact ss_nil
  exact ss_nil
  exact ss_nil
  refine ss_cons ?_ ?_
  refine s1_ret ?_
  exact se_name
  exact ss_nil
  · intro pm code doc vs h
    match vs, h with
    | [v0, v1, v2, v3], _ => rfl
theorem sf_number_of {C : Cx} (K : Reach C) : SF C 1 (Str.ofString "number_of") f_number_of := by
  refine sf_of [Str.ofString "a"] 1 (b := b_number_of) rfl (K 37 (by decide)) ?_ ?_
  refine ss_cons ?_ ?_
  refine s1_ret ?_
  refine se_if ?_ ?_ ?_
  refine sb_cmp ?_ ?_ sc_gt
  refine se_len ?_
  exact se_name
  exact se_int
  refine se_at ?_ ?_
  exact se_name
  exact se_int
  exact se_int
  exact ss_nil
  · intro pm code doc vs h
    match vs, h with
    | [v0], _ => rfl
theorem sf_gf_trace {C : Cx} (K : Reach C) : SF C 7 (Str.ofString "gf_trace") f_gf_trace := by
  have sf_gf_power := sf_gf_power K
  have sf_madd := sf_madd K
  have sf_mdegree := sf_mdegree K
  have sf_number_of := sf_number_of K
  refine sf_of [Str.ofString "a", Str.ofString "m", Str.ofString "p", Str.ofString "found", Str.ofString "here", Str.ofString "turn"] 3 (b := b_gf_trace) rfl (K 38 (by decide)) ?_ ?_
  refine ss_cons ?_ ?_
  refine s1_tup2 ?_
  refine sr_val ?_ ?_
  refine se_new ?_
  refine sl_list ?_
  exact sa_nil
  refine sr_val ?_ ?_
  refine se_new ?_
  refine sl_copy ?_
  exact se_name
  exact sr_nil
  refine ss_cons ?_ ?_
  refine s1_range ?_ ?_
  refine se_call sf_mdegree ?_
  refine sa_cons ?_ ?_
  exact se_name
  exact sa_nil
  refine ss_cons ?_ ?_
  refine s1_set ?_
  refine se_call sf_madd ?_
  refine sa_cons ?_ ?_
  exact se_name
  refine sa_cons ?_ ?_
  exact se_name
  refine sa_cons ?_ ?_
  exact se_name
  exact sa_nil
  refine ss_cons ?_ ?_
  refine s1_set ?_
  refine se_call sf_gf_power ?_
  refine sa_cons ?_ ?_
  exact se_name
  refine sa_cons ?_ ?_
  exact se_name
  refine sa_cons ?_ ?_
  exact se_name
  refine sa_cons ?_ ?_
  exact se_name
  exact sa_nil
  exact ss_nil
  refine ss_cons ?_ ?_
  refine s1_ret ?_
  refine se_call sf_number_of ?_
  refine sa_cons ?_ ?_
  exact se_name
  exact sa_nil
  exact ss_nil
  · intro pm code doc vs h
    match vs, h with
    | [v0, v1, v2], _ => rfl
theorem sf_gf_at {C : Cx} (K : Reach C) : SF C 6 (Str.ofString "gf_at") f_gf_at := by
  have sf_gf_multiply := sf_gf_multiply K
  have sf_madd := sf_madd K
  have sf_mscale := sf_mscale K
  refine sf_of [Str.ofString "f", Str.ofString "a", Str.ofString "m", Str.ofString "p", Str.ofString "found", Str.ofString "number"] 4 (b := b_gf_at) rfl (K 39 (by decide)) ?_ ?_
  refine ss_cons ?_ ?_
  refine s1_set ?_
  refine se_new ?_
  refine sl_list ?_
  exact sa_nil
  refine ss_cons ?_ ?_
  refine s1_forL ?_ sput_name ?_
  refine se_new ?_
  refine sl_rev ?_
  exact se_name
  refine ss_cons ?_ ?_
  refine s1_set ?_
  refine se_call sf_madd ?_
  refine sa_cons ?_ ?_
  refine se_call sf_gf_multiply ?_
  refine sa_cons ?_ ?_
  exact se_name
  refine sa_cons ?_ ?_
  exact se_name
  refine sa_cons ?_ ?_
  exact se_name
  refine sa_cons ?_ ?_
  exact se_name
  exact sa_nil
  refine sa_cons ?_ ?_
  refine se_call sf_mscale ?_
  refine sa_cons ?_ ?_
  refine se_new ?_
  refine sl_list ?_
  refine sa_cons ?_ ?_
  exact se_int
  exact sa_nil
  refine sa_cons ?_ ?_
  exact se_name
  refine sa_cons ?_ ?_
  exact se_name
  exact sa_nil
  refine sa_cons ?_ ?_
  exact se_name
  exact sa_nil
  exact ss_nil
  refine ss_cons ?_ ?_
  refine s1_ret ?_
  exact se_name
  exact ss_nil
  · intro pm code doc vs h
    match vs, h with
    | [v0, v1, v2, v3], _ => rfl
theorem sf_law_at {C : Cx} (K : Reach C) : SF C 3 (Str.ofString "_law_at") f_law_at := by
  have sf_madd := sf_madd K
  have sf_mmul := sf_mmul K
  refine sf_of [Str.ofString "f", Str.ofString "row", Str.ofString "p", Str.ofString "found", Str.ofString "number"] 3 (b := b_law_at) rfl (K 43 (by decide)) ?_ ?_
  refine ss_cons ?_ ?_
  refine s1_set ?_
  refine se_new ?_
  refine sl_list ?_
  exact sa_nil
  refine ss_cons ?_ ?_
  refine s1_forL ?_ sput_name ?_
  refine se_new ?_
  refine sl_rev ?_
  exact se_name
  refine ss_cons ?_ ?_
  refine s1_set ?_
  refine se_call sf_madd ?_
  refine sa_cons ?_ ?_
  refine se_call sf_mmul ?_
  refine sa_cons ?_ ?_
  exact se_name
  refine sa_cons ?_ ?_
  exact se_name
  refine sa_cons ?_ ?_
  exact se_name
  exact sa_nil
  refine sa_cons ?_ ?_
  refine se_new ?_
  refine sl_if ?_ ?_ ?_
  refine sb_cmp ?_ ?_ sc_gt
  exact se_name
  exact se_int
  refine sl_list ?_
  refine sa_cons ?_ ?_
  exact se_name
  exact sa_nil
  refine sl_list ?_
  exact sa_nil
  refine sa_cons ?_ ?_
  exact se_name
  exact sa_nil
  exact ss_nil
  refine ss_cons ?_ ?_
  refine s1_ret ?_
  exact se_name
  exact ss_nil
  · intro pm code doc vs h
    match vs, h with
    | [v0, v1, v2], _ => rfl
-- law level 10; needs [('distinct_degrees', 0), ('gf_at', 0), ('gf_trace', 0), ('law_at', 0), ('mproduct', 0), ('mrest', 0), ('prime_parts', 0)]
def nm_law : List Str := [Str.ofString "script", Str.ofString "p", Str.ofString "f", Str.ofString "k", Str.ofString "inner", Str.ofString "whole", Str.ofString "root", Str.ofString "is_split", Str.ofString "parts", Str.ofString "here", Str.ofString "seen", Str.ofString "turn"]
theorem ss_law {C : Cx} (K : Reach C) {n : Nat} {sc : Scope} {params : Arguments} {name : Str} {pos : Pos} {s1 s2 : Stmt} {body : List Stmt} (he : defAt 44 = ⟨name, params, s1 :: s2 :: body, sc, pos⟩) : SS C 10 sc [Str.ofString "script", Str.ofString "p", Str.ofString "f", Str.ofString "k", Str.ofString "inner", Str.ofString "whole", Str.ofString "root", Str.ofString "is_split", Str.ofString "parts", Str.ofString "here", Str.ofString "seen", Str.ofString "turn"] body b_law := by
  cases he
  have sf_distinct_degrees := sf_distinct_degrees K
  have sf_gf_at := sf_gf_at K
  have sf_gf_trace := sf_gf_trace K
  have sf_law_at := sf_law_at K
  have sf_mproduct := sf_mproduct K
  have sf_mrest := sf_mrest K
  have sf_prime_parts := sf_prime_parts K
  refine ss_cons ?_ ?_
  refine s1_set ?_
  refine se_call sf_law_at ?_
  refine sa_cons ?_ ?_
  exact se_name
  refine sa_cons ?_ ?_
  exact se_name
  refine sa_cons ?_ ?_
  exact se_name
  exact sa_nil
  refine ss_cons ?_ ?_
  refine s1_if ?_ ?_ ?_
  refine sb_or ?_ ?_
  refine sb_cmp ?_ ?_ sc_ne
  refine se_len ?_
  exact se_name
  refine se_add ?_ ?_
  refine se_mul ?_ ?_
  exact se_name
  exact se_name
  exact se_int
  refine sb_cmp ?_ ?_ sc_neL
  refine se_call sf_law_at ?_
  refine sa_cons ?_ ?_
  exact se_name
  refine sa_cons ?_ ?_
  refine se_new ?_
  refine sl_list ?_
  refine sa_cons ?_ ?_
  exact se_int
  refine sa_cons ?_ ?_
  exact se_int
  exact sa_nil
  refine sa_cons ?_ ?_
  exact se_name
  exact sa_nil
  exact se_name
  refine ss_cons ?_ ?_
  refine s1_ret ?_
  exact se_bool
  exact ss_nil
  exact ss_nil
  refine ss_cons ?_ ?_
  refine s1_set ?_
  refine se_if ?_ ?_ ?_
  refine sb_cmp ?_ ?_ sc_gt
  exact se_name
  exact se_int
  refine se_new ?_
  refine sl_list ?_
  refine sa_cons ?_ ?_
  exact se_int
  refine sa_cons ?_ ?_
  exact se_int
  exact sa_nil
  refine se_call sf_mrest ?_
  refine sa_cons ?_ ?_
  refine se_new ?_
  refine sl_list ?_
  refine sa_cons ?_ ?_
  exact se_int
  refine sa_cons ?_ ?_
  exact se_int
  exact sa_nil
  refine sa_cons ?_ ?_
  exact se_name
  refine sa_cons ?_ ?_
  exact se_name
  exact sa_nil
  refine ss_cons ?_ ?_
  refine s1_set ?_
  refine se_cmp ?_ ?_ sc_eq
  refine se_call sf_gf_trace ?_
  refine sa_cons ?_ ?_
  exact se_name
  refine sa_cons ?_ ?_
  exact se_name
  refine sa_cons ?_ ?_
  exact se_name
  exact sa_nil
  exact se_int
  refine ss_cons ?_ ?_
  refine s1_if ?_ ?_ ?_
  refine sb_or ?_ ?_
  refine sb_cmp ?_ ?_ sc_neB
  refine se_cmp ?_ ?_ sc_eq
  refine se_at ?_ ?_
  exact se_name
  refine se_sub ?_ ?_
  exact se_name
  exact se_int
  exact se_int
  exact se_name
  refine sb_cmp ?_ ?_ sc_neL
  refine se_call sf_distinct_degrees ?_
  refine sa_cons ?_ ?_
  exact se_name
  refine sa_cons ?_ ?_
  exact se_name
  exact sa_nil
  refine se_new ?_
  refine sl_list ?_
  refine sa_cons ?_ ?_
  refine se_tup ?_
  refine sa_cons ?_ ?_
  exact se_name
  refine sa_cons ?_ ?_
  refine se_if ?_ ?_ ?_
  refine sb_val ?_
  exact se_name
  exact se_name
  refine se_mul ?_ ?_
  exact se_name
  exact se_name
  exact sa_nil
  exact sa_nil
  refine ss_cons ?_ ?_
  refine s1_ret ?_
  exact se_bool
  exact ss_nil
  exact ss_nil
  refine ss_cons ?_ ?_
  refine s1_if ?_ ?_ ?_
  refine sb_cmp ?_ ?_ sc_gt
  refine se_mul ?_ ?_
  exact se_name
  exact se_name
  exact se_int
  refine ss_cons ?_ ?_
  refine s1_ret ?_
  exact se_bool
  exact ss_nil
  exact ss_nil
  refine ss_cons ?_ ?_
  refine s1_set ?_
  refine se_call sf_prime_parts ?_
  refine sa_cons ?_ ?_
  exact se_name
  refine sa_cons ?_ ?_
  refine se_new ?_
  refine sl_list ?_
  exact sa_nil
  refine sa_cons ?_ ?_
  exact se_name
  exact sa_nil
  refine ss_cons ?_ ?_
  refine s1_if ?_ ?_ ?_
  refine sb_or ?_ ?_
  refine sb_cmp ?_ ?_ sc_ne
  refine se_len ?_
  exact se_name
  refine se_if ?_ ?_ ?_
  refine sb_val ?_
  exact se_name
  exact se_name
  exact se_int
  refine sb_cmp ?_ ?_ sc_neL
  refine se_call sf_mproduct ?_
  refine sa_cons ?_ ?_
  exact se_name
  refine sa_cons ?_ ?_
  exact se_name
  exact sa_nil
  exact se_name
  refine ss_cons ?_ ?_
  refine s1_ret ?_
  exact se_bool
  exact ss_nil
  exact ss_nil
  refine ss_cons ?_ ?_
  refine s1_tup2 ?_
  refine sr_val ?_ ?_
  refine se_at ?_ ?_
  exact se_name
  exact se_int
  refine sr_val ?_ ?_
  refine se_new ?_
  refine sl_list ?_
  exact sa_nil
  exact sr_nil
  refine ss_cons ?_ ?_
  refine s1_range ?_ ?_
  refine se_len ?_
  exact se_name
  refine ss_cons ?_ ?_
  refine s1_if ?_ ?_ ?_
  refine sb_or3 ?_ ?_ ?_
  refine sb_cmp ?_ ?_ sc_in
  exact se_name
  exact se_name
  refine sb_cmp ?_ ?_ sc_notIn
  exact se_name
  exact se_name
  refine sb_cmp ?_ ?_ sc_ne
  refine se_len ?_
  exact se_name
  refine se_add ?_ ?_
  refine se_if ?_ ?_ ?_
  refine sb_val ?_
  exact se_name
  exact se_name
  refine se_mul ?_ ?_
  exact se_name
  exact se_name
  exact se_int
  refine ss_cons ?_ ?_
  refine s1_ret ?_
  exact se_bool
  exact ss_nil
  exact ss_nil
  refine ss_cons ?_ ?_
  refine s1_tup2 ?_
  refine sr_val ?_ ?_
  refine se_new ?_
  refine sl_cat ?_ ?_
  exact se_name
  refine se_new ?_
  refine sl_list ?_
  refine sa_cons ?_ ?_
  exact se_name
  exact sa_nil
  refine sr_val ?_ ?_
  refine se_call sf_law_at ?_
  refine sa_cons ?_ ?_
  exact se_name
  refine sa_cons ?_ ?_
  refine se_new ?_
  refine sl_list ?_
  refine sa_cons ?_ ?_
  exact se_int
  refine sa_cons ?_ ?_
  exact se_int
  exact sa_nil
  refine sa_cons ?_ ?_
  exact se_name
  exact sa_nil
  exact sr_nil
  exact ss_nil
  refine ss_cons ?_ ?_
  refine s1_ret ?_
  refine se_and ?_ ?_
  refine se_cmp ?_ ?_ sc_eqL
  exact se_name
  refine se_at ?_ ?_
  exact se_name
  exact se_int
  refine se_cmp ?_ ?_ sc_eqL
  refine se_new ?_
  refine sl_compr [Str.ofString "f", Str.ofString "p", Str.ofString "inner"] ?_ ?_ ?_
  exact se_name
  exact se_name
  refine st_one ?_
  refine sb_cmp ?_ ?_ sc_neL
  refine se_call sf_gf_at ?_
  refine sa_cons ?_ ?_
  exact se_name
  refine sa_cons ?_ ?_
  refine se_call sf_mrest ?_
  refine sa_cons ?_ ?_
  exact se_name
  refine sa_cons ?_ ?_
  exact se_name
  refine sa_cons ?_ ?_
  exact se_name
  exact sa_nil
  refine sa_cons ?_ ?_
  exact se_name
  refine sa_cons ?_ ?_
  exact se_name
  exact sa_nil
  refine se_new ?_
  refine sl_list ?_
  exact sa_nil
  refine se_new ?_
  refine sl_list ?_
  exact sa_nil
  exact ss_nil
def d_rhs : D := (dTup (dsC (dSub (dLen (dV 2)) (dI 1)) (dsC (dNew (dCat (dNew (dCat (dNew (dsC (dI 0) (dsC (dSub (dV 1) (dI 1)) ds0))) (dNew (dRep (dI 0) (dSub (dV 1) (dI 2)))))) (dNew (dsC (dI 1) ds0)))) ds0)))
theorem se_rhs {C : Cx} {n : Nat} {sc : Scope} {params : Arguments} {name : Str} {pos ps : Pos} {s1 : Stmt} {ts : List Expr} {rhs : Expr} {body : List Stmt} (he : defAt 44 = ⟨name, params, s1 :: .Assign ts rhs ps :: body, sc, pos⟩) : SE C n sc [Str.ofString "script", Str.ofString "p", Str.ofString "f", Str.ofString "k", Str.ofString "inner", Str.ofString "whole", Str.ofString "root", Str.ofString "is_split", Str.ofString "parts", Str.ofString "here", Str.ofString "seen", Str.ofString "turn"] rhs d_rhs := by
  cases he
  refine se_tup ?_
  refine sa_cons ?_ ?_
  refine se_sub ?_ ?_
  refine se_len ?_
  exact se_name
  exact se_int
  refine sa_cons ?_ ?_
  refine se_new ?_
  refine sl_cat ?_ ?_
  refine se_new ?_
  refine sl_cat ?_ ?_
  refine se_new ?_
  refine sl_list ?_
  refine sa_cons ?_ ?_
  exact se_int
  refine sa_cons ?_ ?_
  refine se_sub ?_ ?_
  exact se_name
  exact se_int
  exact sa_nil
  refine se_new ?_
  refine sl_rep ?_ ?_
  exact se_int
  refine se_sub ?_ ?_
  exact se_name
  exact se_int
  refine se_new ?_
  refine sl_list ?_
  refine sa_cons ?_ ?_
  exact se_int
  exact sa_nil
  exact sa_nil
end Mine
end

section
open PySem PySem.W PySem.Calls PyProof.Rows PySem.Spec PyProof.V
namespace Mine

def row0 (P : Int) (xs : List V) : St := [.free, .val (.int P), .val (.list xs), .free, .free, .free, .free, .free, .free, .free, .free, .free]
def row1 (P : Int) (xs : List V) (a b : V) : St := [.free, .val (.int P), .val (.list xs), .val a, .val b, .free, .free, .free, .free, .free, .free, .free]
def isTrue_ : Option Res → Bool
  | some (.ret (.bool true)) => true
  | _ => false
def lawRun (P : Int) (xs : List V) : Bool := match d_rhs (row0 P xs) with
  | some (.tuple [a, b]) => isTrue_ (b_law (row1 P xs a b))
  | _ => false
theorem lawRun_inv {P : Int} {xs : List V} (h : lawRun P xs = true) : ∃ a b, d_rhs (row0 P xs) = some (.tuple [a, b]) ∧ b_law (row1 P xs a b) = some (.ret (.bool true)) := by
  unfold lawRun at h
  split at h
  · rename_i a b hq
    refine ⟨a, b, hq, ?_⟩
    unfold isTrue_ at h
    split at h
    · assumption
    · cases h
  · cases h

/-- all that stands is frozen, but two addresses -/
def phi (L c : Addr) (h : Heap) : PMap := fun b => if b = L ∨ b = c then none else h.get? b
theorem phi_inn {L c : Addr} {h : Heap} : ∀ a o, phi L c h a = some o → h.get? a = some o := by
  intro a o e
  unfold phi at e
  split at e
  · cases e
  · exact e
theorem phi_of {L c : Addr} {h : Heap} {a : Addr} {o : Obj} (e : h.get? a = some o) (h1 : a ≠ L) (h2 : a ≠ c) : phi L c h a = some o := by
  unfold phi
  rw [if_neg (by rintro (q | q); exact h1 q; exact h2 q)]
  exact e

section
variable {C : Cx} {n : Nat} {ev : EV} {A : Around} {s : Shared}

theorem law_rest0 {sc : Scope} {ps : Pos} {rhs : Expr} {body : List Stmt} {kk : Nat} {tp : Pos} {p1 p2 : Pos}
    (Hr : SE C 10 sc nm_law rhs d_rhs) (Hb : SS C 10 sc nm_law body b_law) (hk : sc.kind = .function) (kp : sc.names.lookup (Str.ofString "p") = some .cell) (kf : sc.names.lookup (Str.ofString "f") = some .cell)
    (kI : sc.names.lookup (Str.ofString "inner") = some .cell) (kl : sc.names.lookup (Str.ofString "k") = some .local)
    (hs : swapsWithSole [.Tuple [.Name (Str.ofString "k") p1, .Name (Str.ofString "inner") p2] kk tp] rhs ps.line (ev.env sc) = pure false)
    (hw : swappedStores [.Tuple [.Name (Str.ofString "k") p1, .Name (Str.ofString "inner") p2] kk tp] rhs (ev.env sc) = pure none)
    {h₀ : Heap} {m : Str → Option Value} {cp cf ci fi : Addr} {Pv : Int} {tk : Tok} {vs : List Value} {xs : List V} {k0 : Nat} (G : Gw C h₀) (F : Fr h₀ ev.L s.heap m)
    (lp : ev.cl.lookup (Str.ofString "p") = some cp) (lf : ev.cl.lookup (Str.ofString "f") = some cf) (li : ev.cl.lookup (Str.ofString "inner") = some ci)
    (op : s.heap.IsCell cp (some (.int Pv tk))) (of : s.heap.IsCell cf (some (.ref fi))) (oi : ∃ v, s.heap.IsCell ci v)
    (np : cp ≠ ev.L ∧ cp ≠ ci) (nf : cf ≠ ev.L ∧ cf ≠ ci) (ni : ci ≠ ev.L ∧ h₀.get? ci = none)
    (hl : h₀.get? fi = some { cls := .type "list", data := .seq vs.toArray k0 }) (hv : ∀ φ, Rds φ vs xs) (ha : AOK 10 A) (run : lawRun Pv xs = true) {E : Value → Shared → Prop} {Q : Flow → Shared → Prop}
    (hQ : ∀ s', Sh s s' → (∀ b o, h₀.get? b = some o → s'.heap.get? b = some o) → Q (.ret (.bool true)) s') :
    wpAny C.M A (execs (.Assign [.Tuple [.Name (Str.ofString "k") p1, .Name (Str.ofString "inner") p2] kk tp] rhs ps :: body) (ev.env sc)) Q E s := by
  obtain ⟨a, b, q1, q2⟩ := lawRun_inv run
  have hfL : fi ≠ ev.L := fun e => by
    have h1 := Heap.lt_size hl
    rw [e] at h1
    exact absurd F.above (Nat.not_le_of_lt h1)
  have hfi : fi ≠ ci := fun e => by rw [e, ni.2] at hl; cases hl
  have hl' := F.keep _ _ hl
  obtain ⟨o1, g1, d1⟩ := op
  obtain ⟨o2, g2, d2⟩ := of
  obtain ⟨v0, oi⟩ := oi
  have above := F.above
  have Fm0 : Fm C h₀ (fun b => ∃ o, h₀.get? b = some o) ev sc nm_law (phi ev.L ci s.heap) (row0 Pv xs) s.heap := by
    refine ⟨G, F.keep, fun b o e => ⟨o, e⟩, fun b ⟨o, e⟩ => ⟨o, F.keep _ _ e⟩, fun ⟨o, e⟩ => ?_, ?_, phi_inn, m, fun _ => 0, F.ns, fun i x hx => ?_, fun i j ys zs hi hj h1 => ?_⟩
    · exact absurd above (Nat.not_le_of_lt (Heap.lt_size e))
    · unfold phi; rw [if_pos (.inl rfl)]
    · rcases i with _ | _ | _ | i
      · trivial
      · cases hx
        exact ⟨_, .inr ⟨.inl kp, _, _, lp, phi_of g1 np.1 np.2, d1⟩, .int _ _⟩
      · cases hx
        exact ⟨_, .inr ⟨.inl kf, _, _, lf, phi_of g2 nf.1 nf.2, d2⟩, .list (phi_of hl' hfL hfi) (hv _)⟩
      · have e : getS (row0 Pv xs) (i + 1 + 1 + 1) = .free := by
          rcases i with _ | _ | _ | _ | _ | _ | _ | _ | _ | i <;> rfl
        rw [e]; trivial
    · exfalso
      rcases i with _ | _ | _ | _ | _ | _ | _ | _ | _ | _ | _ | _ | i <;> cases h1
  refine wpAny_execs_cons ?_
  refine Assign_Tuple (rule_post (Hr ev A h₀ _ _ _ s _ ha Fm0 q1) fun v s₁ p => ?_) hs hw
  obtain ⟨φ₁, X, S, R⟩ := p
  show wpAny C.M A (do standAt tp; unpack v (assignEach [.Name (Str.ofString "k") p1, .Name (Str.ofString "inner") p2] (ev.env sc))) _ _ s₁
  refine wpAny_bind (wpAny_standAt ?_)
  unfold unpack
  cases R with
  | @tuple t vs2 k2 _ ho R =>
    cases R with
    | @cons va _ _ _ Ra R =>
    cases R with
    | @cons vb _ _ _ Rb R =>
    cases R
    have hx0 : (assignEach [.Name (Str.ofString "k") p1, .Name (Str.ofString "inner") p2] (ev.env sc)).findIdx? (·.1) = none := by rfl
    have hx1 : (assignEach [.Name (Str.ofString "k") p1, .Name (Str.ofString "inner") p2] (ev.env sc)).length = [va, vb].toArray.size := by rfl
    have hx2 : (assignEach [.Name (Str.ofString "k") p1, .Name (Str.ofString "inner") p2] (ev.env sc)).map (·.2) = [assign (.Name (Str.ofString "k") p1) (ev.env sc), assign (.Name (Str.ofString "inner") p2) (ev.env sc)] := by rfl
    rw [hx0, hx1]
    refine wpAny_bind (wpAny_holding ?_)
    refine unpackItems_tuple (items := [va, vb].toArray) ha.1 ⟨_, X.inn _ _ ho, rfl, _, rfl⟩ fun h1 he => ?_
    rw [hx2]
    have keep1 : ∀ b o, s₁.heap.get? b = some o → h1.get? b = some o := fun b o e => he b o (fun q => by
      rw [q, get_size] at e; cases e) e
    have pL : φ₁ ev.L = none := by
      obtain ⟨oL, _, _, hL, _⟩ := id F.ns
      rw [X.below _ _ hL]; unfold phi; rw [if_pos (.inl rfl)]
    have pI : φ₁ ci = none := by
      obtain ⟨oI, hI, _⟩ := id oi
      rw [X.below _ _ hI]; unfold phi; rw [if_pos (.inr rfl)]
    have sub : ∀ a o, phi ev.L ci s.heap a = some o → φ₁ a = some o := X.sub phi_inn
    have ns1 : h1.Ns ev.L m := (F.ns.keeps X.keep).keeps keep1
    have ci1 : h1.IsCell ci v0 := (oi.keeps X.keep).keeps keep1
    show wpAny C.M A (do holding [vb] (assign (.Name (Str.ofString "k") p1) (ev.env sc) va); assignInOrder [assign (.Name (Str.ofString "inner") p2) (ev.env sc)] [vb]) _ _ { s₁ with heap := h1 }
    refine wpAny_bind (wpAny_holding (wpAny_assign_Name (wpAny_storeName_local kl ns1 (fun h2 ns2 sb2 => ?_) (by show (sc.kind == .class || (sc.kind == .module && _)) = false; rw [hk]; rfl))))
    have ci2 : h2.IsCell ci v0 := ci1.sameBut sb2 ni.1
    show wpAny C.M A (do holding [] (assign (.Name (Str.ofString "inner") p2) (ev.env sc) vb); assignInOrder [] []) _ _ _
    refine wpAny_bind (wpAny_holding (wpAny_assign_Name (wpAny_storeName_cell hk kI li ci2 (fun h3 cc3 sb3 => ?_))))
    refine wpAny_pure ?_
    have to3 : ∀ b o, b ≠ ev.L → b ≠ ci → s₁.heap.get? b = some o → h3.get? b = some o := fun b o e1 e2 e => (sb3.2 b e2).trans ((sb2.2 b e1).trans (keep1 b o e))
    have sub3 : ∀ a o, φ₁ a = some o → phi ev.L ev.L h3 a = some o := fun a o e => by
      have e1 : a ≠ ev.L := fun q => by rw [q, pL] at e; cases e
      have e2 : a ≠ ci := fun q => by rw [q, pI] at e; cases e
      exact phi_of (to3 a o e1 e2 (X.inn _ _ e)) e1 e1
    have keep3 : ∀ b o, h₀.get? b = some o → h3.get? b = some o := fun b o e => by
      refine to3 b o (fun q => ?_) (fun q => ?_) (X.keep _ _ (F.keep _ _ e))
      · rw [q] at e
        exact absurd above (Nat.not_le_of_lt (Heap.lt_size e))
      · rw [q, ni.2] at e; cases e
    obtain ⟨o3, g3, d3⟩ := cc3
    have ns3 := ns2.sameBut sb3 ni.1.symm
    have Fm1 : Fm C h₀ (fun b => ∃ o, h₀.get? b = some o) ev sc nm_law (phi ev.L ev.L h3) (row1 Pv xs a b) h3 := by
      refine ⟨G, keep3, fun b o e => ⟨o, e⟩, fun b ⟨o, e⟩ => ⟨o, keep3 _ _ e⟩, fun ⟨o, e⟩ => ?_, ?_, phi_inn, _, fun _ => 0, ns3, fun i x hx => ?_, fun i j ys zs hi hj h1 => ?_⟩
      · exact absurd above (Nat.not_le_of_lt (Heap.lt_size e))
      · unfold phi; rw [if_pos (.inl rfl)]
      · rcases i with _ | _ | _ | _ | _ | i
        · trivial
        · cases hx
          exact ⟨_, .inr ⟨.inl kp, _, _, lp, phi_of (to3 _ _ np.1 np.2 (X.keep _ _ g1)) np.1 np.1, d1⟩, .int _ _⟩
        · cases hx
          exact ⟨_, .inr ⟨.inl kf, _, _, lf, phi_of (to3 _ _ nf.1 nf.2 (X.keep _ _ g2)) nf.1 nf.1, d2⟩, .list (phi_of (keep3 _ _ hl) hfL hfL) (hv _)⟩
        · cases hx
          exact ⟨va, .inl ⟨kl, if_pos rfl⟩, Ra.mono sub3⟩
        · cases hx
          exact ⟨vb, .inr ⟨.inl kI, _, _, li, phi_of g3 ni.1 ni.1, d3⟩, Rb.mono sub3⟩
        · have e : getS (row1 Pv xs a b) (i + 1 + 1 + 1 + 1 + 1) = .free := by
            rcases i with _ | _ | _ | _ | _ | _ | _ | i <;> rfl
          rw [e]; trivial
      · exfalso
        rcases i with _ | _ | _ | _ | _ | _ | _ | _ | _ | _ | _ | _ | i <;> cases h1
    refine rule_post (Hb ev A h₀ _ _ _ { s₁ with heap := h3, toks := s₁.toks + 1 } _ ha Fm1 q2) fun f s' p => ?_
    obtain ⟨φ', af, S', v', rfl, Rv⟩ := p
    cases Rv
    exact hQ s' ((S.trans ⟨h3, s₁.toks + 1, rfl⟩).trans S') fun b o e => (af.keep b ⟨o, e⟩).trans (keep3 _ _ e)
end
end Mine
end

section
open PySem PySem.W PySem.Calls PyProof.Rows PySem.Spec PyProof.V
namespace Mine

theorem law_rest {C : Cx} {ev : EV} {A : Around} {s : Shared} (K : Reach C) {sc : Scope} {params : Arguments} {name : Str} {pos : Pos} {s1 s2 : Stmt} {body : List Stmt} (he : defAt 44 = ⟨name, params, s1 :: s2 :: body, sc, pos⟩)
    {h₀ : Heap} {m : Str → Option Value} {cp cf ci fi : Addr} {Pv : Int} {tk : Tok} {vs : List Value} {xs : List V} {k0 : Nat} (G : Gw C h₀) (F : Fr h₀ ev.L s.heap m)
    (lp : ev.cl.lookup (Str.ofString "p") = some cp) (lf : ev.cl.lookup (Str.ofString "f") = some cf) (li : ev.cl.lookup (Str.ofString "inner") = some ci)
    (op : s.heap.IsCell cp (some (.int Pv tk))) (of : s.heap.IsCell cf (some (.ref fi))) (oi : ∃ v, s.heap.IsCell ci v)
    (np : cp ≠ ev.L ∧ cp ≠ ci) (nf : cf ≠ ev.L ∧ cf ≠ ci) (ni : ci ≠ ev.L ∧ h₀.get? ci = none)
    (hl : h₀.get? fi = some { cls := .type "list", data := .seq vs.toArray k0 }) (hv : ∀ φ, Rds φ vs xs) (ha : AOK 10 A) (run : lawRun Pv xs = true) {E : Value → Shared → Prop} {Q : Flow → Shared → Prop}
    (hQ : ∀ s', Sh s s' → (∀ b o, h₀.get? b = some o → s'.heap.get? b = some o) → Q (.ret (.bool true)) s') :
    wpAny C.M A (execs (s2 :: body) (ev.env sc)) Q E s := by
  have Hb := ss_law K (n := 0) he
  cases he
  exact law_rest0 (se_rhs rfl) Hb rfl rfl rfl rfl rfl rfl rfl G F lp lf li op of oi np nf ni hl hv ha run hQ

theorem law_fin {C : Cx} {env : Env} {A : Around} {s : Shared} (K : Reach C) {sc : Scope} {params : Arguments} {name : Str} {pos : Pos} {s1 s2 : Stmt} {body : List Stmt} (he : defAt 44 = ⟨name, params, s1 :: s2 :: body, sc, pos⟩)
    (henv : env = (EV.mk env.locals env.cells env.qual env.func env.code env.frame).env sc)
    {h₀ : Heap} {m : Str → Option Value} {cp cf ci fi : Addr} {Pv : Int} {tk : Tok} {vs : List Value} {xs : List V} {k0 : Nat} (F : Fr h₀ env.locals s.heap m) (G : Gw C h₀)
    (lp : env.cells.lookup (Str.ofString "p") = some cp) (lf : env.cells.lookup (Str.ofString "f") = some cf) (li : env.cells.lookup (Str.ofString "inner") = some ci)
    (op : s.heap.IsCell cp (some (.int Pv tk))) (of : s.heap.IsCell cf (some (.ref fi))) (oi : ∃ v, s.heap.IsCell ci v)
    (np : cp ≠ env.locals ∧ cp ≠ ci) (nf : cf ≠ env.locals ∧ cf ≠ ci) (ni : ci ≠ env.locals ∧ h₀.get? ci = none)
    (hl : h₀.get? fi = some { cls := .type "list", data := .seq vs.toArray k0 }) (hv : ∀ φ, Rds φ vs xs) (ha : AOK 10 A) (run : lawRun Pv xs = true) {E : Value → Shared → Prop} {Q : Flow → Shared → Prop}
    (hQ : ∀ s', Sh s s' → (∀ b o, h₀.get? b = some o → s'.heap.get? b = some o) → Q (.ret (.bool true)) s') :
    wpAny C.M A (execs (s2 :: body) env) Q E s := by
  have H := law_rest (ev := EV.mk env.locals env.cells env.qual env.func env.code env.frame) (A := A) (s := s) (E := E) (Q := Q) K he G F lp lf li op of oi np nf ni hl hv ha run hQ
  rw [← henv] at H
  exact H

theorem gw_of {prog : Program} {w : World} {p : Program} {loose : List Str} {mean : ExcName → Option Value} {mg mb : Str → Option Value} {h : Heap} (T : Top p loose mean mg mb h)
    (hf : ∀ x ∈ builtinNames, x ∉ startupNames ∧ x ∉ loose ∧ x ∉ (recsOf p).map (·.name) ∧ x ∉ (litsOf p).map (·.1) ∧ x ∉ (clssOf p loose).map (·.name)) : Gw ⟨prog, w, p, mg, mb⟩ h where
  g := T.g
  b := T.b
  nolimit := T.nolimit
  builtins := T.builtins
  free := fun x hx => let ⟨a, b, c, d, e⟩ := hf x hx; T.free x a b c d e
  fn := T.fn

def Hid (p : Prop) : Prop := p
theorem execs_cut {M : Model} {A : Around} {s1 : Stmt} {rest : List Stmt} {env : Env} {Q : Flow → Shared → Prop} {E : Value → Shared → Prop} {s : Shared}
  (h : ∀ r, Hid (r = rest) → wpAny M A (execs (s1 :: r) env) Q E s) : wpAny M A (execs (s1 :: rest) env) Q E s := h rest rfl
end Mine
end

section
open PySem PySem.W PySem.Calls PyProof.Rows PySem.Spec PyProof.V
namespace Mine

theorem ne_21 (L : Nat) : L + 1 + 1 ≠ L + 1 := by omega
theorem ne_31 (L : Nat) : L + 1 + 1 + 1 ≠ L + 1 := by omega
theorem ne_32 (L : Nat) : L + 1 + 1 + 1 ≠ L + 1 + 1 := by omega
theorem ne_12 (L : Nat) : L + 1 ≠ L + 1 + 1 := by omega
theorem ne_10 (L : Nat) : L + 1 ≠ L := by omega
theorem ne_20 (L : Nat) : L + 1 + 1 ≠ L := by omega
theorem ne_30 (L : Nat) : L + 1 + 1 + 1 ≠ L := by omega
theorem ne_13 (L : Nat) : L + 1 ≠ L + 1 + 1 + 1 := by omega
theorem ne_23 (L : Nat) : L + 1 + 1 ≠ L + 1 + 1 + 1 := by omega
theorem law_end {C : Cx} {env : Env} {A : Around} {s : Shared} (K : Reach C) {sc : Scope} {params : Arguments} {name : Str} {pos : Pos} {s1 s2 : Stmt} {body : List Stmt} (he : defAt 44 = ⟨name, params, s1 :: s2 :: body, sc, pos⟩)
    (henv : env = (EV.mk env.locals env.cells env.qual env.func env.code env.frame).env sc)
    (lp : env.cells.lookup (Str.ofString "p") = some (env.locals + 1)) (lf : env.cells.lookup (Str.ofString "f") = some (env.locals + 1 + 1)) (li : env.cells.lookup (Str.ofString "inner") = some (env.locals + 1 + 1 + 1))
    {h₀ : Heap} {m : Str → Option Value} {fi : Addr} {Pv : Int} {tk : Tok} {vs : List Value} {xs : List V} {k0 : Nat} (F : Fr h₀ env.locals s.heap m) (G : Gw C h₀)
    (op : s.heap.IsCell (env.locals + 1) (some (.int Pv tk))) (of : s.heap.IsCell (env.locals + 1 + 1) (some (.ref fi))) (oi : ∃ v, s.heap.IsCell (env.locals + 1 + 1 + 1) v)
    (hl : h₀.get? fi = some { cls := .type "list", data := .seq vs.toArray k0 }) (hv : ∀ φ, Rds φ vs xs) (ha : AOK 10 A) (run : lawRun Pv xs = true) {E : Value → Shared → Prop} {Q : Flow → Shared → Prop}
    (hQ : ∀ s', Sh s s' → (∀ b o, h₀.get? b = some o → s'.heap.get? b = some o) → Q (.ret (.bool true)) s') :
    wpAny C.M A (execs (s2 :: body) env) Q E s := by
  have above := F.above
  refine law_fin K he henv F G lp lf li op of oi ⟨ne_10 _, ne_13 _⟩ ⟨ne_20 _, ne_23 _⟩ ⟨ne_30 _, ?_⟩ hl hv ha run hQ
  exact Heap.get?_none_of_le (Nat.le_trans above (Nat.le_add_right _ 3))

def TabOK (h₀ : Heap) (rows : Array Value) : Prop := ∀ i : Nat, i < 16 → ∃ ra tk fi, ∃ vs : List Value, ∃ k0 kr Pv, ∃ xs : List V, rows.toList[i]? = some (.ref ra) ∧ h₀.get? ra = some { cls := .type "tuple", data := .seq [.int Pv tk, .ref fi].toArray kr } ∧
  h₀.get? fi = some { cls := .type "list", data := .seq vs.toArray k0 } ∧ (∀ φ, Rds φ vs xs) ∧ lawRun Pv xs = true

theorem law_sub {C : Cx} {env : Env} {A : Around} {s : Shared} {sc : Scope} (hk : env.scope.kind = .function) (kp : env.kindOf (Str.ofString "p") = some .cell) (kf : env.kindOf (Str.ofString "f") = some .cell)
    (lp : env.cells.lookup (Str.ofString "p") = some (env.locals + 1)) (lf : env.cells.lookup (Str.ofString "f") = some (env.locals + 1 + 1))
    {h₀ : Heap} {m : Str → Option Value} {ta : Addr} {rows : List Value} {n0 : Nat} (F : Fr h₀ env.locals s.heap m) (hh : A.handled = none)
    (op : ∃ v, s.heap.IsCell (env.locals + 1) v) (of : ∃ v, s.heap.IsCell (env.locals + 1 + 1) v) (oi : ∃ v, s.heap.IsCell (env.locals + 1 + 1 + 1) v)
    (tab : h₀.get? ta = some { cls := .type "tuple", data := .seq rows.toArray n0 }) (H : TabOK h₀ rows.toArray) {x : Int} {t : Tok} {e1 e2 : Expr} {p1 p2 tp : Pos} {kk : Nat}
    (hs : ∀ o i, subscripted e2 false o i = operate [o, i] (getItem o i)) {Q' : Unit → Shared → Prop} {E : Value → Shared → Prop}
    (next : ∀ fi tk, ∀ vs : List Value, ∀ k0 Pv, ∀ xs : List V, ∀ s', Sh s s' → Fr h₀ env.locals s'.heap m → s'.heap.IsCell (env.locals + 1) (some (.int Pv tk)) → s'.heap.IsCell (env.locals + 1 + 1) (some (.ref fi)) → (∃ v, s'.heap.IsCell (env.locals + 1 + 1 + 1) v) →
      h₀.get? fi = some { cls := .type "list", data := .seq vs.toArray k0 } → (∀ φ, Rds φ vs xs) → lawRun Pv xs = true → Q' () s') :
    wpAny C.M A (subscriptTail e1 e2 (.ref ta) (.int (Int.fmod x 16) t)) (fun v s₁ => wpAny C.M A (assign (.Tuple [.Name (Str.ofString "p") p1, .Name (Str.ofString "f") p2] kk tp) env v) Q' E s₁) E s := by
  have above := F.above
  have h0 : 0 ≤ Int.fmod x 16 := Int.fmod_nonneg_of_pos _ (by omega)
  have h16 : Int.fmod x 16 < 16 := Int.fmod_lt_of_pos _ (by omega)
  obtain ⟨i, hi⟩ := Int.eq_ofNat_of_zero_le h0
  rw [hi]
  rw [hi] at h16
  obtain ⟨ra, tk, fi, vs, k0, kr, Pv, xs, hr, hra, hfi, hv, run⟩ := H i (by omega)
  have hr' : rows[i]? = some (.ref ra) := by simpa using hr
  have hlen := (List.getElem?_eq_some_iff.mp hr').1
  refine item_tupleT (j := i) ⟨_, F.keep _ _ tab, rfl, _, rfl⟩ (by omega) (by omega) ?_ hr' ?_ (hs _ _)
  · unfold seqIndex?
    have h1 : ¬ ((i : Int) < 0) := by omega
    simp only [h1, if_false]
    rw [if_pos (by simp; omega)]
    simp
  · show wpAny C.M A (do standAt tp; unpack (.ref ra) (assignEach [.Name (Str.ofString "p") p1, .Name (Str.ofString "f") p2] env)) _ _ s
    refine wpAny_bind (wpAny_standAt ?_)
    unfold unpack
    have hx0 : (assignEach [.Name (Str.ofString "p") p1, .Name (Str.ofString "f") p2] env).findIdx? (·.1) = none := by rfl
    have hx1 : (assignEach [.Name (Str.ofString "p") p1, .Name (Str.ofString "f") p2] env).length = ([.int Pv tk, .ref fi] : List Value).toArray.size := by rfl
    have hx2 : (assignEach [.Name (Str.ofString "p") p1, .Name (Str.ofString "f") p2] env).map (·.2) = [assign (.Name (Str.ofString "p") p1) env, assign (.Name (Str.ofString "f") p2) env] := by rfl
    rw [hx0, hx1]
    refine wpAny_bind (wpAny_holding ?_)
    refine unpackItems_tuple (items := ([.int Pv tk, .ref fi] : List Value).toArray) hh ⟨_, F.keep _ _ hra, rfl, _, rfl⟩ fun h1 he => ?_
    rw [hx2]
    have keep1 : ∀ b o, s.heap.get? b = some o → h1.get? b = some o := fun b o e => he b o (fun q => by
      rw [q, get_size] at e; cases e) e
    obtain ⟨vp, op⟩ := op
    obtain ⟨vf, of⟩ := of
    obtain ⟨vi, oi⟩ := oi
    show wpAny C.M A (do holding [.ref fi] (assign (.Name (Str.ofString "p") p1) env (.int Pv tk)); assignInOrder [assign (.Name (Str.ofString "f") p2) env] [.ref fi]) _ _ { s with heap := h1 }
    refine wpAny_bind (wpAny_holding (wpAny_assign_Name (wpAny_storeName_cell hk kp lp (op.keeps keep1) (fun h2 c2 sb2 => ?_))))
    show wpAny C.M A (do holding [] (assign (.Name (Str.ofString "f") p2) env (.ref fi)); assignInOrder [] []) _ _ { s with heap := h2 }
    have of2 : h2.IsCell (env.locals + 1 + 1) vf := (of.keeps keep1).sameBut sb2 (ne_21 _)
    refine wpAny_bind (wpAny_holding (wpAny_assign_Name (wpAny_storeName_cell hk kf lf of2 (fun h3 c3 sb3 => ?_))))
    refine wpAny_pure ?_
    have oi2 : h2.IsCell (env.locals + 1 + 1 + 1) vi := (oi.keeps keep1).sameBut sb2 (ne_31 _)
    have oi3 : h3.IsCell (env.locals + 1 + 1 + 1) vi := oi2.sameBut sb3 (ne_32 _)
    have op3 : h3.IsCell (env.locals + 1) (some (.int Pv tk)) := c2.sameBut sb3 (ne_12 _)
    have ns1 := F.ns.keeps keep1
    have n1 : env.locals ≠ env.locals + 1 := Nat.ne_of_lt (Nat.lt_succ_self _)
    have n2 : env.locals ≠ env.locals + 1 + 1 := Nat.ne_of_lt (Nat.lt_succ_of_lt (Nat.lt_succ_self _))
    have ns2 := ns1.sameBut sb2 n1
    have ns3 := ns2.sameBut sb3 n2
    refine next fi tk vs k0 Pv xs _ ⟨h3, _, rfl⟩ ⟨ns3, fun b o e => ?_, above⟩ op3 c3 ⟨_, oi3⟩ hfi hv run
    have hb : b < h₀.objs.size := Heap.lt_size e
    have hb' : b < env.locals := Nat.lt_of_lt_of_le hb above
    exact (sb3.2 b (Nat.ne_of_lt (Nat.lt_succ_of_lt (Nat.lt_succ_of_lt hb')))).trans ((sb2.2 b (Nat.ne_of_lt (Nat.lt_succ_of_lt hb'))).trans (keep1 _ _ (F.keep _ _ e)))
end Mine
namespace Mine
theorem law_end' {C : Cx} {env : Env} {A : Around} {s : Shared} {L : Addr} {h₀ : Heap} {m : Str → Option Value} (F : Fr h₀ L s.heap m) (hL : env.locals = L) (K : Reach C) {sc : Scope} {params : Arguments} {name : Str} {pos : Pos} {s1 s2 : Stmt} {body : List Stmt} (he : defAt 44 = ⟨name, params, s1 :: s2 :: body, sc, pos⟩)
    (henv : env = (EV.mk env.locals env.cells env.qual env.func env.code env.frame).env sc)
    (lp : env.cells.lookup (Str.ofString "p") = some (L + 1)) (lf : env.cells.lookup (Str.ofString "f") = some (L + 1 + 1)) (li : env.cells.lookup (Str.ofString "inner") = some (L + 1 + 1 + 1))
    {fi : Addr} {Pv : Int} {tk : Tok} {vs : List Value} {xs : List V} {k0 : Nat} (G : Gw C h₀)
    (op : s.heap.IsCell (L + 1) (some (.int Pv tk))) (of : s.heap.IsCell (L + 1 + 1) (some (.ref fi))) (oi : ∃ v, s.heap.IsCell (L + 1 + 1 + 1) v)
    (hl : h₀.get? fi = some { cls := .type "list", data := .seq vs.toArray k0 }) (hv : ∀ φ, Rds φ vs xs) (ha : AOK 10 A) (run : lawRun Pv xs = true) {E : Value → Shared → Prop} {Q : Flow → Shared → Prop}
    (hQ : ∀ s', Sh s s' → (∀ b o, h₀.get? b = some o → s'.heap.get? b = some o) → Q (.ret (.bool true)) s') :
    wpAny C.M A (execs (s2 :: body) env) Q E s := by
  subst hL
  exact law_end K he henv lp lf li F G op of oi hl hv ha run hQ
theorem law_sub' {C : Cx} {env : Env} {A : Around} {s : Shared} {L : Addr} {h₀ : Heap} {m : Str → Option Value} (F : Fr h₀ L s.heap m) (hL : env.locals = L) (hk : env.scope.kind = .function) (kp : env.kindOf (Str.ofString "p") = some .cell) (kf : env.kindOf (Str.ofString "f") = some .cell)
    (lp : env.cells.lookup (Str.ofString "p") = some (L + 1)) (lf : env.cells.lookup (Str.ofString "f") = some (L + 1 + 1))
    {ta : Addr} {rows : List Value} {n0 : Nat} (hh : A.handled = none)
    (op : ∃ v, s.heap.IsCell (L + 1) v) (of : ∃ v, s.heap.IsCell (L + 1 + 1) v) (oi : ∃ v, s.heap.IsCell (L + 1 + 1 + 1) v)
    (tab : h₀.get? ta = some { cls := .type "tuple", data := .seq rows.toArray n0 }) (H : TabOK h₀ rows.toArray) {x : Int} {t : Tok} {e1 e2 : Expr} {p1 p2 tp : Pos} {kk : Nat}
    (hs : ∀ o i, subscripted e2 false o i = operate [o, i] (getItem o i)) {Q' : Unit → Shared → Prop} {E : Value → Shared → Prop}
    (next : ∀ fi tk, ∀ vs : List Value, ∀ k0 Pv, ∀ xs : List V, ∀ s', Sh s s' → Fr h₀ L s'.heap m → s'.heap.IsCell (L + 1) (some (.int Pv tk)) → s'.heap.IsCell (L + 1 + 1) (some (.ref fi)) → (∃ v, s'.heap.IsCell (L + 1 + 1 + 1) v) →
      h₀.get? fi = some { cls := .type "list", data := .seq vs.toArray k0 } → (∀ φ, Rds φ vs xs) → lawRun Pv xs = true → Q' () s') :
    wpAny C.M A (subscriptTail e1 e2 (.ref ta) (.int (Int.fmod x 16) t)) (fun v s₁ => wpAny C.M A (assign (.Tuple [.Name (Str.ofString "p") p1, .Name (Str.ofString "f") p2] kk tp) env v) Q' E s₁) E s := by
  subst hL
  exact law_sub (C := C) (sc := env.scope) hk kp kf lp lf F hh op of oi tab H hs next
end Mine
end

section
open PySem PySem.W PyProof.Rows
namespace Mine
def keepIx : List Nat := [1, 2, 4, 5, 6, 7, 8, 9, 10, 11, 12, 13, 14, 15, 16, 17, 19, 20, 21, 23, 24, 25, 26, 27, 28, 29, 30, 32, 34, 35, 36, 37, 38, 39, 41, 42, 43, 44]
def view : Program := { PySem.Challenge.pw_sa0109_01 with main := { PySem.Challenge.pw_sa0109_01.main with body := keepIx.filterMap fun i => PySem.Challenge.pw_sa0109_01.main.body[i]? } }
def objOf {d : DefRec} {name : Str} {params : Arguments} {body : List Stmt} {scope : Scope} {pos : Pos} (_he : d = ⟨name, params, body, scope, pos⟩) (pm code : Value) : Obj :=
  { cls := .type "function", data := .func { name := name, qualname := name, params := params, body := .stmts body, scope := scope, globals := 3, closure := [], defaults := .none, kwdefaults := .none, pyModule := pm, code := code } }
def frag : Params → Frag := fun q => (nat_lit 3, { cls := .type "dict", data := (Data.dict #[
    { hash := PyData.keyHash q (Str.ofString "__name__"), key := Value.str (Str.ofString "__name__") 165, val := Value.str (Str.ofString "law_sa0109_01") 577 },
    { hash := PyData.keyHash q (Str.ofString "__doc__"), key := Value.str (Str.ofString "__doc__") 166, val := Value.none },
    { hash := PyData.keyHash q (Str.ofString "__package__"), key := Value.str (Str.ofString "__package__") 167, val := Value.none },
    { hash := PyData.keyHash q (Str.ofString "__loader__"), key := Value.str (Str.ofString "__loader__") 168, val := Value.builtin "__main__.__loader__#opaque" },
    { hash := PyData.keyHash q (Str.ofString "__spec__"), key := Value.str (Str.ofString "__spec__") 169, val := Value.none },
    { hash := PyData.keyHash q (Str.ofString "__annotations__"), key := Value.str (Str.ofString "__annotations__") 170, val := Value.ref 6 },
    { hash := PyData.keyHash q (Str.ofString "__builtins__"), key := Value.str (Str.ofString "__builtins__") 171, val := Value.ref 4 },
    { hash := PyData.keyHash q (Str.ofString "__file__"), key := Value.str (Str.ofString "__file__") 173, val := Value.str (Str.ofString "/claim/cut.py") 172 },
    { hash := PyData.keyHash q (Str.ofString "__cached__"), key := Value.str (Str.ofString "__cached__") 174, val := Value.none },
    { hash := PyData.keyHash q (Str.ofString "extended"), key := Value.str (Str.ofString "extended") 200, val := Value.ref 21 },
    { hash := PyData.keyHash q (Str.ofString "inverse_mod"), key := Value.str (Str.ofString "inverse_mod") 211, val := Value.ref 28 },
    { hash := PyData.keyHash q (Str.ofString "mtrim"), key := Value.str (Str.ofString "mtrim") 221, val := Value.ref 35 },
    { hash := PyData.keyHash q (Str.ofString "mdegree"), key := Value.str (Str.ofString "mdegree") 228, val := Value.ref 42 },
    { hash := PyData.keyHash q (Str.ofString "madd"), key := Value.str (Str.ofString "madd") 239, val := Value.ref 49 },
    { hash := PyData.keyHash q (Str.ofString "mneg"), key := Value.str (Str.ofString "mneg") 245, val := Value.ref 54 },
    { hash := PyData.keyHash q (Str.ofString "msub"), key := Value.str (Str.ofString "msub") 254, val := Value.ref 61 },
    { hash := PyData.keyHash q (Str.ofString "mscale"), key := Value.str (Str.ofString "mscale") 260, val := Value.ref 66 },
    { hash := PyData.keyHash q (Str.ofString "mmul"), key := Value.str (Str.ofString "mmul") 274, val := Value.ref 73 },
    { hash := PyData.keyHash q (Str.ofString "mdivmod"), key := Value.str (Str.ofString "mdivmod") 290, val := Value.ref 80 },
    { hash := PyData.keyHash q (Str.ofString "mrest"), key := Value.str (Str.ofString "mrest") 299, val := Value.ref 87 },
    { hash := PyData.keyHash q (Str.ofString "mquotient"), key := Value.str (Str.ofString "mquotient") 308, val := Value.ref 94 },
    { hash := PyData.keyHash q (Str.ofString "mmonic"), key := Value.str (Str.ofString "mmonic") 316, val := Value.ref 101 },
    { hash := PyData.keyHash q (Str.ofString "mpower_mod"), key := Value.str (Str.ofString "mpower_mod") 328, val := Value.ref 108 },
    { hash := PyData.keyHash q (Str.ofString "mproduct"), key := Value.str (Str.ofString "mproduct") 338, val := Value.ref 115 },
    { hash := PyData.keyHash q (Str.ofString "morder"), key := Value.str (Str.ofString "morder") 345, val := Value.ref 122 },
    { hash := PyData.keyHash q (Str.ofString "mgcd"), key := Value.str (Str.ofString "mgcd") 356, val := Value.ref 129 },
    { hash := PyData.keyHash q (Str.ofString "mextended"), key := Value.str (Str.ofString "mextended") 371, val := Value.ref 136 },
    { hash := PyData.keyHash q (Str.ofString "minverse"), key := Value.str (Str.ofString "minverse") 383, val := Value.ref 143 },
    { hash := PyData.keyHash q (Str.ofString "distinct_degrees"), key := Value.str (Str.ofString "distinct_degrees") 397, val := Value.ref 150 },
    { hash := PyData.keyHash q (Str.ofString "trace_power"), key := Value.str (Str.ofString "trace_power") 410, val := Value.ref 157 },
    { hash := PyData.keyHash q (Str.ofString "split_power"), key := Value.str (Str.ofString "split_power") 420, val := Value.ref 164 },
    { hash := PyData.keyHash q (Str.ofString "split_once"), key := Value.str (Str.ofString "split_once") 431, val := Value.ref 171 },
    { hash := PyData.keyHash q (Str.ofString "equal_degree"), key := Value.str (Str.ofString "equal_degree") 445, val := Value.ref 178 },
    { hash := PyData.keyHash q (Str.ofString "first_split"), key := Value.str (Str.ofString "first_split") 458, val := Value.ref 185 },
    { hash := PyData.keyHash q (Str.ofString "counted"), key := Value.str (Str.ofString "counted") 467, val := Value.ref 192 },
    { hash := PyData.keyHash q (Str.ofString "prime_parts"), key := Value.str (Str.ofString "prime_parts") 479, val := Value.ref 199 },
    { hash := PyData.keyHash q (Str.ofString "CasFail"), key := Value.str (Str.ofString "CasFail") 512, val := Value.ref 216 },
    { hash := PyData.keyHash q (Str.ofString "gf_multiply"), key := Value.str (Str.ofString "gf_multiply") 524, val := Value.ref 226 },
    { hash := PyData.keyHash q (Str.ofString "gf_inverse"), key := Value.str (Str.ofString "gf_inverse") 533, val := Value.ref 233 },
    { hash := PyData.keyHash q (Str.ofString "gf_power"), key := Value.str (Str.ofString "gf_power") 545, val := Value.ref 240 },
    { hash := PyData.keyHash q (Str.ofString "number_of"), key := Value.str (Str.ofString "number_of") 552, val := Value.ref 247 },
    { hash := PyData.keyHash q (Str.ofString "gf_trace"), key := Value.str (Str.ofString "gf_trace") 564, val := Value.ref 254 },
    { hash := PyData.keyHash q (Str.ofString "gf_at"), key := Value.str (Str.ofString "gf_at") 576, val := Value.ref 261 },
    { hash := PyData.keyHash q (Str.ofString "_law_some"), key := Value.str (Str.ofString "_law_some") 635, val := Value.ref 294 },
    { hash := PyData.keyHash q (Str.ofString "_law_take"), key := Value.str (Str.ofString "_law_take") 643, val := Value.ref 301 },
    { hash := PyData.keyHash q (Str.ofString "_law_at"), key := Value.str (Str.ofString "_law_at") 654, val := Value.ref 308 },
    { hash := PyData.keyHash q (Str.ofString "law"), key := Value.str (Str.ofString "law") 660, val := Value.ref 313 }] 47) }) ::
  (nat_lit 262, { cls := .type "list", data := .seq #[Value.int 1 580, Value.int 1 581, Value.int 1 582] }) ::
  (nat_lit 263, { cls := .type "tuple", data := .seq #[Value.int 2 579, Value.ref 262] }) ::
  (nat_lit 264, { cls := .type "list", data := .seq #[Value.int 2 584, Value.int 1 585] }) ::
  (nat_lit 265, { cls := .type "tuple", data := .seq #[Value.int 3 583, Value.ref 264] }) ::
  (nat_lit 266, { cls := .type "list", data := .seq #[Value.int 0 587, Value.int 1 588] }) ::
  (nat_lit 267, { cls := .type "tuple", data := .seq #[Value.int 2 586, Value.ref 266] }) ::
  (nat_lit 268, { cls := .type "list", data := .seq #[Value.int 1 590, Value.int 0 591, Value.int 1 592] }) ::
  (nat_lit 269, { cls := .type "tuple", data := .seq #[Value.int 3 589, Value.ref 268] }) ::
  (nat_lit 270, { cls := .type "list", data := .seq #[Value.int 1 594, Value.int 0 595, Value.int 1 596, Value.int 1 597] }) ::
  (nat_lit 271, { cls := .type "tuple", data := .seq #[Value.int 2 593, Value.ref 270] }) ::
  (nat_lit 272, { cls := .type "list", data := .seq #[Value.int 0 599, Value.int 1 600] }) ::
  (nat_lit 273, { cls := .type "tuple", data := .seq #[Value.int 5 598, Value.ref 272] }) ::
  (nat_lit 274, { cls := .type "list", data := .seq #[Value.int 2 602, Value.int 1 603, Value.int 1 604] }) ::
  (nat_lit 275, { cls := .type "tuple", data := .seq #[Value.int 3 601, Value.ref 274] }) ::
  (nat_lit 276, { cls := .type "list", data := .seq #[Value.int 1 606, Value.int 1 607] }) ::
  (nat_lit 277, { cls := .type "tuple", data := .seq #[Value.int 2 605, Value.ref 276] }) ::
  (nat_lit 278, { cls := .type "list", data := .seq #[Value.int 1 609, Value.int 1 610, Value.int 0 611, Value.int 1 612] }) ::
  (nat_lit 279, { cls := .type "tuple", data := .seq #[Value.int 2 608, Value.ref 278] }) ::
  (nat_lit 280, { cls := .type "list", data := .seq #[Value.int 3 614, Value.int 1 615] }) ::
  (nat_lit 281, { cls := .type "tuple", data := .seq #[Value.int 5 613, Value.ref 280] }) ::
  (nat_lit 282, { cls := .type "list", data := .seq #[Value.int 0 617, Value.int 1 618] }) ::
  (nat_lit 283, { cls := .type "tuple", data := .seq #[Value.int 3 616, Value.ref 282] }) ::
  (nat_lit 284, { cls := .type "list", data := .seq #[Value.int 2 620, Value.int 2 621, Value.int 1 622] }) ::
  (nat_lit 285, { cls := .type "tuple", data := .seq #[Value.int 3 619, Value.ref 284] }) ::
  (nat_lit 286, { cls := .type "list", data := .seq #[Value.int 4 624, Value.int 1 625] }) ::
  (nat_lit 287, { cls := .type "tuple", data := .seq #[Value.int 5 623, Value.ref 286] }) ::
  (nat_lit 288, { cls := .type "list", data := .seq #[Value.int 1 627, Value.int 1 628] }) ::
  (nat_lit 289, { cls := .type "tuple", data := .seq #[Value.int 3 626, Value.ref 288] }) ::
  (nat_lit 290, { cls := .type "list", data := .seq #[Value.int 2 630, Value.int 1 631] }) ::
  (nat_lit 291, { cls := .type "tuple", data := .seq #[Value.int 5 629, Value.ref 290] }) ::
  (nat_lit 292, { cls := .type "list", data := .seq #[Value.int 1 633, Value.int 1 634] }) ::
  (nat_lit 293, { cls := .type "tuple", data := .seq #[Value.int 5 632, Value.ref 292] }) ::
  (nat_lit 294, { cls := .type "tuple", data := .seq #[Value.ref 263, Value.ref 265, Value.ref 267, Value.ref 269, Value.ref 271, Value.ref 273, Value.ref 275, Value.ref 277, Value.ref 279, Value.ref 281, Value.ref 283, Value.ref 285, Value.ref 287, Value.ref 289, Value.ref 291, Value.ref 293] }) ::
  (nat_lit 300, { cls := .type "code", data := .fields #[Value.str (Str.ofString "_law_take") 636, Value.str (Str.ofString "_law_take") 637, Value.str (Str.ofString "/claim/cut.py") 638, Value.int 192 0, Value.int 2 0, Value.int 0 0, Value.int 0 0, Value.int 3 0, Value.ref 295, Value.bool true, Value.int 181 0, Value.ref 296, Value.none, Value.ref 297, Value.ref 298, Value.ref 299, Value.int 641 0, Value.int 192 0, Value.str (Str.ofString "/claim/cut.py") 642] }) ::
  (nat_lit 301, objOf (d := defAt 42) rfl (Value.str (Str.ofString "law_sa0109_01") 577) (Value.ref 300)) :: []
def ads : List Nat := [nat_lit 3, nat_lit 262, nat_lit 263, nat_lit 264, nat_lit 265, nat_lit 266, nat_lit 267, nat_lit 268, nat_lit 269, nat_lit 270, nat_lit 271, nat_lit 272, nat_lit 273, nat_lit 274, nat_lit 275, nat_lit 276, nat_lit 277, nat_lit 278, nat_lit 279, nat_lit 280, nat_lit 281, nat_lit 282, nat_lit 283, nat_lit 284, nat_lit 285, nat_lit 286, nat_lit 287, nat_lit 288, nat_lit 289, nat_lit 290, nat_lit 291, nat_lit 292, nat_lit 293, nat_lit 294, nat_lit 300, nat_lit 301]
theorem ads_ok (q : Params) : ads = (frag q).map (·.1) := by kernel_rfl
end Mine
end

section
open PySem PySem.W PyProof.Rows
namespace Mine
theorem left : LeftO PySem.Challenge.rw_sa0109_01.row.prog view [Str.ofString "_law_some"] (fun s => xlAt view [] s && recOk (RowW.records PySem.Challenge.rw_sa0109_01.row.toRowW) s) (Hook.obs (kHook frag ads ads_ok)) (Hook.val (kHook frag ads ads_ok)) 3288 := fun w => by kernel_rfl
theorem wit : PySem.Challenge.rw_sa0109_01.row.toRowW.promised := by w_witness2
end Mine
end

section
open PySem PySem.W PySem.Calls PyProof.Rows PySem.Spec PyProof.V
namespace Mine
theorem reach_view {prog : Program} {w : World} {mg mb : Str → Option Value} : Reach ⟨prog, w, Mine.view, mg, mb⟩ := by
  intro i hi
  show defAt i ∈ recsOf Mine.view
  simp only [reachIx, List.mem_cons, List.not_mem_nil, or_false] at hi
  rcases hi with rfl | rfl | rfl | rfl | rfl | rfl | rfl | rfl | rfl | rfl | rfl | rfl | rfl | rfl | rfl | rfl | rfl | rfl | rfl | rfl | rfl | rfl | rfl | rfl | rfl | rfl | rfl | rfl | rfl | rfl | rfl
  · exact List.mem_of_getElem? (i := 0) (by kernel_rfl)
  · exact List.mem_of_getElem? (i := 1) (by kernel_rfl)
  · exact List.mem_of_getElem? (i := 2) (by kernel_rfl)
  · exact List.mem_of_getElem? (i := 3) (by kernel_rfl)
  · exact List.mem_of_getElem? (i := 4) (by kernel_rfl)
  · exact List.mem_of_getElem? (i := 5) (by kernel_rfl)
  · exact List.mem_of_getElem? (i := 6) (by kernel_rfl)
  · exact List.mem_of_getElem? (i := 7) (by kernel_rfl)
  · exact List.mem_of_getElem? (i := 8) (by kernel_rfl)
  · exact List.mem_of_getElem? (i := 9) (by kernel_rfl)
  · exact List.mem_of_getElem? (i := 10) (by kernel_rfl)
  · exact List.mem_of_getElem? (i := 11) (by kernel_rfl)
  · exact List.mem_of_getElem? (i := 12) (by kernel_rfl)
  · exact List.mem_of_getElem? (i := 13) (by kernel_rfl)
  · exact List.mem_of_getElem? (i := 14) (by kernel_rfl)
  · exact List.mem_of_getElem? (i := 15) (by kernel_rfl)
  · exact List.mem_of_getElem? (i := 16) (by kernel_rfl)
  · exact List.mem_of_getElem? (i := 19) (by kernel_rfl)
  · exact List.mem_of_getElem? (i := 20) (by kernel_rfl)
  · exact List.mem_of_getElem? (i := 21) (by kernel_rfl)
  · exact List.mem_of_getElem? (i := 22) (by kernel_rfl)
  · exact List.mem_of_getElem? (i := 23) (by kernel_rfl)
  · exact List.mem_of_getElem? (i := 24) (by kernel_rfl)
  · exact List.mem_of_getElem? (i := 25) (by kernel_rfl)
  · exact List.mem_of_getElem? (i := 26) (by kernel_rfl)
  · exact List.mem_of_getElem? (i := 27) (by kernel_rfl)
  · exact List.mem_of_getElem? (i := 29) (by kernel_rfl)
  · exact List.mem_of_getElem? (i := 30) (by kernel_rfl)
  · exact List.mem_of_getElem? (i := 31) (by kernel_rfl)
  · exact List.mem_of_getElem? (i := 32) (by kernel_rfl)
  · exact List.mem_of_getElem? (i := 34) (by kernel_rfl)

theorem names_ok : ∀ x ∈ builtinNames, x ∉ startupNames ∧ x ∉ looseW Mine.view [Str.ofString "_law_some"] ∧ x ∉ (recsOf Mine.view).map (·.name) ∧ x ∉ (litsOf Mine.view).map (·.1) ∧ x ∉ (clssOf Mine.view (looseW Mine.view [Str.ofString "_law_some"])).map (·.name) := by decide +kernel

theorem run0 : lawRun 2 [.int 1, .int 1, .int 1] = true := by decide +kernel
theorem run1 : lawRun 3 [.int 2, .int 1] = true := by decide +kernel
theorem run2 : lawRun 2 [.int 0, .int 1] = true := by decide +kernel
theorem run3 : lawRun 3 [.int 1, .int 0, .int 1] = true := by decide +kernel
theorem run4 : lawRun 2 [.int 1, .int 0, .int 1, .int 1] = true := by decide +kernel
theorem run5 : lawRun 5 [.int 0, .int 1] = true := by decide +kernel
theorem run6 : lawRun 3 [.int 2, .int 1, .int 1] = true := by decide +kernel
theorem run7 : lawRun 2 [.int 1, .int 1] = true := by decide +kernel
theorem run8 : lawRun 2 [.int 1, .int 1, .int 0, .int 1] = true := by decide +kernel
theorem run9 : lawRun 5 [.int 3, .int 1] = true := by decide +kernel
theorem run10 : lawRun 3 [.int 0, .int 1] = true := by decide +kernel
theorem run11 : lawRun 3 [.int 2, .int 2, .int 1] = true := by decide +kernel
theorem run12 : lawRun 5 [.int 4, .int 1] = true := by decide +kernel
theorem run13 : lawRun 3 [.int 1, .int 1] = true := by decide +kernel
theorem run14 : lawRun 5 [.int 2, .int 1] = true := by decide +kernel
theorem run15 : lawRun 5 [.int 1, .int 1] = true := by decide +kernel

theorem tab_ok {q : Params} {h : Heap} (X : (Mine.frag q).In h) : ∃ rows : List Value, ∃ n0, h.get? 294 = some { cls := .type "tuple", data := .seq rows.toArray n0 } ∧ TabOK h rows.toArray := by
  refine ⟨_, _, X _ _ rfl, fun i hi => ?_⟩
  rcases i with _ | _ | _ | _ | _ | _ | _ | _ | _ | _ | _ | _ | _ | _ | _ | _ | i
  · exact ⟨_, _, _, _, _, _, _, _, rfl, X _ _ rfl, X _ _ rfl, fun φ => .cons (.int _ _) (.cons (.int _ _) (.cons (.int _ _) .nil)), run0⟩
  · exact ⟨_, _, _, _, _, _, _, _, rfl, X _ _ rfl, X _ _ rfl, fun φ => .cons (.int _ _) (.cons (.int _ _) .nil), run1⟩
  · exact ⟨_, _, _, _, _, _, _, _, rfl, X _ _ rfl, X _ _ rfl, fun φ => .cons (.int _ _) (.cons (.int _ _) .nil), run2⟩
  · exact ⟨_, _, _, _, _, _, _, _, rfl, X _ _ rfl, X _ _ rfl, fun φ => .cons (.int _ _) (.cons (.int _ _) (.cons (.int _ _) .nil)), run3⟩
  · exact ⟨_, _, _, _, _, _, _, _, rfl, X _ _ rfl, X _ _ rfl, fun φ => .cons (.int _ _) (.cons (.int _ _) (.cons (.int _ _) (.cons (.int _ _) .nil))), run4⟩
  · exact ⟨_, _, _, _, _, _, _, _, rfl, X _ _ rfl, X _ _ rfl, fun φ => .cons (.int _ _) (.cons (.int _ _) .nil), run5⟩
  · exact ⟨_, _, _, _, _, _, _, _, rfl, X _ _ rfl, X _ _ rfl, fun φ => .cons (.int _ _) (.cons (.int _ _) (.cons (.int _ _) .nil)), run6⟩
  · exact ⟨_, _, _, _, _, _, _, _, rfl, X _ _ rfl, X _ _ rfl, fun φ => .cons (.int _ _) (.cons (.int _ _) .nil), run7⟩
  · exact ⟨_, _, _, _, _, _, _, _, rfl, X _ _ rfl, X _ _ rfl, fun φ => .cons (.int _ _) (.cons (.int _ _) (.cons (.int _ _) (.cons (.int _ _) .nil))), run8⟩
  · exact ⟨_, _, _, _, _, _, _, _, rfl, X _ _ rfl, X _ _ rfl, fun φ => .cons (.int _ _) (.cons (.int _ _) .nil), run9⟩
  · exact ⟨_, _, _, _, _, _, _, _, rfl, X _ _ rfl, X _ _ rfl, fun φ => .cons (.int _ _) (.cons (.int _ _) .nil), run10⟩
  · exact ⟨_, _, _, _, _, _, _, _, rfl, X _ _ rfl, X _ _ rfl, fun φ => .cons (.int _ _) (.cons (.int _ _) (.cons (.int _ _) .nil)), run11⟩
  · exact ⟨_, _, _, _, _, _, _, _, rfl, X _ _ rfl, X _ _ rfl, fun φ => .cons (.int _ _) (.cons (.int _ _) .nil), run12⟩
  · exact ⟨_, _, _, _, _, _, _, _, rfl, X _ _ rfl, X _ _ rfl, fun φ => .cons (.int _ _) (.cons (.int _ _) .nil), run13⟩
  · exact ⟨_, _, _, _, _, _, _, _, rfl, X _ _ rfl, X _ _ rfl, fun φ => .cons (.int _ _) (.cons (.int _ _) .nil), run14⟩
  · exact ⟨_, _, _, _, _, _, _, _, rfl, X _ _ rfl, X _ _ rfl, fun φ => .cons (.int _ _) (.cons (.int _ _) .nil), run15⟩
  · omega
end Mine
end

open PySem PySem.W PyProof.Rows
theorem PySem.Challenge.cw_sa0109_01_holds : PySem.Challenge.rw_sa0109_01.Holds := by
  w_on
  o_law
  refine holds_open (q := Mine.view) (loose := [Str.ofString "_law_some"]) (Xt := fun s => xlAt Mine.view [] s && recOk (RowW.records PySem.Challenge.rw_sa0109_01.row.toRowW) s) (XP := XL Mine.view []) (Yf := Hook.obs (kHook Mine.frag Mine.ads Mine.ads_ok)) (Ya := Hook.val (kHook Mine.frag Mine.ads Mine.ads_ok)) (YP := Hook.says (kHook Mine.frag Mine.ads Mine.ads_ok)) (N := 3288)
    Mine.left (Hook.of (kHook Mine.frag Mine.ads Mine.ads_ok)) (Hook.keeps (kHook Mine.frag Mine.ads Mine.ads_ok)) (fun s e => xl_of s (Bool.and_eq_true_iff.mp e).1) XL.keeps (by rfl) (by rfl) (by rfl) (fun s e => recFacts_of (Bool.and_eq_true_iff.mp e).2) (by rfl) (by first | assumption | decide +kernel) (by decide +kernel) ⟨rfl, rfl, rfl, rfl, rfl, by decide +kernel⟩ Mine.wit ?hc
  k_go0; all_goals try k_fold
  refine Mine.execs_cut ?_; intro rr hrr
  k_steps
  · have hrr' : rr = _ := hrr
    subst hrr'
    obtain ⟨rows, n0, tab, tok⟩ := Mine.tab_ok (by assumption)
    refine' Mine.law_sub' (C := ⟨_, _, Mine.view, fun _ => none, fun _ => none⟩) ?F1 ?hL1 ?_ ?_ ?_ ?_ ?_ ?_ ?op1 ?of1 ?oi1 tab tok (fun _ _ => rfl) ?next1
    case F1 => assumption
    case op1 => exact ⟨_, _, (News.get (by assumption) (by repeat (first | exact List.Mem.head _ | apply List.Mem.tail))), by assumption⟩
    case of1 => exact ⟨_, _, (News.get (by assumption) (by repeat (first | exact List.Mem.head _ | apply List.Mem.tail))), by assumption⟩
    case oi1 => exact ⟨_, _, (News.get (by assumption) (by repeat (first | exact List.Mem.head _ | apply List.Mem.tail))), by assumption⟩
    case next1 =>
      intro fi tk vs k0 Pv xs s' hsh F1 op of oi hl hv run
      show wpAny _ _ (execs _ _) _ _ _
      refine' Mine.law_end' (C := ⟨_, _, Mine.view, _, _⟩) F1 ?_ Mine.reach_view rfl rfl ?_ ?_ ?_ ?G1 op of oi hl hv ?ha1 run ?post1
      case G1 => exact Mine.gw_of (by assumption) Mine.names_ok
      case ha1 => exact ⟨rfl, by show callerA.depth + 1 + 10 < recursionLimit; decide, by show callerA.units + 3 + 8 * 10 + 200 < cLine; decide⟩
      case post1 =>
        intro s2 hs2 keep
        obtain ⟨_, _, rfl⟩ := hsh
        obtain ⟨_, _, rfl⟩ := hs2
        show GoodW _ _ _ _ _ (.ok (.ret (.bool true))) _
        refine ⟨.inl ⟨_, .bool true, [], rfl, raisesW_false ?_, .bool true, ?_, unshared_nil⟩, keep, rfl, by assumption⟩
        · wrow_none_raised
        · wrow_post
      all_goals rfl
    all_goals rfl
  · have hrr' : rr = _ := hrr
    subst hrr'
    refine' Mine.law_end' (C := ⟨_, _, Mine.view, _, _⟩) ?F2 ?hL2 Mine.reach_view rfl rfl ?_ ?_ ?_ ?G2 ?op2 ?of2 ?oi2 ?hl2 ?hv2 ?ha2 ?run2 ?post2
    case F2 => assumption
    case G2 => exact Mine.gw_of (by assumption) Mine.names_ok
    case op2 => exact ⟨_, (News.get (by assumption) (by repeat (first | exact List.Mem.head _ | apply List.Mem.tail))), by assumption⟩
    case of2 => exact ⟨_, (News.get (by assumption) (by repeat (first | exact List.Mem.head _ | apply List.Mem.tail))), by assumption⟩
    case oi2 => exact ⟨_, _, (News.get (by assumption) (by repeat (first | exact List.Mem.head _ | apply List.Mem.tail))), by assumption⟩
    case hl2 => exact (by assumption : Frag.In _ _) _ _ rfl
    case hv2 => exact fun φ => .cons (.int _ _) (.cons (.int _ _) .nil)
    case run2 => exact Mine.run5
    case ha2 => exact ⟨rfl, by show callerA.depth + 1 + 10 < recursionLimit; decide, by show callerA.units + 3 + 8 * 10 + 200 < cLine; decide⟩
    case post2 =>
      intro s2 hs2 keep
      obtain ⟨_, _, rfl⟩ := hs2
      show GoodW _ _ _ _ _ (.ok (.ret (.bool true))) _
      refine ⟨.inl ⟨_, .bool true, [], rfl, raisesW_false ?_, .bool true, ?_, unshared_nil⟩, keep, rfl, by assumption⟩
      · wrow_none_raised
      · wrow_post
    all_goals rfl
