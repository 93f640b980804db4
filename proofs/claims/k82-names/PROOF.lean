import PyProof.Rows.All
import Wide.All
import OpenK.AllK
import Wide.FinOn
import HandS.ForMost
import HandS.Exc
import HandS.Flow
import HandS.Defaults
import HandS.CallLocal
import KE.GoesZip
import KE.GoesMore
import KE.GoesEnum
import HandS.Style
import HandS.TupAny
import HandS.TupMul
import HandS.Wide
import HandS.Zip
import HandS.TupSets
import HandS.Deep
import HandS.SortInts
import HandS.Dict
import HandS.Gcd
import HandS.IsInst
import HandS.Struct
import HandS.Conv
import HandS.Text
import PyProof.ListMulRoad
import PyProof.FactsAll.tuple_2
import HandS.HeadEnd
import HandS.HeadHook4
import HandS.SortRule
import HandS.NamedTupSort
import KE.KDictZip
import KE.KStar
import KE.KDictList
import HandS.ExcValue
import HandS.SetFor
import HandS.Strs
import KE.SortData
import KE.DataMinMax
import KE.KMathGC
import HandS.SetKeys
import PyProof.DictMoreH
import HandS.Base
import HandS.Call
import HandS.Ends
import HandS.More
import HandS.Words
import HandS.WordsExc
import HandS.Head0
import HandS.Head1
import HandS.Head2
import HandS.Head3
import HandS.HeadHook1
import HandS.HeadHook2
import HandS.HeadHook3
import KE.KStateDown
import Lean
import PySem.Challenge.RW_walktallies_k82_names_of_parameters_roun
set_option linter.all false
set_option maxRecDepth 100000
/-! L3: the evaluator (own work), by combinators: values, store, primitives, expressions, statements, the run by depth. Made for the kernel: small bodies, recursors written out. -/
noncomputable section
namespace L3

inductive EV where
  | u | n | b (b : Bool) | i (i : Int) | s (s : List Nat) | t (xs : List EV) | l (a : Nat) | f (k : Nat) | y (k : Nat)
  deriving Inhabited
inductive O where
  | z | l (xs : List EV) | d (kvs : List (EV × EV)) | o (c : Nat) (fs : List (Nat × EV))
  deriving Inhabited
inductive Tr where
  | e | d (o : O) (l r : Tr)

def Tr.get (t : Tr) : Nat → O :=
  @Tr.rec (fun _ => Nat → O) (fun _ => O.z) (fun o _ _ gl gr n => @Nat.rec (fun _ => O) o (fun m _ => @Nat.rec (fun _ => O) (gl (m / 2)) (fun _ _ => gr (m / 2)) (m % 2)) n) t

/-! ### forcing -/
def sN {α : Type} (n : Nat) (k : Nat → α) : α := @Nat.rec (fun _ => α) (k 0) (fun m _ => k (m + 1)) n
def sI {α : Type} (i : Int) (k : Int → α) : α := @Int.rec (fun _ => α) (fun n => sN n fun n => k (.ofNat n)) (fun n => sN n fun n => k (.negSucc n)) i
def sL {α β : Type} (xs : List β) (k : List β → α) : α := @List.rec β (fun _ => (List β → α) → α) (fun k => k []) (fun x _ ih k => ih fun r => k (x :: r)) xs k
def sB {α : Type} (b : Bool) (k : Bool → α) : α := @Bool.rec (fun _ => α) (k false) (k true) b
def ift {α : Type} (b : Bool) (x y : α) : α := @Bool.rec (fun _ => α) y x b

def Tr.put {α : Type} (o' : O) (t : Tr) : Nat → (Tr → α) → α :=
  @Tr.rec (fun _ => Nat → (Tr → α) → α) (fun _ k => k (.d o' .e .e))
    (fun o l r pl pr n k => @Nat.rec (fun _ => α) (k (.d o' l r)) (fun m _ => @Nat.rec (fun _ => α) (pl (m / 2) fun l' => k (.d o l' r)) (fun _ _ => pr (m / 2) fun r' => k (.d o l r')) (m % 2)) n) t

structure Sto where
  tr : Tr
  n : Nat
inductive R where
  | ok (v : EV) (st : Sto) | ex (c : Nat) (p : EV) (st : Sto) | no
inductive RL where
  | ok (vs : List EV) (st : Sto) | ex (c : Nat) (p : EV) (st : Sto) | no
inductive RS where
  | nx (ρ : List EV) (st : Sto) | rt (v : EV) (st : Sto) | bk (ρ : List EV) (st : Sto) | ct (ρ : List EV) (st : Sto) | ex (c : Nat) (p : EV) (st : Sto) | no

def Sto.get (s : Sto) (a : Nat) : O := @Sto.rec (fun _ => O) (fun t _ => t.get a) s
def Sto.put {α : Type} (s : Sto) (a : Nat) (o : O) (k : Sto → α) : α := @Sto.rec (fun _ => α) (fun t n => t.put o a fun t' => k ⟨t', n⟩) s
def Sto.new {α : Type} (s : Sto) (o : O) (k : Nat → Sto → α) : α := @Sto.rec (fun _ => α) (fun t n => t.put o n fun t' => sN n fun n => k n ⟨t', n + 1⟩) s

/-! ### what a value is -/
def gI {α : Type} (no : α) (v : EV) (k : Int → α) : α := @EV.rec (fun _ => α) (fun _ => PUnit) no no (fun _ => no) k (fun _ => no) (fun _ _ => no) (fun _ => no) (fun _ => no) (fun _ => no) ⟨⟩ (fun _ _ _ _ => ⟨⟩) v
def gB {α : Type} (no : α) (v : EV) (k : Bool → α) : α := @EV.rec (fun _ => α) (fun _ => PUnit) no no k (fun _ => no) (fun _ => no) (fun _ _ => no) (fun _ => no) (fun _ => no) (fun _ => no) ⟨⟩ (fun _ _ _ _ => ⟨⟩) v
def gS {α : Type} (no : α) (v : EV) (k : List Nat → α) : α := @EV.rec (fun _ => α) (fun _ => PUnit) no no (fun _ => no) (fun _ => no) k (fun _ _ => no) (fun _ => no) (fun _ => no) (fun _ => no) ⟨⟩ (fun _ _ _ _ => ⟨⟩) v
def gT {α : Type} (no : α) (v : EV) (k : List EV → α) : α := @EV.rec (fun _ => α) (fun _ => PUnit) no no (fun _ => no) (fun _ => no) (fun _ => no) (fun xs _ => k xs) (fun _ => no) (fun _ => no) (fun _ => no) ⟨⟩ (fun _ _ _ _ => ⟨⟩) v
def gA {α : Type} (no : α) (v : EV) (k : Nat → α) : α := @EV.rec (fun _ => α) (fun _ => PUnit) no no (fun _ => no) (fun _ => no) (fun _ => no) (fun _ _ => no) k (fun _ => no) (fun _ => no) ⟨⟩ (fun _ _ _ _ => ⟨⟩) v
def gF {α : Type} (no : α) (v : EV) (k : Nat → α) : α := @EV.rec (fun _ => α) (fun _ => PUnit) no no (fun _ => no) (fun _ => no) (fun _ => no) (fun _ _ => no) (fun _ => no) k (fun _ => no) ⟨⟩ (fun _ _ _ _ => ⟨⟩) v
def gY {α : Type} (no : α) (v : EV) (k : Nat → α) : α := @EV.rec (fun _ => α) (fun _ => PUnit) no no (fun _ => no) (fun _ => no) (fun _ => no) (fun _ _ => no) (fun _ => no) (fun _ => no) k ⟨⟩ (fun _ _ _ _ => ⟨⟩) v
/-- all kinds: int, text, tuple, address; what else -/
def sel {α : Type} (v : EV) (ki : Int → α) (ks : List Nat → α) (kt : List EV → α) (kl : Nat → α) (no : α) : α :=
  @EV.rec (fun _ => α) (fun _ => PUnit) no no (fun _ => no) ki ks (fun xs _ => kt xs) kl (fun _ => no) (fun _ => no) ⟨⟩ (fun _ _ _ _ => ⟨⟩) v
def gOL {α : Type} (no : α) (o : O) (k : List EV → α) : α := @O.rec (fun _ => α) no k (fun _ => no) (fun _ _ => no) o
def gOD {α : Type} (no : α) (o : O) (k : List (EV × EV) → α) : α := @O.rec (fun _ => α) no (fun _ => no) k (fun _ _ => no) o
def gO2 {α : Type} (no : α) (o : O) (kl : List EV → α) (kd : List (EV × EV) → α) : α := @O.rec (fun _ => α) no kl kd (fun _ _ => no) o
/-- a list at an address -/
def gLs {α : Type} (no : α) (v : EV) (st : Sto) (k : Nat → List EV → α) : α := gA no v fun a => gOL no (st.get a) fun xs => k a xs
def gDs {α : Type} (no : α) (v : EV) (st : Sto) (k : Nat → List (EV × EV) → α) : α := gA no v fun a => gOD no (st.get a) fun xs => k a xs
/-- the items of a list or a tuple -/
def gX {α : Type} (no : α) (v : EV) (st : Sto) (k : List EV → α) : α :=
  @EV.rec (fun _ => α) (fun _ => PUnit) no no (fun _ => no) (fun _ => no) (fun _ => no) (fun xs _ => k xs) (fun a => gOL no (st.get a) k) (fun _ => no) (fun _ => no) ⟨⟩ (fun _ _ _ _ => ⟨⟩) v

/-! ### lists -/
def lenA {β : Type} (xs : List β) : Nat → Nat := @List.rec β (fun _ => Nat → Nat) (fun n => n) (fun _ _ ih n => sN (n + 1) ih) xs
def lenN {β : Type} (xs : List β) : Nat := lenA xs 0
def nth {α β : Type} (no : α) (xs : List β) (n : Nat) (k : β → α) : α :=
  @List.rec β (fun _ => Nat → α) (fun _ => no) (fun x _ ih n => @Nat.rec (fun _ => α) (k x) (fun m _ => ih m) n) xs n
def putAt {α β : Type} (v : β) (xs : List β) (n : Nat) (k : List β → α) : α :=
  @List.rec β (fun _ => Nat → (List β → α) → α) (fun _ k => k []) (fun x r ih n k => @Nat.rec (fun _ => α) (k (v :: r)) (fun m _ => ih m fun r' => k (x :: r')) n) xs n k
def app {α β : Type} (xs ys : List β) (k : List β → α) : α := @List.rec β (fun _ => (List β → α) → α) (fun k => k ys) (fun x _ ih k => ih fun r => k (x :: r)) xs k
def takeK {α β : Type} (xs : List β) (n : Nat) (k : List β → α) : α :=
  @List.rec β (fun _ => Nat → (List β → α) → α) (fun _ k => k []) (fun x _ ih n k => @Nat.rec (fun _ => α) (k []) (fun m _ => ih m fun r => k (x :: r)) n) xs n k
def dropN {β : Type} (xs : List β) (n : Nat) : List β := @List.rec β (fun _ => Nat → List β) (fun _ => []) (fun x r ih n => @Nat.rec (fun _ => List β) (x :: r) (fun m _ => ih m) n) xs n
def revA {β : Type} (xs ys : List β) : List β := @List.rec β (fun _ => List β → List β) (fun ys => ys) (fun x _ ih ys => ih (x :: ys)) xs ys
def revK {α β : Type} (xs : List β) (k : List β → α) : α := sL (revA xs []) k
def repK {α β : Type} (xs : List β) (n : Nat) (k : List β → α) : α := @Nat.rec (fun _ => (List β → α) → α) (fun k => k []) (fun _ ih k => ih fun r => app xs r k) n k
/-- a place, from the end too -/
def place {α : Type} (no : α) (i : Int) (n : Nat) (k : Nat → α) : α :=
  @Int.rec (fun _ => α) (fun j => ift (Nat.blt j n) (k j) no) (fun j => ift (Nat.ble (j + 1) n) (k (n - (j + 1))) no) i
/-- a slice's bound -/
def bound (i : Int) (n : Nat) : Nat := @Int.rec (fun _ => Nat) (fun j => ift (Nat.ble j n) j n) (fun j => ift (Nat.ble (j + 1) n) (n - (j + 1)) 0) i
def fits {α : Type} (n : Nat) (no k : α) : α := @Bool.rec (fun _ => α) no k (Nat.ble n 16000000)

/-! ### data: equality, order -/
def iEq (a b : Int) : Bool := @Int.rec (fun _ => Bool) (fun a => @Int.rec (fun _ => Bool) (fun b => Nat.beq a b) (fun _ => false) b) (fun a => @Int.rec (fun _ => Bool) (fun _ => false) (fun b => Nat.beq a b) b) a
def iLt (a b : Int) : Bool := @Int.rec (fun _ => Bool) (fun a => @Int.rec (fun _ => Bool) (fun b => Nat.blt a b) (fun _ => false) b) (fun a => @Int.rec (fun _ => Bool) (fun _ => true) (fun b => Nat.blt b a) b) a
def cEq (a b : List Nat) : Bool :=
  @List.rec Nat (fun _ => List Nat → Bool) (fun b => @List.rec Nat (fun _ => Bool) true (fun _ _ _ => false) b) (fun x _ ih b => @List.rec Nat (fun _ => Bool) false (fun y r _ => ift (Nat.beq x y) (ih r) false) b) a b
def cLt (a b : List Nat) : Bool :=
  @List.rec Nat (fun _ => List Nat → Bool) (fun b => @List.rec Nat (fun _ => Bool) false (fun _ _ _ => true) b) (fun x _ ih b => @List.rec Nat (fun _ => Bool) false (fun y r _ => ift (Nat.beq x y) (ih r) (Nat.blt x y)) b) a b
inductive B3 where
  | f | t | x
def B3.of (b : Bool) : B3 := @Bool.rec (fun _ => B3) .f .t b
/-- by the three answers -/
def b3 {α : Type} (b : B3) (f t x : α) : α := @B3.rec (fun _ => α) f t x b
def notB (b : B3) : B3 := b3 b .t .f .x
def eqL (rec : EV → EV → B3) (a b : List EV) : B3 :=
  @List.rec EV (fun _ => List EV → B3) (fun b => @List.rec EV (fun _ => B3) .t (fun _ _ _ => .f) b) (fun x _ ih b => @List.rec EV (fun _ => B3) .f (fun y r _ => b3 (rec x y) .f (ih r) .x) b) a b
/-- kinds for equality between unlike things: 0 None, 1 int, 2 text, 3 tuple, 4 list or dict, 5 bool, 6 others -/
def kd (v : EV) : Nat := @EV.rec (fun _ => Nat) (fun _ => PUnit) 6 0 (fun _ => 5) (fun _ => 1) (fun _ => 2) (fun _ _ => 3) (fun _ => 4) (fun _ => 6) (fun _ => 6) ⟨⟩ (fun _ _ _ _ => ⟨⟩) v
/-- of two unlike kinds: unequal, or not known -/
def unlike (a b : Nat) : B3 := ift (Nat.beq a b) .x (ift (Nat.ble 6 (a + b)) (ift (Nat.ble (Nat.mul (Nat.sub 6 a) (Nat.sub 6 b)) 0) .x (ift (Nat.beq (a + b) 6) (ift (Nat.beq a 1) .x (ift (Nat.beq a 5) .x .f)) .f)) .f)
def eqOO (rec : EV → EV → B3) (a b : O) : B3 := gOL .x a fun xs => gOL .x b fun ys => eqL rec xs ys
def eqStep (st : Sto) (rec : EV → EV → B3) (a b : EV) : B3 :=
  @EV.rec (fun _ => B3) (fun _ => PUnit) .x (ift (Nat.beq (kd b) 0) .t (unlike 0 (kd b))) (fun x => gB (unlike 5 (kd b)) b fun y => .of (ift x y (!y))) (fun x => gI (unlike 1 (kd b)) b fun y => .of (iEq x y))
    (fun x => gS (unlike 2 (kd b)) b fun y => .of (cEq x y)) (fun x _ => gT (unlike 3 (kd b)) b fun y => eqL rec x y) (fun x => gA (unlike 4 (kd b)) b fun y => eqOO rec (st.get x) (st.get y)) (fun _ => .x) (fun _ => .x) ⟨⟩ (fun _ _ _ _ => ⟨⟩) a
def eqD (st : Sto) (n : Nat) : EV → EV → B3 := @Nat.rec (fun _ => EV → EV → B3) (fun _ _ => .x) (fun _ r => eqStep st r) n
def ltL (eq lt : EV → EV → B3) (a b : List EV) : B3 :=
  @List.rec EV (fun _ => List EV → B3) (fun b => @List.rec EV (fun _ => B3) .f (fun _ _ _ => .t) b) (fun x _ ih b => @List.rec EV (fun _ => B3) .f (fun y r _ => b3 (eq x y) (lt x y) (ih r) .x) b) a b
def ltStep (eq lt : EV → EV → B3) (a b : EV) : B3 :=
  sel a (fun x => gI .x b fun y => .of (iLt x y)) (fun x => gS .x b fun y => .of (cLt x y)) (fun x => gT .x b fun y => ltL eq lt x y) (fun _ => .x) .x
def ltD (st : Sto) (n : Nat) : EV → EV → B3 := @Nat.rec (fun _ => EV → EV → B3) (fun _ _ => .x) (fun m r => ltStep (eqD st m) r) n
/-- plain data of a depth: None, bools, ints, texts, tuples, lists -/
def allB1 {β : Type} (p : β → Bool) (xs : List β) : Bool := @List.rec β (fun _ => Bool) true (fun x _ ih => ift (p x) ih false) xs
def dStep (st : Sto) (r : EV → Bool) (v : EV) : Bool := @EV.rec (fun _ => Bool) (fun _ => PUnit) false true (fun _ => true) (fun _ => true) (fun c => allB1 (fun x => Nat.blt x 1114112) c) (fun xs _ => allB1 r xs) (fun a => gOL false (st.get a) fun xs => allB1 r xs) (fun _ => false) (fun _ => false) ⟨⟩ (fun _ _ _ _ => ⟨⟩) v
def dD (st : Sto) (n : Nat) : EV → Bool := @Nat.rec (fun _ => EV → Bool) (fun _ => false) (fun _ r => dStep st r) n
def eqV (st : Sto) (a b : EV) : B3 := ift (dD st 40 a) (ift (dD st 40 b) (eqD st 40 a b) .x) .x
def ltV (st : Sto) (a b : EV) : B3 := ltD st 40 a b
def inL (eq : EV → B3) (xs : List EV) : B3 := @List.rec EV (fun _ => B3) .f (fun x _ ih => b3 (eq x) ih .t .x) xs
def insS (lt : EV → EV → B3) (x : EV) (xs : List EV) (k : List EV → R) : R :=
  @List.rec EV (fun _ => (List EV → R) → R) (fun k => k [x]) (fun y r ih k => b3 (lt y x) (k (x :: y :: r)) (ih fun r' => k (y :: r')) .no) xs k
def sortV (lt : EV → EV → B3) (xs : List EV) (k : List EV → R) : R := @List.rec EV (fun _ => (List EV → R) → R) (fun k => k []) (fun x _ ih k => ih fun r => insS lt x r k) xs k
/-- sorted, each once -/
def insU (lt : EV → EV → B3) (x : EV) (xs : List EV) (k : List EV → R) : R :=
  @List.rec EV (fun _ => (List EV → R) → R) (fun k => k [x]) (fun y r ih k => b3 (lt y x) (b3 (lt x y) (k (y :: r)) (k (x :: y :: r)) .no) (ih fun r' => k (y :: r')) .no) xs k
def sortU (lt : EV → EV → B3) (xs : List EV) (k : List EV → R) : R := @List.rec EV (fun _ => (List EV → R) → R) (fun k => k []) (fun x _ ih k => ih fun r => insU lt x r k) xs k
/-- a key: an int or a text 1, a tuple of ints (one at least) 2, none 0 -/
def intsB (xs : List EV) : Bool := @List.rec EV (fun _ => Bool) true (fun x _ ih => gI false x fun _ => ih) xs
def kk (v : EV) : Nat := sel v (fun _ => 1) (fun _ => 1) (fun xs => @List.rec EV (fun _ => Nat) 0 (fun _ _ _ => ift (intsB xs) 2 0) xs) (fun _ => 0) 0
def kkD (v : EV) (kvs : List (EV × EV)) : Bool := @Nat.rec (fun _ => Bool) false (fun n _ => @List.rec (EV × EV) (fun _ => Bool) true (fun p _ _ => Nat.beq (kk p.1) (n + 1)) kvs) (kk v)
def dGet {α : Type} (bad none : α) (eq : EV → B3) (kvs : List (EV × EV)) (k : EV → α) : α := @List.rec (EV × EV) (fun _ => α) none (fun p _ ih => b3 (eq p.1) ih (k p.2) bad) kvs
def kEq1 (a b : EV) : B3 := sel a (fun x => gI (gS .x b fun _ => .f) b fun y => .of (iEq x y)) (fun x => gS (gI .x b fun _ => .f) b fun y => .of (cEq x y)) (fun _ => .x) (fun _ => .x) .x
def kEqL (a b : List EV) : B3 := @List.rec EV (fun _ => List EV → B3) (fun b => @List.rec EV (fun _ => B3) .t (fun _ _ _ => .f) b) (fun x _ ih b => @List.rec EV (fun _ => B3) .f (fun y r _ => b3 (kEq1 x y) .f (ih r) .x) b) a b
def kEq (a b : EV) : B3 := gT (kEq1 a b) a fun xs => gT .x b fun ys => kEqL xs ys
def keysV (kvs : List (EV × EV)) : List EV := @List.rec (EV × EV) (fun _ => List EV) [] (fun p _ ih => p.1 :: ih) kvs
def keysK {α : Type} (kvs : List (EV × EV)) (k : List EV → α) : α := sL (keysV kvs) k
def dPut {α : Type} (bad : α) (eq : EV → B3) (a v : EV) (kvs : List (EV × EV)) (k : List (EV × EV) → α) : α :=
  @List.rec (EV × EV) (fun _ => (List (EV × EV) → α) → α) (fun k => k [(a, v)]) (fun p r ih k => b3 (eq p.1) (ih fun r' => k (p :: r')) (k ((p.1, v) :: r)) bad) kvs k

/-! ### truth, answers -/
def truth (st : Sto) (v : EV) : B3 :=
  @EV.rec (fun _ => B3) (fun _ => PUnit) .x .f B3.of (fun i => .of (!iEq i 0)) (fun c => @List.rec Nat (fun _ => B3) .f (fun _ _ _ => .t) c) (fun xs _ => @List.rec EV (fun _ => B3) .f (fun _ _ _ => .t) xs)
    (fun a => gOL .x (st.get a) fun xs => @List.rec EV (fun _ => B3) .f (fun _ _ _ => .t) xs) (fun _ => .x) (fun _ => .x) ⟨⟩ (fun _ _ _ _ => ⟨⟩) v
def okB (st : Sto) (b : B3) : R := b3 b (.ok (.b false) st) (.ok (.b true) st) .no
def okI (st : Sto) (i : Int) : R := sI i fun i => .ok (.i i) st
def okN (st : Sto) (n : Nat) : R := sN n fun n => .ok (.i (.ofNat n)) st
def okT (st : Sto) (xs : List EV) : R := fits (lenN xs) .no (.ok (.t xs) st)
def okS (st : Sto) (xs : List Nat) : R := fits (lenN xs) .no (.ok (.s xs) st)
def newL (st : Sto) (xs : List EV) : R := fits (lenN xs) .no (st.new (.l xs) fun p st => .ok (.l p) st)
def newD (st : Sto) (xs : List (EV × EV)) : R := fits (lenN xs) .no (st.new (.d xs) fun p st => .ok (.l p) st)
def putL (st : Sto) (a : Nat) (xs : List EV) (v : EV) : R := fits (lenN xs) .no (st.put a (.l xs) fun st => .ok v st)

/-! ### primitives of one, two, three values -/
abbrev P1 := EV → Sto → R
abbrev P2 := EV → EV → Sto → R
abbrev P3 := EV → EV → EV → Sto → R
def pAdd : P2 := fun a b st => sel a (fun x => gI .no b fun y => okI st (x + y)) (fun x => gS .no b fun y => app x y (okS st)) (fun x => gT .no b fun y => app x y (okT st)) (fun x => gOL .no (st.get x) fun xs => gLs .no b st fun _ ys => app xs ys (newL st)) .no
def pSub : P2 := fun a b st => gI .no a fun x => gI .no b fun y => okI st (x - y)
def mulOk (x y : Int) : Bool := ift (Nat.blt y.natAbs 1000000000000) true (Nat.blt (Nat.log2 x.natAbs + Nat.log2 y.natAbs) 900000)
def small (i : Int) : Bool := Nat.blt i.natAbs 1000000000000
def times (n : Int) (l : Nat) : Bool := ift (small n) (Nat.ble (n.toNat * l) 16000000) false
def timesT (n : Int) (l : Nat) : Bool := ift (small n) (@Int.rec (fun _ => Bool) (fun m => ift (Nat.ble m 1000) (Nat.ble l 1000) false) (fun _ => Nat.ble l 1000) n) false
def pMul : P2 := fun a b st => sel a (fun x => gI .no b fun y => ift (mulOk x y) (okI st (x * y)) .no) (fun _ => .no) (fun x => gI .no b fun n => ift (timesT n (lenN x)) (repK x n.toNat (okT st)) .no)
  (fun x => gOL .no (st.get x) fun xs => gI .no b fun n => ift (times n (lenN xs)) (repK xs n.toNat (newL st)) .no) .no
def divOk (y : Int) : Bool := @Int.rec (fun _ => Bool) (fun n => ift (Nat.beq n 0) false (Nat.blt (Nat.log2 n) 9000)) (fun n => Nat.blt n 1000000000) y
def pFdiv : P2 := fun a b st => gI .no a fun x => gI .no b fun y => ift (divOk y) (okI st (Int.fdiv x y)) .no
def pMod : P2 := fun a b st => gI .no a fun x => gI .no b fun y => ift (iEq y 0) .no (okI st (Int.fmod x y))
def pNeg : P1 := fun a st => gI .no a fun x => okI st (-x)
def pEq : P2 := fun a b st => okB st (eqV st a b)
def pNe : P2 := fun a b st => okB st (notB (eqV st a b))
def allI (xs : List EV) (no k : B3) : B3 := @List.rec EV (fun _ => B3) k (fun x _ ih => gI no x fun _ => ih) xs
def ltI (a b : List EV) : B3 :=
  @List.rec EV (fun _ => List EV → B3) (fun b => @List.rec EV (fun _ => B3) .f (fun _ _ _ => .t) b) (fun x _ ih b => @List.rec EV (fun _ => B3) .f (fun y r _ => gI .x x fun x => gI .x y fun y => ift (iEq x y) (ih r) (.of (iLt x y))) b) a b
def pLt : P2 := fun a b st => sel a (fun x => gI .no b fun y => okB st (.of (iLt x y))) (fun _ => .no) (fun xs => gT .no b fun ys => okB st (allI xs .x (allI ys .x (ltI xs ys)))) (fun _ => .no) .no
def pGt : P2 := fun a b st => gI .no a fun x => gI .no b fun y => okB st (.of (iLt y x))
def pLe : P2 := fun a b st => gI .no a fun x => gI .no b fun y => okB st (notB (.of (iLt y x)))
def pGe : P2 := fun a b st => gI .no a fun x => gI .no b fun y => okB st (notB (.of (iLt x y)))
/-- is None -/
def isN (v : EV) : B3 := @EV.rec (fun _ => B3) (fun _ => PUnit) .x .t (fun _ => .f) (fun _ => .f) (fun _ => .f) (fun _ _ => .f) (fun _ => .f) (fun _ => .f) (fun _ => .f) ⟨⟩ (fun _ _ _ _ => ⟨⟩) v
def pIsN : P1 := fun a st => okB st (isN a)
def pIsnN : P1 := fun a st => okB st (notB (isN a))
def chrIn (c : Nat) (s : List Nat) : Bool := @List.rec Nat (fun _ => Bool) false (fun x _ ih => ift (Nat.beq c x) true ih) s
def inV (st : Sto) (a : EV) (xs : List EV) : B3 := ift (dD st 39 a) (ift (allB1 (dD st 39) xs) (inL (fun z => eqD st 39 z a) xs) .x) .x
def inB (a b : EV) (st : Sto) : B3 := sel b (fun _ => .x) (fun z => gS .x a fun c => @List.rec Nat (fun _ => B3) .x (fun c r _ => @List.rec Nat (fun _ => B3) (.of (chrIn c z)) (fun _ _ _ => .x) r) c) (fun xs => inV st a xs)
  (fun l => gO2 .x (st.get l) (fun xs => inV st a xs) fun kvs => ift (kkD a kvs) (dGet .x .f (kEq a) kvs fun _ => .t) .x) .x
def pIn : P2 := fun a b st => okB st (inB a b st)
def pNin : P2 := fun a b st => okB st (notB (inB a b st))
def pLen : P1 := fun a st => sel a (fun _ => .no) (fun c => okN st (lenN c)) (fun xs => okN st (lenN xs)) (fun l => gOL .no (st.get l) fun xs => okN st (lenN xs)) .no
def pAbs : P1 := fun a st => gI .no a fun x => okN st x.natAbs
def pMax2 : P2 := fun a b st => gI .no a fun x => gI .no b fun y => ift (iLt x y) (.ok (.i y) st) (.ok (.i x) st)
def pMin2 : P2 := fun a b st => gI .no a fun x => gI .no b fun y => ift (iLt y x) (.ok (.i y) st) (.ok (.i x) st)
def extr (lt : EV → EV → B3) (xs : List EV) (b : EV) (k : EV → R) : R := @List.rec EV (fun _ => EV → R) (fun b => k b) (fun x _ ih b => b3 (lt x b) (ih b) (ih x) .no) xs b
def maxI (xs : List EV) (m : Int) (k : Int → R) : R := @List.rec EV (fun _ => Int → R) (fun m => k m) (fun x _ ih m => gI .no x fun y => ift (iLt m y) (ih y) (ih m)) xs m
def minI (xs : List EV) (m : Int) (k : Int → R) : R := @List.rec EV (fun _ => Int → R) (fun m => k m) (fun x _ ih m => gI .no x fun y => ift (iLt y m) (ih y) (ih m)) xs m
def pMax1 : P1 := fun a st => gLs .no a st fun _ xs => @List.rec EV (fun _ => R) .no (fun x r _ => gI .no x fun m => maxI r m fun m => .ok (.i m) st) xs
def pMin1 : P1 := fun a st => gLs .no a st fun _ xs => @List.rec EV (fun _ => R) .no (fun x r _ => gI .no x fun m => minI r m fun m => .ok (.i m) st) xs
def sumI (xs : List EV) (a : Int) (k : Int → R) : R := @List.rec EV (fun _ => Int → R) (fun a => k a) (fun x _ ih a => gI .no x fun i => sI (a + i) ih) xs a
def pSum : P1 := fun a st => gLs .no a st fun _ xs => sumI xs 0 fun z => .ok (.i z) st
def catL (st : Sto) (xs : List EV) (acc : List EV) (k : List EV → R) : R := @List.rec EV (fun _ => List EV → R) (fun acc => k acc) (fun x _ ih acc => gLs .no x st fun _ ys => app acc ys ih) xs acc
/-- sum(xs, []) -/
def pSumL : P2 := fun a b st => gX .no a st fun xs => gLs .no b st fun _ ys => catL st xs ys (newL st)
def allB (xs : List EV) (k : Bool → R) : R := @List.rec EV (fun _ => R) (k true) (fun x _ ih => gB .no x fun b => ift b ih (k false)) xs
def anyB (xs : List EV) (k : Bool → R) : R := @List.rec EV (fun _ => R) (k false) (fun x _ ih => gB .no x fun b => ift b (k true) ih) xs
def bools {α : Type} (xs : List EV) (no k : α) : α := @List.rec EV (fun _ => α) k (fun x _ ih => gB no x fun _ => ih) xs
def pAll : P1 := fun a st => gLs .no a st fun _ xs => bools xs .no (allB xs fun b => .ok (.b b) st)
def pAny : P1 := fun a st => gLs .no a st fun _ xs => bools xs .no (anyB xs fun b => .ok (.b b) st)
def pTup : P1 := fun a st => gX .no a st fun xs => .ok (.t xs) st
def pList : P1 := fun a st => sel a (fun _ => .no) (fun _ => .no) (newL st) (fun l => gOL .no (st.get l) (newL st)) .no
def intsK (xs : List EV) (k : R) : R := @List.rec EV (fun _ => R) k (fun x _ ih => gI .no x fun _ => ih) xs
def insI (x : EV) (a : Int) (xs : List EV) (k : List EV → R) : R :=
  @List.rec EV (fun _ => (List EV → R) → R) (fun k => k [x]) (fun y r ih k => gI .no y fun b => ift (iLt b a) (ih fun r' => k (y :: r')) (k (x :: y :: r))) xs k
def sortI (xs : List EV) (k : List EV → R) : R := @List.rec EV (fun _ => (List EV → R) → R) (fun k => k []) (fun x _ ih k => ih fun r => gI .no x fun a => insI x a r k) xs k
/-- a list of ints, sorted -/
def pSorted : P1 := fun a st => gLs .no a st fun _ xs => intsK xs (sortI xs (newL st))
def pSortSet : P1 := fun a st => gX .no a st fun xs => sortU (ltV st) xs (newL st)
def pLenSet : P1 := fun a st => gX .no a st fun xs => sortU (ltV st) xs fun ys => okN st (lenN ys)
def digits (f : Nat) : Nat → List Nat → List Nat := @Nat.rec (fun _ => Nat → List Nat → List Nat) (fun _ a => a) (fun _ ih n a => @Nat.rec (fun _ => List Nat) ((48 + n % 10) :: a) (fun m _ => ih (m + 1) ((48 + n % 10) :: a)) (n / 10)) f
def strI (i : Int) : List Nat := @Int.rec (fun _ => List Nat) (fun n => digits 100 n []) (fun n => 45 :: digits 100 (n + 1) []) i
def pStr : P1 := fun a st => sel a (fun i => ift (Nat.blt (Nat.log2 i.natAbs) 100) (sL (strI i) fun c => .ok (.s c) st) .no) (fun _ => .no) (fun _ => .no) (fun _ => .no) .no
def pInt : P1 := fun a st => gI (gB .no a fun b => ift b (.ok (.i 1) st) (.ok (.i 0) st)) a fun i => .ok (.i i) st
/-- the kind as isinstance asks it: 0 int, 1 bool, 2 text, 3 tuple, 4 list, 5 dict, 6 None -/
def kindV {α : Type} (no : α) (st : Sto) (v : EV) (k : Nat → α) : α :=
  @EV.rec (fun _ => α) (fun _ => PUnit) no (k 6) (fun _ => k 1) (fun _ => k 0) (fun _ => k 2) (fun _ _ => k 3) (fun a => gO2 no (st.get a) (fun _ => k 4) fun _ => k 5) (fun _ => no) (fun _ => no) ⟨⟩ (fun _ _ _ _ => ⟨⟩) v
def isKind (k c : Nat) : Bool := ift (Nat.beq k c) true (ift (Nat.beq k 1) (Nat.beq c 0) false)
/-- of one class, of two -/
def pIsin : P2 := fun a c st => kindV .no st a fun k => gY .no c fun c => ift (Nat.blt c 6) (okB st (.of (isKind k c))) .no
def pIsin2 (c d : Nat) : P1 := fun a st => kindV .no st a fun k => okB st (.of (ift (isKind k c) true (isKind k d)))
def pGcd : P2 := fun a b st => gI .no a fun x => gI .no b fun y => okN st (Nat.gcd x.natAbs y.natAbs)
def pairs (st : Sto) (xs : List EV) (acc : List (EV × EV)) (k : List (EV × EV) → R) : R :=
  @List.rec EV (fun _ => List (EV × EV) → R) (fun acc => k acc) (fun x _ ih acc => gT .no x fun t => nth .no t 0 fun a => nth .no t 1 fun v => ift (Nat.beq (lenN t) 2) (dPut R.no (eqV st a) a v acc ih) .no) xs acc
/-- dict(xs): of pairs, of a dict -/
def pDict : P1 := fun a st => gA .no a fun l => gO2 .no (st.get l) (fun xs => pairs st xs [] (newD st)) (newD st)
def rangeK {α : Type} (n : Nat) (i : Int) (k : List EV → α) : α := @Nat.rec (fun _ => Int → (List EV → α) → α) (fun _ k => k []) (fun _ ih i k => sI (i + 1) fun j => ih j fun r => k (.i i :: r)) n i k
def pListR : P2 := fun a b st => gI .no a fun x => gI .no b fun y => ift (small x) (ift (small y) (fits (y - x).toNat .no (rangeK (y - x).toNat x (newL st))) .no) .no
def pTupR : P2 := fun a b st => gI .no a fun x => gI .no b fun y => ift (small x) (ift (small y) (fits (y - x).toNat .no (rangeK (y - x).toNat x (okT st))) .no) .no
def wrapT (xs : List EV) (k : List EV → R) : R := @List.rec EV (fun _ => (List EV → R) → R) (fun k => k []) (fun x _ ih k => ih fun z => k (.t [x] :: z)) xs k
def zipR (xs ys : List EV) (k : List EV → R) : R :=
  @List.rec EV (fun _ => List EV → (List EV → R) → R) (fun _ k => k []) (fun x _ ih ys k => @List.rec EV (fun _ => R) (k []) (fun y r _ => gT .no y fun t => ih r fun z => k (.t (x :: t) :: z)) ys) xs ys k
/-- zip(*rows) -/
def zipS (st : Sto) (rows : List EV) (k : List EV → R) : R :=
  @List.rec EV (fun _ => (List EV → R) → R) (fun k => k []) (fun x r ih k => gX .no x st fun xs => @List.rec EV (fun _ => R) (wrapT xs k) (fun _ _ _ => ih fun z => zipR xs z k) r) rows k
def pListZ : P1 := fun a st => gX .no a st fun rows => zipS st rows (newL st)
def pIx : P2 := fun o i st => sel o (fun _ => .no) (fun c => gI .no i fun i => place .no i (lenN c) fun j => nth .no c j fun x => .ok (.s [x]) st) (fun xs => gI .no i fun i => place .no i (lenN xs) fun j => nth .no xs j fun x => .ok x st)
  (fun l => gO2 .no (st.get l) (fun xs => gI .no i fun i => place .no i (lenN xs) fun j => nth .no xs j fun x => .ok x st) fun kvs => ift (kkD i kvs) (dGet .no .no (kEq i) kvs fun v => .ok v st) .no) .no
def pIxL : P2 := fun o i st => gLs .no o st fun _ xs => gI .no i fun i => place .no i (lenN xs) fun j => nth .no xs j fun x => .ok x st
def iAdd : P2 := fun a b st => sel a (fun x => gI .no b fun y => okI st (x + y)) (fun x => gS .no b fun y => app x y (okS st)) (fun _ => .no) (fun _ => .no) .no
def cut {α β : Type} (xs : List β) (lo hi : Nat) (k : List β → α) : α := takeK (dropN xs lo) (hi - lo) k
def pSlL : P2 := fun o a st => gI .no a fun a => sel o (fun _ => .no) (fun c => cut c (bound a (lenN c)) (lenN c) (okS st)) (fun xs => cut xs (bound a (lenN xs)) (lenN xs) (okT st)) (fun l => gOL .no (st.get l) fun xs => cut xs (bound a (lenN xs)) (lenN xs) (newL st)) .no
def pSlH : P2 := fun o b st => gI .no b fun b => sel o (fun _ => .no) (fun c => cut c 0 (bound b (lenN c)) (okS st)) (fun xs => cut xs 0 (bound b (lenN xs)) (okT st)) (fun l => gOL .no (st.get l) fun xs => cut xs 0 (bound b (lenN xs)) (newL st)) .no
def pSlLH : P3 := fun o a b st => gI .no a fun a => gI .no b fun b => sel o (fun _ => .no) (fun c => cut c (bound a (lenN c)) (bound b (lenN c)) (okS st)) (fun xs => cut xs (bound a (lenN xs)) (bound b (lenN xs)) (okT st))
  (fun l => gOL .no (st.get l) fun xs => cut xs (bound a (lenN xs)) (bound b (lenN xs)) (newL st)) .no
/-- o[::-1] -/
def pRev : P1 := fun o st => sel o (fun _ => .no) (fun _ => .no) (fun xs => revK xs (okT st)) (fun l => gOL .no (st.get l) fun xs => revK xs (newL st)) .no
/-- each second one -/
def evens (xs : List EV) : List EV × List EV := @List.rec EV (fun _ => List EV × List EV) ([], []) (fun x _ ih => (x :: ih.2, ih.1)) xs
/-- o[1::2] -/
def pOdds : P1 := fun o st => sel o (fun _ => .no) (fun _ => .no) (fun xs => sL (evens xs).2 (okT st)) (fun l => gOL .no (st.get l) fun xs => sL (evens xs).2 (newL st)) .no
def pApp : P2 := fun o v st => gLs .no o st fun a xs => app xs [v] fun zs => putL st a zs .n
def pExt : P2 := fun o v st => gLs .no o st fun a xs => gLs .no v st fun _ ys => app xs ys fun zs => putL st a zs .n
def pPop : P1 := fun o st => gLs .no o st fun a xs => revK xs fun ys => @List.rec EV (fun _ => R) .no (fun y r _ => revK r fun zs => putL st a zs y) ys
def delK {α β : Type} (xs : List β) (n : Nat) (k : List β → α) : α := @List.rec β (fun _ => Nat → (List β → α) → α) (fun _ k => k []) (fun x r ih n k => @Nat.rec (fun _ => α) (k r) (fun m _ => ih m fun r' => k (x :: r')) n) xs n k
def pPopAt : P2 := fun o i st => gLs .no o st fun a xs => gI .no i fun i => ift (small i) (place .no i (lenN xs) fun j => nth .no xs j fun y => delK xs j fun zs => putL st a zs y) .no
def remK (eq : EV → B3) (xs : List EV) (k : List EV → R) : R := @List.rec EV (fun _ => (List EV → R) → R) (fun _ => .no) (fun x r ih k => b3 (eq x) (ih fun r' => k (x :: r')) (k r) .no) xs k
def pRem : P2 := fun o v st => gLs .no o st fun a xs => remK (eqV st v) xs fun zs => putL st a zs .n
def indexK (eq : EV → B3) (xs : List EV) (n : Nat) (k : Nat → R) : R := @List.rec EV (fun _ => Nat → R) (fun _ => .no) (fun x _ ih n => b3 (eq x) (sN (n + 1) ih) (k n) .no) xs n
def indexC (c : Nat) (xs : List Nat) (n : Nat) (k : Nat → R) : R := @List.rec Nat (fun _ => Nat → R) (fun _ => .no) (fun x _ ih n => ift (Nat.beq c x) (k n) (sN (n + 1) ih)) xs n
def pIndex : P2 := fun o v st => gS (gX .no o st fun xs => indexK (eqV st v) xs 0 fun n => okN st n) o fun c => gS .no v fun d => @List.rec Nat (fun _ => R) .no (fun d r _ => @List.rec Nat (fun _ => R) (indexC d c 0 fun n => okN st n) (fun _ _ _ => .no) r) d
def countK (eq : EV → B3) (xs : List EV) (n : Nat) (k : Nat → R) : R := @List.rec EV (fun _ => Nat → R) (fun n => k n) (fun x _ ih n => b3 (eq x) (ih n) (sN (n + 1) ih) .no) xs n
def pCount : P2 := fun o v st => gX .no o st fun xs => countK (eqV st v) xs 0 fun n => okN st n
def pGet1 : P2 := fun o i st => gDs .no o st fun _ kvs => dGet .no (.ok .n st) (eqV st i) kvs fun v => .ok v st
def pGet2 : P3 := fun o i w st => gDs .no o st fun _ kvs => dGet .no (.ok w st) (eqV st i) kvs fun v => .ok v st
def putD (st : Sto) (a : Nat) (xs : List (EV × EV)) (v : EV) : R := fits (lenN xs) .no (st.put a (.d xs) fun st => .ok v st)
def pSetd : P3 := fun o i w st => gDs .no o st fun a kvs => dGet .no (dPut R.no (eqV st i) i w kvs fun kvs => putD st a kvs w) (eqV st i) kvs fun v => .ok v st
def joinK (sep : List Nat) (xs : List EV) (k : List Nat → R) : R :=
  @List.rec EV (fun _ => (List Nat → R) → R) (fun k => k []) (fun x r ih k => gS .no x fun c => @List.rec EV (fun _ => R) (k c) (fun _ _ _ => ih fun t => app sep t fun t => app c t k) r) xs k
def pJoin : P2 := fun c x st => gS .no c fun c => gX .no x st fun xs => joinK c xs (okS st)
def cSplit (c : Nat) (xs : List Nat) (k : List (List Nat) → R) : R :=
  @List.rec Nat (fun _ => (List (List Nat) → R) → R) (fun k => k [[]]) (fun x _ ih k => ih fun r => ift (Nat.beq c x) (k ([] :: r)) (@List.rec (List Nat) (fun _ => R) .no (fun w ws _ => k ((x :: w) :: ws)) r)) xs k
def texts (ws : List (List Nat)) : List EV := @List.rec (List Nat) (fun _ => List EV) [] (fun w _ ih => .s w :: ih) ws
def pSplit : P2 := fun c d st => gS .no c fun c => gS .no d fun d => @List.rec Nat (fun _ => R) .no (fun d r _ => @List.rec Nat (fun _ => R) (cSplit d c fun ws => sL (texts ws) (newL st)) (fun _ _ _ => .no) r) d
def chooseN (n k : Nat) : Nat := @Nat.rec (fun _ => Nat → Nat) (fun k => @Nat.rec (fun _ => Nat) 1 (fun _ _ => 0) k) (fun _ ih k => @Nat.rec (fun _ => Nat) 1 (fun m _ => ih m + ih (m + 1)) k) n k
/-- o[i] = v -/
def setIx (o i v : EV) (st : Sto) : R := gA .no o fun a => gO2 .no (st.get a) (fun xs => gI .no i fun i => place .no i (lenN xs) fun j => putAt v xs j fun zs => st.put a (.l zs) fun st => .ok .n st)
  fun kvs => ift (kkD i kvs) (dPut R.no (kEq i) i v kvs fun kvs => putD st a kvs .n) .no

/-! ### combinators -/
abbrev Cal := Nat → List EV → Sto → R
abbrev ES := Cal → List EV → Sto → R
abbrev LS := Cal → List EV → Sto → RL
abbrev SS := Cal → List EV → Sto → RS
def rB (r : R) (k : EV → Sto → R) : R := @R.rec (fun _ => R) k R.ex R.no r
def rBL (r : RL) (k : List EV → Sto → R) : R := @RL.rec (fun _ => R) k R.ex R.no r
def rBl (r : R) (k : EV → Sto → RL) : RL := @R.rec (fun _ => RL) k RL.ex RL.no r
def lB (r : RL) (k : List EV → Sto → RL) : RL := @RL.rec (fun _ => RL) k RL.ex RL.no r
def sBd (r : RS) (k : List EV → Sto → RS) : RS := @RS.rec (fun _ => RS) k RS.rt RS.bk RS.ct RS.ex RS.no r
def rBs (r : R) (k : EV → Sto → RS) : RS := @R.rec (fun _ => RS) k RS.ex RS.no r
def rBLs (r : RL) (k : List EV → Sto → RS) : RS := @RL.rec (fun _ => RS) k RS.ex RS.no r
def tst (r : R) (t f : Sto → R) : R := rB r fun v st => b3 (truth st v) (f st) (t st) .no
def tstS (r : R) (t f : Sto → RS) : RS := rBs r fun v st => b3 (truth st v) (f st) (t st) .no
def tstL (r : R) (t f : Sto → RL) : RL := rBl r fun v st => b3 (truth st v) (f st) (t st) .no

def isU (v : EV) : Bool := @EV.rec (fun _ => Bool) (fun _ => PUnit) true false (fun _ => false) (fun _ => false) (fun _ => false) (fun _ _ => false) (fun _ => false) (fun _ => false) (fun _ => false) ⟨⟩ (fun _ _ _ _ => ⟨⟩) v
def cV (i : Nat) : ES := fun _ ρ st => nth .no ρ i fun v => ift (isU v) .no (.ok v st)
def cK (v : EV) : ES := fun _ _ st => .ok v st
def c1 (p : P1) (a : ES) : ES := fun c ρ st => rB (a c ρ st) p
def c2 (p : P2) (a b : ES) : ES := fun c ρ st => rB (a c ρ st) fun x st => rB (b c ρ st) fun y st => p x y st
def c3 (p : P3) (a b d : ES) : ES := fun c ρ st => rB (a c ρ st) fun x st => rB (b c ρ st) fun y st => rB (d c ρ st) fun z st => p x y z st
/-- o[a:b] -/
def cSlLH (o a b : ES) : ES := fun c ρ st => rB (o c ρ st) fun x st => rB (a c ρ st) fun y st => gI .no y fun _ => rB (b c ρ st) fun z st => pSlLH x y z st
/-- o.m(e), o a list; a text -/
def cML (p : P2) (a b : ES) : ES := fun c ρ st => rB (a c ρ st) fun x st => gLs .no x st fun _ _ => rB (b c ρ st) fun y st => p x y st
def cMS (p : P2) (a b : ES) : ES := fun c ρ st => rB (a c ρ st) fun x st => gS .no x fun _ => rB (b c ρ st) fun y st => p x y st
def lNil : LS := fun _ _ st => .ok [] st
def lCons (a : ES) (l : LS) : LS := fun c ρ st => rBl (a c ρ st) fun v st => lB (l c ρ st) fun vs st => .ok (v :: vs) st
def cTup (l : LS) : ES := fun c ρ st => rBL (l c ρ st) fun vs st => okT st vs
def cLst (l : LS) : ES := fun c ρ st => rBL (l c ρ st) fun vs st => newL st vs
def cDic0 : ES := fun _ _ st => newD st []
def cDic1 (a b : ES) : ES := c2 (fun a b st => newD st [(a, b)]) a b
def cCall (f : Nat) (l : LS) : ES := fun c ρ st => rBL (l c ρ st) fun vs st => c f vs st
def permK (vs : List EV) (pm : List Nat) (k : List EV → R) : R := @List.rec Nat (fun _ => (List EV → R) → R) (fun k => k []) (fun i _ ih k => nth .no vs i fun v => ih fun r => k (v :: r)) pm k
def cCallK (f : Nat) (l j : LS) (pm : List Nat) : ES := fun c ρ st => rBL (l c ρ st) fun vs st => rBL (j c ρ st) fun zs st => app vs zs fun vs => permK vs pm fun vs => c f vs st
def cCallV (g : ES) (l : LS) : ES := fun c ρ st => rB (g c ρ st) fun v st => gF .no v fun f => rBL (l c ρ st) fun vs st => c f vs st
def cAnd (a b : ES) : ES := fun c ρ st => rB (a c ρ st) fun v st => b3 (truth st v) (.ok v st) (b c ρ st) .no
def cOr (a b : ES) : ES := fun c ρ st => rB (a c ρ st) fun v st => b3 (truth st v) (b c ρ st) (.ok v st) .no
def cNot (a : ES) : ES := fun c ρ st => rB (a c ρ st) fun v st => b3 (truth st v) (.ok (.b true) st) (.ok (.b false) st) .no
def cIte (x a b : ES) : ES := fun c ρ st => rB (x c ρ st) fun v st => b3 (truth st v) (b c ρ st) (a c ρ st) .no
def cChain (p q : P2) (a b d : ES) : ES := fun c ρ st => rB (a c ρ st) fun x st => rB (b c ρ st) fun y st => rB (p x y st) fun v st => b3 (truth st v) (.ok v st) (rB (d c ρ st) fun z st => q y z st) .no

/-! ### targets -/
abbrev GS := Cal → EV → List EV → Sto → RS
abbrev GLS := Cal → List EV → List EV → Sto → RS
def gV (i : Nat) : GS := fun _ v ρ st => putAt v ρ i fun ρ => .nx ρ st
def gNil : GLS := fun _ vs ρ st => @List.rec EV (fun _ => RS) (.nx ρ st) (fun _ _ _ => .no) vs
def gCons (g : GS) (l : GLS) : GLS := fun c vs ρ st => @List.rec EV (fun _ => RS) .no (fun v r _ => sBd (g c v ρ st) fun ρ st => l c r ρ st) vs
def gTup (l : GLS) : GS := fun c v ρ st => gT .no v fun vs => l c vs ρ st
def gSub (o i : ES) : GS := fun c v ρ st => rBs (o c ρ st) fun o st => rBs (i c ρ st) fun i st => rBs (setIx o i v st) fun _ st => .nx ρ st

/-! ### what is walked -/
inductive JB where
  | ls (a : Nat) (i : Nat) | ts (xs : List EV) | rg (i : Int) (n : Nat) | ss (cs : List Nat)
inductive J where
  | b (j : JB) | en (k : Int) (j : JB) | zp (js : List JB)
inductive RJ where
  | ok (j : J) (st : Sto) | ex (c : Nat) (p : EV) (st : Sto) | no
abbrev WS := Cal → List EV → Sto → RJ
/-- the turn's item, what comes behind; the end; not known -/
def nxB {α : Type} (bad fin : α) (j : JB) (st : Sto) (k : EV → JB → α) : α :=
  @JB.rec (fun _ => α) (fun a i => gOL bad (st.get a) fun xs => nth fin xs i fun v => sN (i + 1) fun i => k v (.ls a i)) (fun xs => @List.rec EV (fun _ => α) fin (fun x r _ => k x (.ts r)) xs)
    (fun i n => @Nat.rec (fun _ => α) fin (fun m _ => sI (i + 1) fun i' => k (.i i) (.rg i' m)) n) (fun cs => @List.rec Nat (fun _ => α) fin (fun c r _ => k (.s [c]) (.ss r)) cs) j
def chk {α : Type} (bad fin : α) (js : List JB) (st : Sto) : α := @List.rec JB (fun _ => α) fin (fun j _ ih => nxB bad ih j st fun _ _ => ih) js
def nxL {α : Type} (bad fin : α) (js : List JB) (st : Sto) (k : List EV → List JB → α) : α :=
  @List.rec JB (fun _ => (List EV → List JB → α) → α) (fun k => k [] []) (fun j r ih k => nxB bad (chk bad fin r st) j st fun v j' => ih fun vs js' => k (v :: vs) (j' :: js')) js k
def nxJ {α : Type} (bad fin : α) (j : J) (st : Sto) (k : EV → J → α) : α :=
  @J.rec (fun _ => α) (fun j => nxB bad fin j st fun v j => k v (.b j)) (fun i j => nxB bad fin j st fun v j => sI (i + 1) fun i' => k (.t [.i i, v]) (.en i' j)) (fun js => nxL bad fin js st fun vs js => k (.t vs) (.zp js)) j
def mkJ {α : Type} (no : α) (v : EV) (st : Sto) (k : JB → α) : α := sel v (fun _ => no) (fun c => k (.ss c)) (fun xs => k (.ts xs)) (fun a => gO2 no (st.get a) (fun _ => k (.ls a 0)) fun _ => no) no
/-- .. a list or a tuple -/
def mkQ {α : Type} (no : α) (v : EV) (st : Sto) (k : JB → α) : α := sel v (fun _ => no) (fun _ => no) (fun xs => k (.ts xs)) (fun a => gO2 no (st.get a) (fun _ => k (.ls a 0)) fun _ => no) no
def mkJs {α : Type} (no : α) (vs : List EV) (st : Sto) (k : List JB → α) : α := @List.rec EV (fun _ => (List JB → α) → α) (fun k => k []) (fun v _ ih k => mkQ no v st fun j => ih fun js => k (j :: js)) vs k
def jB (r : R) (k : EV → Sto → RJ) : RJ := @R.rec (fun _ => RJ) k RJ.ex RJ.no r
def jBL (r : RL) (k : List EV → Sto → RJ) : RJ := @RL.rec (fun _ => RJ) k RJ.ex RJ.no r
def wE (e : ES) : WS := fun c ρ st => jB (e c ρ st) fun v st => mkJ .no v st fun j => .ok (.b j) st
def wRng (a b : ES) : WS := fun c ρ st => jB (a c ρ st) fun x st => jB (b c ρ st) fun y st => gI .no x fun x => gI .no y fun y => ift (small x) (ift (small y) (.ok (.b (.rg x (y - x).toNat)) st) .no) .no
def wEn (e k : ES) : WS := fun c ρ st => jB (e c ρ st) fun v st => jB (k c ρ st) fun i st => gI .no i fun i => ift (small i) (mkQ .no v st fun j => .ok (.en i j) st) .no
def wZip (l : LS) : WS := fun c ρ st => jBL (l c ρ st) fun vs st => mkJs .no vs st fun js => .ok (.zp js) st
def wZipS (e : ES) : WS := fun c ρ st => jB (e c ρ st) fun v st => gX .no v st fun vs => mkJs .no vs st fun js => .ok (.zp js) st

/-! ### comprehensions: what a clause adds to the items so far (backwards) -/
abbrev CS := Cal → List EV → Sto → List EV → RL
def TURNS : Nat := 1000000000
def tests (l : List ES) (c : Cal) (ρ : List EV) (st : Sto) (t f : Sto → RL) : RL := @List.rec ES (fun _ => Sto → RL) t (fun e _ ih st => tstL (e c ρ st) ih f) l st
def jLoop (c : Cal) (g : GS) (ifs : List ES) (k : CS) (ρ : List EV) (n : Nat) (j : J) (st : Sto) (acc : List EV) : RL :=
  @Nat.rec (fun _ => J → Sto → List EV → RL) (fun _ _ _ => .no) (fun _ ih j st acc => nxJ RL.no (.ok acc st) j st fun v j => @RS.rec (fun _ => RL) (fun ρ st => tests ifs c ρ st (fun st => lB (k c ρ st acc) fun acc st => ih j st acc) fun st => ih j st acc)
    (fun _ _ => .no) (fun _ _ => .no) (fun _ _ => .no) (fun _ _ _ => .no) .no (g c v ρ st)) n j st acc
def kElt (e : ES) : CS := fun c ρ st acc => rBl (e c ρ st) fun v st => .ok (v :: acc) st
def wipe (w : List Nat) (ρ : List EV) : List EV := @List.rec Nat (fun _ => List EV) ρ (fun i _ ih => putAt .u ih i fun r => r) w
def kFor (g : GS) (w : WS) (ifs : List ES) (k : CS) (own : List Nat) : CS := fun c ρ st acc => @RJ.rec (fun _ => RL) (fun j st => jLoop c g ifs k (wipe own ρ) TURNS j st acc) (fun _ _ _ => .no) .no (w c ρ st)
/-- a comprehension: its first source stands outside -/
def cComp (g : GS) (w : WS) (ifs : List ES) (k : CS) (own : List Nat) : ES := fun c ρ st => @RJ.rec (fun _ => R) (fun j st => @RL.rec (fun _ => R) (fun vs st => revK vs (newL st)) (fun _ _ _ => .no) .no (jLoop c g ifs k (wipe own ρ) TURNS j st [])) R.ex .no (w c ρ st)

/-! ### statements -/
def sNil : SS := fun _ ρ st => .nx ρ st
def sCons (a b : SS) : SS := fun c ρ st => sBd (a c ρ st) fun ρ st => b c ρ st
def sRet (e : ES) : SS := fun c ρ st => rBs (e c ρ st) fun v st => .rt v st
def sSet (g : GS) (e : ES) : SS := fun c ρ st => rBs (e c ρ st) fun v st => g c v ρ st
def sSet2 (g h : GS) (e : ES) : SS := fun c ρ st => rBs (e c ρ st) fun v st => sBd (g c v ρ st) fun ρ st => h c v ρ st
def sAug (p : P2) (i : Nat) (e : ES) : SS := fun c ρ st => nth .no ρ i fun a => ift (isU a) .no <| rBs (e c ρ st) fun v st => rBs (p a v st) fun z st => putAt z ρ i fun ρ => .nx ρ st
def sAugS (p : P2) (o i e : ES) : SS := fun c ρ st => rBs (o c ρ st) fun o st => rBs (i c ρ st) fun i st => rBs (pIxL o i st) fun a st => rBs (e c ρ st) fun v st => rBs (p a v st) fun z st => rBs (setIx o i z st) fun _ st => .nx ρ st
def sEx (e : ES) : SS := fun c ρ st => rBs (e c ρ st) fun _ st => .nx ρ st
def sIf (e : ES) (a b : SS) : SS := fun c ρ st => tstS (e c ρ st) (fun st => a c ρ st) fun st => b c ρ st
def sWhl (e : ES) (b : SS) : SS := fun c ρ st => @Nat.rec (fun _ => List EV → Sto → RS) (fun _ _ => .no) (fun _ ih ρ st => tstS (e c ρ st) (fun st => @RS.rec (fun _ => RS) ih RS.rt RS.nx ih RS.ex RS.no (b c ρ st)) fun st => .nx ρ st) TURNS ρ st
def fLoop (c : Cal) (g : GS) (b : SS) (n : Nat) (j : J) (ρ : List EV) (st : Sto) : RS :=
  @Nat.rec (fun _ => J → List EV → Sto → RS) (fun _ _ _ => .no) (fun _ ih j ρ st => nxJ RS.no (.nx ρ st) j st fun v j => sBd (g c v ρ st) fun ρ st => @RS.rec (fun _ => RS) (ih j) RS.rt RS.nx (ih j) RS.ex RS.no (b c ρ st)) n j ρ st
def sFor (g : GS) (w : WS) (b : SS) : SS := fun c ρ st => @RJ.rec (fun _ => RS) (fun j st => fLoop c g b TURNS j ρ st) RS.ex .no (w c ρ st)
def sBrk : SS := fun _ ρ st => .bk ρ st
def sCnt : SS := fun _ ρ st => .ct ρ st
def sRai (k : Nat) : SS := fun _ _ st => .ex k .n st
def sRai1 (k : Nat) (e : ES) : SS := fun c ρ st => rBs (e c ρ st) fun v st => .ex k v st

/-! ### functions -/
structure FD where
  np : Nat
  nl : Nat
  body : SS
inductive FT where
  | e | d (o : FD) (l r : FT)
def FT.get {α : Type} (no : α) (t : FT) (n : Nat) (k : FD → α) : α :=
  @FT.rec (fun _ => Nat → α) (fun _ => no) (fun o _ _ gl gr n => @Nat.rec (fun _ => α) (k o) (fun m _ => @Nat.rec (fun _ => α) (gl (m / 2)) (fun _ _ => gr (m / 2)) (m % 2)) n) t n
def padU {α : Type} (n : Nat) (vs : List EV) (k : List EV → α) : α :=
  @List.rec EV (fun _ => Nat → (List EV → α) → α) (fun n k => @Nat.rec (fun _ => (List EV → α) → α) (fun k => k []) (fun _ ih k => ih fun r => k (.u :: r)) n k) (fun x _ ih n k => ih (n - 1) fun r => k (x :: r)) vs n k
def ofBody (r : RS) : R := @RS.rec (fun _ => R) (fun _ st => .ok .n st) R.ok (fun _ _ => .no) (fun _ _ => .no) R.ex R.no r
def calF (F : FT) (cal : Cal) : Cal := fun f vs st => F.get .no f fun d => ift (Nat.beq d.np (lenN vs)) (padU d.nl vs fun ρ => ofBody (d.body cal ρ st)) .no
def run (F : FT) (d : Nat) : Cal := @Nat.rec (fun _ => Cal) (fun _ _ _ => .no) (fun _ cal => calF F cal) d
def isTrueR (r : R) : Bool := @R.rec (fun _ => Bool) (fun v _ => gB false v fun b => b) (fun _ _ _ => false) false r
end L3

set_option linter.all false
set_option maxRecDepth 100000
/-! L3: more primitives of the evaluator (own work). -/
noncomputable section
namespace L3
def cNo : ES := fun _ _ _ => .no
def sNo : SS := fun _ _ _ => .no
def isNx (r : RS) : Bool := @RS.rec (fun _ => Bool) (fun ρ _ => Nat.beq (lenN ρ) 1) (fun _ _ => false) (fun _ _ => false) (fun _ _ => false) (fun _ _ _ => false) false r
def isRt (r : RS) : Bool := @RS.rec (fun _ => Bool) (fun _ _ => false) (fun v _ => gB false v fun b => b) (fun _ _ => false) (fun _ _ => false) (fun _ _ _ => false) false r
def tLt (x y : EV) : B3 := gT .x x fun a => gT .x y fun b => ltI a b
def insT (x : EV) (xs : List EV) (k : List EV → R) : R := @List.rec EV (fun _ => (List EV → R) → R) (fun k => k [x]) (fun y r ih k => b3 (tLt y x) (k (x :: y :: r)) (ih fun r' => k (y :: r')) .no) xs k
def sortT (xs : List EV) (k : List EV → R) : R := @List.rec EV (fun _ => (List EV → R) → R) (fun k => k []) (fun x _ ih k => ih fun r => insT x r k) xs k
def tupsK (xs : List EV) (k : R) : R := @List.rec EV (fun _ => R) k (fun x _ ih => gT .no x fun a => @List.rec EV (fun _ => R) .no (fun _ _ _ => intsK a ih) a) xs
def pSortedT : P1 := fun a st => gLs .no a st fun _ xs => tupsK xs (sortT xs (newL st))
def pSortedX : P1 := fun a st => gLs .no a st fun _ xs => @List.rec EV (fun _ => R) (pSorted a st) (fun x _ _ => gT (pSorted a st) x fun _ => pSortedT a st) xs
def eqLens (st : Sto) (n : Nat) (rs : List EV) : Bool := @List.rec EV (fun _ => Bool) true (fun r _ ih => gX false r st fun xs => ift (Nat.beq (lenN xs) n) ih false) rs
def pListE : P1 := fun a st => gX .no a st fun rows => @List.rec EV (fun _ => R) .no (fun r rs _ => gX .no r st fun xs => ift (eqLens st (lenN xs) rs) (zipS st (r :: rs) (newL st)) .no) rows
def insIU (x : EV) (a : Int) (xs : List EV) (k : List EV → R) : R :=
  @List.rec EV (fun _ => (List EV → R) → R) (fun k => k [x]) (fun y r ih k => gI .no y fun b => ift (iLt b a) (ih fun r' => k (y :: r')) (ift (iLt a b) (k (x :: y :: r)) (k (y :: r)))) xs k
def sortIU (xs : List EV) (k : List EV → R) : R := @List.rec EV (fun _ => (List EV → R) → R) (fun k => k []) (fun x _ ih k => ih fun r => gI .no x fun a => insIU x a r k) xs k
def pSetSort : P1 := fun a st => gX .no a st fun xs => ift (Nat.blt (lenN xs) 64) (intsK xs (sortIU xs (newL st))) .no
def pDic1 : P2 := fun a b st => ift (Nat.beq (kk a) 1) (newD st [(a, b)]) .no
/-- sorted(set(xs)), xs of tuples of whole numbers not below 0, of one length -/
def insTU (x : EV) (xs : List EV) (k : List EV → R) : R :=
  @List.rec EV (fun _ => (List EV → R) → R) (fun k => k [x]) (fun y r ih k => b3 (tLt y x) (b3 (tLt x y) (k (y :: r)) (k (x :: y :: r)) .no) (ih fun r' => k (y :: r')) .no) xs k
def sortTU (xs : List EV) (k : List EV → R) : R := @List.rec EV (fun _ => (List EV → R) → R) (fun k => k []) (fun x _ ih k => ih fun r => insTU x r k) xs k
def natsK (xs : List EV) (k : R) : R := @List.rec EV (fun _ => R) k (fun x _ ih => gI .no x fun i => ift (iLt i 0) .no ih) xs
def posK (d : Nat) (xs : List EV) (k : R) : R := @List.rec EV (fun _ => R) k (fun x _ ih => gT .no x fun a => ift (Nat.beq (lenN a) d) (natsK a ih) .no) xs
def pSetSortT : P1 := fun a st => gX .no a st fun xs => ift (Nat.blt (lenN xs) 64) (@List.rec EV (fun _ => R) .no (fun x _ _ => gT .no x fun a => @Nat.rec (fun _ => R) .no (fun d _ => posK (d + 1) xs (sortTU xs (newL st))) (lenN a)) xs) .no
def pSetSortX : P1 := fun a st => gX .no a st fun xs => @List.rec EV (fun _ => R) (pSetSort a st) (fun x _ _ => gT (pSetSort a st) x fun _ => pSetSortT a st) xs
/-- sorted(xs): ints; texts apart; tuples of ints; (int, tuple of ints); tuples of tuples of ints; (int, text); a list or a tuple -/
def isIB (v : EV) : Bool := gI false v fun _ => true
def isTIB (v : EV) : Bool := gT false v fun xs => intsB xs
def isTTB (v : EV) : Bool := gT false v fun xs => allB1 isTIB xs
def isITB (v : EV) : Bool := gT false v fun xs => @List.rec EV (fun _ => Bool) false (fun a r _ => @List.rec EV (fun _ => Bool) false (fun b r _ => @List.rec EV (fun _ => Bool) (ift (isIB a) (isTIB b) false) (fun _ _ _ => false) r) r) xs
def isISB (v : EV) : Bool := gT false v fun xs => @List.rec EV (fun _ => Bool) false (fun a r _ => @List.rec EV (fun _ => Bool) false (fun b r _ => @List.rec EV (fun _ => Bool) (ift (isIB a) (gS false b fun _ => true) false) (fun _ _ _ => false) r) r) xs
def neB (v : EV) : Bool := gT false v fun xs => @List.rec EV (fun _ => Bool) false (fun _ _ _ => true) xs
def sortable (xs : List EV) : Bool := ift (allB1 isIB xs) true (ift (allB1 neB xs) (ift (allB1 isTIB xs) true (ift (allB1 isITB xs) true (ift (allB1 isTTB xs) true (allB1 isISB xs)))) false)
def pSortedO : P1 := fun a st => gX .no a st fun xs => ift (allB1 (dD st 5) xs) (ift (sortable xs) (sortV (ltD st 5) xs (newL st)) .no) .no
def pSortedY : P1 := fun a st => gX .no a st fun xs => @List.rec EV (fun _ => R) (pSortedO a st) (fun x _ _ => gI (pSortedO a st) x fun _ => sel a (fun _ => .no) (fun _ => .no) (fun _ => pSortedO a st) (fun _ => pSorted a st) .no) xs
/-- min(xs), max(xs) of such -/
def pMinO : P1 := fun a st => gX .no a st fun xs => ift (allB1 (dD st 5) xs) (ift (sortable xs) (@List.rec EV (fun _ => R) .no (fun x r _ => extr (ltD st 5) r x fun v => .ok v st) xs) .no) .no
def pMaxO : P1 := fun a st => gX .no a st fun xs => ift (allB1 (dD st 5) xs) (ift (sortable xs) (@List.rec EV (fun _ => R) .no (fun x r _ => extr (fun x b => ltD st 5 b x) r x fun v => .ok v st) xs) .no) .no
def pMinY : P1 := fun a st => gX .no a st fun xs => @List.rec EV (fun _ => R) .no (fun x _ _ => gI (pMinO a st) x fun _ => sel a (fun _ => .no) (fun _ => .no) (fun _ => pMinO a st) (fun _ => pMin1 a st) .no) xs
def pMaxY : P1 := fun a st => gX .no a st fun xs => @List.rec EV (fun _ => R) .no (fun x _ _ => gI (pMaxO a st) x fun _ => sel a (fun _ => .no) (fun _ => .no) (fun _ => pMaxO a st) (fun _ => pMax1 a st) .no) xs
/-- len(set(xs)) of ints, of tuples of ints -/
def pLenSetI : P1 := fun a st => gX .no a st fun xs => ift (Nat.blt (lenN xs) 64) (intsK xs (sortIU xs fun r => okN st (lenN r))) .no
def pLenSetT : P1 := fun a st => gX .no a st fun xs => ift (Nat.blt (lenN xs) 64) (tupsK xs (sortTU xs fun r => okN st (lenN r))) .no
def pLenSetX : P1 := fun a st => gX .no a st fun xs => @List.rec EV (fun _ => R) (pLenSetI a st) (fun x _ _ => gT (pLenSetI a st) x fun _ => pLenSetT a st) xs
end L3

set_option linter.all false
set_option maxRecDepth 100000
/-! L3: more primitives (own work). -/
noncomputable section
namespace L3
/-- comb(n, k) -/
def pComb : P2 := fun a b st => gI .no a fun x => gI .no b fun y => ift (iLt x 0) .no (ift (iLt y 0) .no (ift (iLt 9000 x) .no (okI st (PySem.W.mcComb x y))))
/-- o.m(e, ..), o a dict -/
def cMD (p : P2) (a b : ES) : ES := fun c ρ st => rB (a c ρ st) fun x st => gDs .no x st fun _ _ => rB (b c ρ st) fun y st => p x y st
def cMD2 (p : P3) (a b d : ES) : ES := fun c ρ st => rB (a c ρ st) fun x st => gDs .no x st fun _ _ => rB (b c ρ st) fun y st => rB (d c ρ st) fun z st => p x y z st
def pDget1 : P2 := fun o i st => gDs .no o st fun _ kvs => ift (kkD i kvs) (dGet .no (.ok .n st) (kEq i) kvs fun v => .ok v st) .no
def pDget2 : P3 := fun o i w st => gDs .no o st fun _ kvs => ift (kkD i kvs) (dGet .no (.ok w st) (kEq i) kvs fun v => .ok v st) .no
def pDsetd : P3 := fun o i w st => gDs .no o st fun a kvs => ift (kkD i kvs) (ift (Nat.blt (lenN kvs) 100000) (dGet .no (dPut R.no (kEq i) i w kvs fun kvs => putD st a kvs w) (kEq i) kvs fun v => .ok v st) .no) .no
end L3

set_option linter.all false
set_option maxRecDepth 100000
/-! L3: more combinators (own work). -/
noncomputable section
namespace L3
/-- two targets of any kind -/
def gTup2 (g h : GS) : GS := fun c v ρ st => gT .no v fun vs => @List.rec EV (fun _ => RS) .no (fun a r _ => @List.rec EV (fun _ => RS) .no (fun b r2 _ => @List.rec EV (fun _ => RS) (sBd (g c a ρ st) fun ρ st => h c b ρ st) (fun _ _ _ => .no) r2) r) vs
end L3

set_option linter.all false
set_option maxRecDepth 100000
/-! L3: more combinators (own work). -/
noncomputable section
namespace L3
/-- sorted: the first of the tuples may be () -/
def pSortedZ : P1 := fun a st => gX .no a st fun xs => @List.rec EV (fun _ => R) (pSortedY a st) (fun x _ _ => gT (pSortedY a st) x fun ys => @List.rec EV (fun _ => R) (ift (allB1 isTIB xs) (sortT xs (newL st)) .no) (fun _ _ _ => pSortedY a st) ys) xs
/-- a method of a text, one argument -/
def cMz (p : P2) (mo me : ES) : ES := fun cal ρ st => rB (mo cal ρ st) fun x st => gS .no x fun _ => rB (me cal ρ st) fun y st => p x y st
def pJoinS : P2 := fun c x st => gS .no c fun cs => ift (Nat.blt (lenN cs) 1000) (pJoin c x st) .no
end L3

set_option Elab.async false
set_option linter.all false
set_option maxRecDepth 100000
set_option maxHeartbeats 0
namespace HD
open PySem PySem.Spec PyProof.Rows L2 L3
noncomputable section
/-! ### the law's own: the head -/
abbrev PW : Program := PySem.Challenge.pw_walktallies_k82_names_of_parameters_roun
abbrev RW : PySem.W.OpenLaw := PySem.Challenge.rw_walktallies_k82_names_of_parameters_roun
def top (i : Nat) : Stmt := PW.main.body.getD i (.Pass ⟨0, 0, 0, 0⟩)
abbrev R : PySem.W.OpenRow := PySem.W.OpenLaw.row RW
def dd (x n : Str) (i : Nat) : He.DefD := ⟨(x, none), n, n, defArgs (top i), defBody (top i), defScope (top i), [], []⟩
def fn0 : List He.DefD := [dd "is_number" "is_number" 6, dd "is_from" "is_from" 7, dd "is_long" "is_long" 8, dd "tupled" "tupled" 9, dd "ascends" "ascends" 10, dd "are_numbers" "are_numbers" 11, dd "is_row_below" "is_row_below" 12, dd "is_set_below" "is_set_below" 13, dd "cut_line" "cut_line" 15, dd "added" "added" 16, dd "scaled" "scaled" 17, dd "times" "times" 18, dd "value_in" "value_in" 19, dd "value_at" "value_at" 20, dd "slope_in" "slope_in" 21, dd "put_in" "put_in" 22, dd "common_number" "common_number" 23, dd "plain_in" "plain_in" 24, dd "same_signs" "same_signs" 25, dd "rest_in" "rest_in" 26, dd "shared_in" "shared_in" 27, dd "quotient_in" "quotient_in" 28, dd "square_parts_in" "square_parts_in" 29, dd "sums_in_lines" "sums_in" 30, dd "from_sums_in" "from_sums_in" 32, dd "is_tie_in" "is_tie_in" 35, dd "is_web_in" "is_web_in" 36, dd "sure_web" "sure_web" 37, dd "tie_of" "tie_of" 38, dd "near_in" "near_in" 39]
def fn1 : List He.DefD := [dd "clique_in" "clique_in" 40, dd "lots_in" "lots_in" 41, dd "sides_in" "sides_in" 42, dd "one_in" "one_in" 44, dd "product_in" "product_in" 45, dd "sum_in" "sum_in" 46, dd "trace_in" "trace_in" 47, dd "power_in" "power_in" 48, dd "poly_of_table" "poly_of_table" 49, dd "ties_table_in" "ties_table_in" 50, dd "poly_in" "poly_in" 52, dd "sturm_row" "sturm_row" 54, dd "sign_of" "sign_of" 55, dd "changes_in" "changes_in" 56, dd "signs_at" "signs_at" 57, dd "signs_far" "signs_far" 58, dd "at_in" "at_in" 59, dd "bound_in" "bound_in" 60, dd "floors_in" "floors_in" 61, dd "from_in" "from_in" 62, dd "whole_in" "whole_in" 63, dd "step_in" "step_in" 65, dd "closed_in" "closed_in" 66, dd "sure_pair" "sure_pair" 70, dd "sure_small" "sure_small" 71, dd "turns_in" "turns_in" 72, dd "both_in" "both_in" 73, dd "web_of" "web_of" 74, dd "sums_by_turns" "sums_by_turns" 75, dd "by_turns" "by_turns" 76]
def fn2 : List He.DefD := [dd "at_once" "at_once" 77, dd "either_way" "either_way" 78, dd "first_first" "first_first" 79, dd "turns_poly" "turns_poly" 80, dd "once_poly" "once_poly" 81, dd "either_poly" "either_poly" 82, dd "turns_walks" "turns_walks" 83, dd "once_walks" "once_walks" 84, dd "cube_web" "cube_web" 85, dd "words_web" "words_web" 86, dd "words_roots" "words_roots" 87, dd "once_parts" "once_parts" 88, dd "pair_place" "pair_place" 89, dd "turns_far" "turns_far" 90, dd "steps_to" "steps_to" 91, dd "power_by_turns" "power_by_turns" 92, dd "is_turns_whole" "is_turns_whole" 93, dd "product_line" "product_line" 94, dd "are_steps_in" "are_steps_in" 97, dd "sure_steps" "sure_steps" 98, dd "round_in" "round_in" 99, dd "parts_of" "parts_of" 100, dd "lot_of_part" "lot_of_part" 101, dd "row_in" "row_in" 102, dd "sums_in" "sums_in" 103, dd "sums_in_rounds" "sums_in" 103, dd "moebius_in" "moebius_in" 105, dd "prime_sum_in" "prime_sum_in" 106, dd "are_steps" "are_steps" 107, dd "round_web" "round_web" 108]
def fn3 : List He.DefD := [dd "steps_of" "steps_of" 109, dd "round_poly" "round_poly" 110, dd "round_walks" "round_walks" 111, dd "sums_to" "sums_to" 112, dd "part_lots" "part_lots" 113, dd "is_of_part_lots" "is_of_part_lots" 114, dd "is_whole_round" "is_whole_round" 115, dd "whole_round_roots" "whole_round_roots" 116, dd "steps_of_parts" "steps_of_parts" 117, dd "prime_sum" "prime_sum" 118, dd "moebius" "moebius" 119, dd "times_steps" "times_steps" 120, dd "unit_to" "unit_to" 121, dd "round_parts" "round_parts" 122, dd "has_round_sides" "has_round_sides" 123, dd "all_whole_steps" "all_whole_steps" 124, dd "turned_steps" "turned_steps" 125, dd "_law_cells" "_law_cells" 127, dd "_law_same" "_law_same" 128, dd "_law_rounds_so_right" "_law_rounds_so_right" 129, dd "_law_rounds_b_right" "_law_rounds_b_right" 130, dd "_law_rounds_c_right" "_law_rounds_c_right" 131, dd "_law_rounds_known_a_right" "_law_rounds_known_a_right" 132, dd "_law_rounds_known_b_right" "_law_rounds_known_b_right" 133, dd "_law_rounds_known_c_right" "_law_rounds_known_c_right" 134, dd "_law_grids_so_right" "_law_grids_so_right" 135, dd "_law_grids_b_right" "_law_grids_b_right" 136, dd "_law_grids_c_right" "_law_grids_c_right" 137, dd "_law_grids_known_a_right" "_law_grids_known_a_right" 138, dd "_law_grids_known_b_right" "_law_grids_known_b_right" 139]
def fn4 : List He.DefD := [dd "_law_grids_known_c_right" "_law_grids_known_c_right" 140, dd "law" "law" 141]
def fn : List He.DefD := fn0 ++ fn1 ++ fn2 ++ fn3 ++ fn4
def fa0 : List He.Fa := [.glo "is_number", .glo "is_from", .glo "is_long", .glo "tupled", .glo "ascends", .glo "are_numbers", .glo "is_row_below", .glo "is_set_below", .glo "cut_line", .glo "added", .glo "scaled", .glo "times", .glo "value_in", .glo "value_at", .glo "slope_in", .glo "put_in", .glo "common_number", .glo "plain_in", .glo "same_signs", .glo "rest_in", .glo "shared_in", .glo "quotient_in", .glo "square_parts_in", .glo "sums_in_lines", .glo "from_sums_in", .glo "is_tie_in", .glo "is_web_in", .glo "sure_web", .glo "tie_of", .glo "near_in"]
def fa1 : List He.Fa := [.glo "clique_in", .glo "lots_in", .glo "sides_in", .glo "one_in", .glo "product_in", .glo "sum_in", .glo "trace_in", .glo "power_in", .glo "poly_of_table", .glo "ties_table_in", .glo "poly_in", .glo "sturm_row", .glo "sign_of", .glo "changes_in", .glo "signs_at", .glo "signs_far", .glo "at_in", .glo "bound_in", .glo "floors_in", .glo "from_in", .glo "whole_in", .glo "step_in", .glo "closed_in", .glo "sure_pair", .glo "sure_small", .glo "turns_in", .glo "both_in", .glo "web_of", .glo "sums_by_turns", .glo "by_turns"]
def fa2 : List He.Fa := [.glo "at_once", .glo "either_way", .glo "first_first", .glo "turns_poly", .glo "once_poly", .glo "either_poly", .glo "turns_walks", .glo "once_walks", .glo "cube_web", .glo "words_web", .glo "words_roots", .glo "once_parts", .glo "pair_place", .glo "turns_far", .glo "steps_to", .glo "power_by_turns", .glo "is_turns_whole", .glo "product_line", .glo "are_steps_in", .glo "sure_steps", .glo "round_in", .glo "parts_of", .glo "lot_of_part", .glo "row_in", .glo "sums_in", .glo "sums_in_rounds", .glo "moebius_in", .glo "prime_sum_in", .glo "are_steps", .glo "round_web"]
def fa3 : List He.Fa := [.glo "steps_of", .glo "round_poly", .glo "round_walks", .glo "sums_to", .glo "part_lots", .glo "is_of_part_lots", .glo "is_whole_round", .glo "whole_round_roots", .glo "steps_of_parts", .glo "prime_sum", .glo "moebius", .glo "times_steps", .glo "unit_to", .glo "round_parts", .glo "has_round_sides", .glo "all_whole_steps", .glo "turned_steps", .glo "_law_cells", .glo "_law_same", .glo "_law_rounds_so_right", .glo "_law_rounds_b_right", .glo "_law_rounds_c_right", .glo "_law_rounds_known_a_right", .glo "_law_rounds_known_b_right", .glo "_law_rounds_known_c_right", .glo "_law_grids_so_right", .glo "_law_grids_b_right", .glo "_law_grids_c_right", .glo "_law_grids_known_a_right", .glo "_law_grids_known_b_right"]
def fa4 : List He.Fa := [.glo "_law_grids_known_c_right", .glo "law"]
def faG : List He.Fa := fa0 ++ fa1 ++ fa2 ++ fa3 ++ fa4
def bltL : List Str := ["ValueError", "abs", "all", "bool", "enumerate", "int", "isinstance", "len", "list", "max", "min", "range", "set", "sorted", "str", "sum", "tuple", "zip"]
def giL : List (Str × Int) := [("MOST_PLACES_webs", 40), ("MOST_PLACES_grids", 40), ("MOST_POLY", 20), ("MOST_PLACES_rounds", 20)]
def gsL : List (Str × List Nat) := []
def fxL : List (Str × String) := [("comb", "math.comb"), ("gcd", "math.gcd")]
def factsG : List He.Fa := faG ++ (bltL.map He.Fa.free ++ (giL.map (fun p => He.Fa.int p.1 p.2) ++ gsL.map (fun p => He.Fa.str p.1 ⟨p.2.toArray⟩)))
def excG (K : PySem.W.Frag) : Bool := fxL.all fun p => He.eqO (PySem.W.nsIn K mainGlobals p.1) (some (some (.builtin p.2)))
def lo0 : List Str := ["comb", "gcd", "CanNot", "TooMany", "Unfit", "is_number", "is_from", "is_long", "tupled", "ascends", "are_numbers", "is_row_below", "is_set_below", "cut_line", "added", "scaled", "times", "value_in", "value_at", "slope_in", "put_in", "common_number", "plain_in", "same_signs", "rest_in", "shared_in", "quotient_in", "square_parts_in", "sums_in", "sums_in_lines"]
def lo1 : List Str := ["from_sums_in", "MOST_PLACES_webs", "is_tie_in", "is_web_in", "sure_web", "tie_of", "near_in", "clique_in", "lots_in", "sides_in", "one_in", "product_in", "sum_in", "trace_in", "power_in", "poly_of_table", "ties_table_in", "poly_in", "sturm_row", "sign_of", "changes_in", "signs_at", "signs_far", "at_in", "bound_in", "floors_in", "from_in", "whole_in", "step_in", "closed_in"]
def lo2 : List Str := ["MOST_PLACES_grids", "MOST_POLY", "sure_pair", "sure_small", "turns_in", "both_in", "web_of", "sums_by_turns", "by_turns", "at_once", "either_way", "first_first", "turns_poly", "once_poly", "either_poly", "turns_walks", "once_walks", "cube_web", "words_web", "words_roots", "once_parts", "pair_place", "turns_far", "steps_to", "power_by_turns", "is_turns_whole", "product_line", "MOST_PLACES_rounds", "are_steps_in", "sure_steps"]
def lo3 : List Str := ["round_in", "parts_of", "lot_of_part", "row_in", "sums_in_rounds", "moebius_in", "prime_sum_in", "are_steps", "round_web", "steps_of", "round_poly", "round_walks", "sums_to", "part_lots", "is_of_part_lots", "is_whole_round", "whole_round_roots", "steps_of_parts", "prime_sum", "moebius", "times_steps", "unit_to", "round_parts", "has_round_sides", "all_whole_steps", "turned_steps", "_law_cells", "_law_same", "_law_rounds_so_right", "_law_rounds_b_right"]
def lo4 : List Str := ["_law_rounds_c_right", "_law_rounds_known_a_right", "_law_rounds_known_b_right", "_law_rounds_known_c_right", "_law_grids_so_right", "_law_grids_b_right", "_law_grids_c_right", "_law_grids_known_a_right", "_law_grids_known_b_right", "_law_grids_known_c_right"]
def loose : List Str := lo0 ++ lo1 ++ lo2 ++ lo3 ++ lo4
abbrev hk : PySem.W.Hook := He.hookX 2 factsG fn [] [] excG
def ob (s : PySem.W.SharedT) : He.AlX := He.obsX 2 factsG fn [] [] excG (HandSHeadRun.getT s)
theorem ob_eq (s : PySem.W.SharedT) : ob s = hk.obs s.abs := He.obsX_eq (HandSHeadRun.getT_eq s)
theorem two {α β γ δ : Type} {z : Option α} {f : α → β × γ} {g : α → δ} {a : β} {b : γ} {d : δ} (h1 : z.map f = some (a, b)) (h2 : z.map g = some d) : z.map (fun x => ((f x).1, (f x).2, g x)) = some (a, b, d) := by
  obtain ⟨x, e1, e2⟩ := Option.map_eq_some_iff.mp h1
  rw [e1] at h2 ⊢
  have e3 : g x = d := Option.some.inj h2
  show some ((f x).1, (f x).2, g x) = _
  rw [e2, e3]
abbrev vw : Program := PySem.W.view R.prog [0, 141]
noncomputable def Z (w : World) : Option (Shared × PySem.W.SharedT) := HandSHeadRun.wholeF (fun p => HandSHeadRun.stepQ (HandSHeadRun.denQ HandSHeadRun.tabQ) p w) HandSHeadRun.fenceQ 100000 R.prog
noncomputable def lk (x : Shared × PySem.W.SharedT) := (HandSHeadRun.looksF R.prog x.1.heap x.2.abs, HandSHeadRun.seenQ vw loose (PySem.importedModules R.prog.main.body) (fun s => PySem.W.xlAt vw [] s && PySem.W.recOk R.toRowW.records s) x.2.abs)
theorem run1 (w : World) : (Z w).map lk = some (true, PySem.W.openGood vw loose) := by
  kernel_rfl
theorem run2 (w : World) : (Z w).map (fun x => ob x.2) = some (hk.val w) := by
  kernel_rfl
theorem run (w : World) : HandSHeadRun.RunEqI R vw hk ob 100000 loose w := by
  have h := two (f := lk) (g := fun x => ob x.2) (run1 w) (run2 w)
  dsimp only [lk, Z] at h
  unfold HandSHeadRun.RunEqI
  exact h
def fd0 : FD := ⟨1, 1, (sCons (sRet (cAnd (c2 pIsin (cV 0) (cK (.y 0))) (cNot (c2 pIsin (cV 0) (cK (.y 1)))))) sNil)⟩
def fd1 : FD := ⟨2, 2, (sCons (sRet (cAnd (cCall 0 (lCons (cV 0) lNil)) (c2 pGe (cV 0) (cV 1)))) sNil)⟩
def fd2 : FD := ⟨2, 2, (sCons (sRet (cAnd (c2 pIsin (cV 0) (cK (.y 3))) (c2 pEq (c1 pLen (cV 0)) (cV 1)))) sNil)⟩
def fd3 : FD := ⟨1, 2, (sCons (sRet (cIte (c1 (pIsin2 4 3) (cV 0)) (c1 pTup (cComp (gV 1) (wE (cV 0)) [] (kElt (cCall 3 (lCons (cV 1) lNil))) [1])) (cV 0))) sNil)⟩
def fd4 : FD := ⟨1, 2, (sCons (sRet (c1 pAll (cComp (gV 1) (wRng (cK (.i 0)) (c2 pSub (c1 pLen (cV 0)) (cK (.i 1)))) [] (kElt (c2 pLt (c2 pIx (cV 0) (cV 1)) (c2 pIx (cV 0) (c2 pAdd (cV 1) (cK (.i 1)))))) [1]))) sNil)⟩
def fd5 : FD := ⟨1, 2, (sCons (sRet (cAnd (c2 pIsin (cV 0) (cK (.y 3))) (c1 pAll (cComp (gV 1) (wE (cV 0)) [] (kElt (cCall 0 (lCons (cV 1) lNil))) [1])))) sNil)⟩
def fd6 : FD := ⟨2, 3, (sCons (sRet (cAnd (cCall 5 (lCons (cV 0) lNil)) (c1 pAll (cComp (gV 2) (wE (cV 0)) [] (kElt (cChain pLe pLt (cK (.i 0)) (cV 2) (cV 1))) [2])))) sNil)⟩
def fd7 : FD := ⟨2, 2, (sCons (sRet (cAnd (cCall 6 (lCons (cV 0) (lCons (cV 1) lNil))) (cCall 4 (lCons (cV 0) lNil)))) sNil)⟩
def fd8 : FD := ⟨1, 2, (sCons (sSet (gV 1) (c1 pLen (cV 0))) (sCons (sWhl (cAnd (c2 pGt (cV 1) (cK (.i 0))) (c2 pEq (c2 pIx (cV 0) (c2 pSub (cV 1) (cK (.i 1)))) (cK (.i 0)))) (sCons (sAug pSub 1 (cK (.i 1))) sNil)) (sCons (sRet (c1 pTup (c2 pSlH (cV 0) (cV 1)))) sNil)))⟩
def fd9 : FD := ⟨3, 8, (sCons (sSet (gV 3) (c2 pMax2 (c1 pLen (cV 0)) (c1 pLen (cV 1)))) (sCons (sSet (gTup (gCons (gV 4) (gCons (gV 5) gNil))) (cTup (lCons (c2 pAdd (cV 0) (c2 pMul (cTup (lCons (cK (.i 0)) lNil)) (c2 pSub (cV 3) (c1 pLen (cV 0))))) (lCons (c2 pAdd (cV 1) (c2 pMul (cTup (lCons (cK (.i 0)) lNil)) (c2 pSub (cV 3) (c1 pLen (cV 1))))) lNil)))) (sCons (sRet (cCall 8 (lCons (cComp (gTup (gCons (gV 6) (gCons (gV 7) gNil))) (wZip (lCons (cV 4) (lCons (cV 5) lNil))) [] (kElt (c2 pAdd (cV 6) (c2 pMul (cV 2) (cV 7)))) [6, 7]) lNil))) sNil)))⟩
def fd10 : FD := ⟨2, 3, (sCons (sRet (cIte (c2 pNe (cV 1) (cK (.i 0))) (c1 pTup (cComp (gV 2) (wE (cV 0)) [] (kElt (c2 pMul (cV 1) (cV 2))) [2])) (cTup lNil))) sNil)⟩
def fd11 : FD := ⟨2, 7, (sCons (sIf (cOr (c2 pEq (cV 0) (cTup lNil)) (c2 pEq (cV 1) (cTup lNil))) (sCons (sRet (cTup lNil)) sNil) sNil) (sCons (sSet (gV 2) (c2 pMul (cLst (lCons (cK (.i 0)) lNil)) (c2 pSub (c2 pAdd (c1 pLen (cV 0)) (c1 pLen (cV 1))) (cK (.i 1))))) (sCons (sFor (gTup (gCons (gV 3) (gCons (gV 4) gNil))) (wEn (cV 0) (cK (.i 0))) (sCons (sFor (gTup (gCons (gV 5) (gCons (gV 6) gNil))) (wEn (cV 1) (cK (.i 0))) (sCons (sAugS iAdd (cV 2) (c2 pAdd (cV 3) (cV 5)) (c2 pMul (cV 4) (cV 6))) sNil)) sNil)) (sCons (sRet (c1 pTup (cV 2))) sNil))))⟩
def fd12 : FD := ⟨2, 4, (sCons (sSet (gV 2) (cK (.i 0))) (sCons (sFor (gV 3) (wE (c1 pRev (cV 0))) (sCons (sSet (gV 2) (c2 pAdd (c2 pMul (cV 2) (cV 1)) (cV 3))) sNil)) (sCons (sRet (cV 2)) sNil)))⟩
def fd13 : FD := ⟨3, 6, (sCons (sSet (gTup (gCons (gV 3) (gCons (gV 4) gNil))) (cTup (lCons (cK (.i 0)) (lCons (cK (.i 1)) lNil)))) (sCons (sFor (gV 5) (wE (c1 pRev (cV 0))) (sCons (sSet (gV 3) (c2 pAdd (c2 pMul (cV 3) (cV 1)) (c2 pMul (cV 5) (cV 4)))) (sCons (sSet (gV 4) (c2 pMul (cV 4) (cV 2))) sNil))) (sCons (sRet (cV 3)) sNil)))⟩
def fd14 : FD := ⟨1, 3, (sCons (sRet (c1 pTup (c2 pSlL (cComp (gTup (gCons (gV 1) (gCons (gV 2) gNil))) (wEn (cV 0) (cK (.i 0))) [] (kElt (c2 pMul (cV 1) (cV 2))) [1, 2]) (cK (.i 1))))) sNil)⟩
def fd15 : FD := ⟨2, 4, (sCons (sSet (gV 2) (cTup lNil)) (sCons (sFor (gV 3) (wE (c1 pRev (cV 0))) (sCons (sSet (gV 2) (cCall 9 (lCons (cCall 11 (lCons (cV 2) (lCons (cV 1) lNil))) (lCons (cCall 8 (lCons (cTup (lCons (cV 3) lNil)) lNil)) (lCons (cK (.i 1)) lNil))))) sNil)) (sCons (sRet (cV 2)) sNil)))⟩
def fd16 : FD := ⟨1, 3, (sCons (sSet (gV 1) (cK (.i 0))) (sCons (sFor (gV 2) (wE (cV 0)) (sCons (sSet (gV 1) (c2 pGcd (cV 1) (cV 2))) sNil)) (sCons (sRet (cV 1)) sNil)))⟩
def fd17 : FD := ⟨1, 3, (sCons (sIf (c2 pEq (cV 0) (cTup lNil)) (sCons (sRet (cTup lNil)) sNil) sNil) (sCons (sSet (gV 1) (cIte (c2 pGt (c2 pIx (cV 0) (c1 pNeg (cK (.i 1)))) (cK (.i 0))) (cCall 16 (lCons (cV 0) lNil)) (c1 pNeg (cCall 16 (lCons (cV 0) lNil))))) (sCons (sRet (c1 pTup (cComp (gV 2) (wE (cV 0)) [] (kElt (c2 pFdiv (cV 2) (cV 1))) [2]))) sNil)))⟩
def fd18 : FD := ⟨1, 2, (sCons (sRet (c1 pTup (cComp (gV 1) (wE (cV 0)) [] (kElt (c2 pFdiv (cV 1) (cCall 16 (lCons (cV 0) lNil)))) [1]))) sNil)⟩
def fd19 : FD := ⟨2, 5, (sCons (sSet (gTup (gCons (gV 2) (gCons (gV 3) gNil))) (cTup (lCons (cV 0) (lCons (c2 pIx (cV 1) (c1 pNeg (cK (.i 1)))) lNil)))) (sCons (sWhl (c2 pGe (c1 pLen (cV 2)) (c1 pLen (cV 1))) (sCons (sSet (gV 4) (c2 pSub (c1 pLen (cV 2)) (c1 pLen (cV 1)))) (sCons (sSet (gV 2) (cCall 9 (lCons (cCall 10 (lCons (cV 2) (lCons (c1 pAbs (cV 3)) lNil))) (lCons (c2 pAdd (c2 pMul (cTup (lCons (cK (.i 0)) lNil)) (cV 4)) (cCall 10 (lCons (cV 1) (lCons (cIte (c2 pGt (cV 3) (cK (.i 0))) (c2 pIx (cV 2) (c1 pNeg (cK (.i 1)))) (c1 pNeg (c2 pIx (cV 2) (c1 pNeg (cK (.i 1)))))) lNil)))) (lCons (c1 pNeg (cK (.i 1))) lNil))))) sNil))) (sCons (sRet (cIte (c2 pNe (cV 2) (cTup lNil)) (cCall 18 (lCons (cV 2) lNil)) (cTup lNil))) sNil)))⟩
def fd20 : FD := ⟨2, 4, (sCons (sSet (gTup (gCons (gV 2) (gCons (gV 3) gNil))) (cTup (lCons (cCall 17 (lCons (cV 0) lNil)) (lCons (cCall 17 (lCons (cV 1) lNil)) lNil)))) (sCons (sWhl (c2 pNe (cV 3) (cTup lNil)) (sCons (sSet (gTup (gCons (gV 2) (gCons (gV 3) gNil))) (cTup (lCons (cV 3) (lCons (cCall 17 (lCons (cCall 19 (lCons (cV 2) (lCons (cV 3) lNil))) lNil)) lNil)))) sNil)) (sCons (sRet (cV 2)) sNil)))⟩
def fd21 : FD := ⟨2, 6, (sCons (sSet (gTup (gCons (gV 2) (gCons (gV 3) gNil))) (cTup (lCons (cV 0) (lCons (c2 pMul (cLst (lCons (cK (.i 0)) lNil)) (c2 pMax2 (cK (.i 0)) (c2 pAdd (c2 pSub (c1 pLen (cV 0)) (c1 pLen (cV 1))) (cK (.i 1))))) lNil)))) (sCons (sWhl (cAnd (c2 pGe (c1 pLen (cV 2)) (c1 pLen (cV 1))) (c2 pNe (cV 2) (cTup lNil))) (sCons (sIf (c2 pNe (c2 pMod (c2 pIx (cV 2) (c1 pNeg (cK (.i 1)))) (c2 pIx (cV 1) (c1 pNeg (cK (.i 1))))) (cK (.i 0))) (sCons (sRet (cK .n)) sNil) sNil) (sCons (sSet (gTup (gCons (gV 4) (gCons (gV 5) gNil))) (cTup (lCons (c2 pSub (c1 pLen (cV 2)) (c1 pLen (cV 1))) (lCons (c2 pFdiv (c2 pIx (cV 2) (c1 pNeg (cK (.i 1)))) (c2 pIx (cV 1) (c1 pNeg (cK (.i 1))))) lNil)))) (sCons (sSet (gSub (cV 3) (cV 4)) (cV 5)) (sCons (sSet (gV 2) (cCall 9 (lCons (cV 2) (lCons (c2 pAdd (c2 pMul (cTup (lCons (cK (.i 0)) lNil)) (cV 4)) (cCall 10 (lCons (cV 1) (lCons (cV 5) lNil)))) (lCons (c1 pNeg (cK (.i 1))) lNil))))) sNil))))) (sCons (sRet (cIte (c2 pEq (cV 2) (cTup lNil)) (cCall 8 (lCons (cV 3) lNil)) (cK .n))) sNil)))⟩
def fd22 : FD := ⟨1, 8, (sCons (sSet (gTup (gCons (gV 1) (gCons (gV 2) gNil))) (cTup (lCons (cLst lNil) (lCons (cK (.i 1)) lNil)))) (sCons (sSet (gV 3) (cCall 17 (lCons (cV 0) lNil))) (sCons (sSet (gV 4) (cCall 20 (lCons (cV 3) (lCons (cCall 14 (lCons (cV 3) lNil)) lNil)))) (sCons (sSet (gV 5) (cCall 21 (lCons (cV 3) (lCons (cV 4) lNil)))) (sCons (sWhl (c2 pGt (c1 pLen (cV 5)) (cK (.i 1))) (sCons (sSet (gV 6) (cCall 20 (lCons (cV 5) (lCons (cV 4) lNil)))) (sCons (sSet (gV 7) (cCall 21 (lCons (cV 5) (lCons (cV 6) lNil)))) (sCons (sIf (c2 pGt (c1 pLen (cV 7)) (cK (.i 1))) (sCons (sEx (cML pApp (cV 1) (cTup (lCons (cV 7) (lCons (cV 2) lNil))))) sNil) sNil) (sCons (sSet (gTup (gCons (gV 5) (gCons (gV 4) (gCons (gV 2) gNil)))) (cTup (lCons (cV 6) (lCons (cCall 21 (lCons (cV 4) (lCons (cV 6) lNil))) (lCons (c2 pAdd (cV 2) (cK (.i 1))) lNil))))) sNil))))) (sCons (sRet (cV 1)) sNil))))))⟩
def fd23 : FD := ⟨2, 7, (sCons (sSet (gTup (gCons (gV 2) (gCons (gV 3) gNil))) (cTup (lCons (c2 pSub (c1 pLen (cV 0)) (cK (.i 1))) (lCons (cLst (lCons (c2 pSub (c1 pLen (cV 0)) (cK (.i 1))) lNil)) lNil)))) (sCons (sFor (gV 4) (wRng (cK (.i 1)) (cV 1)) (sCons (sSet (gV 5) (cIte (c2 pLe (cV 4) (cV 2)) (c2 pMul (c1 pNeg (cV 4)) (c2 pIx (cV 0) (c2 pSub (cV 2) (cV 4)))) (cK (.i 0)))) (sCons (sFor (gV 6) (wRng (cK (.i 1)) (c2 pAdd (c2 pMin2 (c2 pSub (cV 4) (cK (.i 1))) (cV 2)) (cK (.i 1)))) (sCons (sAug pSub 5 (c2 pMul (c2 pIx (cV 0) (c2 pSub (cV 2) (cV 6))) (c2 pIx (cV 3) (c2 pSub (cV 4) (cV 6))))) sNil)) (sCons (sEx (cML pApp (cV 3) (cV 5))) sNil)))) (sCons (sRet (c2 pSlH (cV 3) (cV 1))) sNil)))⟩
def fd24 : FD := ⟨1, 6, (sCons (sSet (gTup (gCons (gV 1) (gCons (gV 2) gNil))) (cTup (lCons (c2 pIx (cV 0) (cK (.i 0))) (lCons (cLst (lCons (cK (.i 1)) lNil)) lNil)))) (sCons (sFor (gV 3) (wRng (cK (.i 1)) (c2 pAdd (cV 1) (cK (.i 1)))) (sCons (sSet (gV 4) (cK (.i 0))) (sCons (sFor (gV 5) (wRng (cK (.i 1)) (c2 pAdd (cV 3) (cK (.i 1)))) (sCons (sAug pSub 4 (c2 pMul (c2 pIx (cV 2) (c2 pSub (cV 3) (cV 5))) (c2 pIx (cV 0) (cV 5)))) sNil)) (sCons (sIf (c2 pNe (c2 pMod (cV 4) (cV 3)) (cK (.i 0))) (sCons (sRet (cK .n)) sNil) sNil) (sCons (sEx (cML pApp (cV 2) (c2 pFdiv (cV 4) (cV 3)))) sNil))))) (sCons (sRet (c1 pTup (c1 pRev (cV 2)))) sNil)))⟩
def fd25 : FD := ⟨2, 2, (sCons (sRet (cAnd (cCall 2 (lCons (cV 1) (lCons (cK (.i 2)) lNil))) (cCall 7 (lCons (cV 1) (lCons (cV 0) lNil))))) sNil)⟩
def fd26 : FD := ⟨1, 2, (sCons (sIf (cOr (cNot (cCall 2 (lCons (cV 0) (lCons (cK (.i 2)) lNil)))) (cOr (cNot (cCall 1 (lCons (c2 pIx (cV 0) (cK (.i 0))) (lCons (cK (.i 0)) lNil)))) (c2 pGt (c2 pIx (cV 0) (cK (.i 0))) (cK (.i 40))))) (sCons (sRet (cK (.b false))) sNil) sNil) (sCons (sRet (cAnd (c2 pIsin (c2 pIx (cV 0) (cK (.i 1))) (cK (.y 3))) (cAnd (c1 pAll (cComp (gV 1) (wE (c2 pIx (cV 0) (cK (.i 1)))) [] (kElt (cCall 25 (lCons (c2 pIx (cV 0) (cK (.i 0))) (lCons (cV 1) lNil)))) [1])) (cCall 4 (lCons (c2 pIx (cV 0) (cK (.i 1))) lNil))))) sNil))⟩
def fd27 : FD := ⟨1, 2, (sCons (sSet (gV 1) (cCall 3 (lCons (cV 0) lNil))) (sCons (sIf (cNot (cCall 26 (lCons (cV 1) lNil))) (sCons sNo sNil) sNil) (sCons (sRet (cV 1)) sNil)))⟩
def fd28 : FD := ⟨2, 2, (sCons (sRet (cIte (c2 pLt (cV 0) (cV 1)) (cTup (lCons (cV 0) (lCons (cV 1) lNil))) (cTup (lCons (cV 1) (lCons (cV 0) lNil))))) sNil)⟩
def fd29 : FD := ⟨1, 6, (sCons (sSet (gV 1) (cComp (gV 4) (wRng (cK (.i 0)) (c2 pIx (cV 0) (cK (.i 0)))) [] (kElt (cLst lNil)) [4])) (sCons (sFor (gTup (gCons (gV 2) (gCons (gV 3) gNil))) (wE (c2 pIx (cV 0) (cK (.i 1)))) (sCons (sEx (cML pApp (c2 pIx (cV 1) (cV 2)) (cV 3))) (sCons (sEx (cML pApp (c2 pIx (cV 1) (cV 3)) (cV 2))) sNil))) (sCons (sRet (cComp (gV 5) (wE (cV 1)) [] (kElt (c1 pSortedZ (cV 5))) [5])) sNil)))⟩
def fd30 : FD := ⟨1, 3, (sCons (sRet (cTup (lCons (cV 0) (lCons (c1 pTup (cComp (gV 1) (wRng (cK (.i 0)) (cV 0)) [] (kFor (gV 2) (wRng (c2 pAdd (cV 1) (cK (.i 1))) (cV 0)) [] (kElt (cTup (lCons (cV 1) (lCons (cV 2) lNil)))) [2]) [1, 2])) lNil)))) sNil)⟩
def fd31 : FD := ⟨1, 8, (sCons (sSet (gTup (gCons (gV 1) (gCons (gV 2) (gCons (gV 3) gNil)))) (cTup (lCons (cCall 29 (lCons (cV 0) lNil)) (lCons cDic0 (lCons (cLst lNil) lNil))))) (sCons (sFor (gV 4) (wRng (cK (.i 0)) (c2 pIx (cV 0) (cK (.i 0)))) (sCons (sIf (c2 pIn (cV 4) (cV 2)) (sCons sCnt sNil) sNil) (sCons (sSet (gTup (gCons (gV 5) (gCons (gV 6) gNil))) (cTup (lCons (cLst (lCons (cV 4) lNil)) (lCons (cLst (lCons (cV 4) lNil)) lNil)))) (sCons (sSet (gSub (cV 2) (cV 4)) (cK (.b true))) (sCons (sWhl (c2 pNe (cV 6) (cLst lNil)) (sCons (sFor (gV 7) (wE (c2 pIx (cV 1) (c1 pPop (cV 6)))) (sCons (sIf (c2 pNin (cV 7) (cV 2)) (sCons (sSet (gSub (cV 2) (cV 7)) (cK (.b true))) (sCons (sEx (cML pApp (cV 5) (cV 7))) (sCons (sEx (cML pApp (cV 6) (cV 7))) sNil))) sNil) sNil)) sNil)) (sCons (sEx (cML pApp (cV 3) (c1 pTup (c1 pSortedZ (cV 5))))) sNil)))))) (sCons (sRet (cV 3)) sNil)))⟩
def fd32 : FD := ⟨1, 8, (sCons (sSet (gTup (gCons (gV 1) (gCons (gV 2) gNil))) (cTup (lCons (cCall 29 (lCons (cV 0) lNil)) (lCons (c2 pMul (cLst (lCons (cK .n) lNil)) (c2 pIx (cV 0) (cK (.i 0)))) lNil)))) (sCons (sFor (gV 3) (wE (cCall 31 (lCons (cV 0) lNil))) (sCons (sSet (gSub (cV 2) (c2 pIx (cV 3) (cK (.i 0)))) (cK (.i 0))) (sCons (sSet (gV 4) (cLst (lCons (c2 pIx (cV 3) (cK (.i 0))) lNil))) (sCons (sSet (gV 5) (cK (.i 0))) (sCons (sWhl (c2 pLt (cV 5) (c1 pLen (cV 4))) (sCons (sSet (gV 6) (c2 pIx (cV 4) (cV 5))) (sCons (sAug iAdd 5 (cK (.i 1))) (sCons (sFor (gV 7) (wE (c2 pIx (cV 1) (cV 6))) (sCons (sIf (c1 pIsN (c2 pIx (cV 2) (cV 7))) (sCons (sSet (gSub (cV 2) (cV 7)) (c2 pSub (cK (.i 1)) (c2 pIx (cV 2) (cV 6)))) (sCons (sEx (cML pApp (cV 4) (cV 7))) sNil)) (sCons (sIf (c2 pEq (c2 pIx (cV 2) (cV 7)) (c2 pIx (cV 2) (cV 6))) (sCons (sRet (cK .n)) sNil) sNil) sNil)) sNil)) sNil)))) sNil))))) (sCons (sRet (c1 pTup (cV 2))) sNil)))⟩
def fd33 : FD := ⟨1, 3, (sCons (sRet (cComp (gV 1) (wRng (cK (.i 0)) (cV 0)) [] (kElt (cComp (gV 2) (wRng (cK (.i 0)) (cV 0)) [] (kElt (cIte (c2 pEq (cV 1) (cV 2)) (cK (.i 1)) (cK (.i 0)))) [2])) [1])) sNil)⟩
def fd34 : FD := ⟨2, 7, (sCons (sSet (gV 2) (c1 pListE (cV 1))) (sCons (sRet (cComp (gV 3) (wE (cV 0)) [] (kElt (cComp (gV 4) (wE (cV 2)) [] (kElt (c1 pSum (cComp (gTup (gCons (gV 5) (gCons (gV 6) gNil))) (wZip (lCons (cV 3) (lCons (cV 4) lNil))) [] (kElt (c2 pMul (cV 5) (cV 6))) [5, 6]))) [4])) [3])) sNil))⟩
def fd35 : FD := ⟨3, 7, (sCons (sRet (cComp (gTup (gCons (gV 3) (gCons (gV 4) gNil))) (wZip (lCons (cV 0) (lCons (cV 1) lNil))) [] (kElt (cComp (gTup (gCons (gV 5) (gCons (gV 6) gNil))) (wZip (lCons (cV 3) (lCons (cV 4) lNil))) [] (kElt (c2 pAdd (cV 5) (c2 pMul (cV 2) (cV 6)))) [5, 6])) [3, 4])) sNil)⟩
def fd36 : FD := ⟨1, 3, (sCons (sRet (c1 pSum (cComp (gTup (gCons (gV 1) (gCons (gV 2) gNil))) (wEn (cV 0) (cK (.i 0))) [] (kElt (c2 pIx (cV 2) (cV 1))) [1, 2]))) sNil)⟩
def fd37 : FD := ⟨2, 6, (sCons (sSet (gTup (gCons (gV 2) (gCons (gV 3) (gCons (gV 4) gNil)))) (cTup (lCons (cCall 33 (lCons (c1 pLen (cV 0)) lNil)) (lCons (cComp (gV 5) (wE (cV 0)) [] (kElt (c1 pList (cV 5))) [5]) (lCons (cV 1) lNil))))) (sCons (sWhl (c2 pGt (cV 4) (cK (.i 0))) (sCons (sIf (c2 pEq (c2 pMod (cV 4) (cK (.i 2))) (cK (.i 1))) (sCons (sSet (gV 2) (cCall 34 (lCons (cV 2) (lCons (cV 3) lNil)))) sNil) sNil) (sCons (sSet (gTup (gCons (gV 3) (gCons (gV 4) gNil))) (cTup (lCons (cCall 34 (lCons (cV 3) (lCons (cV 3) lNil))) (lCons (c2 pFdiv (cV 4) (cK (.i 2))) lNil)))) sNil))) (sCons (sRet (cV 2)) sNil)))⟩
def fd38 : FD := ⟨1, 7, (sCons (sSet (gTup (gCons (gV 1) (gCons (gV 2) (gCons (gV 3) gNil)))) (cTup (lCons (c1 pLen (cV 0)) (lCons (cCall 33 (lCons (c1 pLen (cV 0)) lNil)) (lCons (cLst (lCons (cK (.i 1)) lNil)) lNil))))) (sCons (sFor (gV 4) (wRng (cK (.i 1)) (c2 pAdd (cV 1) (cK (.i 1)))) (sCons (sSet (gV 5) (cCall 34 (lCons (cV 0) (lCons (cV 2) lNil)))) (sCons (sSet (gV 6) (c2 pFdiv (c1 pNeg (cCall 36 (lCons (cV 5) lNil))) (cV 4))) (sCons (sEx (cML pApp (cV 3) (cV 6))) (sCons (sSet (gV 2) (cCall 35 (lCons (cV 5) (lCons (cCall 33 (lCons (cV 1) lNil)) (lCons (cV 6) lNil))))) sNil))))) (sCons (sRet (c1 pTup (c1 pRev (cV 3)))) sNil)))⟩
def fd39 : FD := ⟨1, 5, (sCons (sSet (gV 1) (cComp (gV 4) (wRng (cK (.i 0)) (c2 pIx (cV 0) (cK (.i 0)))) [] (kElt (c2 pMul (cLst (lCons (cK (.i 0)) lNil)) (c2 pIx (cV 0) (cK (.i 0))))) [4])) (sCons (sFor (gTup (gCons (gV 2) (gCons (gV 3) gNil))) (wE (c2 pIx (cV 0) (cK (.i 1)))) (sCons (sSet2 (gSub (c2 pIx (cV 1) (cV 2)) (cV 3)) (gSub (c2 pIx (cV 1) (cV 3)) (cV 2)) (cK (.i 1))) sNil)) (sCons (sRet (cV 1)) sNil)))⟩
def fd40 : FD := ⟨1, 1, (sCons (sRet (cCall 38 (lCons (cCall 39 (lCons (cV 0) lNil)) lNil))) sNil)⟩
def fd41 : FD := ⟨1, 2, (sCons (sSet (gV 1) (cLst (lCons (cV 0) (lCons (cCall 14 (lCons (cV 0) lNil)) lNil)))) (sCons (sWhl (c2 pNe (c2 pIx (cV 1) (c1 pNeg (cK (.i 1)))) (cTup lNil)) (sCons (sEx (cML pApp (cV 1) (cCall 10 (lCons (cCall 19 (lCons (c2 pIx (cV 1) (c1 pNeg (cK (.i 2)))) (lCons (c2 pIx (cV 1) (c1 pNeg (cK (.i 1)))) lNil))) (lCons (c1 pNeg (cK (.i 1))) lNil))))) sNil)) (sCons (sRet (c2 pSlH (cV 1) (c1 pNeg (cK (.i 1))))) sNil)))⟩
def fd42 : FD := ⟨1, 1, (sCons (sRet (c2 pSub (cIte (c2 pGt (cV 0) (cK (.i 0))) (cK (.i 1)) (cK (.i 0))) (cIte (c2 pLt (cV 0) (cK (.i 0))) (cK (.i 1)) (cK (.i 0))))) sNil)⟩
def fd43 : FD := ⟨1, 4, (sCons (sSet (gV 1) (cComp (gV 2) (wE (cV 0)) [(c2 pNe (cV 2) (cK (.i 0)))] (kElt (cV 2)) [2])) (sCons (sRet (c1 pLen (cComp (gV 3) (wRng (cK (.i 1)) (c1 pLen (cV 1))) [(c2 pNe (c2 pIx (cV 1) (cV 3)) (c2 pIx (cV 1) (c2 pSub (cV 3) (cK (.i 1)))))] (kElt (cK (.i 1))) [3]))) sNil))⟩
def fd44 : FD := ⟨2, 3, (sCons (sRet (cComp (gV 2) (wE (cV 0)) [] (kElt (cCall 42 (lCons (cCall 13 (lCons (cV 2) (lCons (c2 pIx (cV 1) (cK (.i 0))) (lCons (c2 pIx (cV 1) (cK (.i 1))) lNil)))) lNil))) [2])) sNil)⟩
def fd45 : FD := ⟨2, 3, (sCons (sRet (cComp (gV 2) (wE (cV 0)) [] (kElt (c2 pMul (cCall 42 (lCons (c2 pIx (cV 2) (c1 pNeg (cK (.i 1)))) lNil)) (cIte (c2 pEq (c2 pMod (c2 pSub (c1 pLen (cV 2)) (cK (.i 1))) (cK (.i 2))) (cK (.i 1))) (cV 1) (cK (.i 1))))) [2])) sNil)⟩
def fd46 : FD := ⟨2, 4, (sCons (sRet (c1 pSum (cComp (gTup (gCons (gV 2) (gCons (gV 3) gNil))) (wE (cCall 22 (lCons (cV 0) lNil))) [(c2 pEq (cCall 13 (lCons (cV 2) (lCons (c2 pIx (cV 1) (cK (.i 0))) (lCons (c2 pIx (cV 1) (cK (.i 1))) lNil)))) (cK (.i 0)))] (kElt (cV 3)) [2, 3]))) sNil)⟩
def fd47 : FD := ⟨1, 2, (sCons (sRet (c2 pAdd (cK (.i 2)) (c2 pFdiv (c1 pMaxY (cComp (gV 1) (wE (cV 0)) [] (kElt (c1 pAbs (cV 1))) [1])) (c1 pAbs (c2 pIx (cV 0) (c1 pNeg (cK (.i 1)))))))) sNil)⟩
def fd48 : FD := ⟨1, 12, (sCons (sSet (gTup (gCons (gV 1) (gCons (gV 2) gNil))) (cTup (lCons (cCall 47 (lCons (cV 0) lNil)) (lCons (cLst lNil) lNil)))) (sCons (sSet (gV 3) (cComp (gTup (gCons (gV 4) (gCons (gV 5) gNil))) (wE (cCall 22 (lCons (cV 0) lNil))) [] (kElt (cTup (lCons (cV 4) (lCons (cV 5) (lCons (cCall 41 (lCons (cV 4) lNil)) lNil))))) [4, 5])) (sCons (sFor (gTup (gCons (gV 4) (gCons (gV 5) (gCons (gV 6) gNil)))) (wE (cV 3)) (sCons (sSet (gV 7) (cLst (lCons (cTup (lCons (c1 pNeg (cV 1)) (lCons (cV 1) lNil))) lNil))) (sCons (sWhl (c2 pNe (cV 7) (cLst lNil)) (sCons (sSet (gTup (gCons (gV 8) (gCons (gV 9) gNil))) (c1 pPop (cV 7))) (sCons (sSet (gV 10) (c2 pSub (cCall 49 (lCons (cV 4) (lCons (cV 6) (lCons (cV 8) lNil)))) (cCall 49 (lCons (cV 4) (lCons (cV 6) (lCons (cV 9) lNil)))))) (sCons (sIf (cAnd (c2 pGt (cV 10) (cK (.i 0))) (c2 pEq (c2 pSub (cV 9) (cV 8)) (cK (.i 1)))) (sCons (sEx (cML pExt (cV 2) (c2 pMul (cLst (lCons (cV 8) lNil)) (c2 pMul (cV 5) (cV 10))))) sNil) (sCons (sIf (c2 pGt (cV 10) (cK (.i 0))) (sCons (sSet (gV 11) (c2 pFdiv (c2 pAdd (cV 8) (cV 9)) (cK (.i 2)))) (sCons (sEx (cML pExt (cV 7) (cLst (lCons (cTup (lCons (cV 8) (lCons (cV 11) lNil))) (lCons (cTup (lCons (cV 11) (lCons (cV 9) lNil))) lNil))))) sNil)) sNil) sNil)) sNil)))) sNil))) (sCons (sRet (c1 pSortedZ (cV 2))) sNil))))⟩
def fd49 : FD := ⟨3, 4, (sCons (sSet (gV 3) (c2 pSub (cCall 43 (lCons (cCall 44 (lCons (cV 1) (lCons (cTup (lCons (cV 2) (lCons (cK (.i 1)) lNil))) lNil))) lNil)) (cCall 43 (lCons (cCall 45 (lCons (cV 1) (lCons (cK (.i 1)) lNil))) lNil)))) (sCons (sRet (c2 pAdd (cV 3) (cIte (c2 pEq (cCall 12 (lCons (cV 0) (lCons (cV 2) lNil))) (cK (.i 0))) (cK (.i 1)) (cK (.i 0))))) sNil))⟩
def fd50 : FD := ⟨1, 3, (sCons (sSet (gV 1) (cLst lNil)) (sCons (sFor (gV 2) (wE (c1 pSetSortX (cCall 48 (lCons (cV 0) lNil)))) (sCons (sEx (cML pExt (cV 1) (c2 pMul (cLst (lCons (cV 2) lNil)) (cCall 46 (lCons (cV 0) (lCons (cTup (lCons (cV 2) (lCons (cK (.i 1)) lNil))) lNil)))))) sNil)) (sCons (sRet (cV 1)) sNil)))⟩
def fd51 : FD := ⟨2, 4, (sCons (sRet (cComp (gV 2) (wE (cV 0)) [] (kElt (c1 pSum (cComp (gV 3) (wE (cV 2)) [] (kElt (c2 pIx (cV 1) (cV 3))) [3]))) [2])) sNil)⟩
def fd52 : FD := ⟨2, 8, (sCons (sSet (gTup (gCons (gV 2) (gCons (gV 3) (gCons (gV 4) gNil)))) (cTup (lCons (cLst lNil) (lCons (cCall 39 (lCons (cV 0) lNil)) (lCons (cCall 37 (lCons (cCall 39 (lCons (cV 0) lNil)) (lCons (cK (.i 0)) lNil))) lNil))))) (sCons (sSet (gV 5) (cCall 29 (lCons (cV 0) lNil))) (sCons (sFor (gV 6) (wRng (cK (.i 0)) (cV 1)) (sCons (sEx (cML pApp (cV 2) (cCall 36 (lCons (cV 4) lNil)))) (sCons (sSet (gV 4) (cComp (gV 7) (wE (cV 4)) [] (kElt (cCall 51 (lCons (cV 5) (lCons (cV 7) lNil)))) [7])) sNil))) (sCons (sRet (cIte (c2 pNe (cV 3) (cLst lNil)) (cV 2) (c2 pMul (cLst (lCons (cK (.i 0)) lNil)) (cV 1)))) sNil))))⟩
def fd53 : FD := ⟨2, 4, (sCons (sSet (gTup (gCons (gV 2) (gCons (gV 3) gNil))) (cTup (lCons (cCall 27 (lCons (cV 0) lNil)) (lCons (cCall 27 (lCons (cV 1) lNil)) lNil)))) (sCons (sIf (c2 pGt (c2 pMul (c2 pIx (cV 2) (cK (.i 0))) (c2 pIx (cV 3) (cK (.i 0)))) (cK (.i 40))) (sCons sNo sNil) sNil) (sCons (sRet (cTup (lCons (cV 2) (lCons (cV 3) lNil)))) sNil)))⟩
def fd54 : FD := ⟨2, 4, (sCons (sSet (gTup (gCons (gV 2) (gCons (gV 3) gNil))) (cTup (lCons (cCall 27 (lCons (cV 0) lNil)) (lCons (cCall 27 (lCons (cV 1) lNil)) lNil)))) (sCons (sIf (c2 pGt (c2 pMul (c2 pIx (cV 2) (cK (.i 0))) (c2 pIx (cV 3) (cK (.i 0)))) (cK (.i 20))) (sCons sNo sNil) sNil) (sCons (sRet (cTup (lCons (cV 2) (lCons (cV 3) lNil)))) sNil)))⟩
def fd55 : FD := ⟨2, 6, (sCons (sSet (gV 2) (cLst lNil)) (sCons (sFor (gV 3) (wRng (cK (.i 0)) (c2 pIx (cV 0) (cK (.i 0)))) (sCons (sEx (cML pExt (cV 2) (cComp (gTup (gCons (gV 4) (gCons (gV 5) gNil))) (wE (c2 pIx (cV 1) (cK (.i 1)))) [] (kElt (cTup (lCons (c2 pAdd (c2 pMul (cV 3) (c2 pIx (cV 1) (cK (.i 0)))) (cV 4)) (lCons (c2 pAdd (c2 pMul (cV 3) (c2 pIx (cV 1) (cK (.i 0)))) (cV 5)) lNil)))) [4, 5]))) sNil)) (sCons (sFor (gTup (gCons (gV 4) (gCons (gV 5) gNil))) (wE (c2 pIx (cV 0) (cK (.i 1)))) (sCons (sEx (cML pExt (cV 2) (cComp (gV 3) (wRng (cK (.i 0)) (c2 pIx (cV 1) (cK (.i 0)))) [] (kElt (cTup (lCons (c2 pAdd (c2 pMul (cV 4) (c2 pIx (cV 1) (cK (.i 0)))) (cV 3)) (lCons (c2 pAdd (c2 pMul (cV 5) (c2 pIx (cV 1) (cK (.i 0)))) (cV 3)) lNil)))) [3]))) sNil)) (sCons (sRet (cV 2)) sNil))))⟩
def fd56 : FD := ⟨2, 7, (sCons (sSet (gV 2) (cLst lNil)) (sCons (sFor (gTup (gCons (gV 3) (gCons (gV 4) gNil))) (wE (c2 pIx (cV 0) (cK (.i 1)))) (sCons (sFor (gTup (gCons (gV 5) (gCons (gV 6) gNil))) (wE (c2 pIx (cV 1) (cK (.i 1)))) (sCons (sEx (cML pApp (cV 2) (cTup (lCons (c2 pAdd (c2 pMul (cV 3) (c2 pIx (cV 1) (cK (.i 0)))) (cV 5)) (lCons (c2 pAdd (c2 pMul (cV 4) (c2 pIx (cV 1) (cK (.i 0)))) (cV 6)) lNil))))) (sCons (sEx (cML pApp (cV 2) (cTup (lCons (c2 pAdd (c2 pMul (cV 3) (c2 pIx (cV 1) (cK (.i 0)))) (cV 6)) (lCons (c2 pAdd (c2 pMul (cV 4) (c2 pIx (cV 1) (cK (.i 0)))) (cV 5)) lNil))))) sNil))) sNil)) (sCons (sRet (cV 2)) sNil)))⟩
def fd57 : FD := ⟨2, 4, (sCons (sRet (cTup (lCons (cV 0) (lCons (c1 pTup (c1 pSetSortX (cComp (gTup (gCons (gV 2) (gCons (gV 3) gNil))) (wE (cV 1)) [] (kElt (cCall 28 (lCons (cV 2) (lCons (cV 3) lNil)))) [2, 3]))) lNil)))) sNil)⟩
def fd58 : FD := ⟨3, 5, (sCons (sRet (cComp (gV 3) (wRng (cK (.i 0)) (cV 2)) [] (kElt (c1 pSum (cComp (gV 4) (wRng (cK (.i 0)) (c2 pAdd (cV 3) (cK (.i 1)))) [] (kElt (c2 pMul (c2 pMul (c2 pComb (cV 3) (cV 4)) (c2 pIx (cV 0) (cV 4))) (c2 pIx (cV 1) (c2 pSub (cV 3) (cV 4))))) [4]))) [3])) sNil)⟩
def fd59 : FD := ⟨2, 4, (sCons (sSet (gTup (gCons (gV 2) (gCons (gV 3) gNil))) (cCall 53 (lCons (cV 0) (lCons (cV 1) lNil)))) (sCons (sRet (cCall 57 (lCons (c2 pMul (c2 pIx (cV 2) (cK (.i 0))) (c2 pIx (cV 3) (cK (.i 0)))) (lCons (cCall 55 (lCons (cV 2) (lCons (cV 3) lNil))) lNil)))) sNil))⟩
def fd60 : FD := ⟨2, 4, (sCons (sSet (gTup (gCons (gV 2) (gCons (gV 3) gNil))) (cCall 53 (lCons (cV 0) (lCons (cV 1) lNil)))) (sCons (sRet (cCall 57 (lCons (c2 pMul (c2 pIx (cV 2) (cK (.i 0))) (c2 pIx (cV 3) (cK (.i 0)))) (lCons (cCall 56 (lCons (cV 2) (lCons (cV 3) lNil))) lNil)))) sNil))⟩
def fd61 : FD := ⟨2, 4, (sCons (sSet (gTup (gCons (gV 2) (gCons (gV 3) gNil))) (cCall 53 (lCons (cV 0) (lCons (cV 1) lNil)))) (sCons (sRet (cCall 57 (lCons (c2 pMul (c2 pIx (cV 2) (cK (.i 0))) (c2 pIx (cV 3) (cK (.i 0)))) (lCons (c2 pAdd (cCall 55 (lCons (cV 2) (lCons (cV 3) lNil))) (cCall 56 (lCons (cV 2) (lCons (cV 3) lNil)))) lNil)))) sNil))⟩
def fd62 : FD := ⟨2, 10, (sCons (sSet (gTup (gCons (gV 2) (gCons (gV 3) gNil))) (cCall 53 (lCons (cV 0) (lCons (cV 1) lNil)))) (sCons (sSet (gV 4) (cLst lNil)) (sCons (sFor (gV 5) (wRng (cK (.i 0)) (c2 pIx (cV 2) (cK (.i 0)))) (sCons (sEx (cML pExt (cV 4) (cComp (gTup (gCons (gV 6) (gCons (gV 7) gNil))) (wE (c2 pIx (cV 3) (cK (.i 1)))) [] (kElt (cTup (lCons (c2 pAdd (c2 pMul (cV 5) (c2 pIx (cV 3) (cK (.i 0)))) (cV 6)) (lCons (c2 pAdd (c2 pMul (cV 5) (c2 pIx (cV 3) (cK (.i 0)))) (cV 7)) lNil)))) [6, 7]))) sNil)) (sCons (sFor (gTup (gCons (gV 6) (gCons (gV 7) gNil))) (wE (c2 pIx (cV 2) (cK (.i 1)))) (sCons (sFor (gV 8) (wRng (cK (.i 0)) (c2 pIx (cV 3) (cK (.i 0)))) (sCons (sEx (cML pExt (cV 4) (cComp (gV 9) (wRng (cK (.i 0)) (c2 pIx (cV 3) (cK (.i 0)))) [] (kElt (cTup (lCons (c2 pAdd (c2 pMul (cV 6) (c2 pIx (cV 3) (cK (.i 0)))) (cV 8)) (lCons (c2 pAdd (c2 pMul (cV 7) (c2 pIx (cV 3) (cK (.i 0)))) (cV 9)) lNil)))) [9]))) sNil)) sNil)) (sCons (sRet (cCall 57 (lCons (c2 pMul (c2 pIx (cV 2) (cK (.i 0))) (c2 pIx (cV 3) (cK (.i 0)))) (lCons (cV 4) lNil)))) sNil)))))⟩
def fd63 : FD := ⟨2, 7, (sCons (sSet (gTup (gCons (gV 2) (gCons (gV 3) gNil))) (cCall 54 (lCons (cV 0) (lCons (cV 1) lNil)))) (sCons (sSet (gV 4) (c2 pMul (c2 pIx (cV 2) (cK (.i 0))) (c2 pIx (cV 3) (cK (.i 0))))) (sCons (sSet (gTup (gCons (gV 5) (gCons (gV 6) gNil))) (cTup (lCons (cCall 23 (lCons (cCall 40 (lCons (cV 2) lNil)) (lCons (c2 pAdd (cV 4) (cK (.i 1))) lNil))) (lCons (cCall 23 (lCons (cCall 40 (lCons (cV 3) lNil)) (lCons (c2 pAdd (cV 4) (cK (.i 1))) lNil))) lNil)))) (sCons (sRet (cCall 24 (lCons (cCall 58 (lCons (cV 5) (lCons (cV 6) (lCons (c2 pAdd (cV 4) (cK (.i 1))) lNil)))) lNil))) sNil))))⟩
def fd64 : FD := ⟨2, 9, (sCons (sSet (gTup (gCons (gV 2) (gCons (gV 3) gNil))) (cCall 54 (lCons (cV 0) (lCons (cV 1) lNil)))) (sCons (sSet (gV 4) (c2 pMul (c2 pIx (cV 2) (cK (.i 0))) (c2 pIx (cV 3) (cK (.i 0))))) (sCons (sSet (gTup (gCons (gV 5) (gCons (gV 6) gNil))) (cTup (lCons (cCall 23 (lCons (cCall 40 (lCons (cV 2) lNil)) (lCons (c2 pAdd (cV 4) (cK (.i 1))) lNil))) (lCons (cCall 23 (lCons (cCall 40 (lCons (cV 3) lNil)) (lCons (c2 pAdd (cV 4) (cK (.i 1))) lNil))) lNil)))) (sCons (sRet (cCall 24 (lCons (cComp (gTup (gCons (gV 7) (gCons (gV 8) gNil))) (wZip (lCons (cV 5) (lCons (cV 6) lNil))) [] (kElt (c2 pMul (cV 7) (cV 8))) [7, 8]) lNil))) sNil))))⟩
def fd65 : FD := ⟨2, 10, (sCons (sSet (gTup (gCons (gV 2) (gCons (gV 3) gNil))) (cCall 54 (lCons (cV 0) (lCons (cV 1) lNil)))) (sCons (sSet (gV 4) (c2 pMul (c2 pIx (cV 2) (cK (.i 0))) (c2 pIx (cV 3) (cK (.i 0))))) (sCons (sSet (gV 5) (cCall 23 (lCons (cCall 15 (lCons (cCall 40 (lCons (cV 2) lNil)) (lCons (cTup (lCons (c1 pNeg (cK (.i 1))) (lCons (cK (.i 1)) lNil))) lNil))) (lCons (c2 pAdd (cV 4) (cK (.i 1))) lNil)))) (sCons (sSet (gV 6) (cCall 23 (lCons (cCall 15 (lCons (cCall 40 (lCons (cV 3) lNil)) (lCons (cTup (lCons (c1 pNeg (cK (.i 1))) (lCons (cK (.i 1)) lNil))) lNil))) (lCons (c2 pAdd (cV 4) (cK (.i 1))) lNil)))) (sCons (sSet (gV 7) (cCall 24 (lCons (cComp (gTup (gCons (gV 8) (gCons (gV 9) gNil))) (wZip (lCons (cV 5) (lCons (cV 6) lNil))) [] (kElt (c2 pMul (cV 8) (cV 9))) [8, 9]) lNil))) (sCons (sRet (cCall 15 (lCons (cV 7) (lCons (cTup (lCons (cK (.i 1)) (lCons (cK (.i 1)) lNil))) lNil)))) sNil))))))⟩
def fd66 : FD := ⟨3, 5, (sCons (sSet (gTup (gCons (gV 3) (gCons (gV 4) gNil))) (cTup (lCons (cCall 27 (lCons (cV 0) lNil)) (lCons (cCall 27 (lCons (cV 1) lNil)) lNil)))) (sCons (sIf (cOr (cNot (cCall 1 (lCons (cV 2) (lCons (cK (.i 0)) lNil)))) (c2 pGt (cV 2) (cK (.i 100)))) (sCons sNo sNil) sNil) (sCons (sRet (c1 pTup (cCall 58 (lCons (cCall 52 (lCons (cV 3) (lCons (cV 2) lNil))) (lCons (cCall 52 (lCons (cV 4) (lCons (cV 2) lNil))) (lCons (cV 2) lNil)))))) sNil)))⟩
def fd67 : FD := ⟨3, 7, (sCons (sSet (gTup (gCons (gV 3) (gCons (gV 4) gNil))) (cTup (lCons (cCall 27 (lCons (cV 0) lNil)) (lCons (cCall 27 (lCons (cV 1) lNil)) lNil)))) (sCons (sIf (cOr (cNot (cCall 1 (lCons (cV 2) (lCons (cK (.i 0)) lNil)))) (c2 pGt (cV 2) (cK (.i 100)))) (sCons sNo sNil) sNil) (sCons (sRet (c1 pTup (cComp (gTup (gCons (gV 5) (gCons (gV 6) gNil))) (wZip (lCons (cCall 52 (lCons (cV 3) (lCons (cV 2) lNil))) (lCons (cCall 52 (lCons (cV 4) (lCons (cV 2) lNil))) lNil))) [] (kElt (c2 pMul (cV 5) (cV 6))) [5, 6]))) sNil)))⟩
def fd68 : FD := ⟨1, 3, (sCons (sIf (cOr (cNot (cCall 1 (lCons (cV 0) (lCons (cK (.i 0)) lNil)))) (c2 pGt (cV 0) (cK (.i 5)))) (sCons sNo sNil) sNil) (sCons (sSet (gV 1) (cTup (lCons (cK (.i 1)) (lCons (cTup lNil) lNil)))) (sCons (sFor (gV 2) (wRng (cK (.i 0)) (cV 0)) (sCons (sSet (gV 1) (cCall 57 (lCons (c2 pMul (cK (.i 2)) (c2 pIx (cV 1) (cK (.i 0)))) (lCons (cCall 55 (lCons (cV 1) (lCons (cTup (lCons (cK (.i 2)) (lCons (cTup (lCons (cTup (lCons (cK (.i 0)) (lCons (cK (.i 1)) lNil))) lNil)) lNil))) lNil))) lNil)))) sNil)) (sCons (sRet (cV 1)) sNil))))⟩
def fd69 : FD := ⟨2, 4, (sCons (sIf (cOr (cNot (cCall 1 (lCons (cV 0) (lCons (cK (.i 1)) lNil)))) (cOr (cNot (cCall 1 (lCons (cV 1) (lCons (cK (.i 0)) lNil)))) (c2 pGt (cV 1) (cK (.i 40))))) (sCons sNo sNil) sNil) (sCons (sSet (gV 2) (cTup (lCons (cK (.i 1)) (lCons (cTup lNil) lNil)))) (sCons (sFor (gV 3) (wRng (cK (.i 0)) (cV 1)) (sCons (sIf (c2 pGt (c2 pMul (cV 0) (c2 pIx (cV 2) (cK (.i 0)))) (cK (.i 40))) (sCons sNo sNil) sNil) (sCons (sSet (gV 2) (cCall 57 (lCons (c2 pMul (cV 0) (c2 pIx (cV 2) (cK (.i 0)))) (lCons (cCall 55 (lCons (cV 2) (lCons (cCall 30 (lCons (cV 0) lNil)) lNil))) lNil)))) sNil))) (sCons (sRet (cV 2)) sNil))))⟩
def fd70 : FD := ⟨2, 7, (sCons (sSet (gTup (gCons (gV 2) (gCons (gV 3) gNil))) (cTup (lCons (cCall 69 (lCons (cV 0) (lCons (cV 1) lNil))) (lCons (cLst lNil) lNil)))) (sCons (sFor (gV 4) (wRng (cK (.i 0)) (c2 pAdd (cV 1) (cK (.i 1)))) (sCons (sSet (gV 5) (c2 pComb (cV 1) (cV 4))) (sCons (sFor (gV 6) (wRng (cK (.i 0)) (cV 4)) (sCons (sSet (gV 5) (c2 pMul (cV 5) (c2 pSub (cV 0) (cK (.i 1))))) sNil)) (sCons (sEx (cML pExt (cV 3) (c2 pMul (cLst (lCons (c2 pSub (c2 pMul (cV 1) (c2 pSub (cV 0) (cK (.i 1)))) (c2 pMul (cV 0) (cV 4))) lNil)) (cV 5)))) sNil)))) (sCons (sRet (c2 pSlH (c1 pTup (c1 pSortedZ (cV 3))) (c2 pIx (cV 2) (cK (.i 0))))) sNil)))⟩
def fd71 : FD := ⟨2, 4, (sCons (sSet (gTup (gCons (gV 2) (gCons (gV 3) gNil))) (cTup (lCons (cCall 27 (lCons (cV 0) lNil)) (lCons (cCall 27 (lCons (cV 1) lNil)) lNil)))) (sCons (sIf (cOr (c2 pEq (c2 pIx (cV 2) (cK (.i 1))) (cTup lNil)) (cOr (c2 pEq (c2 pIx (cV 3) (cK (.i 1))) (cTup lNil)) (cOr (c2 pGt (c1 pLen (cCall 31 (lCons (cV 2) lNil))) (cK (.i 1))) (c2 pGt (c1 pLen (cCall 31 (lCons (cV 3) lNil))) (cK (.i 1)))))) (sCons sNo sNil) sNil) (sCons (sRet (cIte (cAnd (c1 pIsnN (cCall 32 (lCons (cV 2) lNil))) (c1 pIsnN (cCall 32 (lCons (cV 3) lNil)))) (cK (.i 2)) (cK (.i 1)))) sNil)))⟩
def fd72 : FD := ⟨4, 6, (sCons (sSet (gTup (gCons (gV 4) (gCons (gV 5) gNil))) (cTup (lCons (cCall 27 (lCons (cV 0) lNil)) (lCons (cCall 27 (lCons (cV 1) lNil)) lNil)))) (sCons (sIf (cOr (cNot (cCall 1 (lCons (cV 2) (lCons (cK (.i 0)) lNil)))) (cOr (c2 pGe (cV 2) (c2 pIx (cV 4) (cK (.i 0)))) (cOr (cNot (cCall 1 (lCons (cV 3) (lCons (cK (.i 0)) lNil)))) (c2 pGe (cV 3) (c2 pIx (cV 5) (cK (.i 0))))))) (sCons sNo sNil) sNil) (sCons (sRet (c2 pAdd (c2 pMul (cV 2) (c2 pIx (cV 5) (cK (.i 0)))) (cV 3))) sNil)))⟩
def fd73 : FD := ⟨4, 9, (sCons (sSet (gTup (gCons (gV 4) (gCons (gV 5) gNil))) (cTup (lCons (cCall 27 (lCons (cV 0) lNil)) (lCons (cCall 27 (lCons (cV 1) lNil)) lNil)))) (sCons (sFor (gV 6) (wE (cTup (lCons (cV 2) (lCons (cV 3) lNil)))) (sCons (sIf (cOr (cNot (cCall 1 (lCons (cV 6) (lCons (cK (.i 0)) lNil)))) (c2 pGe (cV 6) (c2 pMul (c2 pIx (cV 4) (cK (.i 0))) (c2 pIx (cV 5) (cK (.i 0)))))) (sCons sNo sNil) sNil) sNil)) (sCons (sSet (gV 7) (cCall 74 (lCons (cV 4) (lCons (c2 pFdiv (cV 2) (c2 pIx (cV 5) (cK (.i 0)))) (lCons (c2 pFdiv (cV 3) (c2 pIx (cV 5) (cK (.i 0)))) lNil))))) (sCons (sSet (gV 8) (cCall 74 (lCons (cV 5) (lCons (c2 pMod (cV 2) (c2 pIx (cV 5) (cK (.i 0)))) (lCons (c2 pMod (cV 3) (c2 pIx (cV 5) (cK (.i 0)))) lNil))))) (sCons (sRet (cIte (cAnd (c1 pIsnN (cV 7)) (c1 pIsnN (cV 8))) (c2 pAdd (cV 7) (cV 8)) (cK .n))) sNil)))))⟩
def fd74 : FD := ⟨3, 9, (sCons (sSet (gTup (gCons (gV 3) (gCons (gV 4) (gCons (gV 5) gNil)))) (cTup (lCons (cCall 29 (lCons (cV 0) lNil)) (lCons (c2 pDic1 (cV 1) (cK (.i 0))) (lCons (cLst (lCons (cV 1) lNil)) lNil))))) (sCons (sSet (gV 6) (cK (.i 0))) (sCons (sWhl (c2 pLt (cV 6) (c1 pLen (cV 5))) (sCons (sSet (gV 7) (c2 pIx (cV 5) (cV 6))) (sCons (sAug iAdd 6 (cK (.i 1))) (sCons (sFor (gV 8) (wE (c2 pIx (cV 3) (cV 7))) (sCons (sIf (c2 pNin (cV 8) (cV 4)) (sCons (sSet (gSub (cV 4) (cV 8)) (c2 pAdd (c2 pIx (cV 4) (cV 7)) (cK (.i 1)))) (sCons (sEx (cML pApp (cV 5) (cV 8))) sNil)) sNil) sNil)) sNil)))) (sCons (sRet (cMD pDget1 (cV 4) (cV 2))) sNil))))⟩
def fd75 : FD := ⟨2, 5, (sCons (sSet (gTup (gCons (gV 2) (gCons (gV 3) gNil))) (cTup (lCons (cCall 27 (lCons (cV 0) lNil)) (lCons (cTup (lCons (cK (.i 1)) (lCons (cTup lNil) lNil))) lNil)))) (sCons (sIf (cOr (cNot (cCall 1 (lCons (cV 1) (lCons (cK (.i 0)) lNil)))) (c2 pGt (cV 1) (cK (.i 40)))) (sCons sNo sNil) sNil) (sCons (sFor (gV 4) (wRng (cK (.i 0)) (cV 1)) (sCons (sIf (c2 pGt (c2 pMul (c2 pIx (cV 3) (cK (.i 0))) (c2 pIx (cV 2) (cK (.i 0)))) (cK (.i 40))) (sCons sNo sNil) sNil) (sCons (sSet (gV 3) (cCall 57 (lCons (c2 pMul (c2 pIx (cV 3) (cK (.i 0))) (c2 pIx (cV 2) (cK (.i 0)))) (lCons (cCall 55 (lCons (cV 3) (lCons (cV 2) lNil))) lNil)))) sNil))) (sCons (sRet (cV 3)) sNil))))⟩
def fd76 : FD := ⟨2, 4, (sCons (sSet (gTup (gCons (gV 2) (gCons (gV 3) gNil))) (cCall 54 (lCons (cV 0) (lCons (cV 1) lNil)))) (sCons (sRet (c2 pEq (c1 pLen (cCall 50 (lCons (cCall 40 (lCons (cCall 57 (lCons (c2 pMul (c2 pIx (cV 2) (cK (.i 0))) (c2 pIx (cV 3) (cK (.i 0)))) (lCons (cCall 55 (lCons (cV 2) (lCons (cV 3) lNil))) lNil))) lNil)) lNil))) (c2 pMul (c2 pIx (cV 2) (cK (.i 0))) (c2 pIx (cV 3) (cK (.i 0)))))) sNil))⟩
def fd77 : FD := ⟨2, 4, (sCons (sSet (gTup (gCons (gV 2) (gCons (gV 3) gNil))) (cTup (lCons (cCall 27 (lCons (cV 0) lNil)) (lCons (cCall 27 (lCons (cV 1) lNil)) lNil)))) (sCons (sIf (c2 pGt (c2 pAdd (c2 pIx (cV 2) (cK (.i 0))) (c2 pIx (cV 3) (cK (.i 0)))) (cK (.i 20))) (sCons sNo sNil) sNil) (sCons (sRet (cCall 11 (lCons (cCall 40 (lCons (cV 2) lNil)) (lCons (cCall 40 (lCons (cV 3) lNil)) lNil)))) sNil)))⟩
def fd78 : FD := ⟨2, 3, (sCons (sIf (cOr (cNot (cCall 7 (lCons (cV 1) (lCons (cV 0) lNil)))) (c2 pIn (cK (.i 0)) (cV 1))) (sCons (sRet (cK (.b false))) sNil) sNil) (sCons (sRet (c1 pAll (cComp (gV 2) (wE (cV 1)) [] (kElt (c2 pIn (c2 pSub (cV 0) (cV 2)) (cV 1))) [2]))) sNil))⟩
def fd79 : FD := ⟨2, 3, (sCons (sSet (gV 2) (cCall 3 (lCons (cV 1) lNil))) (sCons (sIf (cOr (cNot (cCall 1 (lCons (cV 0) (lCons (cK (.i 1)) lNil)))) (cOr (c2 pGt (cV 0) (cK (.i 20))) (cNot (cCall 78 (lCons (cV 0) (lCons (cV 2) lNil)))))) (sCons sNo sNil) sNil) (sCons (sRet (cV 2)) sNil)))⟩
def fd80 : FD := ⟨2, 4, (sCons (sRet (cTup (lCons (cV 0) (lCons (c1 pTup (c1 pSetSortX (cComp (gV 2) (wRng (cK (.i 0)) (cV 0)) [] (kFor (gV 3) (wE (cV 1)) [] (kElt (cCall 28 (lCons (cV 2) (lCons (c2 pMod (c2 pAdd (cV 2) (cV 3)) (cV 0)) lNil)))) [3]) [2, 3]))) lNil)))) sNil)⟩
def fd81 : FD := ⟨1, 2, (sCons (sRet (cComp (gV 1) (wRng (cK (.i 1)) (c2 pAdd (cV 0) (cK (.i 1)))) [(c2 pEq (c2 pMod (cV 0) (cV 1)) (cK (.i 0)))] (kElt (cV 1)) [1])) sNil)⟩
def fd82 : FD := ⟨2, 3, (sCons (sRet (c1 pTup (cComp (gV 2) (wRng (cK (.i 1)) (cV 0)) [(c2 pEq (c2 pGcd (cV 2) (cV 0)) (cV 1))] (kElt (cV 2)) [2]))) sNil)⟩
def fd83 : FD := ⟨3, 5, (sCons (sRet (cComp (gV 3) (wRng (cK (.i 0)) (cV 0)) [] (kElt (c1 pSum (cComp (gV 4) (wE (cV 1)) [] (kElt (c2 pIx (cV 2) (c2 pMod (c2 pSub (cV 3) (cV 4)) (cV 0)))) [4]))) [3])) sNil)⟩
def fd84 : FD := ⟨3, 6, (sCons (sSet (gV 3) (cComp (gV 5) (wRng (cK (.i 0)) (cV 0)) [] (kElt (cIte (c2 pEq (cV 5) (cK (.i 0))) (cK (.i 1)) (cK (.i 0)))) [5])) (sCons (sFor (gV 4) (wRng (cK (.i 0)) (cV 2)) (sCons (sSet (gV 3) (cCall 83 (lCons (cV 0) (lCons (cV 1) (lCons (cV 3) lNil))))) sNil)) (sCons (sRet (cV 3)) sNil)))⟩
def fd85 : FD := ⟨3, 6, (sCons (sSet (gV 3) (cComp (gV 5) (wRng (cK (.i 0)) (cV 0)) [] (kElt (cIte (c2 pEq (cV 5) (cK (.i 0))) (cK (.i 1)) (cK (.i 0)))) [5])) (sCons (sFor (gV 4) (wRng (cK (.i 0)) (cV 2)) (sCons (sSet (gV 3) (cCall 83 (lCons (cV 0) (lCons (cV 1) (lCons (cV 3) lNil))))) sNil)) (sCons (sRet (cV 3)) sNil)))⟩
def fd86 : FD := ⟨1, 4, (sCons (sSet (gTup (gCons (gV 1) (gCons (gV 2) gNil))) (cTup (lCons (cK (.i 1)) (lCons (cV 0) lNil)))) (sCons (sFor (gV 3) (wRng (cK (.i 2)) (c2 pAdd (cV 0) (cK (.i 1)))) (sCons (sIf (c2 pEq (c2 pMod (cV 2) (cV 3)) (cK (.i 0))) (sCons (sSet (gV 2) (c2 pFdiv (cV 2) (cV 3))) (sCons (sIf (c2 pEq (c2 pMod (cV 2) (cV 3)) (cK (.i 0))) (sCons (sRet (cK (.i 0))) sNil) sNil) (sCons (sSet (gV 1) (c1 pNeg (cV 1))) sNil))) sNil) sNil)) (sCons (sRet (cV 1)) sNil)))⟩
def fd87 : FD := ⟨2, 3, (sCons (sRet (c1 pSum (cComp (gV 2) (wE (cCall 81 (lCons (cV 0) lNil))) [(c2 pEq (c2 pMod (cV 1) (cV 2)) (cK (.i 0)))] (kElt (c2 pMul (cV 2) (cCall 86 (lCons (c2 pFdiv (cV 0) (cV 2)) lNil)))) [2]))) sNil)⟩
def fd88 : FD := ⟨2, 2, (sCons (sIf (cOr (cNot (cCall 1 (lCons (cV 0) (lCons (cK (.i 1)) lNil)))) (c2 pGt (cV 0) (cK (.i 20)))) (sCons sNo sNil) sNil) (sCons (sRet (cCall 78 (lCons (cV 0) (lCons (cV 1) lNil)))) sNil))⟩
def fd89 : FD := ⟨2, 2, (sCons (sRet (cCall 80 (lCons (cV 0) (lCons (cCall 79 (lCons (cV 0) (lCons (cV 1) lNil))) lNil)))) sNil)⟩
def fd90 : FD := ⟨1, 3, (sCons (sSet (gV 1) (cCall 27 (lCons (cV 0) lNil))) (sCons (sIf (c2 pGt (c2 pIx (cV 1) (cK (.i 0))) (cK (.i 20))) (sCons sNo sNil) sNil) (sCons (sIf (c2 pEq (c2 pIx (cV 1) (cK (.i 0))) (cK (.i 0))) (sCons (sRet (cK .n)) sNil) sNil) (sCons (sSet (gV 2) (c1 pTup (c2 pIx (cCall 29 (lCons (cV 1) lNil)) (cK (.i 0))))) (sCons (sIf (cOr (cNot (cCall 78 (lCons (c2 pIx (cV 1) (cK (.i 0))) (lCons (cV 2) lNil)))) (c2 pNe (cCall 80 (lCons (c2 pIx (cV 1) (cK (.i 0))) (lCons (cV 2) lNil))) (cV 1))) (sCons (sRet (cK .n)) sNil) sNil) (sCons (sRet (cV 2)) sNil))))))⟩
def fd91 : FD := ⟨2, 2, (sCons (sRet (cCall 40 (lCons (cCall 80 (lCons (cV 0) (lCons (cCall 79 (lCons (cV 0) (lCons (cV 1) lNil))) lNil))) lNil))) sNil)⟩
def fd92 : FD := ⟨3, 8, (sCons (sSet (gV 3) (cCall 79 (lCons (cV 0) (lCons (cV 1) lNil)))) (sCons (sIf (cOr (cNot (cCall 1 (lCons (cV 2) (lCons (cK (.i 0)) lNil)))) (c2 pGt (cV 2) (cK (.i 100)))) (sCons sNo sNil) sNil) (sCons (sSet (gTup (gCons (gV 4) (gCons (gV 5) gNil))) (cTup (lCons (cComp (gV 7) (wRng (cK (.i 0)) (cV 0)) [] (kElt (cIte (c2 pEq (cV 7) (cK (.i 0))) (cK (.i 1)) (cK (.i 0)))) [7]) (lCons (cLst lNil) lNil)))) (sCons (sFor (gV 6) (wRng (cK (.i 0)) (cV 2)) (sCons (sEx (cML pApp (cV 5) (c2 pMul (cV 0) (c2 pIx (cV 4) (cK (.i 0)))))) (sCons (sSet (gV 4) (cCall 83 (lCons (cV 0) (lCons (cV 3) (lCons (cV 4) lNil))))) sNil))) (sCons (sRet (c1 pTup (cV 5))) sNil)))))⟩
def fd93 : FD := ⟨4, 5, (sCons (sSet (gV 4) (cCall 79 (lCons (cV 0) (lCons (cV 1) lNil)))) (sCons (sIf (cOr (cNot (cCall 1 (lCons (cV 2) (lCons (cK (.i 0)) lNil)))) (cOr (c2 pGt (cV 2) (cK (.i 100))) (cOr (cNot (cCall 1 (lCons (cV 3) (lCons (cK (.i 0)) lNil)))) (c2 pGe (cV 3) (cV 0))))) (sCons sNo sNil) sNil) (sCons (sRet (c2 pIx (cCall 85 (lCons (cV 0) (lCons (cV 4) (lCons (cV 2) lNil)))) (cV 3))) sNil)))⟩
def fd94 : FD := ⟨1, 2, (sCons (sIf (cOr (cNot (cCall 1 (lCons (cV 0) (lCons (cK (.i 1)) lNil)))) (c2 pGt (cV 0) (cK (.i 1000)))) (sCons sNo sNil) sNil) (sCons (sRet (c1 pTup (cComp (gV 1) (wE (cCall 81 (lCons (cV 0) lNil))) [(c2 pLt (cV 1) (cV 0))] (kElt (cTup (lCons (cV 1) (lCons (cCall 82 (lCons (cV 0) (lCons (cV 1) lNil))) lNil)))) [1]))) sNil))⟩
def fd95 : FD := ⟨2, 5, (sCons (sSet (gV 2) (cCall 79 (lCons (cV 0) (lCons (cV 1) lNil)))) (sCons (sRet (c1 pAll (cComp (gV 3) (wE (cV 2)) [] (kFor (gV 4) (wE (cCall 82 (lCons (cV 0) (lCons (c2 pGcd (cV 3) (cV 0)) lNil)))) [] (kElt (c2 pIn (cV 4) (cV 2))) [4]) [3, 4]))) sNil))⟩
def fd96 : FD := ⟨2, 3, (sCons (sSet (gV 2) (cCall 79 (lCons (cV 0) (lCons (cV 1) lNil)))) (sCons (sRet (c2 pEq (c1 pLen (cCall 50 (lCons (cCall 40 (lCons (cCall 80 (lCons (cV 0) (lCons (cV 2) lNil))) lNil)) lNil))) (cV 0))) sNil))⟩
def fd97 : FD := ⟨2, 5, (sCons (sSet (gV 2) (cCall 3 (lCons (cV 1) lNil))) (sCons (sIf (cOr (cNot (cCall 1 (lCons (cV 0) (lCons (cK (.i 1)) lNil)))) (cOr (c2 pGt (cV 0) (cK (.i 20))) (cNot (cCall 7 (lCons (cV 2) (lCons (cV 0) lNil)))))) (sCons sNo sNil) sNil) (sCons (sIf (cNot (c1 pAll (cComp (gV 4) (wE (cV 2)) [] (kElt (cAnd (c2 pGt (cV 4) (cK (.i 0))) (c2 pEq (c2 pMod (cV 0) (cV 4)) (cK (.i 0))))) [4]))) (sCons sNo sNil) sNil) (sCons (sRet (c1 pTup (cComp (gV 3) (wRng (cK (.i 0)) (cV 0)) [] (kElt (c1 pSum (cComp (gV 4) (wE (cV 2)) [] (kElt (cCall 87 (lCons (c2 pFdiv (cV 0) (cV 4)) (lCons (cV 3) lNil)))) [4]))) [3]))) sNil))))⟩
def fd98 : FD := ⟨2, 3, (sCons (sEx (cCall 97 (lCons (cV 0) (lCons (cV 1) lNil)))) (sCons (sRet (c1 pTup (cComp (gV 2) (wRng (cK (.i 1)) (cV 0)) [(c2 pIn (c2 pGcd (cV 2) (cV 0)) (cCall 3 (lCons (cV 1) lNil)))] (kElt (cV 2)) [2]))) sNil))⟩
def fd99 : FD := ⟨2, 2, (sCons (sIf (cOr (cNot (cCall 1 (lCons (cV 0) (lCons (cK (.i 1)) lNil)))) (cOr (c2 pGt (cV 0) (cK (.i 1000))) (cNot (cCall 1 (lCons (cV 1) (lCons (cK (.i 0)) lNil)))))) (sCons sNo sNil) sNil) (sCons (sRet (cCall 87 (lCons (cV 0) (lCons (cV 1) lNil)))) sNil))⟩
def fd100 : FD := ⟨1, 1, (sCons (sIf (cOr (cNot (cCall 1 (lCons (cV 0) (lCons (cK (.i 1)) lNil)))) (c2 pGt (cV 0) (cK (.i 1000)))) (sCons sNo sNil) sNil) (sCons (sRet (cCall 86 (lCons (cV 0) lNil))) sNil))⟩
def fd101 : FD := ⟨3, 5, (sCons (sSet (gV 3) (cCall 79 (lCons (cV 0) (lCons (cV 1) lNil)))) (sCons (sIf (cOr (cNot (cCall 1 (lCons (cV 2) (lCons (cK (.i 0)) lNil)))) (c2 pGe (cV 2) (cV 0))) (sCons sNo sNil) sNil) (sCons (sIf (c2 pNe (c2 pGcd (cV 2) (cV 0)) (cK (.i 1))) (sCons sNo sNil) sNil) (sCons (sRet (c1 pTup (c1 pSortedZ (cComp (gV 4) (wE (cV 3)) [] (kElt (c2 pMod (c2 pMul (cV 4) (cV 2)) (cV 0))) [4])))) sNil))))⟩
def fd102 : FD := ⟨3, 7, (sCons (sSet (gTup (gCons (gV 3) (gCons (gV 4) gNil))) (cTup (lCons (cCall 79 (lCons (cV 0) (lCons (cV 1) lNil))) (lCons (cCall 79 (lCons (cV 0) (lCons (cV 2) lNil))) lNil)))) (sCons (sFor (gV 5) (wRng (cK (.i 1)) (c2 pAdd (cV 0) (cK (.i 1)))) (sCons (sIf (cAnd (c2 pEq (c2 pGcd (cV 5) (cV 0)) (cK (.i 1))) (c2 pEq (c1 pTup (c1 pSortedZ (cComp (gV 6) (wE (cV 3)) [] (kElt (c2 pMod (c2 pMul (cV 6) (cV 5)) (cV 0))) [6]))) (cV 4))) (sCons (sRet (cV 5)) sNil) sNil) sNil)) (sCons (sRet (cK .n)) sNil)))⟩
def fd103 : FD := ⟨2, 5, (sCons (sSet (gTup (gCons (gV 2) (gCons (gV 3) gNil))) (cTup (lCons (cCall 79 (lCons (cV 0) (lCons (cV 1) lNil))) (lCons (cV 0) lNil)))) (sCons (sFor (gV 4) (wE (cV 2)) (sCons (sSet (gV 3) (c2 pGcd (cV 3) (cV 4))) sNil)) (sCons (sRet (cV 3)) sNil)))⟩
def fd104 : FD := ⟨2, 5, (sCons (sSet (gTup (gCons (gV 2) (gCons (gV 3) gNil))) (cTup (lCons (cCall 79 (lCons (cV 0) (lCons (cV 1) lNil))) (lCons (cV 0) lNil)))) (sCons (sFor (gV 4) (wE (cV 2)) (sCons (sSet (gV 3) (c2 pGcd (cV 3) (cV 4))) sNil)) (sCons (sRet (cOr (c2 pEq (cV 2) (cTup lNil)) (cAnd (c2 pEq (c2 pMod (c2 pFdiv (cV 0) (cV 3)) (cK (.i 2))) (cK (.i 0))) (c1 pAll (cComp (gV 4) (wE (cV 2)) [] (kElt (c2 pEq (c2 pMod (c2 pFdiv (cV 4) (cV 3)) (cK (.i 2))) (cK (.i 1)))) [4]))))) sNil)))⟩
def fd105 : FD := ⟨1, 4, (sCons (sIf (cOr (cNot (cCall 1 (lCons (cV 0) (lCons (cK (.i 1)) lNil)))) (c2 pGt (cV 0) (cK (.i 20)))) (sCons sNo sNil) sNil) (sCons (sSet (gV 1) (cLst (lCons (cTup lNil) lNil))) (sCons (sFor (gV 2) (wE (cCall 81 (lCons (cV 0) lNil))) (sCons (sIf (c2 pLt (cV 2) (cV 0)) (sCons (sSet (gV 1) (c2 pAdd (cV 1) (cComp (gV 3) (wE (cV 1)) [] (kElt (c2 pAdd (cV 3) (cCall 82 (lCons (cV 0) (lCons (cV 2) lNil))))) [3]))) sNil) sNil) sNil)) (sCons (sRet (c1 pSortedZ (cComp (gV 3) (wE (cV 1)) [] (kElt (c1 pTup (c1 pSortedZ (cV 3)))) [3]))) sNil))))⟩
def fd106 : FD := ⟨2, 4, (sCons (sSet (gV 2) (cCall 79 (lCons (cV 0) (lCons (cV 1) lNil)))) (sCons (sRet (c1 pTup (cComp (gV 3) (wRng (cK (.i 1)) (cV 0)) [(c2 pNin (cV 3) (cV 2))] (kElt (cV 3)) [3]))) sNil))⟩
def fd107 : FD := ⟨2, 6, (sCons (sSet (gV 2) (cOr (c1 pList (c2 pSlH (cV 0) (cV 1))) (cLst (lCons (cK (.i 0)) lNil)))) (sCons (sFor (gTup (gCons (gV 3) (gCons (gV 4) gNil))) (wEn (cSlLH (cV 0) (cV 1) (cK (.i 63))) (cK (.i 0))) (sCons (sSet (gV 5) (c2 pMod (c1 pInt (cV 3)) (cV 1))) (sCons (sSet (gSub (cV 2) (cV 5)) (c2 pAdd (c2 pIx (cV 2) (cV 5)) (c2 pMul (cV 4) (c2 pAdd (cV 3) (cK (.i 2)))))) sNil))) (sCons (sRet (cV 2)) sNil)))⟩
def fd108 : FD := ⟨2, 4, (sCons (sIf (c1 (pIsin2 4 3) (cV 1)) (sCons (sIf (cOr (c2 pNe (c2 pIsin (cV 0) (cK (.y 4))) (c2 pIsin (cV 1) (cK (.y 4)))) (c2 pNe (c2 pIsin (cV 0) (cK (.y 3))) (c2 pIsin (cV 1) (cK (.y 3))))) (sCons (sRet (cK (.b false))) sNil) sNil) (sCons (sRet (cAnd (c2 pEq (c1 pLen (cV 0)) (c1 pLen (cV 1))) (c1 pAll (cComp (gTup (gCons (gV 2) (gCons (gV 3) gNil))) (wZip (lCons (cV 0) (lCons (cV 1) lNil))) [] (kElt (cCall 108 (lCons (cV 2) (lCons (cV 3) lNil)))) [2, 3])))) sNil)) sNil) (sCons (sIf (c1 pIsN (cV 1)) (sCons (sRet (c1 pIsN (cV 0))) sNil) sNil) (sCons (sIf (c1 (pIsin2 1 2) (cV 1)) (sCons (sRet (cAnd (c2 pEq (c2 pIsin (cV 0) (cK (.y 1))) (c2 pIsin (cV 1) (cK (.y 1)))) (cAnd (c2 pEq (c2 pIsin (cV 0) (cK (.y 2))) (c2 pIsin (cV 1) (cK (.y 2)))) (c2 pEq (cV 0) (cV 1))))) sNil) sNil) (sCons (sRet (cAnd (c2 pIsin (cV 0) (cK (.y 0))) (cAnd (cNot (c2 pIsin (cV 0) (cK (.y 1)))) (c2 pEq (cV 0) (cV 1))))) sNil))))⟩
def fd109 : FD := ⟨0, 2, (sCons (sSet (gTup (gCons (gV 0) (gCons (gV 1) gNil))) (cTup (lCons (cLst lNil) (lCons (cLst lNil) lNil)))) (sCons (sEx (cML pApp (cV 0) (cCallK 88 lNil (lCons (cTup (lCons (cK (.i 1)) lNil)) (lCons (cK (.i 5)) lNil)) [1, 0]))) (sCons (sEx (cML pApp (cV 1) (cCall 88 (lCons (cK (.i 5)) (lCons (cTup (lCons (cK (.i 1)) lNil)) lNil))))) (sCons (sEx (cML pApp (cV 0) (cCallK 89 lNil (lCons (cTup (lCons (cK (.i 1)) (lCons (cK (.i 3)) lNil))) (lCons (cK (.i 4)) lNil)) [1, 0]))) (sCons (sEx (cML pApp (cV 1) (cCall 89 (lCons (cK (.i 4)) (lCons (cTup (lCons (cK (.i 1)) (lCons (cK (.i 3)) lNil))) lNil))))) (sCons (sEx (cML pApp (cV 0) (cCallK 90 lNil (lCons (cTup (lCons (cK (.i 3)) (lCons (cTup (lCons (cTup (lCons (cK (.i 0)) (lCons (cK (.i 1)) lNil))) (lCons (cTup (lCons (cK (.i 0)) (lCons (cK (.i 2)) lNil))) (lCons (cTup (lCons (cK (.i 1)) (lCons (cK (.i 2)) lNil))) lNil)))) lNil))) lNil) [0]))) (sCons (sEx (cML pApp (cV 1) (cCall 90 (lCons (cTup (lCons (cK (.i 3)) (lCons (cTup (lCons (cTup (lCons (cK (.i 0)) (lCons (cK (.i 1)) lNil))) (lCons (cTup (lCons (cK (.i 0)) (lCons (cK (.i 2)) lNil))) (lCons (cTup (lCons (cK (.i 1)) (lCons (cK (.i 2)) lNil))) lNil)))) lNil))) lNil)))) (sCons (sEx (cML pApp (cV 0) (cCallK 91 lNil (lCons (cTup (lCons (cK (.i 1)) (lCons (cK (.i 3)) lNil))) (lCons (cK (.i 4)) lNil)) [1, 0]))) (sCons (sEx (cML pApp (cV 1) (cCall 91 (lCons (cK (.i 4)) (lCons (cTup (lCons (cK (.i 1)) (lCons (cK (.i 3)) lNil))) lNil))))) (sCons (sEx (cML pApp (cV 0) (cCallK 92 lNil (lCons (cK (.i 6)) (lCons (cTup (lCons (cK (.i 1)) (lCons (cK (.i 4)) lNil))) (lCons (cK (.i 5)) lNil))) [2, 1, 0]))) (sCons (sEx (cML pApp (cV 1) (cCall 92 (lCons (cK (.i 5)) (lCons (cTup (lCons (cK (.i 1)) (lCons (cK (.i 4)) lNil))) (lCons (cK (.i 6)) lNil)))))) (sCons (sEx (cML pApp (cV 0) (cCallK 93 lNil (lCons (cK (.i 0)) (lCons (cK (.i 3)) (lCons (cTup (lCons (cK (.i 2)) (lCons (cK (.i 4)) lNil))) (lCons (cK (.i 6)) lNil)))) [3, 2, 1, 0]))) (sCons (sEx (cML pApp (cV 1) (cCall 93 (lCons (cK (.i 6)) (lCons (cTup (lCons (cK (.i 2)) (lCons (cK (.i 4)) lNil))) (lCons (cK (.i 3)) (lCons (cK (.i 0)) lNil))))))) (sCons (sEx (cML pApp (cV 0) (cCallK 106 lNil (lCons (cTup (lCons (cK (.i 1)) (lCons (cK (.i 4)) lNil))) (lCons (cK (.i 5)) lNil)) [1, 0]))) (sCons (sEx (cML pApp (cV 1) (cCall 106 (lCons (cK (.i 5)) (lCons (cTup (lCons (cK (.i 1)) (lCons (cK (.i 4)) lNil))) lNil))))) (sCons (sEx (cML pApp (cV 0) (cCallK 94 lNil (lCons (cK (.i 6)) lNil) [0]))) (sCons (sEx (cML pApp (cV 1) (cCall 94 (lCons (cK (.i 6)) lNil)))) (sCons (sRet (cCall 108 (lCons (cV 0) (lCons (cV 1) lNil)))) sNil))))))))))))))))))⟩
def fd110 : FD := ⟨0, 2, (sCons (sSet (gTup (gCons (gV 0) (gCons (gV 1) gNil))) (cTup (lCons (cLst lNil) (lCons (cLst lNil) lNil)))) (sCons (sEx (cML pApp (cV 0) (cCallK 95 lNil (lCons (cTup (lCons (cK (.i 1)) (lCons (cK (.i 5)) lNil))) (lCons (cK (.i 6)) lNil)) [1, 0]))) (sCons (sEx (cML pApp (cV 1) (cCall 95 (lCons (cK (.i 6)) (lCons (cTup (lCons (cK (.i 1)) (lCons (cK (.i 5)) lNil))) lNil))))) (sCons (sEx (cML pApp (cV 0) (cCallK 96 lNil (lCons (cTup (lCons (cK (.i 1)) (lCons (cK (.i 4)) lNil))) (lCons (cK (.i 5)) lNil)) [1, 0]))) (sCons (sEx (cML pApp (cV 1) (cCall 96 (lCons (cK (.i 5)) (lCons (cTup (lCons (cK (.i 1)) (lCons (cK (.i 4)) lNil))) lNil))))) (sCons (sEx (cML pApp (cV 0) (cCallK 98 lNil (lCons (cTup (lCons (cK (.i 1)) (lCons (cK (.i 2)) lNil))) (lCons (cK (.i 6)) lNil)) [1, 0]))) (sCons (sEx (cML pApp (cV 1) (cCall 98 (lCons (cK (.i 6)) (lCons (cTup (lCons (cK (.i 1)) (lCons (cK (.i 2)) lNil))) lNil))))) (sCons (sEx (cML pApp (cV 0) (cCallK 97 lNil (lCons (cTup (lCons (cK (.i 1)) lNil)) (lCons (cK (.i 6)) lNil)) [1, 0]))) (sCons (sEx (cML pApp (cV 1) (cCall 97 (lCons (cK (.i 6)) (lCons (cTup (lCons (cK (.i 1)) lNil)) lNil))))) (sCons (sEx (cML pApp (cV 0) (cCallK 105 lNil (lCons (cK (.i 4)) lNil) [0]))) (sCons (sEx (cML pApp (cV 1) (cCall 105 (lCons (cK (.i 4)) lNil)))) (sCons (sEx (cML pApp (cV 0) (cCallK 99 lNil (lCons (cK (.i 2)) (lCons (cK (.i 6)) lNil)) [1, 0]))) (sCons (sEx (cML pApp (cV 1) (cCall 99 (lCons (cK (.i 6)) (lCons (cK (.i 2)) lNil))))) (sCons (sEx (cML pApp (cV 0) (cCallK 100 lNil (lCons (cK (.i 30)) lNil) [0]))) (sCons (sEx (cML pApp (cV 1) (cCall 100 (lCons (cK (.i 30)) lNil)))) (sCons (sEx (cML pApp (cV 0) (cCallK 101 lNil (lCons (cK (.i 3)) (lCons (cTup (lCons (cK (.i 1)) (lCons (cK (.i 7)) lNil))) (lCons (cK (.i 8)) lNil))) [2, 1, 0]))) (sCons (sEx (cML pApp (cV 1) (cCall 101 (lCons (cK (.i 8)) (lCons (cTup (lCons (cK (.i 1)) (lCons (cK (.i 7)) lNil))) (lCons (cK (.i 3)) lNil)))))) (sCons (sRet (cCall 108 (lCons (cV 0) (lCons (cV 1) lNil)))) sNil))))))))))))))))))⟩
def fd111 : FD := ⟨0, 2, (sCons (sSet (gTup (gCons (gV 0) (gCons (gV 1) gNil))) (cTup (lCons (cLst lNil) (lCons (cLst lNil) lNil)))) (sCons (sEx (cML pApp (cV 0) (cCallK 102 lNil (lCons (cTup (lCons (cK (.i 3)) (lCons (cK (.i 5)) lNil))) (lCons (cTup (lCons (cK (.i 1)) (lCons (cK (.i 7)) lNil))) (lCons (cK (.i 8)) lNil))) [2, 1, 0]))) (sCons (sEx (cML pApp (cV 1) (cCall 102 (lCons (cK (.i 8)) (lCons (cTup (lCons (cK (.i 1)) (lCons (cK (.i 7)) lNil))) (lCons (cTup (lCons (cK (.i 3)) (lCons (cK (.i 5)) lNil))) lNil)))))) (sCons (sEx (cML pApp (cV 0) (cCallK 103 lNil (lCons (cTup (lCons (cK (.i 2)) (lCons (cK (.i 4)) lNil))) (lCons (cK (.i 6)) lNil)) [1, 0]))) (sCons (sEx (cML pApp (cV 1) (cCall 103 (lCons (cK (.i 6)) (lCons (cTup (lCons (cK (.i 2)) (lCons (cK (.i 4)) lNil))) lNil))))) (sCons (sEx (cML pApp (cV 0) (cCallK 104 lNil (lCons (cTup (lCons (cK (.i 1)) (lCons (cK (.i 5)) lNil))) (lCons (cK (.i 6)) lNil)) [1, 0]))) (sCons (sEx (cML pApp (cV 1) (cCall 104 (lCons (cK (.i 6)) (lCons (cTup (lCons (cK (.i 1)) (lCons (cK (.i 5)) lNil))) lNil))))) (sCons (sRet (cCall 108 (lCons (cV 0) (lCons (cV 1) lNil)))) sNil))))))))⟩
def fd112 : FD := ⟨0, 2, (sCons (sSet (gTup (gCons (gV 0) (gCons (gV 1) gNil))) (cTup (lCons (cLst lNil) (lCons (cLst lNil) lNil)))) (sCons (sEx (cML pApp (cV 0) (cCall 89 (lCons (cK (.i 4)) (lCons (cTup (lCons (cK (.i 1)) (lCons (cK (.i 3)) lNil))) lNil))))) (sCons (sEx (cML pApp (cV 1) (cTup (lCons (cK (.i 4)) (lCons (cTup (lCons (cTup (lCons (cK (.i 0)) (lCons (cK (.i 1)) lNil))) (lCons (cTup (lCons (cK (.i 0)) (lCons (cK (.i 3)) lNil))) (lCons (cTup (lCons (cK (.i 1)) (lCons (cK (.i 2)) lNil))) (lCons (cTup (lCons (cK (.i 2)) (lCons (cK (.i 3)) lNil))) lNil))))) lNil))))) (sCons (sEx (cML pApp (cV 0) (cCall 91 (lCons (cK (.i 4)) (lCons (cTup (lCons (cK (.i 1)) (lCons (cK (.i 3)) lNil))) lNil))))) (sCons (sEx (cML pApp (cV 1) (cTup (lCons (cK (.i 0)) (lCons (cK (.i 0)) (lCons (c1 pNeg (cK (.i 4))) (lCons (cK (.i 0)) (lCons (cK (.i 1)) lNil)))))))) (sCons (sEx (cML pApp (cV 0) (cCall 92 (lCons (cK (.i 5)) (lCons (cTup (lCons (cK (.i 1)) (lCons (cK (.i 4)) lNil))) (lCons (cK (.i 6)) lNil)))))) (sCons (sEx (cML pApp (cV 1) (cTup (lCons (cK (.i 5)) (lCons (cK (.i 0)) (lCons (cK (.i 10)) (lCons (cK (.i 0)) (lCons (cK (.i 30)) (lCons (cK (.i 10)) lNil))))))))) (sCons (sEx (cML pApp (cV 0) (cCall 93 (lCons (cK (.i 6)) (lCons (cTup (lCons (cK (.i 2)) (lCons (cK (.i 4)) lNil))) (lCons (cK (.i 3)) (lCons (cK (.i 0)) lNil))))))) (sCons (sEx (cML pApp (cV 1) (cK (.i 2)))) (sCons (sEx (cML pApp (cV 0) (cCall 94 (lCons (cK (.i 6)) lNil)))) (sCons (sEx (cML pApp (cV 1) (cTup (lCons (cTup (lCons (cK (.i 1)) (lCons (cTup (lCons (cK (.i 1)) (lCons (cK (.i 5)) lNil))) lNil))) (lCons (cTup (lCons (cK (.i 2)) (lCons (cTup (lCons (cK (.i 2)) (lCons (cK (.i 4)) lNil))) lNil))) (lCons (cTup (lCons (cK (.i 3)) (lCons (cTup (lCons (cK (.i 3)) lNil)) lNil))) lNil)))))) (sCons (sEx (cML pApp (cV 0) (cCall 95 (lCons (cK (.i 6)) (lCons (cTup (lCons (cK (.i 1)) (lCons (cK (.i 5)) lNil))) lNil))))) (sCons (sEx (cML pApp (cV 1) (cK (.b true)))) (sCons (sEx (cML pApp (cV 0) (cCall 96 (lCons (cK (.i 5)) (lCons (cTup (lCons (cK (.i 1)) (lCons (cK (.i 4)) lNil))) lNil))))) (sCons (sEx (cML pApp (cV 1) (cK (.b false)))) (sCons (sEx (cML pApp (cV 0) (cCall 97 (lCons (cK (.i 6)) (lCons (cTup (lCons (cK (.i 1)) lNil)) lNil))))) (sCons (sEx (cML pApp (cV 1) (cTup (lCons (cK (.i 2)) (lCons (cK (.i 1)) (lCons (c1 pNeg (cK (.i 1))) (lCons (c1 pNeg (cK (.i 2))) (lCons (c1 pNeg (cK (.i 1))) (lCons (cK (.i 1)) lNil))))))))) (sCons (sEx (cML pApp (cV 0) (cCall 98 (lCons (cK (.i 6)) (lCons (cTup (lCons (cK (.i 1)) (lCons (cK (.i 2)) lNil))) lNil))))) (sCons (sEx (cML pApp (cV 1) (cTup (lCons (cK (.i 1)) (lCons (cK (.i 2)) (lCons (cK (.i 4)) (lCons (cK (.i 5)) lNil))))))) (sCons (sEx (cML pApp (cV 0) (cCall 99 (lCons (cK (.i 6)) (lCons (cK (.i 2)) lNil))))) (sCons (sEx (cML pApp (cV 1) (c1 pNeg (cK (.i 1))))) (sCons (sRet (cCall 108 (lCons (cV 0) (lCons (cV 1) lNil)))) sNil))))))))))))))))))))))⟩
def fd113 : FD := ⟨0, 2, (sCons (sSet (gTup (gCons (gV 0) (gCons (gV 1) gNil))) (cTup (lCons (cLst lNil) (lCons (cLst lNil) lNil)))) (sCons (sEx (cML pApp (cV 0) (cCall 100 (lCons (cK (.i 30)) lNil)))) (sCons (sEx (cML pApp (cV 1) (c1 pNeg (cK (.i 1))))) (sCons (sEx (cML pApp (cV 0) (cCall 100 (lCons (cK (.i 12)) lNil)))) (sCons (sEx (cML pApp (cV 1) (cK (.i 0)))) (sCons (sEx (cML pApp (cV 0) (cCall 101 (lCons (cK (.i 8)) (lCons (cTup (lCons (cK (.i 1)) (lCons (cK (.i 7)) lNil))) (lCons (cK (.i 3)) lNil)))))) (sCons (sEx (cML pApp (cV 1) (cTup (lCons (cK (.i 3)) (lCons (cK (.i 5)) lNil))))) (sCons (sEx (cML pApp (cV 0) (cCall 102 (lCons (cK (.i 8)) (lCons (cTup (lCons (cK (.i 1)) (lCons (cK (.i 7)) lNil))) (lCons (cTup (lCons (cK (.i 3)) (lCons (cK (.i 5)) lNil))) lNil)))))) (sCons (sEx (cML pApp (cV 1) (cK (.i 3)))) (sCons (sEx (cML pApp (cV 0) (cCall 103 (lCons (cK (.i 6)) (lCons (cTup (lCons (cK (.i 2)) (lCons (cK (.i 4)) lNil))) lNil))))) (sCons (sEx (cML pApp (cV 1) (cK (.i 2)))) (sCons (sEx (cML pApp (cV 0) (cCall 104 (lCons (cK (.i 6)) (lCons (cTup (lCons (cK (.i 1)) (lCons (cK (.i 5)) lNil))) lNil))))) (sCons (sEx (cML pApp (cV 1) (cK (.b true)))) (sCons (sEx (cML pApp (cV 0) (cCall 105 (lCons (cK (.i 4)) lNil)))) (sCons (sEx (cML pApp (cV 1) (cLst (lCons (cTup lNil) (lCons (cTup (lCons (cK (.i 1)) (lCons (cK (.i 2)) (lCons (cK (.i 3)) lNil)))) (lCons (cTup (lCons (cK (.i 1)) (lCons (cK (.i 3)) lNil))) (lCons (cTup (lCons (cK (.i 2)) lNil)) lNil))))))) (sCons (sEx (cML pApp (cV 0) (cCall 90 (lCons (cTup (lCons (cK (.i 3)) (lCons (cTup (lCons (cTup (lCons (cK (.i 0)) (lCons (cK (.i 1)) lNil))) (lCons (cTup (lCons (cK (.i 0)) (lCons (cK (.i 2)) lNil))) (lCons (cTup (lCons (cK (.i 1)) (lCons (cK (.i 2)) lNil))) lNil)))) lNil))) lNil)))) (sCons (sEx (cML pApp (cV 1) (cTup (lCons (cK (.i 1)) (lCons (cK (.i 2)) lNil))))) (sCons (sEx (cML pApp (cV 0) (cCall 106 (lCons (cK (.i 5)) (lCons (cTup (lCons (cK (.i 1)) (lCons (cK (.i 4)) lNil))) lNil))))) (sCons (sEx (cML pApp (cV 1) (cTup (lCons (cK (.i 2)) (lCons (cK (.i 3)) lNil))))) (sCons (sEx (cML pApp (cV 0) (cCall 89 (lCons (cK (.i 1)) (lCons (cTup lNil) lNil))))) (sCons (sEx (cML pApp (cV 1) (cTup (lCons (cK (.i 1)) (lCons (cTup lNil) lNil))))) (sCons (sRet (cCall 108 (lCons (cV 0) (lCons (cV 1) lNil)))) sNil))))))))))))))))))))))⟩
def fd114 : FD := ⟨0, 2, (sCons (sSet (gTup (gCons (gV 0) (gCons (gV 1) gNil))) (cTup (lCons (cLst lNil) (lCons (cLst lNil) lNil)))) (sCons (sEx (cML pApp (cV 0) (cCall 94 (lCons (cK (.i 1)) lNil)))) (sCons (sEx (cML pApp (cV 1) (cTup lNil))) (sCons (sEx (cML pApp (cV 0) (cCall 105 (lCons (cK (.i 1)) lNil)))) (sCons (sEx (cML pApp (cV 1) (cLst (lCons (cTup lNil) lNil)))) (sCons (sEx (cML pApp (cV 0) (cCall 97 (lCons (cK (.i 1)) (lCons (cTup lNil) lNil))))) (sCons (sEx (cML pApp (cV 1) (cTup (lCons (cK (.i 0)) lNil)))) (sCons (sEx (cML pApp (cV 0) (cCall 90 (lCons (cTup (lCons (cK (.i 0)) (lCons (cTup lNil) lNil))) lNil)))) (sCons (sEx (cML pApp (cV 1) (cK .n))) (sCons (sEx (cML pApp (cV 0) (cCall 99 (lCons (cK (.i 1)) (lCons (cK (.i 0)) lNil))))) (sCons (sEx (cML pApp (cV 1) (cK (.i 1)))) (sCons (sEx (cML pApp (cV 0) (cCall 104 (lCons (cK (.i 3)) (lCons (cTup lNil) lNil))))) (sCons (sEx (cML pApp (cV 1) (cK (.b true)))) (sCons (sEx (cML pApp (cV 0) (cCall 101 (lCons (cK (.i 1)) (lCons (cTup lNil) (lCons (cK (.i 0)) lNil)))))) (sCons (sEx (cML pApp (cV 1) (cTup lNil))) (sCons (sRet (cCall 108 (lCons (cV 0) (lCons (cV 1) lNil)))) sNil))))))))))))))))⟩
def fd115 : FD := ⟨0, 2, (sCons (sSet (gTup (gCons (gV 0) (gCons (gV 1) gNil))) (cTup (lCons (cLst lNil) (lCons (cLst lNil) lNil)))) (sCons (sEx (cML pApp (cV 0) (cCallK 59 lNil (lCons (cTup (lCons (cK (.i 2)) (lCons (cTup (lCons (cTup (lCons (cK (.i 0)) (lCons (cK (.i 1)) lNil))) lNil)) lNil))) (lCons (cTup (lCons (cK (.i 2)) (lCons (cTup (lCons (cTup (lCons (cK (.i 0)) (lCons (cK (.i 1)) lNil))) lNil)) lNil))) lNil)) [1, 0]))) (sCons (sEx (cML pApp (cV 1) (cCall 59 (lCons (cTup (lCons (cK (.i 2)) (lCons (cTup (lCons (cTup (lCons (cK (.i 0)) (lCons (cK (.i 1)) lNil))) lNil)) lNil))) (lCons (cTup (lCons (cK (.i 2)) (lCons (cTup (lCons (cTup (lCons (cK (.i 0)) (lCons (cK (.i 1)) lNil))) lNil)) lNil))) lNil))))) (sCons (sEx (cML pApp (cV 0) (cCallK 60 lNil (lCons (cTup (lCons (cK (.i 2)) (lCons (cTup (lCons (cTup (lCons (cK (.i 0)) (lCons (cK (.i 1)) lNil))) lNil)) lNil))) (lCons (cTup (lCons (cK (.i 2)) (lCons (cTup (lCons (cTup (lCons (cK (.i 0)) (lCons (cK (.i 1)) lNil))) lNil)) lNil))) lNil)) [1, 0]))) (sCons (sEx (cML pApp (cV 1) (cCall 60 (lCons (cTup (lCons (cK (.i 2)) (lCons (cTup (lCons (cTup (lCons (cK (.i 0)) (lCons (cK (.i 1)) lNil))) lNil)) lNil))) (lCons (cTup (lCons (cK (.i 2)) (lCons (cTup (lCons (cTup (lCons (cK (.i 0)) (lCons (cK (.i 1)) lNil))) lNil)) lNil))) lNil))))) (sCons (sEx (cML pApp (cV 0) (cCallK 61 lNil (lCons (cTup (lCons (cK (.i 2)) (lCons (cTup (lCons (cTup (lCons (cK (.i 0)) (lCons (cK (.i 1)) lNil))) lNil)) lNil))) (lCons (cTup (lCons (cK (.i 2)) (lCons (cTup (lCons (cTup (lCons (cK (.i 0)) (lCons (cK (.i 1)) lNil))) lNil)) lNil))) lNil)) [1, 0]))) (sCons (sEx (cML pApp (cV 1) (cCall 61 (lCons (cTup (lCons (cK (.i 2)) (lCons (cTup (lCons (cTup (lCons (cK (.i 0)) (lCons (cK (.i 1)) lNil))) lNil)) lNil))) (lCons (cTup (lCons (cK (.i 2)) (lCons (cTup (lCons (cTup (lCons (cK (.i 0)) (lCons (cK (.i 1)) lNil))) lNil)) lNil))) lNil))))) (sCons (sEx (cML pApp (cV 0) (cCallK 62 lNil (lCons (cTup (lCons (cK (.i 2)) (lCons (cTup lNil) lNil))) (lCons (cTup (lCons (cK (.i 2)) (lCons (cTup (lCons (cTup (lCons (cK (.i 0)) (lCons (cK (.i 1)) lNil))) lNil)) lNil))) lNil)) [1, 0]))) (sCons (sEx (cML pApp (cV 1) (cCall 62 (lCons (cTup (lCons (cK (.i 2)) (lCons (cTup (lCons (cTup (lCons (cK (.i 0)) (lCons (cK (.i 1)) lNil))) lNil)) lNil))) (lCons (cTup (lCons (cK (.i 2)) (lCons (cTup lNil) lNil))) lNil))))) (sCons (sEx (cML pApp (cV 0) (cCallK 72 lNil (lCons (cK (.i 0)) (lCons (cK (.i 1)) (lCons (cTup (lCons (cK (.i 2)) (lCons (cTup (lCons (cTup (lCons (cK (.i 0)) (lCons (cK (.i 1)) lNil))) lNil)) lNil))) (lCons (cTup (lCons (cK (.i 2)) (lCons (cTup (lCons (cTup (lCons (cK (.i 0)) (lCons (cK (.i 1)) lNil))) lNil)) lNil))) lNil)))) [3, 2, 1, 0]))) (sCons (sEx (cML pApp (cV 1) (cCall 72 (lCons (cTup (lCons (cK (.i 2)) (lCons (cTup (lCons (cTup (lCons (cK (.i 0)) (lCons (cK (.i 1)) lNil))) lNil)) lNil))) (lCons (cTup (lCons (cK (.i 2)) (lCons (cTup (lCons (cTup (lCons (cK (.i 0)) (lCons (cK (.i 1)) lNil))) lNil)) lNil))) (lCons (cK (.i 1)) (lCons (cK (.i 0)) lNil))))))) (sCons (sEx (cML pApp (cV 0) (cCallK 75 lNil (lCons (cK (.i 2)) (lCons (cTup (lCons (cK (.i 2)) (lCons (cTup (lCons (cTup (lCons (cK (.i 0)) (lCons (cK (.i 1)) lNil))) lNil)) lNil))) lNil)) [1, 0]))) (sCons (sEx (cML pApp (cV 1) (cCall 75 (lCons (cTup (lCons (cK (.i 2)) (lCons (cTup (lCons (cTup (lCons (cK (.i 0)) (lCons (cK (.i 1)) lNil))) lNil)) lNil))) (lCons (cK (.i 2)) lNil))))) (sCons (sEx (cML pApp (cV 0) (cCallK 63 lNil (lCons (cTup (lCons (cK (.i 3)) (lCons (cTup (lCons (cTup (lCons (cK (.i 0)) (lCons (cK (.i 1)) lNil))) (lCons (cTup (lCons (cK (.i 1)) (lCons (cK (.i 2)) lNil))) lNil))) lNil))) (lCons (cTup (lCons (cK (.i 2)) (lCons (cTup (lCons (cTup (lCons (cK (.i 0)) (lCons (cK (.i 1)) lNil))) lNil)) lNil))) lNil)) [1, 0]))) (sCons (sEx (cML pApp (cV 1) (cCall 63 (lCons (cTup (lCons (cK (.i 2)) (lCons (cTup (lCons (cTup (lCons (cK (.i 0)) (lCons (cK (.i 1)) lNil))) lNil)) lNil))) (lCons (cTup (lCons (cK (.i 3)) (lCons (cTup (lCons (cTup (lCons (cK (.i 0)) (lCons (cK (.i 1)) lNil))) (lCons (cTup (lCons (cK (.i 1)) (lCons (cK (.i 2)) lNil))) lNil))) lNil))) lNil))))) (sCons (sEx (cML pApp (cV 0) (cCallK 64 lNil (lCons (cTup (lCons (cK (.i 2)) (lCons (cTup (lCons (cTup (lCons (cK (.i 0)) (lCons (cK (.i 1)) lNil))) lNil)) lNil))) (lCons (cTup (lCons (cK (.i 2)) (lCons (cTup (lCons (cTup (lCons (cK (.i 0)) (lCons (cK (.i 1)) lNil))) lNil)) lNil))) lNil)) [1, 0]))) (sCons (sEx (cML pApp (cV 1) (cCall 64 (lCons (cTup (lCons (cK (.i 2)) (lCons (cTup (lCons (cTup (lCons (cK (.i 0)) (lCons (cK (.i 1)) lNil))) lNil)) lNil))) (lCons (cTup (lCons (cK (.i 2)) (lCons (cTup (lCons (cTup (lCons (cK (.i 0)) (lCons (cK (.i 1)) lNil))) lNil)) lNil))) lNil))))) (sCons (sRet (cCall 108 (lCons (cV 0) (lCons (cV 1) lNil)))) sNil))))))))))))))))))⟩
def fd116 : FD := ⟨0, 2, (sCons (sSet (gTup (gCons (gV 0) (gCons (gV 1) gNil))) (cTup (lCons (cLst lNil) (lCons (cLst lNil) lNil)))) (sCons (sEx (cML pApp (cV 0) (cCallK 65 lNil (lCons (cTup (lCons (cK (.i 2)) (lCons (cTup (lCons (cTup (lCons (cK (.i 0)) (lCons (cK (.i 1)) lNil))) lNil)) lNil))) (lCons (cTup (lCons (cK (.i 2)) (lCons (cTup (lCons (cTup (lCons (cK (.i 0)) (lCons (cK (.i 1)) lNil))) lNil)) lNil))) lNil)) [1, 0]))) (sCons (sEx (cML pApp (cV 1) (cCall 65 (lCons (cTup (lCons (cK (.i 2)) (lCons (cTup (lCons (cTup (lCons (cK (.i 0)) (lCons (cK (.i 1)) lNil))) lNil)) lNil))) (lCons (cTup (lCons (cK (.i 2)) (lCons (cTup (lCons (cTup (lCons (cK (.i 0)) (lCons (cK (.i 1)) lNil))) lNil)) lNil))) lNil))))) (sCons (sEx (cML pApp (cV 0) (cCallK 66 lNil (lCons (cK (.i 5)) (lCons (cTup (lCons (cK (.i 2)) (lCons (cTup (lCons (cTup (lCons (cK (.i 0)) (lCons (cK (.i 1)) lNil))) lNil)) lNil))) (lCons (cTup (lCons (cK (.i 2)) (lCons (cTup (lCons (cTup (lCons (cK (.i 0)) (lCons (cK (.i 1)) lNil))) lNil)) lNil))) lNil))) [2, 1, 0]))) (sCons (sEx (cML pApp (cV 1) (cCall 66 (lCons (cTup (lCons (cK (.i 2)) (lCons (cTup (lCons (cTup (lCons (cK (.i 0)) (lCons (cK (.i 1)) lNil))) lNil)) lNil))) (lCons (cTup (lCons (cK (.i 2)) (lCons (cTup (lCons (cTup (lCons (cK (.i 0)) (lCons (cK (.i 1)) lNil))) lNil)) lNil))) (lCons (cK (.i 5)) lNil)))))) (sCons (sEx (cML pApp (cV 0) (cCallK 67 lNil (lCons (cK (.i 5)) (lCons (cTup (lCons (cK (.i 2)) (lCons (cTup (lCons (cTup (lCons (cK (.i 0)) (lCons (cK (.i 1)) lNil))) lNil)) lNil))) (lCons (cTup (lCons (cK (.i 2)) (lCons (cTup (lCons (cTup (lCons (cK (.i 0)) (lCons (cK (.i 1)) lNil))) lNil)) lNil))) lNil))) [2, 1, 0]))) (sCons (sEx (cML pApp (cV 1) (cCall 67 (lCons (cTup (lCons (cK (.i 2)) (lCons (cTup (lCons (cTup (lCons (cK (.i 0)) (lCons (cK (.i 1)) lNil))) lNil)) lNil))) (lCons (cTup (lCons (cK (.i 2)) (lCons (cTup (lCons (cTup (lCons (cK (.i 0)) (lCons (cK (.i 1)) lNil))) lNil)) lNil))) (lCons (cK (.i 5)) lNil)))))) (sCons (sEx (cML pApp (cV 0) (cCallK 77 lNil (lCons (cTup (lCons (cK (.i 2)) (lCons (cTup (lCons (cTup (lCons (cK (.i 0)) (lCons (cK (.i 1)) lNil))) lNil)) lNil))) (lCons (cTup (lCons (cK (.i 0)) (lCons (cTup lNil) lNil))) lNil)) [1, 0]))) (sCons (sEx (cML pApp (cV 1) (cCall 77 (lCons (cTup (lCons (cK (.i 0)) (lCons (cTup lNil) lNil))) (lCons (cTup (lCons (cK (.i 2)) (lCons (cTup (lCons (cTup (lCons (cK (.i 0)) (lCons (cK (.i 1)) lNil))) lNil)) lNil))) lNil))))) (sCons (sEx (cML pApp (cV 0) (cCallK 76 lNil (lCons (cTup (lCons (cK (.i 2)) (lCons (cTup (lCons (cTup (lCons (cK (.i 0)) (lCons (cK (.i 1)) lNil))) lNil)) lNil))) (lCons (cTup (lCons (cK (.i 2)) (lCons (cTup (lCons (cTup (lCons (cK (.i 0)) (lCons (cK (.i 1)) lNil))) lNil)) lNil))) lNil)) [1, 0]))) (sCons (sEx (cML pApp (cV 1) (cCall 76 (lCons (cTup (lCons (cK (.i 2)) (lCons (cTup (lCons (cTup (lCons (cK (.i 0)) (lCons (cK (.i 1)) lNil))) lNil)) lNil))) (lCons (cTup (lCons (cK (.i 2)) (lCons (cTup (lCons (cTup (lCons (cK (.i 0)) (lCons (cK (.i 1)) lNil))) lNil)) lNil))) lNil))))) (sCons (sEx (cML pApp (cV 0) (cCallK 71 lNil (lCons (cTup (lCons (cK (.i 2)) (lCons (cTup (lCons (cTup (lCons (cK (.i 0)) (lCons (cK (.i 1)) lNil))) lNil)) lNil))) (lCons (cTup (lCons (cK (.i 2)) (lCons (cTup (lCons (cTup (lCons (cK (.i 0)) (lCons (cK (.i 1)) lNil))) lNil)) lNil))) lNil)) [1, 0]))) (sCons (sEx (cML pApp (cV 1) (cCall 71 (lCons (cTup (lCons (cK (.i 2)) (lCons (cTup (lCons (cTup (lCons (cK (.i 0)) (lCons (cK (.i 1)) lNil))) lNil)) lNil))) (lCons (cTup (lCons (cK (.i 2)) (lCons (cTup (lCons (cTup (lCons (cK (.i 0)) (lCons (cK (.i 1)) lNil))) lNil)) lNil))) lNil))))) (sCons (sEx (cML pApp (cV 0) (cCallK 73 lNil (lCons (cK (.i 3)) (lCons (cK (.i 0)) (lCons (cTup (lCons (cK (.i 2)) (lCons (cTup (lCons (cTup (lCons (cK (.i 0)) (lCons (cK (.i 1)) lNil))) lNil)) lNil))) (lCons (cTup (lCons (cK (.i 2)) (lCons (cTup (lCons (cTup (lCons (cK (.i 0)) (lCons (cK (.i 1)) lNil))) lNil)) lNil))) lNil)))) [3, 2, 1, 0]))) (sCons (sEx (cML pApp (cV 1) (cCall 73 (lCons (cTup (lCons (cK (.i 2)) (lCons (cTup (lCons (cTup (lCons (cK (.i 0)) (lCons (cK (.i 1)) lNil))) lNil)) lNil))) (lCons (cTup (lCons (cK (.i 2)) (lCons (cTup (lCons (cTup (lCons (cK (.i 0)) (lCons (cK (.i 1)) lNil))) lNil)) lNil))) (lCons (cK (.i 0)) (lCons (cK (.i 3)) lNil))))))) (sCons (sEx (cML pApp (cV 0) (cCallK 68 lNil (lCons (cK (.i 2)) lNil) [0]))) (sCons (sEx (cML pApp (cV 1) (cCall 68 (lCons (cK (.i 2)) lNil)))) (sCons (sRet (cCall 108 (lCons (cV 0) (lCons (cV 1) lNil)))) sNil))))))))))))))))))⟩
def fd117 : FD := ⟨0, 2, (sCons (sSet (gTup (gCons (gV 0) (gCons (gV 1) gNil))) (cTup (lCons (cLst lNil) (lCons (cLst lNil) lNil)))) (sCons (sEx (cML pApp (cV 0) (cCallK 69 lNil (lCons (cK (.i 1)) (lCons (cK (.i 3)) lNil)) [1, 0]))) (sCons (sEx (cML pApp (cV 1) (cCall 69 (lCons (cK (.i 3)) (lCons (cK (.i 1)) lNil))))) (sCons (sEx (cML pApp (cV 0) (cCallK 70 lNil (lCons (cK (.i 3)) (lCons (cK (.i 2)) lNil)) [1, 0]))) (sCons (sEx (cML pApp (cV 1) (cCall 70 (lCons (cK (.i 2)) (lCons (cK (.i 3)) lNil))))) (sCons (sRet (cCall 108 (lCons (cV 0) (lCons (cV 1) lNil)))) sNil))))))⟩
def fd118 : FD := ⟨0, 2, (sCons (sSet (gTup (gCons (gV 0) (gCons (gV 1) gNil))) (cTup (lCons (cLst lNil) (lCons (cLst lNil) lNil)))) (sCons (sEx (cML pApp (cV 0) (cCall 59 (lCons (cTup (lCons (cK (.i 2)) (lCons (cTup (lCons (cTup (lCons (cK (.i 0)) (lCons (cK (.i 1)) lNil))) lNil)) lNil))) (lCons (cTup (lCons (cK (.i 2)) (lCons (cTup (lCons (cTup (lCons (cK (.i 0)) (lCons (cK (.i 1)) lNil))) lNil)) lNil))) lNil))))) (sCons (sEx (cML pApp (cV 1) (cTup (lCons (cK (.i 4)) (lCons (cTup (lCons (cTup (lCons (cK (.i 0)) (lCons (cK (.i 1)) lNil))) (lCons (cTup (lCons (cK (.i 0)) (lCons (cK (.i 2)) lNil))) (lCons (cTup (lCons (cK (.i 1)) (lCons (cK (.i 3)) lNil))) (lCons (cTup (lCons (cK (.i 2)) (lCons (cK (.i 3)) lNil))) lNil))))) lNil))))) (sCons (sEx (cML pApp (cV 0) (cCall 60 (lCons (cTup (lCons (cK (.i 2)) (lCons (cTup (lCons (cTup (lCons (cK (.i 0)) (lCons (cK (.i 1)) lNil))) lNil)) lNil))) (lCons (cTup (lCons (cK (.i 2)) (lCons (cTup (lCons (cTup (lCons (cK (.i 0)) (lCons (cK (.i 1)) lNil))) lNil)) lNil))) lNil))))) (sCons (sEx (cML pApp (cV 1) (cTup (lCons (cK (.i 4)) (lCons (cTup (lCons (cTup (lCons (cK (.i 0)) (lCons (cK (.i 3)) lNil))) (lCons (cTup (lCons (cK (.i 1)) (lCons (cK (.i 2)) lNil))) lNil))) lNil))))) (sCons (sEx (cML pApp (cV 0) (c2 pEq (cCall 61 (lCons (cTup (lCons (cK (.i 2)) (lCons (cTup (lCons (cTup (lCons (cK (.i 0)) (lCons (cK (.i 1)) lNil))) lNil)) lNil))) (lCons (cTup (lCons (cK (.i 2)) (lCons (cTup (lCons (cTup (lCons (cK (.i 0)) (lCons (cK (.i 1)) lNil))) lNil)) lNil))) lNil))) (cTup (lCons (cK (.i 4)) (lCons (cTup (lCons (cTup (lCons (cK (.i 0)) (lCons (cK (.i 1)) lNil))) (lCons (cTup (lCons (cK (.i 0)) (lCons (cK (.i 2)) lNil))) (lCons (cTup (lCons (cK (.i 0)) (lCons (cK (.i 3)) lNil))) (lCons (cTup (lCons (cK (.i 1)) (lCons (cK (.i 2)) lNil))) (lCons (cTup (lCons (cK (.i 1)) (lCons (cK (.i 3)) lNil))) (lCons (cTup (lCons (cK (.i 2)) (lCons (cK (.i 3)) lNil))) lNil))))))) lNil)))))) (sCons (sEx (cML pApp (cV 1) (cK (.b true)))) (sCons (sEx (cML pApp (cV 0) (cCall 62 (lCons (cTup (lCons (cK (.i 2)) (lCons (cTup (lCons (cTup (lCons (cK (.i 0)) (lCons (cK (.i 1)) lNil))) lNil)) lNil))) (lCons (cTup (lCons (cK (.i 2)) (lCons (cTup lNil) lNil))) lNil))))) (sCons (sEx (cML pApp (cV 1) (cTup (lCons (cK (.i 4)) (lCons (cTup (lCons (cTup (lCons (cK (.i 0)) (lCons (cK (.i 2)) lNil))) (lCons (cTup (lCons (cK (.i 0)) (lCons (cK (.i 3)) lNil))) (lCons (cTup (lCons (cK (.i 1)) (lCons (cK (.i 2)) lNil))) (lCons (cTup (lCons (cK (.i 1)) (lCons (cK (.i 3)) lNil))) lNil))))) lNil))))) (sCons (sEx (cML pApp (cV 0) (cCall 63 (lCons (cTup (lCons (cK (.i 2)) (lCons (cTup (lCons (cTup (lCons (cK (.i 0)) (lCons (cK (.i 1)) lNil))) lNil)) lNil))) (lCons (cTup (lCons (cK (.i 3)) (lCons (cTup (lCons (cTup (lCons (cK (.i 0)) (lCons (cK (.i 1)) lNil))) (lCons (cTup (lCons (cK (.i 1)) (lCons (cK (.i 2)) lNil))) lNil))) lNil))) lNil))))) (sCons (sEx (cML pApp (cV 1) (cTup (lCons (c1 pNeg (cK (.i 1))) (lCons (cK (.i 0)) (lCons (cK (.i 7)) (lCons (cK (.i 0)) (lCons (c1 pNeg (cK (.i 7))) (lCons (cK (.i 0)) (lCons (cK (.i 1)) lNil)))))))))) (sCons (sEx (cML pApp (cV 0) (cCall 64 (lCons (cTup (lCons (cK (.i 2)) (lCons (cTup (lCons (cTup (lCons (cK (.i 0)) (lCons (cK (.i 1)) lNil))) lNil)) lNil))) (lCons (cTup (lCons (cK (.i 2)) (lCons (cTup (lCons (cTup (lCons (cK (.i 0)) (lCons (cK (.i 1)) lNil))) lNil)) lNil))) lNil))))) (sCons (sEx (cML pApp (cV 1) (cTup (lCons (cK (.i 1)) (lCons (cK (.i 0)) (lCons (c1 pNeg (cK (.i 2))) (lCons (cK (.i 0)) (lCons (cK (.i 1)) lNil)))))))) (sCons (sEx (cML pApp (cV 0) (cCall 65 (lCons (cTup (lCons (cK (.i 2)) (lCons (cTup (lCons (cTup (lCons (cK (.i 0)) (lCons (cK (.i 1)) lNil))) lNil)) lNil))) (lCons (cTup (lCons (cK (.i 2)) (lCons (cTup (lCons (cTup (lCons (cK (.i 0)) (lCons (cK (.i 1)) lNil))) lNil)) lNil))) lNil))))) (sCons (sEx (cML pApp (cV 1) (cTup (lCons (c1 pNeg (cK (.i 3))) (lCons (c1 pNeg (cK (.i 8))) (lCons (c1 pNeg (cK (.i 6))) (lCons (cK (.i 0)) (lCons (cK (.i 1)) lNil)))))))) (sCons (sEx (cML pApp (cV 0) (cCall 66 (lCons (cTup (lCons (cK (.i 2)) (lCons (cTup (lCons (cTup (lCons (cK (.i 0)) (lCons (cK (.i 1)) lNil))) lNil)) lNil))) (lCons (cTup (lCons (cK (.i 2)) (lCons (cTup (lCons (cTup (lCons (cK (.i 0)) (lCons (cK (.i 1)) lNil))) lNil)) lNil))) (lCons (cK (.i 5)) lNil)))))) (sCons (sEx (cML pApp (cV 1) (cTup (lCons (cK (.i 4)) (lCons (cK (.i 0)) (lCons (cK (.i 8)) (lCons (cK (.i 0)) (lCons (cK (.i 32)) lNil)))))))) (sCons (sEx (cML pApp (cV 0) (cCall 67 (lCons (cTup (lCons (cK (.i 2)) (lCons (cTup (lCons (cTup (lCons (cK (.i 0)) (lCons (cK (.i 1)) lNil))) lNil)) lNil))) (lCons (cTup (lCons (cK (.i 2)) (lCons (cTup (lCons (cTup (lCons (cK (.i 0)) (lCons (cK (.i 1)) lNil))) lNil)) lNil))) (lCons (cK (.i 5)) lNil)))))) (sCons (sEx (cML pApp (cV 1) (cTup (lCons (cK (.i 4)) (lCons (cK (.i 0)) (lCons (cK (.i 4)) (lCons (cK (.i 0)) (lCons (cK (.i 4)) lNil)))))))) (sCons (sEx (cML pApp (cV 0) (cCall 68 (lCons (cK (.i 2)) lNil)))) (sCons (sEx (cML pApp (cV 1) (cTup (lCons (cK (.i 4)) (lCons (cTup (lCons (cTup (lCons (cK (.i 0)) (lCons (cK (.i 1)) lNil))) (lCons (cTup (lCons (cK (.i 0)) (lCons (cK (.i 2)) lNil))) (lCons (cTup (lCons (cK (.i 1)) (lCons (cK (.i 3)) lNil))) (lCons (cTup (lCons (cK (.i 2)) (lCons (cK (.i 3)) lNil))) lNil))))) lNil))))) (sCons (sRet (cCall 108 (lCons (cV 0) (lCons (cV 1) lNil)))) sNil))))))))))))))))))))))⟩
def fd119 : FD := ⟨0, 2, (sCons (sSet (gTup (gCons (gV 0) (gCons (gV 1) gNil))) (cTup (lCons (cLst lNil) (lCons (cLst lNil) lNil)))) (sCons (sEx (cML pApp (cV 0) (cCall 69 (lCons (cK (.i 3)) (lCons (cK (.i 1)) lNil))))) (sCons (sEx (cML pApp (cV 1) (cTup (lCons (cK (.i 3)) (lCons (cTup (lCons (cTup (lCons (cK (.i 0)) (lCons (cK (.i 1)) lNil))) (lCons (cTup (lCons (cK (.i 0)) (lCons (cK (.i 2)) lNil))) (lCons (cTup (lCons (cK (.i 1)) (lCons (cK (.i 2)) lNil))) lNil)))) lNil))))) (sCons (sEx (cML pApp (cV 0) (cCall 70 (lCons (cK (.i 2)) (lCons (cK (.i 3)) lNil))))) (sCons (sEx (cML pApp (cV 1) (cTup (lCons (c1 pNeg (cK (.i 3))) (lCons (c1 pNeg (cK (.i 1))) (lCons (c1 pNeg (cK (.i 1))) (lCons (c1 pNeg (cK (.i 1))) (lCons (cK (.i 1)) (lCons (cK (.i 1)) (lCons (cK (.i 1)) (lCons (cK (.i 3)) lNil))))))))))) (sCons (sEx (cML pApp (cV 0) (cCall 70 (lCons (cK (.i 3)) (lCons (cK (.i 2)) lNil))))) (sCons (sEx (cML pApp (cV 1) (cTup (lCons (c1 pNeg (cK (.i 2))) (lCons (c1 pNeg (cK (.i 2))) (lCons (c1 pNeg (cK (.i 2))) (lCons (c1 pNeg (cK (.i 2))) (lCons (cK (.i 1)) (lCons (cK (.i 1)) (lCons (cK (.i 1)) (lCons (cK (.i 1)) (lCons (cK (.i 4)) lNil)))))))))))) (sCons (sEx (cML pApp (cV 0) (cCall 71 (lCons (cTup (lCons (cK (.i 2)) (lCons (cTup (lCons (cTup (lCons (cK (.i 0)) (lCons (cK (.i 1)) lNil))) lNil)) lNil))) (lCons (cTup (lCons (cK (.i 2)) (lCons (cTup (lCons (cTup (lCons (cK (.i 0)) (lCons (cK (.i 1)) lNil))) lNil)) lNil))) lNil))))) (sCons (sEx (cML pApp (cV 1) (cK (.i 2)))) (sCons (sEx (cML pApp (cV 0) (cCall 73 (lCons (cTup (lCons (cK (.i 2)) (lCons (cTup (lCons (cTup (lCons (cK (.i 0)) (lCons (cK (.i 1)) lNil))) lNil)) lNil))) (lCons (cTup (lCons (cK (.i 2)) (lCons (cTup (lCons (cTup (lCons (cK (.i 0)) (lCons (cK (.i 1)) lNil))) lNil)) lNil))) (lCons (cK (.i 0)) (lCons (cK (.i 3)) lNil))))))) (sCons (sEx (cML pApp (cV 1) (cK (.i 2)))) (sCons (sEx (cML pApp (cV 0) (cCall 72 (lCons (cTup (lCons (cK (.i 2)) (lCons (cTup (lCons (cTup (lCons (cK (.i 0)) (lCons (cK (.i 1)) lNil))) lNil)) lNil))) (lCons (cTup (lCons (cK (.i 2)) (lCons (cTup (lCons (cTup (lCons (cK (.i 0)) (lCons (cK (.i 1)) lNil))) lNil)) lNil))) (lCons (cK (.i 1)) (lCons (cK (.i 0)) lNil))))))) (sCons (sEx (cML pApp (cV 1) (cK (.i 2)))) (sCons (sEx (cML pApp (cV 0) (c2 pEq (cCall 75 (lCons (cTup (lCons (cK (.i 2)) (lCons (cTup (lCons (cTup (lCons (cK (.i 0)) (lCons (cK (.i 1)) lNil))) lNil)) lNil))) (lCons (cK (.i 2)) lNil))) (cCall 68 (lCons (cK (.i 2)) lNil))))) (sCons (sEx (cML pApp (cV 1) (cK (.b true)))) (sCons (sEx (cML pApp (cV 0) (cCall 59 (lCons (cTup (lCons (cK (.i 0)) (lCons (cTup lNil) lNil))) (lCons (cTup (lCons (cK (.i 2)) (lCons (cTup (lCons (cTup (lCons (cK (.i 0)) (lCons (cK (.i 1)) lNil))) lNil)) lNil))) lNil))))) (sCons (sEx (cML pApp (cV 1) (cTup (lCons (cK (.i 0)) (lCons (cTup lNil) lNil))))) (sCons (sEx (cML pApp (cV 0) (cCall 63 (lCons (cTup (lCons (cK (.i 0)) (lCons (cTup lNil) lNil))) (lCons (cTup (lCons (cK (.i 2)) (lCons (cTup (lCons (cTup (lCons (cK (.i 0)) (lCons (cK (.i 1)) lNil))) lNil)) lNil))) lNil))))) (sCons (sEx (cML pApp (cV 1) (cTup (lCons (cK (.i 1)) lNil)))) (sCons (sEx (cML pApp (cV 0) (cCall 68 (lCons (cK (.i 0)) lNil)))) (sCons (sEx (cML pApp (cV 1) (cTup (lCons (cK (.i 1)) (lCons (cTup lNil) lNil))))) (sCons (sRet (cCall 108 (lCons (cV 0) (lCons (cV 1) lNil)))) sNil))))))))))))))))))))))⟩
def fd120 : FD := ⟨0, 2, (sCons (sSet (gTup (gCons (gV 0) (gCons (gV 1) gNil))) (cTup (lCons (cLst lNil) (lCons (cLst lNil) lNil)))) (sCons (sEx (cML pApp (cV 0) (cCall 69 (lCons (cK (.i 1)) (lCons (cK (.i 5)) lNil))))) (sCons (sEx (cML pApp (cV 1) (cTup (lCons (cK (.i 1)) (lCons (cTup lNil) lNil))))) (sCons (sEx (cML pApp (cV 0) (cCall 75 (lCons (cTup (lCons (cK (.i 0)) (lCons (cTup lNil) lNil))) (lCons (cK (.i 0)) lNil))))) (sCons (sEx (cML pApp (cV 1) (cTup (lCons (cK (.i 1)) (lCons (cTup lNil) lNil))))) (sCons (sEx (cML pApp (cV 0) (cCall 77 (lCons (cTup (lCons (cK (.i 0)) (lCons (cTup lNil) lNil))) (lCons (cTup (lCons (cK (.i 2)) (lCons (cTup (lCons (cTup (lCons (cK (.i 0)) (lCons (cK (.i 1)) lNil))) lNil)) lNil))) lNil))))) (sCons (sEx (cML pApp (cV 1) (cTup (lCons (c1 pNeg (cK (.i 1))) (lCons (cK (.i 0)) (lCons (cK (.i 1)) lNil)))))) (sCons (sEx (cML pApp (cV 0) (cCall 73 (lCons (cTup (lCons (cK (.i 2)) (lCons (cTup lNil) lNil))) (lCons (cTup (lCons (cK (.i 2)) (lCons (cTup (lCons (cTup (lCons (cK (.i 0)) (lCons (cK (.i 1)) lNil))) lNil)) lNil))) (lCons (cK (.i 0)) (lCons (cK (.i 2)) lNil))))))) (sCons (sEx (cML pApp (cV 1) (cK .n))) (sCons (sRet (cCall 108 (lCons (cV 0) (lCons (cV 1) lNil)))) sNil))))))))))⟩
def fd121 : FD := ⟨1, 1, (sCons (sIf (c2 pNe (c1 pLen (cCall 107 (lCons (cV 0) (lCons (cK (.i 1)) lNil)))) (cK (.i 1))) (sCons (sRet (cK (.b false))) sNil) sNil) (sCons (sIf (cNot (cCall 109 lNil)) (sCons (sRet (cK (.b false))) sNil) sNil) (sCons (sIf (cNot (cCall 110 lNil)) (sCons (sRet (cK (.b false))) sNil) sNil) (sCons (sIf (cNot (cCall 111 lNil)) (sCons (sRet (cK (.b false))) sNil) sNil) (sCons (sIf (cNot (cCall 112 lNil)) (sCons (sRet (cK (.b false))) sNil) sNil) (sCons (sIf (cNot (cCall 113 lNil)) (sCons (sRet (cK (.b false))) sNil) sNil) (sCons (sIf (cNot (cCall 114 lNil)) (sCons (sRet (cK (.b false))) sNil) sNil) (sCons (sIf (cNot (cCall 115 lNil)) (sCons (sRet (cK (.b false))) sNil) sNil) (sCons (sIf (cNot (cCall 116 lNil)) (sCons (sRet (cK (.b false))) sNil) sNil) (sCons (sIf (cNot (cCall 117 lNil)) (sCons (sRet (cK (.b false))) sNil) sNil) (sCons (sIf (cNot (cCall 118 lNil)) (sCons (sRet (cK (.b false))) sNil) sNil) (sCons (sIf (cNot (cCall 119 lNil)) (sCons (sRet (cK (.b false))) sNil) sNil) (sCons (sIf (cNot (cCall 120 lNil)) (sCons (sRet (cK (.b false))) sNil) sNil) (sCons (sRet (cK (.b true))) sNil))))))))))))))⟩
def FTab : FT := (.d fd0 (.d fd1 (.d fd3 (.d fd7 (.d fd15 (.d fd31 (.d fd63 .e .e) (.d fd95 .e .e)) (.d fd47 (.d fd79 .e .e) (.d fd111 .e .e))) (.d fd23 (.d fd39 (.d fd71 .e .e) (.d fd103 .e .e)) (.d fd55 (.d fd87 .e .e) (.d fd119 .e .e)))) (.d fd11 (.d fd19 (.d fd35 (.d fd67 .e .e) (.d fd99 .e .e)) (.d fd51 (.d fd83 .e .e) (.d fd115 .e .e))) (.d fd27 (.d fd43 (.d fd75 .e .e) (.d fd107 .e .e)) (.d fd59 (.d fd91 .e .e) .e)))) (.d fd5 (.d fd9 (.d fd17 (.d fd33 (.d fd65 .e .e) (.d fd97 .e .e)) (.d fd49 (.d fd81 .e .e) (.d fd113 .e .e))) (.d fd25 (.d fd41 (.d fd73 .e .e) (.d fd105 .e .e)) (.d fd57 (.d fd89 .e .e) (.d fd121 .e .e)))) (.d fd13 (.d fd21 (.d fd37 (.d fd69 .e .e) (.d fd101 .e .e)) (.d fd53 (.d fd85 .e .e) (.d fd117 .e .e))) (.d fd29 (.d fd45 (.d fd77 .e .e) (.d fd109 .e .e)) (.d fd61 (.d fd93 .e .e) .e))))) (.d fd2 (.d fd4 (.d fd8 (.d fd16 (.d fd32 (.d fd64 .e .e) (.d fd96 .e .e)) (.d fd48 (.d fd80 .e .e) (.d fd112 .e .e))) (.d fd24 (.d fd40 (.d fd72 .e .e) (.d fd104 .e .e)) (.d fd56 (.d fd88 .e .e) (.d fd120 .e .e)))) (.d fd12 (.d fd20 (.d fd36 (.d fd68 .e .e) (.d fd100 .e .e)) (.d fd52 (.d fd84 .e .e) (.d fd116 .e .e))) (.d fd28 (.d fd44 (.d fd76 .e .e) (.d fd108 .e .e)) (.d fd60 (.d fd92 .e .e) .e)))) (.d fd6 (.d fd10 (.d fd18 (.d fd34 (.d fd66 .e .e) (.d fd98 .e .e)) (.d fd50 (.d fd82 .e .e) (.d fd114 .e .e))) (.d fd26 (.d fd42 (.d fd74 .e .e) (.d fd106 .e .e)) (.d fd58 (.d fd90 .e .e) .e))) (.d fd14 (.d fd22 (.d fd38 (.d fd70 .e .e) (.d fd102 .e .e)) (.d fd54 (.d fd86 .e .e) (.d fd118 .e .e))) (.d fd30 (.d fd46 (.d fd78 .e .e) (.d fd110 .e .e)) (.d fd62 (.d fd94 .e .e) .e))))))
def dp0 : SS := (sIf (cNot (cCall 109 lNil)) (sCons (sRet (cK (.b false))) sNil) sNil)
def dp1 : SS := (sIf (cNot (cCall 110 lNil)) (sCons (sRet (cK (.b false))) sNil) sNil)
def dp2 : SS := (sIf (cNot (cCall 111 lNil)) (sCons (sRet (cK (.b false))) sNil) sNil)
def dp3 : SS := (sIf (cNot (cCall 112 lNil)) (sCons (sRet (cK (.b false))) sNil) sNil)
def dp4 : SS := (sIf (cNot (cCall 113 lNil)) (sCons (sRet (cK (.b false))) sNil) sNil)
def dp5 : SS := (sIf (cNot (cCall 114 lNil)) (sCons (sRet (cK (.b false))) sNil) sNil)
def dp6 : SS := (sIf (cNot (cCall 115 lNil)) (sCons (sRet (cK (.b false))) sNil) sNil)
def dp7 : SS := (sIf (cNot (cCall 116 lNil)) (sCons (sRet (cK (.b false))) sNil) sNil)
def dp8 : SS := (sIf (cNot (cCall 117 lNil)) (sCons (sRet (cK (.b false))) sNil) sNil)
def dp9 : SS := (sIf (cNot (cCall 118 lNil)) (sCons (sRet (cK (.b false))) sNil) sNil)
def dp10 : SS := (sIf (cNot (cCall 119 lNil)) (sCons (sRet (cK (.b false))) sNil) sNil)
def dp11 : SS := (sIf (cNot (cCall 120 lNil)) (sCons (sRet (cK (.b false))) sNil) sNil)
def dpL : SS := (sCons (sRet (cK (.b true))) sNil)
theorem good0 : isNx (dp0 (L3.run FTab 61) [.u] ⟨.e, 0⟩) = true := by decide +kernel
theorem good1 : isNx (dp1 (L3.run FTab 61) [.u] ⟨.e, 0⟩) = true := by decide +kernel
theorem good2 : isNx (dp2 (L3.run FTab 61) [.u] ⟨.e, 0⟩) = true := by decide +kernel
theorem good3 : isNx (dp3 (L3.run FTab 61) [.u] ⟨.e, 0⟩) = true := by decide +kernel
theorem good4 : isNx (dp4 (L3.run FTab 61) [.u] ⟨.e, 0⟩) = true := by decide +kernel
theorem good5 : isNx (dp5 (L3.run FTab 61) [.u] ⟨.e, 0⟩) = true := by decide +kernel
theorem good6 : isNx (dp6 (L3.run FTab 61) [.u] ⟨.e, 0⟩) = true := by decide +kernel
theorem good7 : isNx (dp7 (L3.run FTab 61) [.u] ⟨.e, 0⟩) = true := by decide +kernel
theorem good8 : isNx (dp8 (L3.run FTab 61) [.u] ⟨.e, 0⟩) = true := by decide +kernel
theorem good9 : isNx (dp9 (L3.run FTab 61) [.u] ⟨.e, 0⟩) = true := by decide +kernel
theorem good10 : isNx (dp10 (L3.run FTab 61) [.u] ⟨.e, 0⟩) = true := by decide +kernel
theorem good11 : isNx (dp11 (L3.run FTab 61) [.u] ⟨.e, 0⟩) = true := by decide +kernel
theorem goodL : isRt (dpL (L3.run FTab 61) [.u] ⟨.e, 0⟩) = true := by decide +kernel
end
end HD
set_option Elab.async false
set_option linter.all false
set_option maxRecDepth 100000
set_option maxHeartbeats 4000000
/-! L3: what a value, a store says of the layer's abstract heap; what a run's result promises. -/
noncomputable section
namespace L3
open PySem PySem.Spec PyProof.Rows L2

/-! ### the store's tree -/
def Tr.set (o' : O) : Tr → Nat → Tr
  | .e, _ => .d o' .e .e
  | .d o l r, 0 => .d o' l r
  | .d o l r, m + 1 => if m % 2 = 0 then .d o (l.set o' (m / 2)) r else .d o l (r.set o' (m / 2))
theorem Tr.get_zero (o : O) (l r : Tr) : (Tr.d o l r).get 0 = o := rfl
theorem Tr.get_succ (o : O) (l r : Tr) (m : Nat) : (Tr.d o l r).get (m + 1) = if m % 2 = 0 then l.get (m / 2) else r.get (m / 2) := by
  show @Nat.rec (fun _ => O) (l.get (m / 2)) (fun _ _ => r.get (m / 2)) (m % 2) = _
  cases h : m % 2 with
  | zero => rfl
  | succ k => rfl
theorem Tr.get_e (n : Nat) : Tr.e.get n = .z := rfl
theorem Tr.put_eq {α : Type} (o' : O) : ∀ (t : Tr) (n : Nat) (k : Tr → α), t.put o' n k = k (t.set o' n)
  | .e, n, k => rfl
  | .d o l r, 0, k => rfl
  | .d o l r, m + 1, k => by
    show @Nat.rec (fun _ => α) (l.put o' (m / 2) fun l' => k (.d o l' r)) (fun _ _ => r.put o' (m / 2) fun r' => k (.d o l r')) (m % 2) = _
    unfold Tr.set
    cases h : m % 2 with
    | zero => simp only [if_pos]; exact Tr.put_eq o' l (m / 2) _
    | succ j => rw [if_neg (by omega)]; exact Tr.put_eq o' r (m / 2) _
/-- a tree that holds the places below n -/
inductive Full : Tr → Nat → Prop
  | e : Full .e 0
  | d {o : O} {l r : Tr} {n : Nat} (h1 : Full l ((n + 1) / 2)) (h2 : Full r (n / 2)) : Full (.d o l r) (n + 1)
theorem Full.set {o' : O} : ∀ {t : Tr} {n m : Nat}, Full t n → m < n → Full (t.set o' m) n
  | _, _, m, .e, h => absurd h (Nat.not_lt_zero _)
  | _, _, 0, .d h1 h2, _ => .d h1 h2
  | _, _, m + 1, .d (n := n) h1 h2, h => by
    unfold Tr.set
    split
    · exact .d (h1.set (by omega)) h2
    · exact .d h1 (h2.set (by omega))
theorem Full.new {o' : O} : ∀ {t : Tr} {n : Nat}, Full t n → Full (t.set o' n) (n + 1)
  | _, _, .e => .d .e .e
  | _, _, .d (n := n) h1 h2 => by
    unfold Tr.set
    split
    · rename_i h
      have e : (n + 1) / 2 = n / 2 := by omega
      refine .d (n := n + 1) ?_ ?_
      · have q := (e ▸ h1 : Full _ (n / 2)).new (o' := o')
        rw [show (n + 1 + 1) / 2 = n / 2 + 1 by omega]
        exact q
      · rw [e]; exact h2
    · rename_i h
      have e : (n + 1) / 2 = n / 2 + 1 := by omega
      refine .d (n := n + 1) ?_ ?_
      · rw [show (n + 1 + 1) / 2 = (n + 1) / 2 by omega]
        exact h1
      · rw [e]; exact h2.new
theorem Full.get_set {o' : O} : ∀ {t : Tr} {n m j : Nat}, Full t n → m ≤ n → (t.set o' m).get j = if j = m then o' else t.get j
  | _, _, m, j, .e, h => by
    obtain rfl : m = 0 := by omega
    cases j with
    | zero => rfl
    | succ j =>
      rw [if_neg (by omega)]
      show (Tr.d o' .e .e).get (j + 1) = _
      rw [Tr.get_succ]
      split <;> rfl
  | _, _, 0, j, .d h1 h2, _ => by
    cases j with
    | zero => rfl
    | succ j =>
      rw [if_neg (by omega)]
      show (Tr.d o' _ _).get (j + 1) = _
      rw [Tr.get_succ, Tr.get_succ]
  | .d o l r, _, m + 1, j, .d (n := n) h1 h2, h => by
    unfold Tr.set
    cases j with
    | zero =>
      rw [if_neg (show ¬ (0 = m + 1) by omega)]
      split <;> rfl
    | succ j =>
      split
      · rename_i hm
        rw [Tr.get_succ, Tr.get_succ]
        split
        · rw [h1.get_set (by omega)]
          by_cases e : j / 2 = m / 2
          · rw [if_pos e, if_pos (by omega)]
          · rw [if_neg e, if_neg (by omega)]
        · rw [if_neg (by omega)]
      · rename_i hm
        rw [Tr.get_succ, Tr.get_succ]
        split
        · rw [if_neg (by omega)]
        · rw [h2.get_set (by omega)]
          by_cases e : j / 2 = m / 2
          · rw [if_pos e, if_pos (by omega)]
          · rw [if_neg e, if_neg (by omega)]

theorem sN_eq {α : Type} (n : Nat) (k : Nat → α) : sN n k = k n := by cases n <;> rfl
theorem sI_eq {α : Type} (i : Int) (k : Int → α) : sI i k = k i := by
  cases i with
  | ofNat n => exact sN_eq n fun n => k (.ofNat n)
  | negSucc n => exact sN_eq n fun n => k (.negSucc n)
theorem sL_eq {α β : Type} : ∀ (xs : List β) (k : List β → α), sL xs k = k xs
  | [], _ => rfl
  | x :: r, k => sL_eq r fun r => k (x :: r)
theorem Sto.new_eq {α : Type} (s : Sto) (o : O) (k : Nat → Sto → α) : s.new o k = k s.n ⟨s.tr.set o s.n, s.n + 1⟩ := by
  obtain ⟨t, n⟩ := s
  show t.put o n (fun t' => sN n fun n => k n ⟨t', n + 1⟩) = _
  rw [Tr.put_eq, sN_eq]
theorem Sto.put_eq {α : Type} (s : Sto) (a : Nat) (o : O) (k : Sto → α) : s.put a o k = k ⟨s.tr.set o a, s.n⟩ := by
  obtain ⟨t, n⟩ := s
  exact Tr.put_eq o t a _

/-! ### values -/
def tyn : Nat → String
  | 0 => "int" | 1 => "bool" | 2 => "str" | 3 => "tuple" | 4 => "list" | 5 => "dict" | _ => "object"
/-- what stands fixed: the written part, the functions' places -/
structure Fix where
  K : PySem.W.Frag
  fad : Nat → Addr
  /-- the exception classes' places, the name of what one bears -/
  cad : Nat → Addr
  xat : Nat → Str
/-- a tuple: one of the run, or texts of the written part -/
def TqT (K : PySem.W.Frag) (H : Hp) (a : Addr) (vs : List V) : Prop := H a = some (.tup vs) ∨
  ((∃ (o : Obj) (its : Array Value) (n : Nat), K.lookup a = some o ∧ o.cls = .type "tuple" ∧ o.data = .seq its n ∧ its.size ≤ sizeLine ∧ Vals vs its.toList) ∧ ∀ v ∈ vs, ∃ x, v = .str x)
theorem TqT.sq {K : PySem.W.Frag} {H : Hp} {a : Addr} {vs : List V} (h : TqT K H a vs) : SqT K H a vs := by
  rcases h with h | h
  · exact SqT.of h
  · exact .inr h.1
mutual
inductive RV (G : Fix) (μ : List Addr) (H : Hp) : EV → V → Prop
  | n : RV G μ H .n .non
  | b (x : Bool) : RV G μ H (.b x) (.bl x)
  | i (x : Int) : RV G μ H (.i x) (.int x)
  | s (c : List Nat) (h : c.length ≤ 16000000) : RV G μ H (.s c) (.str ⟨c.toArray⟩)
  | t {xs : List EV} {a : Addr} {vs : List V} (h : TqT G.K H a vs) (r : RVs G μ H xs vs) : RV G μ H (.t xs) (.ref a)
  | l {x : Nat} {a : Addr} (h : μ[x]? = some a) : RV G μ H (.l x) (.ref a)
  | f (k : Nat) : RV G μ H (.f k) (.ref (G.fad k))
  | y (k : Nat) : RV G μ H (.y k) (.ty (tyn k))
inductive RVs (G : Fix) (μ : List Addr) (H : Hp) : List EV → List V → Prop
  | nil : RVs G μ H [] []
  | cons {x : EV} {v : V} {xs : List EV} {vs : List V} (h : RV G μ H x v) (r : RVs G μ H xs vs) : RVs G μ H (x :: xs) (v :: vs)
end
/-- a dict's keys as the layer has them -/
inductive RK : EV → Key → Prop
  | i (x : Int) : RK (.i x) (.inl x)
  | s (c : List Nat) : RK (.s c) (.inr ⟨c.toArray⟩)
inductive RKs : List EV → List Key → Prop
  | nil : RKs [] []
  | cons {x : EV} {k : Key} {xs : List EV} {ks : List Key} (h : RK x k) (r : RKs xs ks) : RKs (x :: xs) (k :: ks)
inductive RD (G : Fix) (μ : List Addr) (H : Hp) : List (EV × EV) → List (Key × V) → Prop
  | nil : RD G μ H [] []
  | cons {a v : EV} {k : Key} {w : V} {r : List (EV × EV)} {q : List (Key × V)} (h1 : RK a k) (h2 : RV G μ H v w) (t : RD G μ H r q) : RD G μ H ((a, v) :: r) ((k, w) :: q)
inductive RDT (G : Fix) (μ : List Addr) (H : Hp) : List (EV × EV) → List (List Key × V) → Prop
  | nil : RDT G μ H [] []
  | cons {a : List EV} {v : EV} {k : List Key} {w : V} {r : List (EV × EV)} {q : List (List Key × V)} (h1 : RKs a k) (h2 : RV G μ H v w) (t : RDT G μ H r q) : RDT G μ H ((.t a, v) :: r) ((k, w) :: q)
/-- an object of the store -/
def RO (G : Fix) (μ : List Addr) (H : Hp) (a : Addr) : O → Prop
  | .l xs => ∃ vs, H a = some (.lst vs) ∧ RVs G μ H xs vs
  | .d kvs => (∃ q, H a = some (.dK q) ∧ RD G μ H kvs q) ∨ ∃ q, H a = some (.dT q) ∧ RDT G μ H kvs q
  | _ => False
/-- the store -/
structure RS' (G : Fix) (μ : List Addr) (H : Hp) (st : Sto) : Prop where
  n : μ.length = st.n
  full : Full st.tr st.n
  nd : μ.Nodup
  at_ : ∀ l a, μ[l]? = some a → RO G μ H a (st.tr.get l)
/-- what a run leaves of the heap ahead of it -/
structure Ext (μ : List Addr) (H : Hp) (μ' : List Addr) (H' : Hp) : Prop where
  pre : ∃ ν, μ' = μ ++ ν ∧ ∀ p ∈ ν, H p = none
  there : ∀ a o, H a = some o → ∃ o', H' a = some o'
  keep : ∀ a o, H a = some o → a ∉ μ → H' a = some o
section
variable {G : Fix} {μ μ1 μ2 μ' : List Addr} {H H1 H2 H' : Hp} {st st' : Sto}
theorem Ext.refl : Ext μ H μ H := ⟨⟨[], by simp⟩, fun _ o e => ⟨o, e⟩, fun _ _ e _ => e⟩
theorem Ext.trans (a : Ext μ H μ1 H1) (b : Ext μ1 H1 μ2 H2) : Ext μ H μ2 H2 := by
  obtain ⟨⟨ν, rfl, hν⟩, t1, k1⟩ := a
  obtain ⟨⟨ν2, rfl, hν2⟩, t2, k2⟩ := b
  refine ⟨⟨ν ++ ν2, List.append_assoc .., fun p hp => ?_⟩, fun a o e => ?_, fun a o e n => ?_⟩
  · rcases List.mem_append.mp hp with q | q
    · exact hν p q
    · cases e : H p with
      | none => rfl
      | some o =>
        obtain ⟨o', e'⟩ := t1 p o e
        rw [hν2 p q] at e'; cases e'
  · obtain ⟨o', e'⟩ := t1 a o e
    exact t2 a o' e'
  · refine k2 a o (k1 a o e n) fun z => ?_
    rcases List.mem_append.mp z with q | q
    · exact n q
    · rw [hν a q] at e; cases e
theorem Ext.ix (x : Ext μ H μ' H') {l : Nat} {a : Addr} (h : μ[l]? = some a) : μ'[l]? = some a := by
  obtain ⟨⟨ν, rfl, _⟩, _, _⟩ := x
  have hl : l < μ.length := (List.getElem?_eq_some_iff.mp h).1
  rw [List.getElem?_append_left hl]; exact h
/-- the tuples stand apart from the store -/
def NoTup (μ : List Addr) (H : Hp) : Prop := ∀ a ∈ μ, (∀ vs, H a ≠ some (.tup vs)) ∧ ∀ o vs, H a ≠ some (.frz o (.tup vs))
theorem RS'.notup (r : RS' G μ H st) : NoTup μ H := fun a ha => by
  obtain ⟨l, hl, e⟩ := List.getElem_of_mem ha
  have q := r.at_ l a (by rw [List.getElem?_eq_getElem hl, e])
  cases h : st.tr.get l with
  | l xs =>
    rw [h] at q
    obtain ⟨vs, e, _⟩ := q
    refine ⟨fun ws z => ?_, fun o ws z => ?_⟩ <;> (rw [e] at z; cases z)
  | d kvs =>
    rw [h] at q
    rcases q with ⟨q, e, _⟩ | ⟨q, e, _⟩ <;> refine ⟨fun ws z => ?_, fun o ws z => ?_⟩ <;> (rw [e] at z; cases z)
  | z => rw [h] at q; exact q.elim
  | o c fs => rw [h] at q; exact q.elim
theorem Ext.sqT {K : PySem.W.Frag} (x : Ext μ H μ' H') (n : NoTup μ H) {a : Addr} {vs : List V} (h : SqT K H a vs) : SqT K H' a vs := by
  rcases h with (h | ⟨o, h⟩) | h
  · exact .inl (.inl (x.keep _ _ h fun z => (n a z).1 _ h))
  · exact .inl (.inr ⟨o, x.keep _ _ h fun z => (n a z).2 _ _ h⟩)
  · exact .inr h
theorem Ext.tqT {K : PySem.W.Frag} (x : Ext μ H μ' H') (n : NoTup μ H) {a : Addr} {vs : List V} (h : TqT K H a vs) : TqT K H' a vs := by
  rcases h with h | h
  · exact .inl (x.keep _ _ h fun z => (n a z).1 _ h)
  · exact .inr h
mutual
theorem RV.mono (x : Ext μ H μ' H') (n : NoTup μ H) : ∀ {e : EV} {v : V}, RV G μ H e v → RV G μ' H' e v
  | _, _, .n => .n
  | _, _, .b y => .b y
  | _, _, .i y => .i y
  | _, _, .s c h => .s c h
  | _, _, .t h r => .t (x.tqT n h) (RVs.mono x n r)
  | _, _, .l h => .l (x.ix h)
  | _, _, .f k => .f k
  | _, _, .y k => .y k
theorem RVs.mono (x : Ext μ H μ' H') (n : NoTup μ H) : ∀ {e : List EV} {v : List V}, RVs G μ H e v → RVs G μ' H' e v
  | _, _, .nil => .nil
  | _, _, .cons h r => .cons (RV.mono x n h) (RVs.mono x n r)
end
theorem RD.mono (x : Ext μ H μ' H') (n : NoTup μ H) : ∀ {e : List (EV × EV)} {v : List (Key × V)}, RD G μ H e v → RD G μ' H' e v
  | _, _, .nil => .nil
  | _, _, .cons h1 h2 t => .cons h1 (h2.mono x n) (t.mono x n)
theorem RDT.mono (x : Ext μ H μ' H') (n : NoTup μ H) : ∀ {e : List (EV × EV)} {v : List (List Key × V)}, RDT G μ H e v → RDT G μ' H' e v
  | _, _, .nil => .nil
  | _, _, .cons h1 h2 t => .cons h1 (h2.mono x n) (t.mono x n)
theorem RVs.length : ∀ {e : List EV} {v : List V}, RVs G μ H e v → e.length = v.length
  | _, _, .nil => rfl
  | _, _, .cons _ r => by simp [r.length]
theorem RVs.get : ∀ {e : List EV} {v : List V} {i : Nat} {x : EV}, RVs G μ H e v → e[i]? = some x → ∃ y, v[i]? = some y ∧ RV G μ H x y
  | _, _, _, _, .nil, h => by simp at h
  | _, _, 0, _, .cons h _, e => by simp at e; subst e; exact ⟨_, rfl, h⟩
  | _, _, i + 1, _, .cons _ r, e => by
    obtain ⟨y, h1, h2⟩ := r.get (by simpa using e)
    exact ⟨y, by simpa using h1, h2⟩
theorem RVs.get' : ∀ {e : List EV} {v : List V} {i : Nat} {y : V}, RVs G μ H e v → v[i]? = some y → ∃ x, e[i]? = some x ∧ RV G μ H x y
  | _, _, _, _, .nil, h => by simp at h
  | _, _, 0, _, .cons h _, e => by simp at e; subst e; exact ⟨_, rfl, h⟩
  | _, _, i + 1, _, .cons _ r, e => by
    obtain ⟨y, h1, h2⟩ := r.get' (by simpa using e)
    exact ⟨y, by simpa using h1, h2⟩
theorem RVs.append : ∀ {e e' : List EV} {v v' : List V}, RVs G μ H e v → RVs G μ H e' v' → RVs G μ H (e ++ e') (v ++ v')
  | _, _, _, _, .nil, s => s
  | _, _, _, _, .cons h r, s => .cons h (r.append s)
theorem RVs.take : ∀ {e : List EV} {v : List V} (n : Nat), RVs G μ H e v → RVs G μ H (e.take n) (v.take n)
  | _, _, 0, _ => .nil
  | _, _, _ + 1, .nil => .nil
  | _, _, n + 1, .cons h r => .cons h (r.take n)
theorem RVs.drop : ∀ {e : List EV} {v : List V} (n : Nat), RVs G μ H e v → RVs G μ H (e.drop n) (v.drop n)
  | _, _, 0, r => r
  | _, _, _ + 1, .nil => .nil
  | _, _, n + 1, .cons h r => r.drop n
theorem RVs.set {x : EV} {y : V} (h : RV G μ H x y) : ∀ {e : List EV} {v : List V} (n : Nat), RVs G μ H e v → RVs G μ H (e.set n x) (v.set n y)
  | _, _, _, .nil => .nil
  | _, _, 0, .cons _ r => .cons h r
  | _, _, n + 1, .cons q r => .cons q (r.set h n)
theorem RVs.reverse {e : List EV} {v : List V} (h : RVs G μ H e v) : RVs G μ H e.reverse v.reverse := by
  induction h using RVs.rec (motive_1 := fun _ _ _ => True) with
  | n => trivial
  | b => trivial
  | i => trivial
  | s => trivial
  | t => trivial
  | l => trivial
  | f => trivial
  | y => trivial
  | nil => exact .nil
  | cons h r _ ih =>
    rw [List.reverse_cons, List.reverse_cons]
    exact RVs.append ih (.cons h .nil)

/-! ### stores: a new object, a written one -/
theorem RS'.ix (r : RS' G μ H st) {l : Nat} (h : l < st.n) : ∃ a, μ[l]? = some a := by
  have : l < μ.length := by rw [r.n]; exact h
  exact ⟨_, List.getElem?_eq_getElem this⟩
theorem RS'.lt (r : RS' G μ H st) {l : Nat} {a : Addr} (h : μ[l]? = some a) : l < st.n := by
  rw [← r.n]
  exact (List.getElem?_eq_some_iff.mp h).1
theorem RS'.inj (r : RS' G μ H st) {l m : Nat} {a : Addr} (h : μ[l]? = some a) (h' : μ[m]? = some a) : l = m := by
  obtain ⟨h1, e1⟩ := List.getElem?_eq_some_iff.mp h
  obtain ⟨h2, e2⟩ := List.getElem?_eq_some_iff.mp h'
  have nd := List.pairwise_iff_getElem.mp r.nd
  rcases Nat.lt_trichotomy l m with q | q | q
  · exact absurd (e1.trans e2.symm) (nd l m h1 h2 q)
  · exact q
  · exact absurd (e2.trans e1.symm) (nd m l h2 h1 q)
theorem RO.mono (x : Ext μ H μ' H') (n : NoTup μ H) {a : Addr} {o : O} (r : RO G μ H a o) (e : H' a = H a) : RO G μ' H' a o := by
  cases o with
  | l xs => obtain ⟨vs, h, q⟩ := r; exact ⟨vs, e.trans h, q.mono x n⟩
  | d kvs =>
    rcases r with ⟨q, h, z⟩ | ⟨q, h, z⟩
    · exact .inl ⟨q, e.trans h, z.mono x n⟩
    · exact .inr ⟨q, e.trans h, z.mono x n⟩
  | z => exact r
  | o c fs => exact r
theorem RO.some (r : RO G μ H a o) : ∃ u, H a = some u ∧ Mut (some u) := by
  cases o with
  | l xs => obtain ⟨vs, h, q⟩ := r; exact ⟨_, h, trivial⟩
  | d kvs =>
    rcases r with ⟨q, h, z⟩ | ⟨q, h, z⟩
    · exact ⟨_, h, trivial⟩
    · exact ⟨_, h, trivial⟩
  | z => exact r.elim
  | o c fs => exact r.elim
/-- a new untracked thing of the layer beside the store: a tuple -/
theorem Ext.tup {p : Addr} {u : HO} (hp : H p = none) : Ext μ H μ (upd H p u) :=
  ⟨⟨[], by simp⟩, fun a o e => ⟨o, by rw [upd_ne (ne_of_none e hp)]; exact e⟩, fun a o e _ => by rw [upd_ne (ne_of_none e hp)]; exact e⟩
theorem RS'.tup (r : RS' G μ H st) {p : Addr} {u : HO} (hp : H p = none) : RS' G μ (upd H p u) st :=
  ⟨r.n, r.full, r.nd, fun l a h => by
    have q := r.at_ l a h
    obtain ⟨w, e, _⟩ := q.some
    exact q.mono (Ext.tup hp) r.notup (upd_ne (ne_of_none e hp))⟩
/-- a new object -/
theorem Ext.new {p : Addr} {u : HO} (hp : H p = none) : Ext μ H (μ ++ [p]) (upd H p u) :=
  ⟨⟨[p], rfl, fun q hq => by rw [List.mem_singleton.mp hq]; exact hp⟩, fun a o e => ⟨o, by rw [upd_ne (ne_of_none e hp)]; exact e⟩, fun a o e _ => by rw [upd_ne (ne_of_none e hp)]; exact e⟩
theorem RS'.new (r : RS' G μ H st) {p : Addr} {u : HO} {o : O} (hp : H p = none) (ho : RO G (μ ++ [p]) (upd H p u) p o) : RS' G (μ ++ [p]) (upd H p u) ⟨st.tr.set o st.n, st.n + 1⟩ := by
  have np : p ∉ μ := fun z => by
    obtain ⟨l, hl, e⟩ := List.getElem_of_mem z
    obtain ⟨w, e', _⟩ := (r.at_ l p (by rw [List.getElem?_eq_getElem hl, e])).some
    rw [hp] at e'; cases e'
  refine ⟨by simp [r.n], r.full.new, ?_, fun l a h => ?_⟩
  · rw [List.nodup_append]
    refine ⟨r.nd, by simp, fun a ha b hb e => ?_⟩
    rw [List.mem_singleton.mp hb] at e
    exact np (e ▸ ha)
  · show RO G _ _ a ((st.tr.set o st.n).get l)
    rw [r.full.get_set (Nat.le_refl _)]
    by_cases hl : l = st.n
    · rw [if_pos hl]
      have e : a = p := by
        rw [hl, ← r.n] at h
        simpa using h.symm
      rw [e]; exact ho
    · rw [if_neg hl]
      have hlt : l < μ.length := by
        have := (List.getElem?_eq_some_iff.mp h).1
        rw [List.length_append] at this
        have e := r.n
        simp at this
        omega
      rw [List.getElem?_append_left hlt] at h
      have q := r.at_ l a h
      obtain ⟨w, e, _⟩ := q.some
      exact q.mono (Ext.new hp) r.notup (upd_ne (ne_of_none e hp))
/-- a written object -/
theorem Ext.put {a : Addr} {u : HO} {o : HO} (ha : a ∈ μ) (e : H a = some o) : Ext μ H μ (upd H a u) :=
  ⟨⟨[], by simp⟩, fun b w q => by
    by_cases h : b = a
    · exact ⟨u, by rw [h, upd_same]⟩
    · exact ⟨w, by rw [upd_ne h]; exact q⟩, fun b w q n => by rw [upd_ne (fun z => n (by rw [z]; exact ha))]; exact q⟩
theorem RS'.put (r : RS' G μ H st) {l : Nat} {a : Addr} {u : HO} {o : O} (hl : μ[l]? = some a) (ho : RO G μ (upd H a u) a o) : RS' G μ (upd H a u) ⟨st.tr.set o l, st.n⟩ := by
  have lt := r.lt hl
  obtain ⟨w, e, _⟩ := (r.at_ l a hl).some
  refine ⟨r.n, r.full.set lt, r.nd, fun m b h => ?_⟩
  show RO G _ _ b ((st.tr.set o l).get m)
  rw [r.full.get_set (Nat.le_of_lt lt)]
  by_cases hm : m = l
  · subst hm
    rw [if_pos rfl]
    rw [hl] at h; cases h
    exact ho
  · rw [if_neg hm]
    have q := r.at_ m b h
    exact q.mono (Ext.put (List.mem_of_getElem? hl) e) r.notup (upd_ne fun z => hm (r.inj h (z ▸ hl)))
end

/-! ### locals -/
structure RR (G : Fix) (μ : List Addr) (H : Hp) (ρ : List EV) (σ : L2.St) : Prop where
  len : ρ.length = σ.length
  at_ : ∀ (i : Nat) (e : EV), ρ[i]? = some e → isU e = false → ∃ v, σ[i]? = some (some v) ∧ RV G μ H e v
section
variable {G : Fix} {μ μ1 μ2 μ' : List Addr} {H H1 H2 H' : Hp} {st st' : Sto} {ρ : List EV} {σ : L2.St}
theorem RR.mono (r : RR G μ H ρ σ) (x : Ext μ H μ' H') (n : NoTup μ H) : RR G μ' H' ρ σ := ⟨r.len, fun i e h u => by
  obtain ⟨v, h1, h2⟩ := r.at_ i e h u
  exact ⟨v, h1, h2.mono x n⟩⟩
theorem RR.set (r : RR G μ H ρ σ) {e : EV} {v : V} (h : RV G μ H e v) (i : Nat) : RR G μ H (ρ.set i e) (σ.set i (some v)) :=
  ⟨by simp [r.len], fun j x hj hu => by
    by_cases hi : i = j
    · subst hi
      have hlt : i < ρ.length := by
        have := (List.getElem?_eq_some_iff.mp hj).1
        simpa using this
      rw [List.getElem?_set_self hlt] at hj
      cases hj
      exact ⟨v, by rw [List.getElem?_set_self (by rw [← r.len]; exact hlt)], h⟩
    · rw [List.getElem?_set_ne hi] at hj ⊢
      exact r.at_ j x hj hu⟩
end

/-! ### what a result promises -/
/-- an exception: its class by its number, what it bears -/
abbrev EXK := Nat → EV → Sto → List Addr → Hp → Prop
def PostE (G : Fix) (μ : List Addr) (H : Hp) (r : R) (Q : VK) (E : EXK) : Prop := match r with
  | .ok v st => ∀ μ' H' w, Ext μ H μ' H' → RS' G μ' H' st → RV G μ' H' v w → Q w H'
  | .ex c p st => ∀ μ' H', Ext μ H μ' H' → RS' G μ' H' st → E c p st μ' H'
  | .no => False
def PostL (G : Fix) (μ : List Addr) (H : Hp) (r : RL) (Q : List V → Hp → Prop) (E : EXK) : Prop := match r with
  | .ok v st => ∀ μ' H' w, Ext μ H μ' H' → RS' G μ' H' st → RVs G μ' H' v w → Q w H'
  | .ex c p st => ∀ μ' H', Ext μ H μ' H' → RS' G μ' H' st → E c p st μ' H'
  | .no => False
def PostS (G : Fix) (μ : List Addr) (H : Hp) (r : RS) (D : Ends) (E : EXK) : Prop := match r with
  | .nx ρ st => ∀ μ' H' σ, Ext μ H μ' H' → RS' G μ' H' st → RR G μ' H' ρ σ → D.nx σ H'
  | .rt v st => ∀ μ' H' w, Ext μ H μ' H' → RS' G μ' H' st → RV G μ' H' v w → D.rt w H'
  | .bk ρ st => ∀ μ' H' σ, Ext μ H μ' H' → RS' G μ' H' st → RR G μ' H' ρ σ → D.bk σ H'
  | .ct ρ st => ∀ μ' H' σ, Ext μ H μ' H' → RS' G μ' H' st → RR G μ' H' ρ σ → D.ct σ H'
  | .ex c p st => ∀ μ' H', Ext μ H μ' H' → RS' G μ' H' st → E c p st μ' H'
  | .no => False
section
variable {G : Fix} {μ μ1 μ2 μ' : List Addr} {H H1 H2 H' : Hp} {st st' : Sto} {ρ : List EV} {σ : L2.St} {Q : VK} {E : EXK} {D : Ends}
theorem PostE.mono {r : R} (h : PostE G μ H r Q E) (x : Ext μ H μ1 H1) : PostE G μ1 H1 r Q E := by
  cases r with
  | ok v st => exact fun μ' H' w y => h μ' H' w (x.trans y)
  | ex c p st => exact fun μ' H' y => h μ' H' (x.trans y)
  | no => exact h
theorem PostL.mono {r : RL} {Q : List V → Hp → Prop} (h : PostL G μ H r Q E) (x : Ext μ H μ1 H1) : PostL G μ1 H1 r Q E := by
  cases r with
  | ok v st => exact fun μ' H' w y => h μ' H' w (x.trans y)
  | ex c p st => exact fun μ' H' y => h μ' H' (x.trans y)
  | no => exact h
theorem PostS.mono {r : RS} (h : PostS G μ H r D E) (x : Ext μ H μ1 H1) : PostS G μ1 H1 r D E := by
  cases r with
  | nx v st => exact fun μ' H' w y => h μ' H' w (x.trans y)
  | rt v st => exact fun μ' H' w y => h μ' H' w (x.trans y)
  | bk v st => exact fun μ' H' w y => h μ' H' w (x.trans y)
  | ct v st => exact fun μ' H' w y => h μ' H' w (x.trans y)
  | ex c p st => exact fun μ' H' y => h μ' H' (x.trans y)
  | no => exact h
/-- one run, then another that knows its value -/
theorem PostE.bind {r : R} {k : EV → Sto → R} (h : PostE G μ H (rB r k) Q E) :
    PostE G μ H r (fun w H1 => ∃ μ1 st v, Ext μ H μ1 H1 ∧ RS' G μ1 H1 st ∧ RV G μ1 H1 v w ∧ PostE G μ1 H1 (k v st) Q E) E := by
  cases r with
  | ok v st => exact fun μ' H' w x s q => ⟨μ', st, v, x, s, q, PostE.mono (r := k v st) h x⟩
  | ex c p st => exact h
  | no => exact h
theorem PostE.bindS {r : R} {k : EV → Sto → RS} (h : PostS G μ H (rBs r k) D E) :
    PostE G μ H r (fun w H1 => ∃ μ1 st v, Ext μ H μ1 H1 ∧ RS' G μ1 H1 st ∧ RV G μ1 H1 v w ∧ PostS G μ1 H1 (k v st) D E) E := by
  cases r with
  | ok v st => exact fun μ' H' w x s q => ⟨μ', st, v, x, s, q, PostS.mono (r := k v st) h x⟩
  | ex c p st => exact h
  | no => exact h
theorem PostE.bindL {r : R} {k : EV → Sto → RL} {Q : List V → Hp → Prop} (h : PostL G μ H (rBl r k) Q E) :
    PostE G μ H r (fun w H1 => ∃ μ1 st v, Ext μ H μ1 H1 ∧ RS' G μ1 H1 st ∧ RV G μ1 H1 v w ∧ PostL G μ1 H1 (k v st) Q E) E := by
  cases r with
  | ok v st => exact fun μ' H' w x s q => ⟨μ', st, v, x, s, q, PostL.mono (r := k v st) h x⟩
  | ex c p st => exact h
  | no => exact h
theorem PostL.bindL {r : RL} {k : List EV → Sto → RL} {Q : List V → Hp → Prop} (h : PostL G μ H (lB r k) Q E) :
    PostL G μ H r (fun w H1 => ∃ μ1 st v, Ext μ H μ1 H1 ∧ RS' G μ1 H1 st ∧ RVs G μ1 H1 v w ∧ PostL G μ1 H1 (k v st) Q E) E := by
  cases r with
  | ok v st => exact fun μ' H' w x s q => ⟨μ', st, v, x, s, q, PostL.mono (r := k v st) h x⟩
  | ex c p st => exact h
  | no => exact h
theorem PostL.bind {r : RL} {k : List EV → Sto → R} (h : PostE G μ H (rBL r k) Q E) :
    PostL G μ H r (fun w H1 => ∃ μ1 st v, Ext μ H μ1 H1 ∧ RS' G μ1 H1 st ∧ RVs G μ1 H1 v w ∧ PostE G μ1 H1 (k v st) Q E) E := by
  cases r with
  | ok v st => exact fun μ' H' w x s q => ⟨μ', st, v, x, s, q, PostE.mono (r := k v st) h x⟩
  | ex c p st => exact h
  | no => exact h
theorem PostL.bindS {r : RL} {k : List EV → Sto → RS} (h : PostS G μ H (rBLs r k) D E) :
    PostL G μ H r (fun w H1 => ∃ μ1 st v, Ext μ H μ1 H1 ∧ RS' G μ1 H1 st ∧ RVs G μ1 H1 v w ∧ PostS G μ1 H1 (k v st) D E) E := by
  cases r with
  | ok v st => exact fun μ' H' w x s q => ⟨μ', st, v, x, s, q, PostS.mono (r := k v st) h x⟩
  | ex c p st => exact h
  | no => exact h
theorem PostS.bindS {r : RS} {k : List EV → Sto → RS} (h : PostS G μ H (sBd r k) D E) :
    PostS G μ H r { D with nx := fun σ H1 => ∃ μ1 st ρ, Ext μ H μ1 H1 ∧ RS' G μ1 H1 st ∧ RR G μ1 H1 ρ σ ∧ PostS G μ1 H1 (k ρ st) D E } E := by
  cases r with
  | nx ρ st => exact fun μ' H' w x s q => ⟨μ', st, ρ, x, s, q, PostS.mono (r := k ρ st) h x⟩
  | rt v st => exact h
  | bk v st => exact h
  | ct v st => exact h
  | ex c p st => exact h
  | no => exact h
end
end L3

set_option Elab.async false
set_option linter.all false
set_option maxRecDepth 100000
set_option maxHeartbeats 4000000
/-! L3: expressions: variables, constants, operators, lists of arguments, and, or, not, if, tests. -/
noncomputable section
namespace L3
open PySem PySem.Spec PyProof.Rows L2

/-! ### readings of runs -/
section
variable (G : Fix) (E : EXK) (cal : Cal)
def T (m : ES) : TE := fun σ H Q => ∃ μ ρ st, RS' G μ H st ∧ RR G μ H ρ σ ∧ PostE G μ H (m cal ρ st) Q E
def TL (m : LS) : TA := fun σ H Q => ∃ μ ρ st, RS' G μ H st ∧ RR G μ H ρ σ ∧ PostL G μ H (m cal ρ st) Q E
/-- a test: the value's truth -/
def PostT (μ : List Addr) (H : Hp) (r : R) (Q : Bool → Hp → Prop) : Prop := match r with
  | .ok v st => ∀ μ' H' w, Ext μ H μ' H' → RS' G μ' H' st → RV G μ' H' v w → b3 (truth st v) (Q false H') (Q true H') False
  | .ex c p st => ∀ μ' H', Ext μ H μ' H' → RS' G μ' H' st → E c p st μ' H'
  | .no => False
def TT' (m : ES) : TT := fun σ H Q => ∃ μ ρ st, RS' G μ H st ∧ RR G μ H ρ σ ∧ PostT G E μ H (m cal ρ st) Q
def TS' (m : SS) : TS := fun D σ H => ∃ μ ρ st, RS' G μ H st ∧ RR G μ H ρ σ ∧ PostS G μ H (m cal ρ st) D E
def exOf (E' : XK) : EXK := fun c p st μ' H' => match p with
  | .n => E' (.ref (G.cad c)) none H'
  | p => ∀ d w, H' d = none → RV G μ' H' p w → E' (.ref (G.cad c)) (some d) (upd H' d (.xd [(G.xat c, w)]))
end

/-! ### where code stands -/
structure SC where
  N : List Str
  sc : Scope
  /-- a comprehension's own scope -/
  blk : Option Scope
structure Good (G : Fix) (P : Program) (w : World) (mg : Str → Option Value) (base : Heap) (k : Nat) (c : SC) (E : EXK) (X : Cx) : Prop where
  pr : X.prog = P
  wo : X.w = w
  kk : X.K = G.K
  mm : X.mg = mg
  bb : X.base = base
  nn : X.N = c.N
  sc : X.env.scope = c.sc
  calm : X.calm = true
  nd : X.N.Nodup
  room : Room k X.A
  own : PassesOwn (model X.prog X.w) X.A X.env X.xe
  pass : ∃ E' : XK, Passes (CX P w) X E' ∧ ∀ c p st μ H, E c p st μ H → exOf G E' c p st μ H
  fn : X.fn = fun x => match c.blk with
    | none => true
    | some s => s.names.lookup x == some .cell
theorem _root_.L2.PE.impL {X : Cx} {e : Expr} {t t' : TE} (h : PE X e t) (i : ∀ σ H Q, t' σ H Q → t σ H Q) : PE X e t' := ⟨fun pins s σ H Q I hw => h.run pins s σ H Q I (i σ H Q hw)⟩
theorem _root_.L2.PT.impL {X : Cx} {e : Expr} {t t' : TT} (h : PT X e t) (i : ∀ σ H Q, t' σ H Q → t σ H Q) : PT X e t' := ⟨fun pins s σ H Q I hw => h.run pins s σ H Q I (i σ H Q hw)⟩
theorem _root_.L2.PW.impL {X : Cx} {e : Expr} {t t' : TT} (h : PW X e t) (i : ∀ σ H Q, t' σ H Q → t σ H Q) : PW X e t' := ⟨fun wh pins s σ H Q I hw => h.run wh pins s σ H Q I (i σ H Q hw)⟩
theorem _root_.L2.PA.impL {X : Cx} {es : List Expr} {t t' : TA} (h : PA X es t) (i : ∀ σ H Q, t' σ H Q → t σ H Q) : PA X es t' := ⟨fun p pins s σ H Q I hw => h.run p pins s σ H Q I (i σ H Q hw)⟩
theorem _root_.L2.PS.impL {X : Cx} {e : Stmt} {t t' : TS} (h : PS X e t) (i : ∀ D σ H, t' D σ H → t D σ H) : PS X e t' := ⟨fun pins s σ H D I hw => h.run pins s σ H D I (i D σ H hw)⟩
theorem _root_.L2.PSs.impL {X : Cx} {e : List Stmt} {t t' : TS} (h : PSs X e t) (i : ∀ D σ H, t' D σ H → t D σ H) : PSs X e t' := ⟨fun pins s σ H D I hw => h.run pins s σ H D I (i D σ H hw)⟩

/-! ### small facts of the evaluator -/
theorem nth_eq {α β : Type} (no : α) : ∀ (xs : List β) (n : Nat) (k : β → α), nth no xs n k = match xs[n]? with
    | some x => k x
    | none => no
  | [], n, k => by simp [nth]
  | x :: r, 0, k => rfl
  | x :: r, n + 1, k => by
    have h := nth_eq no r n k
    show nth no r n k = _
    rw [h]
    simp
theorem ift_eq {α : Type} (b : Bool) (x y : α) : ift b x y = if b = true then x else y := by cases b <;> rfl
theorem lenA_eq {β : Type} : ∀ (xs : List β) (n : Nat), lenA xs n = xs.length + n
  | [], n => by simp [lenA]
  | x :: r, n => by
    show sN (n + 1) (lenA r) = _
    rw [sN_eq, lenA_eq r]
    simp; omega
theorem lenN_eq {β : Type} (xs : List β) : lenN xs = xs.length := lenA_eq xs 0
theorem app_eq {α β : Type} : ∀ (xs ys : List β) (k : List β → α), app xs ys k = k (xs ++ ys)
  | [], _, _ => rfl
  | x :: r, ys, k => app_eq r ys fun r => k (x :: r)
theorem fits_eq {α : Type} (n : Nat) (no k : α) : fits n no k = if n ≤ 16000000 then k else no := by
  unfold fits
  cases h : Nat.ble n 16000000 with
  | true => rw [if_pos (Nat.le_of_ble_eq_true h)]
  | false =>
    rw [if_neg (fun q => by rw [Nat.ble_eq_true_of_le q] at h; cases h)]
theorem putAt_eq {α β : Type} (v : β) : ∀ (xs : List β) (n : Nat) (k : List β → α), putAt v xs n k = k (xs.set n v)
  | [], _, _ => rfl
  | x :: r, 0, _ => rfl
  | x :: r, n + 1, k => putAt_eq v r n fun r' => k (x :: r')
theorem PostE.no {G : Fix} {μ : List Addr} {H : Hp} {Q : VK} {E : EXK} (h : PostE G μ H .no Q E) : False := h
theorem PostE.ok {G : Fix} {μ : List Addr} {H : Hp} {Q : VK} {E : EXK} {v : EV} {st : Sto} {w : V} (h : PostE G μ H (.ok v st) Q E) (s : RS' G μ H st) (r : RV G μ H v w) : Q w H := h μ H w .refl s r
theorem PostE.fits {G : Fix} {μ : List Addr} {H : Hp} {Q : VK} {E : EXK} {n : Nat} {r : R} (h : PostE G μ H (fits n .no r) Q E) : n ≤ 16000000 ∧ PostE G μ H r Q E := by
  rw [fits_eq] at h
  split at h
  · exact ⟨by assumption, h⟩
  · exact h.elim
theorem PostE.ift {G : Fix} {μ : List Addr} {H : Hp} {Q : VK} {E : EXK} {b : Bool} {r : R} (h : PostE G μ H (ift b r .no) Q E) : b = true ∧ PostE G μ H r Q E := by
  cases b with
  | true => exact ⟨rfl, h⟩
  | false => exact h.elim

section
variable {G : Fix} {P : Program} {w : World} {mg : Str → Option Value} {base : Heap} {k : Nat} {c : SC} {E : EXK} {cal : Cal} {X : Cx}

/-! ### variables, constants -/
def visB (sc : Scope) (x : Str) : Bool := match sc.names.lookup x with
  | some .local => true
  | some .cell => true
  | some .free => true
  | _ => false
theorem vis_of {sc : Scope} {x : Str} (h : visB sc x = true) : Vis sc x := by
  unfold visB at h
  unfold Vis
  split at h <;> rename_i e
  · exact .inl e
  · exact .inr (.inl e)
  · exact .inr (.inr e)
  · cases h
def plainN (x : Str) : Bool := !(x == ("__debug__" : Str)) && (!(x == ("__classdict__" : Str)) && !(x == ("__name__" : Str)))
theorem plainN_of {x : Str} (h : plainN x = true) : (x == ("__debug__" : Str)) = false ∧ (x == ("__classdict__" : Str)) = false ∧ x ≠ "__name__" := by
  unfold plainN at h
  simp only [Bool.and_eq_true, Bool.not_eq_true'] at h
  exact ⟨h.1, h.2.1, fun e => by rw [e] at h; exact absurd h.2.2 (by simp)⟩
theorem t_v (g : Good G P w mg base k c E X) {i : Nat} {x : Str} {pos : Pos} (hN : c.N[i]? = some x) (hv : visB c.sc x = true) (hp : plainN x = true) : PE X (.Name x pos) (T G E cal (cV i)) := by
  obtain ⟨p1, p2, _⟩ := plainN_of hp
  refine (pe_var (i := i) (by rw [g.nn]; exact hN) (by rw [g.sc]; exact vis_of hv) p1 p2).impL fun σ H Q ⟨μ, ρ, st, s, r, h⟩ => ?_
  have h : PostE G μ H (nth .no ρ i fun v => ift (isU v) .no (.ok v st)) Q E := h
  rw [nth_eq] at h
  cases e : ρ[i]? with
  | none => rw [e] at h; exact h.elim
  | some v =>
    rw [e] at h
    have h : PostE G μ H (ift (isU v) .no (.ok v st)) Q E := h
    cases u : isU v with
    | true => rw [u] at h; exact h.elim
    | false =>
      rw [u] at h
      obtain ⟨y, h1, h2⟩ := r.at_ i v e u
      exact ⟨y, h1, PostE.ok (v := v) h s h2⟩
/-- a constant, by the value that it always has -/
theorem t_k {e : Expr} {v : EV} {y : V} (h : PE X e (tC y)) (r : ∀ μ H, RV G μ H v y) : PE X e (T G E cal (cK v)) :=
  h.impL fun σ H Q ⟨μ, ρ, st, s, _, h⟩ => PostE.ok (v := v) h s (r μ H)

/-! ### operators by values -/
def Op1 (G : Fix) (E : EXK) (X : Cx) (f : Value → Sem Value) (p : P1) : Prop := UnR X f fun x H Q => ∃ μ st a, RS' G μ H st ∧ RV G μ H a x ∧ PostE G μ H (p a st) Q E
def Op2 (G : Fix) (E : EXK) (X : Cx) (f : Value → Value → Sem Value) (p : P2) : Prop := OpR X f fun x y H Q => ∃ μ st a b, RS' G μ H st ∧ RV G μ H a x ∧ RV G μ H b y ∧ PostE G μ H (p a b st) Q E
/-- by what the values are, a rule of the layer -/
theorem OpR.of {f : Value → Value → Sem Value} {r : R2} (h : ∀ x y H Q, r x y H Q → ∃ r' : R2, OpR X f r' ∧ r' x y H Q) : OpR X f r := fun pins s σ H x y v u Q I rx ry q =>
  let ⟨_, ho, q'⟩ := h x y H Q q
  ho pins s σ H x y v u Q I rx ry q'
/-- one expression, then what knows its value -/
theorem T.one {m : ES} {kk : EV → Sto → R} {σ : L2.St} {H : Hp} {Q : VK} (h : T G E cal (fun c ρ st => rB (m c ρ st) kk) σ H Q) :
    T G E cal m σ H (fun w H1 => ∃ μ st v, RS' G μ H1 st ∧ RV G μ H1 v w ∧ PostE G μ H1 (kk v st) Q E) := by
  obtain ⟨μ, ρ, st, s, r, h⟩ := h
  refine ⟨μ, ρ, st, s, r, ?_⟩
  have h := PostE.bind (r := m cal ρ st) h
  cases e : m cal ρ st with
  | ok v st1 =>
    rw [e] at h
    exact fun μ' H' y x s' q => let ⟨μ1, st2, v2, x2, s2, r2, p2⟩ := h μ' H' y x s' q; ⟨μ1, st2, v2, s2, r2, p2⟩
  | ex c p st1 => rw [e] at h; exact h
  | no => rw [e] at h; exact h
/-- .. where what follows runs further expressions with the same locals -/
theorem T.seq {m : ES} {kk : List EV → EV → Sto → R} {σ : L2.St} {H : Hp} {Q : VK} (h : T G E cal (fun c ρ st => rB (m c ρ st) (kk ρ)) σ H Q) :
    T G E cal m σ H (fun w H1 => ∃ μ ρ st v, RS' G μ H1 st ∧ RR G μ H1 ρ σ ∧ RV G μ H1 v w ∧ PostE G μ H1 (kk ρ v st) Q E) := by
  obtain ⟨μ, ρ, st, s, r, h⟩ := h
  refine ⟨μ, ρ, st, s, r, ?_⟩
  have h := PostE.bind (r := m cal ρ st) h
  cases e : m cal ρ st with
  | ok v st1 =>
    rw [e] at h
    exact fun μ' H' y x s' q => let ⟨μ1, st2, v2, x2, s2, r2, p2⟩ := h μ' H' y x s' q; ⟨μ1, ρ, st2, v2, s2, r.mono x2 s.notup, r2, p2⟩
  | ex c p st1 => rw [e] at h; exact h
  | no => rw [e] at h; exact h
theorem T.imp {m : ES} {σ : L2.St} {H : Hp} {Q Q' : VK} (h : T G E cal m σ H Q) (i : ∀ v H', Q v H' → Q' v H') : T G E cal m σ H Q' := by
  obtain ⟨μ, ρ, st, s, r, h⟩ := h
  refine ⟨μ, ρ, st, s, r, ?_⟩
  cases e : m cal ρ st with
  | ok v st1 => rw [e] at h; exact fun μ' H' y x s' q => i _ _ (h μ' H' y x s' q)
  | ex c p st1 => rw [e] at h; exact h
  | no => rw [e] at h; exact h
/-- two expressions, then a primitive -/
theorem T.two {a b : ES} {p : P2} {σ : L2.St} {H : Hp} {Q : VK} (h : T G E cal (c2 p a b) σ H Q) :
    T G E cal a σ H fun x H1 => T G E cal b σ H1 fun y H2 => ∃ μ st u v, RS' G μ H2 st ∧ RV G μ H2 u x ∧ RV G μ H2 v y ∧ PostE G μ H2 (p u v st) Q E := by
  refine (T.seq (kk := fun ρ x st => rB (b cal ρ st) fun y st => p x y st) h).imp fun x H1 ⟨μ, ρ, st, v, s, r, rv, q⟩ => ?_
  refine ⟨μ, ρ, st, s, r, ?_⟩
  have h := PostE.bind (r := b cal ρ st) q
  cases e : b cal ρ st with
  | ok u st1 =>
    rw [e] at h
    exact fun μ' H' y x s' q => let ⟨μ1, st2, v2, x2, s2, r2, p2⟩ := h μ' H' y x s' q; ⟨μ1, st2, v, v2, s2, rv.mono x2 s.notup, r2, p2⟩
  | ex c p st1 => rw [e] at h; exact h
  | no => rw [e] at h; exact h
theorem t_bin {op : Operator} {p : P2} {a b : Expr} {ma mb : ES} {pos : Pos} (ho : Op2 G E X (binaryOp op) p) (ha : PE X a (T G E cal ma)) (hb : PE X b (T G E cal mb)) : PE X (.BinOp a op b pos) (T G E cal (c2 p ma mb)) :=
  (pe_op ho ha hb).impL fun _ _ _ h => h.two
theorem t_un {op : UnaryOp} {p : P1} {a : Expr} {ma : ES} {pos : Pos} (ho : Op1 G E X (unaryOp op) p) (ha : PE X a (T G E cal ma)) : PE X (.UnaryOp op a pos) (T G E cal (c1 p ma)) :=
  (pe_un ho ha).impL fun _ _ _ h => T.one h
theorem t_cmp {op : CmpOp} {p : P2} {a b : Expr} {ma mb : ES} {pos : Pos} (ho : Op2 G E X (compareOp op) p) (ha : PE X a (T G E cal ma)) (hb : PE X b (T G E cal mb)) (hm : behindInMarks op b = false) : PE X (.Compare a [op] [b] pos) (T G E cal (c2 p ma mb)) :=
  (pe_cmpR ho ha hb hm).impL fun _ _ _ h => h.two

/-! ### truth -/
theorem truth_ok {μ : List Addr} {H : Hp} {st : Sto} {v : EV} {x : V} {b : Bool} (s : RS' G μ H st) (r : RV G μ H v x) (h : truth st v = .of b) : TruV G.K x H b := by
  cases r with
  | n => cases b with
    | true => cases (show B3.f = B3.t from h)
    | false => rfl
  | b y =>
    show b = y
    cases y <;> cases b <;> first | rfl | (cases (show B3.f = B3.t from h)) | (cases (show B3.t = B3.f from h))
  | i y =>
    have e : (!iEq y 0) = b := by
      have h : B3.of (!iEq y 0) = B3.of b := h
      cases hb : (!iEq y 0) <;> rw [hb] at h <;> cases b <;> first | rfl | (cases (show B3.f = B3.t from h)) | (cases (show B3.t = B3.f from h))
    show b = (y != 0)
    rw [← e]
    cases y with
    | ofNat n => cases n <;> rfl
    | negSucc n => rfl
  | s cs hl =>
    have hs : sizeLine = 16777216 := sizeLine_eq
    refine ⟨by show cs.toArray.size ≤ _; simp; omega, ?_⟩
    cases cs with
    | nil => cases b with
      | true => cases (show B3.f = B3.t from h)
      | false => rfl
    | cons z zs => cases b with
      | true =>
        show true = (((z :: zs).toArray.size : Int) != 0)
        simp
        omega
      | false => cases (show B3.t = B3.f from h)
  | @t xs a vs q r =>
    refine .inr (.inl ⟨vs, q.sq, ?_⟩)
    cases r with
    | nil => cases b with
      | true => cases (show B3.f = B3.t from h)
      | false => rfl
    | cons _ _ => cases b with
      | true => rfl
      | false => cases (show B3.t = B3.f from h)
  | @l l a q =>
    have o := s.at_ l a q
    have h : gOL B3.x (st.tr.get l) (fun xs => @List.rec EV (fun _ => B3) .f (fun _ _ _ => .t) xs) = .of b := h
    cases e : st.tr.get l with
    | l xs =>
      rw [e] at h o
      obtain ⟨vs, e1, r⟩ := o
      refine .inl ⟨vs, SqL.of e1, ?_⟩
      cases r with
      | nil => cases b with
        | true => cases (show B3.f = B3.t from h)
        | false => rfl
      | cons _ _ => cases b with
        | true => rfl
        | false => cases (show B3.t = B3.f from h)
    | d kvs => rw [e] at h; cases b <;> cases (show B3.x = _ from h)
    | z => rw [e] at o; exact o.elim
    | o c fs => rw [e] at o; exact o.elim
  | f k => cases b <;> cases (show B3.x = _ from h)
  | y k => cases b <;> cases (show B3.x = _ from h)
theorem b3_cases {b : B3} {p q : Prop} (h : b3 b p q False) : ∃ k : Bool, b = .of k ∧ (if k = true then q else p) := by
  cases b with
  | f => exact ⟨false, rfl, h⟩
  | t => exact ⟨true, rfl, h⟩
  | x => exact h.elim
/-- a plain expression's truth -/
theorem tt_of (g : Good G P w mg base k c E X) {e : Expr} {m : ES} (h : PE X e (T G E cal m)) (he : ∀ whole, isTrue e X.env whole = (do let v ← whole; standAt e.pos; holding [v] (truthy v))) : PT X e (TT' G E cal m) := by
  refine (pt_truth h he).impL fun σ H Q ⟨μ, ρ, st, s, r, h⟩ => ⟨μ, ρ, st, s, r, ?_⟩
  cases e : m cal ρ st with
  | ok v st1 =>
    rw [e] at h
    intro μ' H' y x s' q
    obtain ⟨kk, e1, e2⟩ := b3_cases (h μ' H' y x s' q)
    refine ⟨kk, by rw [g.kk]; exact truth_ok s' q e1, ?_⟩
    cases kk with
    | true => exact e2
    | false => exact e2
  | ex c p st1 => rw [e] at h; exact h
  | no => rw [e] at h; exact h
/-- a test of a value that is a bool -/
theorem PostT.bl {μ : List Addr} {H : Hp} {r : R} {Q : Bool → Hp → Prop} (h : PostT G E μ H r Q) (hb : ∀ v st, r = .ok v st → ∃ b, v = .b b) : PostE G μ H r (fun x H' => ∃ b, x = .bl b ∧ Q b H') E := by
  cases r with
  | ok v st =>
    intro μ' H' y x s' q
    obtain ⟨b, rfl⟩ := hb v st rfl
    cases q
    have z := h μ' H' _ x s' (.b b)
    exact ⟨b, rfl, by cases b <;> exact z⟩
  | ex c p st => exact h
  | no => exact h
end
end L3

set_option Elab.async false
set_option linter.all false
set_option maxRecDepth 100000
set_option maxHeartbeats 4000000
/-! L3: and, or, not, if, chains; arguments, displays; calls. -/
noncomputable section
namespace L3
open PySem PySem.Spec PyProof.Rows L2
section
variable {G : Fix} {P : Program} {w : World} {mg : Str → Option Value} {base : Heap} {k : Nat} {c : SC} {E : EXK} {cal : Cal} {X : Cx}
variable {μ μ1 μ' : List Addr} {H H1 H' : Hp} {st : Sto} {ρ : List EV} {σ : L2.St}

theorem PostT.mono {r : R} {Q : Bool → Hp → Prop} (h : PostT G E μ H r Q) (x : Ext μ H μ1 H1) : PostT G E μ1 H1 r Q := by
  cases r with
  | ok v st => exact fun μ' H' w y => h μ' H' w (x.trans y)
  | ex c p st => exact fun μ' H' y => h μ' H' (x.trans y)
  | no => exact h
/-- a value, then by its truth: as a test -/
theorem PostT.byT {r : R} {f t : EV → Sto → R} {Q : Bool → Hp → Prop} (h : PostT G E μ H (rB r fun v st => b3 (truth st v) (f v st) (t v st) .no) Q) :
    PostT G E μ H r (fun b H1 => ∃ μ1 st v y, Ext μ H μ1 H1 ∧ RS' G μ1 H1 st ∧ RV G μ1 H1 v y ∧ truth st v = .of b ∧ PostT G E μ1 H1 (if b = true then t v st else f v st) Q) := by
  cases r with
  | ok v st =>
    intro μ' H' y x s q
    have h : PostT G E μ H (b3 (truth st v) (f v st) (t v st) .no) Q := h
    cases e : truth st v with
    | f => rw [e] at h; exact ⟨μ', st, v, y, x, s, q, e, PostT.mono (r := f v st) h x⟩
    | t => rw [e] at h; exact ⟨μ', st, v, y, x, s, q, e, PostT.mono (r := t v st) h x⟩
    | x => rw [e] at h; exact h.elim
  | ex c p st => exact h
  | no => exact h
theorem PostT.byE {r : R} {f t : EV → Sto → R} {Q : VK} (h : PostE G μ H (rB r fun v st => b3 (truth st v) (f v st) (t v st) .no) Q E) :
    PostT G E μ H r (fun b H1 => ∃ μ1 st v y, Ext μ H μ1 H1 ∧ RS' G μ1 H1 st ∧ RV G μ1 H1 v y ∧ truth st v = .of b ∧ PostE G μ1 H1 (if b = true then t v st else f v st) Q E) := by
  cases r with
  | ok v st =>
    intro μ' H' y x s q
    have h : PostE G μ H (b3 (truth st v) (f v st) (t v st) .no) Q E := h
    cases e : truth st v with
    | f => rw [e] at h; exact ⟨μ', st, v, y, x, s, q, e, PostE.mono (r := f v st) h x⟩
    | t => rw [e] at h; exact ⟨μ', st, v, y, x, s, q, e, PostE.mono (r := t v st) h x⟩
    | x => rw [e] at h; exact h.elim
  | ex c p st => exact h
  | no => exact h
theorem PostT.byS {r : R} {f t : EV → Sto → RS} {D : Ends} (h : PostS G μ H (rBs r fun v st => b3 (truth st v) (f v st) (t v st) .no) D E) :
    PostT G E μ H r (fun b H1 => ∃ μ1 st v y, Ext μ H μ1 H1 ∧ RS' G μ1 H1 st ∧ RV G μ1 H1 v y ∧ truth st v = .of b ∧ PostS G μ1 H1 (if b = true then t v st else f v st) D E) := by
  cases r with
  | ok v st =>
    intro μ' H' y x s q
    have h : PostS G μ H (b3 (truth st v) (f v st) (t v st) .no) D E := h
    cases e : truth st v with
    | f => rw [e] at h; exact ⟨μ', st, v, y, x, s, q, e, PostS.mono (r := f v st) h x⟩
    | t => rw [e] at h; exact ⟨μ', st, v, y, x, s, q, e, PostS.mono (r := t v st) h x⟩
    | x => rw [e] at h; exact h.elim
  | ex c p st => exact h
  | no => exact h
/-- the same by the value: for rules that ask a value's truth -/
theorem PostE.byE {r : R} {f t : EV → Sto → R} {Q : VK} (h : PostE G μ H (rB r fun v st => b3 (truth st v) (f v st) (t v st) .no) Q E) :
    PostE G μ H r (fun y H1 => ∃ μ1 st v b, Ext μ H μ1 H1 ∧ RS' G μ1 H1 st ∧ RV G μ1 H1 v y ∧ truth st v = .of b ∧ PostE G μ1 H1 (if b = true then t v st else f v st) Q E) E := by
  cases r with
  | ok v st =>
    intro μ' H' y x s q
    have h : PostE G μ H (b3 (truth st v) (f v st) (t v st) .no) Q E := h
    cases e : truth st v with
    | f => rw [e] at h; exact ⟨μ', st, v, false, x, s, q, e, PostE.mono (r := f v st) h x⟩
    | t => rw [e] at h; exact ⟨μ', st, v, true, x, s, q, e, PostE.mono (r := t v st) h x⟩
    | x => rw [e] at h; exact h.elim
  | ex c p st => exact h
  | no => exact h

/-! ### not -/
theorem tt_not {a : Expr} {m : ES} {pos : Pos} (h : PT X a (TT' G E cal m)) : PT X (.UnaryOp .Not a pos) (TT' G E cal (cNot m)) := by
  refine (pt_not h).impL fun σ H Q ⟨μ, ρ, st, s, r, h⟩ => ⟨μ, ρ, st, s, r, ?_⟩
  have h := PostT.byT (r := m cal ρ st) (f := fun v st => .ok (.b true) st) (t := fun v st => .ok (.b false) st) h
  cases e : m cal ρ st with
  | ok v st1 =>
    rw [e] at h
    intro μ' H' y x s' q
    have h := h μ' H' y x s' q
    cases tv : truth st1 v with
    | x => rw [tv] at h; exact h.elim
    | f =>
      rw [tv] at h
      obtain ⟨μ1, st2, v2, y2, x2, s2, r2, e2, p2⟩ := h
      exact p2 μ1 H' _ .refl s2 (.b true)
    | t =>
      rw [tv] at h
      obtain ⟨μ1, st2, v2, y2, x2, s2, r2, e2, p2⟩ := h
      exact p2 μ1 H' _ .refl s2 (.b false)
  | ex c p st1 => rw [e] at h; exact h
  | no => rw [e] at h; exact h
theorem t_not (g : Good G P w mg base k c E X) {a : Expr} {m : ES} {pos : Pos} (h : PE X a (T G E cal m)) : PE X (.UnaryOp .Not a pos) (T G E cal (cNot m)) := by
  refine (pe_notT h).impL fun σ H Q ⟨μ, ρ, st, s, r, h⟩ => ⟨μ, ρ, st, s, r, ?_⟩
  have h := PostE.byE (r := m cal ρ st) (f := fun v st => .ok (.b true) st) (t := fun v st => .ok (.b false) st) h
  cases e : m cal ρ st with
  | ok v st1 =>
    rw [e] at h
    intro μ' H' y x s' q
    obtain ⟨μ1, st2, v2, b, x2, s2, r2, e2, p2⟩ := h μ' H' y x s' q
    refine ⟨b, by rw [g.kk]; exact truth_ok s2 r2 e2, ?_⟩
    cases b with
    | true => exact p2 μ1 H' _ .refl s2 (.b false)
    | false => exact p2 μ1 H' _ .refl s2 (.b true)
  | ex c p st1 => rw [e] at h; exact h
  | no => rw [e] at h; exact h

/-! ### and, or -/
theorem tw_one {op : BoolOp} {a : Expr} {m : ES} {pos : Pos} (h : PT X a (TT' G E cal m)) : PW X (.BoolOp op [a] pos) (TT' G E cal m) := by
  cases op with
  | And => exact pw_and1 h
  | Or => exact pw_or1 h
theorem tw_and {a b : Expr} {rest : List Expr} {m n : ES} {pos : Pos} (ha : PT X a (TT' G E cal m)) (hb : PW X (.BoolOp .And (b :: rest) pos) (TT' G E cal n)) : PW X (.BoolOp .And (a :: b :: rest) pos) (TT' G E cal (cAnd m n)) := by
  refine (pw_and ha hb).impL fun σ H Q ⟨μ, ρ, st, s, r, h⟩ => ⟨μ, ρ, st, s, r, ?_⟩
  have h := PostT.byT (r := m cal ρ st) (f := fun v st => .ok v st) (t := fun v st => n cal ρ st) h
  cases e : m cal ρ st with
  | ok v st1 =>
    rw [e] at h
    intro μ' H' y x s' q
    have h := h μ' H' y x s' q
    cases tv : truth st1 v with
    | x => rw [tv] at h; exact h.elim
    | f =>
      rw [tv] at h
      obtain ⟨μ1, st2, v2, y2, x2, s2, r2, e2, p2⟩ := h
      have z := p2 μ1 H' _ .refl s2 r2
      rw [e2] at z
      exact z
    | t =>
      rw [tv] at h
      obtain ⟨μ1, st2, v2, y2, x2, s2, r2, e2, p2⟩ := h
      exact ⟨μ1, ρ, st2, s2, r.mono x2 s.notup, p2⟩
  | ex c p st1 => rw [e] at h; exact h
  | no => rw [e] at h; exact h
theorem tw_or {a b : Expr} {rest : List Expr} {m n : ES} {pos : Pos} (ha : PT X a (TT' G E cal m)) (hb : PW X (.BoolOp .Or (b :: rest) pos) (TT' G E cal n)) : PW X (.BoolOp .Or (a :: b :: rest) pos) (TT' G E cal (cOr m n)) := by
  refine (pw_or ha hb).impL fun σ H Q ⟨μ, ρ, st, s, r, h⟩ => ⟨μ, ρ, st, s, r, ?_⟩
  have h := PostT.byT (r := m cal ρ st) (f := fun v st => n cal ρ st) (t := fun v st => .ok v st) h
  cases e : m cal ρ st with
  | ok v st1 =>
    rw [e] at h
    intro μ' H' y x s' q
    have h := h μ' H' y x s' q
    cases tv : truth st1 v with
    | x => rw [tv] at h; exact h.elim
    | t =>
      rw [tv] at h
      obtain ⟨μ1, st2, v2, y2, x2, s2, r2, e2, p2⟩ := h
      have z := p2 μ1 H' _ .refl s2 r2
      rw [e2] at z
      exact z
    | f =>
      rw [tv] at h
      obtain ⟨μ1, st2, v2, y2, x2, s2, r2, e2, p2⟩ := h
      exact ⟨μ1, ρ, st2, s2, r.mono x2 s.notup, p2⟩
  | ex c p st1 => rw [e] at h; exact h
  | no => rw [e] at h; exact h
theorem t_one {op : BoolOp} {a : Expr} {m : ES} {pos : Pos} (h : PE X a (T G E cal m)) : PE X (.BoolOp op [a] pos) (T G E cal m) := pe_one h
theorem t_and (g : Good G P w mg base k c E X) {a b : Expr} {rest : List Expr} {m n : ES} {pos : Pos} (ha : PE X a (T G E cal m)) (hb : PE X (.BoolOp .And (b :: rest) pos) (T G E cal n)) : PE X (.BoolOp .And (a :: b :: rest) pos) (T G E cal (cAnd m n)) := by
  refine (pe_andT ha hb).impL fun σ H Q ⟨μ, ρ, st, s, r, h⟩ => ⟨μ, ρ, st, s, r, ?_⟩
  have h := PostE.byE (r := m cal ρ st) (f := fun v st => .ok v st) (t := fun v st => n cal ρ st) h
  cases e : m cal ρ st with
  | ok v st1 =>
    rw [e] at h
    intro μ' H' y x s' q
    obtain ⟨μ1, st2, v2, b, x2, s2, r2, e2, p2⟩ := h μ' H' y x s' q
    refine ⟨b, by rw [g.kk]; exact truth_ok s2 r2 e2, ?_⟩
    cases b with
    | true => exact ⟨μ1, ρ, st2, s2, r.mono x2 s.notup, p2⟩
    | false => exact p2 μ1 H' _ .refl s2 r2
  | ex c p st1 => rw [e] at h; exact h
  | no => rw [e] at h; exact h
theorem t_or (g : Good G P w mg base k c E X) {a b : Expr} {rest : List Expr} {m n : ES} {pos : Pos} (ha : PE X a (T G E cal m)) (hb : PE X (.BoolOp .Or (b :: rest) pos) (T G E cal n)) : PE X (.BoolOp .Or (a :: b :: rest) pos) (T G E cal (cOr m n)) := by
  refine (pe_orT ha hb).impL fun σ H Q ⟨μ, ρ, st, s, r, h⟩ => ⟨μ, ρ, st, s, r, ?_⟩
  have h := PostE.byE (r := m cal ρ st) (f := fun v st => n cal ρ st) (t := fun v st => .ok v st) h
  cases e : m cal ρ st with
  | ok v st1 =>
    rw [e] at h
    intro μ' H' y x s' q
    obtain ⟨μ1, st2, v2, b, x2, s2, r2, e2, p2⟩ := h μ' H' y x s' q
    refine ⟨b, by rw [g.kk]; exact truth_ok s2 r2 e2, ?_⟩
    cases b with
    | true => exact p2 μ1 H' _ .refl s2 r2
    | false => exact ⟨μ1, ρ, st2, s2, r.mono x2 s.notup, p2⟩
  | ex c p st1 => rw [e] at h; exact h
  | no => rw [e] at h; exact h
/-! ### a if t else b -/
theorem t_ite {a b d : Expr} {m n l : ES} {pos : Pos} (hd : PT X d (TT' G E cal l)) (ha : PE X a (T G E cal m)) (hb : PE X b (T G E cal n)) : PE X (.IfExp d a b pos) (T G E cal (cIte l m n)) := by
  refine (pe_ifExp hd ha hb).impL fun σ H Q ⟨μ, ρ, st, s, r, h⟩ => ⟨μ, ρ, st, s, r, ?_⟩
  have h := PostT.byE (r := l cal ρ st) (f := fun v st => n cal ρ st) (t := fun v st => m cal ρ st) h
  cases e : l cal ρ st with
  | ok v st1 =>
    rw [e] at h
    intro μ' H' y x s' q
    have h := h μ' H' y x s' q
    cases tv : truth st1 v with
    | x => rw [tv] at h; exact h.elim
    | t =>
      rw [tv] at h
      obtain ⟨μ1, st2, v2, y2, x2, s2, r2, e2, p2⟩ := h
      exact ⟨μ1, ρ, st2, s2, r.mono x2 s.notup, p2⟩
    | f =>
      rw [tv] at h
      obtain ⟨μ1, st2, v2, y2, x2, s2, r2, e2, p2⟩ := h
      exact ⟨μ1, ρ, st2, s2, r.mono x2 s.notup, p2⟩
  | ex c p st1 => rw [e] at h; exact h
  | no => rw [e] at h; exact h

/-! ### comparisons as tests; primitives whose answers are bools -/
def Yes (p : P2) : Prop := ∀ a b st v st', p a b st = .ok v st' → ∃ z, v = .b z
theorem tt_cmp {op : CmpOp} {p : P2} {a b : Expr} {ma mb : ES} {pos : Pos} (hy : Yes p) (ho : Op2 G E X (compareOp op) p) (ha : PE X a (T G E cal ma)) (hb : PE X b (T G E cal mb)) (hm : behindInMarks op b = false) :
    PT X (.Compare a [op] [b] pos) (TT' G E cal (c2 p ma mb)) := by
  refine (pt_cmpR ho ha hb hm).impL fun σ H Q ⟨μ, ρ, st, s, r, h⟩ => T.two ⟨μ, ρ, st, s, r, ?_⟩
  refine PostT.bl h fun v st1 e => ?_
  have e : rB (ma cal ρ st) (fun x st => rB (mb cal ρ st) fun y st => p x y st) = .ok v st1 := e
  cases e1 : ma cal ρ st with
  | ok x st2 =>
    rw [e1] at e
    have e : rB (mb cal ρ st2) (fun y st => p x y st) = .ok v st1 := e
    cases e2 : mb cal ρ st2 with
    | ok y st3 => rw [e2] at e; exact hy _ _ _ _ _ e
    | ex c p st3 => rw [e2] at e; cases e
    | no => rw [e2] at e; cases e
  | ex c p st2 => rw [e1] at e; cases e
  | no => rw [e1] at e; cases e
theorem rB_ok {r : R} {kk : EV → Sto → R} {v : EV} {st' : Sto} (h : rB r kk = .ok v st') : ∃ x st, r = .ok x st ∧ kk x st = .ok v st' := by
  cases r with
  | ok x st => exact ⟨x, st, rfl, h⟩
  | ex c p st => cases h
  | no => cases h
/-! ### a op1 b op2 d -/
theorem chain_h {p q : P2} {ma mb md : ES} {Q : VK} (hp : Yes p) (h : T G E cal (cChain p q ma mb md) σ H Q) :
    tChain (fun x y H Q => ∃ μ st a b, RS' G μ H st ∧ RV G μ H a x ∧ RV G μ H b y ∧ PostE G μ H (p a b st) Q E) (fun x y H Q => ∃ μ st a b, RS' G μ H st ∧ RV G μ H a x ∧ RV G μ H b y ∧ PostE G μ H (q a b st) Q E) (T G E cal ma) (T G E cal mb) (T G E cal md) σ H Q := by
  refine (T.seq (kk := fun ρ x st => rB (mb cal ρ st) fun y st => rB (p x y st) fun v st => b3 (truth st v) (.ok v st) (rB (md cal ρ st) fun z st => q y z st) .no) h).imp fun x H1 ⟨μ, ρ, st, v, s, r, rv, h⟩ => ?_
  refine ⟨μ, ρ, st, s, r, ?_⟩
  have h := PostE.bind (r := mb cal ρ st) h
  cases e : mb cal ρ st with
  | ex c p st1 => rw [e] at h; exact h
  | no => rw [e] at h; exact h
  | ok u st1 =>
    rw [e] at h
    intro μ' H' y x' s' rq
    obtain ⟨μ1, st2, u2, x2, s2, r2, h⟩ := h μ' H' y x' s' rq
    refine ⟨μ1, st2, v, u2, s2, rv.mono x2 s.notup, r2, ?_⟩
    have ru2 := r2
    have h := PostE.byE (r := p v u2 st2) (f := fun v st => .ok v st) (t := fun v st => rB (md cal ρ st) fun z st => q u2 z st) h
    cases e2 : p v u2 st2 with
    | ex c p st3 => rw [e2] at h; exact h
    | no => rw [e2] at h; exact h
    | ok z st3 =>
      rw [e2] at h
      intro μ3 H3 zz x3 s3 r3
      obtain ⟨bz, rfl⟩ := hp _ _ _ _ _ e2
      obtain ⟨μ4, st4, v4, b, x4, s4, r4, e4, h⟩ := h μ3 H3 zz x3 s3 r3
      cases r3
      cases r4
      have eb : b = bz := by
        cases b <;> cases bz <;> first | rfl | (cases (show B3.f = B3.t from e4)) | (cases (show B3.t = B3.f from e4))
      subst eb
      refine ⟨b, rfl, ?_⟩
      cases b with
      | false => exact h μ4 H3 _ .refl s4 (.b false)
      | true =>
        refine ⟨μ4, ρ, st4, s4, (r.mono x2 s.notup).mono x4 s2.notup, ?_⟩
        have h := PostE.bind (r := md cal ρ st4) h
        cases e5 : md cal ρ st4 with
        | ex c p st5 => rw [e5] at h; exact h
        | no => rw [e5] at h; exact h
        | ok a5 st5 =>
          rw [e5] at h
          intro μ6 H6 y6 x6 s6 r6
          obtain ⟨μ7, st7, v7, x7, s7, r7, h⟩ := h μ6 H6 y6 x6 s6 r6
          exact ⟨μ7, st7, u2, v7, s7, (ru2.mono x4 s2.notup).mono x7 s4.notup, r7, h⟩
theorem t_chain {op op' : CmpOp} {p q : P2} {a b d : Expr} {ma mb md : ES} {pos : Pos} (hp : Yes p) (ho : Op2 G E X (compareOp op) p) (ho' : Op2 G E X (compareOp op') q) (ha : PE X a (T G E cal ma)) (hb : PE X b (T G E cal mb)) (hd : PE X d (T G E cal md))
    (hm : lastMarks [op, op'] [b, d] = false) : PE X (.Compare a [op, op'] [b, d] pos) (T G E cal (cChain p q ma mb md)) :=
  (pe_chain ho ho' ha hb hd hm).impL fun _ _ _ h => chain_h hp h
theorem tt_chain {op op' : CmpOp} {p q : P2} {a b d : Expr} {ma mb md : ES} {pos : Pos} (hp : Yes p) (hq : Yes q) (ho : Op2 G E X (compareOp op) p) (ho' : Op2 G E X (compareOp op') q) (ha : PE X a (T G E cal ma)) (hb : PE X b (T G E cal mb)) (hd : PE X d (T G E cal md))
    (hm : lastMarks [op, op'] [b, d] = false) : PT X (.Compare a [op, op'] [b, d] pos) (TT' G E cal (cChain p q ma mb md)) := by
  refine (pt_chain ho ho' ha hb hd hm).impL fun σ H Q ⟨μ, ρ, st, s, r, h⟩ => chain_h hp ⟨μ, ρ, st, s, r, ?_⟩
  refine PostT.bl h fun v st1 e => ?_
  obtain ⟨x, s1, _, e⟩ := rB_ok e
  obtain ⟨y, s2, _, e⟩ := rB_ok e
  obtain ⟨z, s3, ez, e⟩ := rB_ok e
  obtain ⟨bz, rfl⟩ := hp _ _ _ _ _ ez
  cases bz with
  | false => cases e; exact ⟨false, rfl⟩
  | true =>
    obtain ⟨u, s4, _, e⟩ := rB_ok e
    exact hq _ _ _ _ _ e

/-! ### arguments -/
def noStar : Expr → Bool
  | .Starred .. => false
  | _ => true
theorem starEach_cons {e : Expr} (h : noStar e = true) (es : List Expr) (env : Env) : starEach (e :: es) env = (false, eval e env) :: starEach es env := by
  cases e <;> first | rfl | (cases (show false = true from h))
theorem star_any : ∀ {es : List Expr} (h : es.all noStar = true) (pos : Pos) (env : Env), (backTo pos (starEach es env)).any (·.1) = false
  | [], _, _, _ => rfl
  | e :: es, h, pos, env => by
    obtain ⟨h1, h2⟩ := Bool.and_eq_true_iff.mp (show (noStar e && es.all noStar) = true from h)
    rw [starEach_cons h1]
    cases es with
    | nil => rfl
    | cons e2 es2 =>
      have ih := star_any (es := e2 :: es2) h2 pos env
      obtain ⟨h3, h4⟩ := Bool.and_eq_true_iff.mp (show (noStar e2 && es2.all noStar) = true from h2)
      rw [starEach_cons h3] at ih ⊢
      show (false || (backTo pos ((false, eval e2 env) :: starEach es2 env)).any (·.1)) = false
      rw [ih]
      rfl
theorem tl_nil : PA X [] (TL G E cal lNil) := pa_nil.impL fun σ H Q ⟨μ, ρ, st, s, r, h⟩ => h μ H _ .refl s .nil
theorem tl_cons {e : Expr} {es : List Expr} {m : ES} {l : LS} (hn : noStar e = true) (h : PE X e (T G E cal m)) (hl : PA X es (TL G E cal l)) : PA X (e :: es) (TL G E cal (lCons m l)) := by
  refine (pa_cons h hl (starEach_cons hn es X.env)).impL fun σ H Q ⟨μ, ρ, st, s, r, h⟩ => ⟨μ, ρ, st, s, r, ?_⟩
  have h := PostE.bindL (r := m cal ρ st) h
  cases e1 : m cal ρ st with
  | ex c p st1 => rw [e1] at h; exact h
  | no => rw [e1] at h; exact h
  | ok v st1 =>
    rw [e1] at h
    intro μ' H' y x' s' rq
    obtain ⟨μ1, st2, v2, x2, s2, r2, h⟩ := h μ' H' y x' s' rq
    refine ⟨μ1, ρ, st2, s2, r.mono x2 s.notup, ?_⟩
    have h := PostL.bindL (r := l cal ρ st2) h
    cases e2 : l cal ρ st2 with
    | ex c p st3 => rw [e2] at h; exact h
    | no => rw [e2] at h; exact h
    | ok vs st3 =>
      rw [e2] at h
      intro μ3 H3 ys x3 s3 r3
      obtain ⟨μ4, st4, v4, x4, s4, r4, h⟩ := h μ3 H3 ys x3 s3 r3
      exact h μ4 H3 _ .refl s4 (.cons (r2.mono x4 s2.notup) r4)
theorem TL.bind {l : LS} {kk : List EV → Sto → R} {Q : VK} (h : T G E cal (fun c ρ st => rBL (l c ρ st) kk) σ H Q) :
    TL G E cal l σ H (fun ws H1 => ∃ μ st vs, RS' G μ H1 st ∧ RVs G μ H1 vs ws ∧ PostE G μ H1 (kk vs st) Q E) := by
  obtain ⟨μ, ρ, st, s, r, h⟩ := h
  refine ⟨μ, ρ, st, s, r, ?_⟩
  have h := PostL.bind (r := l cal ρ st) h
  cases e : l cal ρ st with
  | ok v st1 =>
    rw [e] at h
    exact fun μ' H' y x s' q => let ⟨μ1, st2, v2, x2, s2, r2, p2⟩ := h μ' H' y x s' q; ⟨μ1, st2, v2, s2, r2, p2⟩
  | ex c p st1 => rw [e] at h; exact h
  | no => rw [e] at h; exact h
/-- a new tuple, a new list -/
theorem new_tup {vs : List EV} {ws : List V} {Q : VK} (s : RS' G μ H st) (r : RVs G μ H vs ws) (h : PostE G μ H (.ok (.t vs) st) Q E) {p : Addr} (hp : H p = none) : Q (.ref p) (upd H p (.tup ws)) :=
  h μ _ _ (Ext.tup hp) (s.tup hp) (.t (.inl upd_same) (r.mono (Ext.tup hp) s.notup))
theorem new_lst {vs : List EV} {ws : List V} {Q : VK} (s : RS' G μ H st) (r : RVs G μ H vs ws) (h : PostE G μ H (st.new (.l vs) fun p st => .ok (.l p) st) Q E) {p : Addr} (hp : H p = none) : Q (.ref p) (upd H p (.lst ws)) := by
  rw [Sto.new_eq] at h
  refine h (μ ++ [p]) _ _ (Ext.new hp) (s.new hp ⟨ws, upd_same, r.mono (Ext.new hp) s.notup⟩) (.l ?_)
  rw [← s.n]
  simp
theorem fits_line {n : Nat} (h : n ≤ 16000000) : n ≤ sizeLine := by rw [sizeLine_eq]; omega
theorem t_tup {es : List Expr} {l : LS} {x1 : Nat} {pos : Pos} (h : PA X es (TL G E cal l)) : PE X (.Tuple es x1 pos) (T G E cal (cTup l)) := by
  refine (pe_tup h).impL fun σ H Q h => ?_
  obtain ⟨μ, ρ, st, s, r, h⟩ := TL.bind h
  refine ⟨μ, ρ, st, s, r, ?_⟩
  cases e : l cal ρ st with
  | ex c p st1 => rw [e] at h; exact h
  | no => rw [e] at h; exact h
  | ok vs st1 =>
    rw [e] at h
    intro μ' H' ws x s' q
    obtain ⟨μ1, st2, v2, s2, r2, h⟩ := h μ' H' ws x s' q
    obtain ⟨h1, h2⟩ := PostE.fits h
    rw [lenN_eq, r2.length] at h1
    exact ⟨fits_line h1, fun p hp => new_tup s2 r2 h2 hp⟩
theorem t_lst {es : List Expr} {l : LS} {pos : Pos} (h : PA X es (TL G E cal l)) : PE X (.List es pos) (T G E cal (cLst l)) := by
  refine (pe_lst h).impL fun σ H Q h => ?_
  obtain ⟨μ, ρ, st, s, r, h⟩ := TL.bind h
  refine ⟨μ, ρ, st, s, r, ?_⟩
  cases e : l cal ρ st with
  | ex c p st1 => rw [e] at h; exact h
  | no => rw [e] at h; exact h
  | ok vs st1 =>
    rw [e] at h
    intro μ' H' ws x s' q
    obtain ⟨μ1, st2, v2, s2, r2, h⟩ := h μ' H' ws x s' q
    obtain ⟨h1, h2⟩ := PostE.fits h
    rw [lenN_eq, r2.length] at h1
    exact ⟨fits_line h1, fun p hp => new_lst s2 r2 h2 hp⟩
end
end L3

set_option Elab.async false
set_option linter.all false
set_option maxRecDepth 100000
set_option maxHeartbeats 4000000
/-! L3: calls of the text's own defs. -/
noncomputable section
namespace L3
open PySem PySem.Spec PyProof.Rows L2

/-! ### what a def promises: what the run says -/
def spC (G : Fix) (cal : Cal) (f : Nat) : Sp := fun vs H Q E' => ∃ μ st evs, RS' G μ H st ∧ RVs G μ H evs vs ∧ PostE G μ H (cal f evs st) Q (exOf G E')
/-- the values in the parameters' order -/
def permG {α : Type} (pm : List Nat) (xs : List α) : List α := pm.filterMap fun i => xs[i]?
/-- the parameters are given by n places, then by the names ks; pm tells where each one stands -/
def kwM (qs : List Str) : List Str → List Nat → Bool
  | [], [] => true
  | p :: ps, i :: pm => decide (qs[i]? = some p) && kwM qs ps pm
  | _, _ => false
def ndB : List Str → Bool
  | [] => true
  | x :: r => !(r.contains x) && ndB r
def kwC (ps : List Str) (n : Nat) (ks : List Str) (pm : List Nat) : Bool := decide (n ≤ ps.length) && (ndB (ps.take n ++ ks) && (ks.all (fun k => ps.contains k) && kwM (ps.take n ++ ks) ps pm))
/-- all that is asked of the text's own defs, at a level -/
structure CalOk (G : Fix) (P : Program) (w : World) (mg : Str → Option Value) (base : Heap) (k : Nat) (cal : Cal) (f : Nat) (ps : List Str) : Prop where
  fn : ∃ fd, FnOk P w G.K mg base (CX P w) k (G.fad f) fd ps (spC G cal f) ∧ Binds G.K fd ps [] ∧
    ∀ (n : Nat) (ks : List Str) (pm : List Nat), kwC ps n ks pm = true →
      KBn G.K fd ps n ks (fun us ws => permG pm (us ++ ws)) fun vs zs => permG pm (vs ++ zs)
  kp : PySem.W.keepIn G.K (.ref (G.fad f)) = true
theorem Vals.perm {vs : List V} {us : List Value} (h : Vals vs us) : ∀ pm : List Nat, Vals (permG pm vs) (permG pm us)
  | [] => .nil
  | i :: pm => by
    have ih := Vals.perm h pm
    unfold permG
    rw [List.filterMap_cons, List.filterMap_cons]
    cases e : vs[i]? with
    | none => rw [h.none_of e]; exact ih
    | some v =>
      obtain ⟨u, e1, e2⟩ := h.get e
      rw [e1]
      exact .cons e2 ih
section
variable {G : Fix} {P : Program} {w : World} {mg : Str → Option Value} {base : Heap} {k : Nat} {c : SC} {E : EXK} {cal : Cal} {X : Cx}
variable {μ μ1 μ' : List Addr} {H H1 H' : Hp} {st : Sto} {ρ : List EV} {σ : L2.St}

theorem PostE.impE {r : R} {Q : VK} {E' : EXK} (h : PostE G μ H r Q E) (i : ∀ c p st μ H, E c p st μ H → E' c p st μ H) : PostE G μ H r Q E' := by
  cases r with
  | ok v st => exact h
  | ex c p st => exact fun μ' H' x s => i _ _ _ _ _ (h μ' H' x s)
  | no => exact h
theorem TL.cons {m : ES} {l : LS} {Q : List V → Hp → Prop} (h : TL G E cal (lCons m l) σ H Q) : T G E cal m σ H fun x H1 => TL G E cal l σ H1 fun xs H2 => Q (x :: xs) H2 := by
  obtain ⟨μ, ρ, st, s, r, h⟩ := h
  refine ⟨μ, ρ, st, s, r, ?_⟩
  have h := PostE.bindL (r := m cal ρ st) h
  cases e1 : m cal ρ st with
  | ex c p st1 => rw [e1] at h; exact h
  | no => rw [e1] at h; exact h
  | ok v st1 =>
    rw [e1] at h
    intro μ' H' y x' s' rq
    obtain ⟨μ1, st2, v2, x2, s2, r2, h⟩ := h μ' H' y x' s' rq
    refine ⟨μ1, ρ, st2, s2, r.mono x2 s.notup, ?_⟩
    have h := PostL.bindL (r := l cal ρ st2) h
    cases e2 : l cal ρ st2 with
    | ex c p st3 => rw [e2] at h; exact h
    | no => rw [e2] at h; exact h
    | ok vs st3 =>
      rw [e2] at h
      intro μ3 H3 ys x3 s3 r3
      obtain ⟨μ4, st4, v4, x4, s4, r4, h⟩ := h μ3 H3 ys x3 s3 r3
      exact h μ4 H3 _ .refl s4 (.cons (r2.mono x4 s2.notup) r4)
theorem TL.nil {Q : List V → Hp → Prop} (h : TL G E cal lNil σ H Q) : Q [] H := let ⟨μ, ρ, st, s, r, h⟩ := h; h μ H _ .refl s .nil
theorem TL.imp {l : LS} {Q Q' : List V → Hp → Prop} (h : TL G E cal l σ H Q) (i : ∀ v H', Q v H' → Q' v H') : TL G E cal l σ H Q' := by
  obtain ⟨μ, ρ, st, s, r, h⟩ := h
  refine ⟨μ, ρ, st, s, r, ?_⟩
  cases e : l cal ρ st with
  | ok v st1 => rw [e] at h; exact fun μ' H' y x s' q => i _ _ (h μ' H' y x s' q)
  | ex c p st1 => rw [e] at h; exact h
  | no => rw [e] at h; exact h

/-! ### f(e, ..) -/
theorem call_h (g : Good G P w mg base k c E X) {f : Nat} {l : LS} {Q : VK} {E' : XK} (hE : ∀ c p st μ H, E c p st μ H → exOf G E' c p st μ H) (h : T G E cal (cCall f l) σ H Q) : tCall (spC G cal f) [] E' (TL G E cal l) σ H Q := by
  refine (TL.bind (kk := fun vs st => cal f vs st) h).imp fun ws H1 ⟨μ, st, vs, s, r, h⟩ => ?_
  rw [List.append_nil]
  exact ⟨μ, st, vs, s, r, h.impE hE⟩
theorem t_call0 (g : Good G P w mg base k c E X) {f : Nat} {ps : List Str} (ck : CalOk G P w mg base k cal f ps) {x : Str} {p pos : Pos} (hx : c.sc.names.lookup x = some .globalImplicit) (hp : plainN x = true) (hm : mg x = some (.ref (G.fad f))) :
    PE X (.Call (.Name x p) [] [] pos) (T G E cal (cCall f lNil)) := by
  obtain ⟨fd, F, B, _⟩ := ck.fn
  obtain ⟨E', hP, hE⟩ := g.pass
  have hg : Gl X x := by
    show X.env.scope.names.lookup x = _
    rw [g.sc]; exact hx
  obtain ⟨p1, p2, p3⟩ := plainN_of hp
  have F' : FnOk X.prog X.w X.K X.mg X.base (CX P w) k (G.fad f) fd ps (spC G cal f) := by rw [g.pr, g.wo, g.kk, g.mm, g.bb]; exact F
  have B' : Binds X.K fd ps [] := by rw [g.kk]; exact B
  have K' : PySem.W.keepIn X.K (.ref (G.fad f)) = true := by rw [g.kk]; exact ck.kp
  have M' : X.mg x = some (.ref (G.fad f)) := by rw [g.mm]; exact hm
  refine (pe_call0 F' g.room hg M' K' B' .nil hP p1).impL fun σ H Q q => ?_
  have q2 : TL G E cal lNil σ H fun ws H1 => spC G cal f (ws ++ []) H1 Q E' := call_h g hE q
  exact TL.nil q2
theorem t_call (g : Good G P w mg base k c E X) {f : Nat} {ps : List Str} (ck : CalOk G P w mg base k cal f ps) {x : Str} {e : Expr} {es : List Expr} {l : LS} {p pos : Pos} (hx : c.sc.names.lookup x = some .globalImplicit) (hp : plainN x = true) (hm : mg x = some (.ref (G.fad f)))
    (hn : (e :: es).all noStar = true) (h : PA X (e :: es) (TL G E cal l)) : PE X (.Call (.Name x p) (e :: es) [] pos) (T G E cal (cCall f l)) := by
  obtain ⟨fd, F, B, _⟩ := ck.fn
  obtain ⟨E', hP, hE⟩ := g.pass
  have hg : Gl X x := by
    show X.env.scope.names.lookup x = _
    rw [g.sc]; exact hx
  obtain ⟨p1, p2, p3⟩ := plainN_of hp
  have F' : FnOk X.prog X.w X.K X.mg X.base (CX P w) k (G.fad f) fd ps (spC G cal f) := by rw [g.pr, g.wo, g.kk, g.mm, g.bb]; exact F
  have B' : Binds X.K fd ps [] := by rw [g.kk]; exact B
  have K' : PySem.W.keepIn X.K (.ref (G.fad f)) = true := by rw [g.kk]; exact ck.kp
  have M' : X.mg x = some (.ref (G.fad f)) := by rw [g.mm]; exact hm
  obtain ⟨h1, h2⟩ := Bool.and_eq_true_iff.mp (show (noStar e && es.all noStar) = true from hn)
  exact (pe_call F' g.room hg M' K' B' .nil hP h p1 (starEach_cons h1 es X.env) (star_any h2 pos X.env)).impL fun σ H Q q => call_h g hE q

/-! ### f(e, .., k = v, ..) -/
/-- .. with the values' number -/
def TN (G : Fix) (E : EXK) (cal : Cal) (n : Nat) (l : LS) : TA := fun σ H Q => TL G E cal l σ H fun zs H2 => zs.length = n → Q zs H2
theorem pkl_nil : PK X [] (TN G E cal 0 lNil) := ⟨fun pos pins s σ H Q I h => pk_nil.run pos pins s σ H Q I ((TL.nil h) rfl)⟩
theorem pkl_cons {e : Expr} {kws : List Keyword} {m : ES} {l : LS} {nm : Option Str} {kpos : Pos} {n : Nat} (h : PE X e (T G E cal m)) (hl : PK X kws (TN G E cal n l)) : PK X (⟨nm, e, kpos⟩ :: kws) (TN G E cal (n + 1) (lCons m l)) :=
  ⟨fun pos pins s σ H Q I q => (pk_cons h hl).run pos pins s σ H Q I ((TL.cons q).imp fun x H1 q1 => q1.imp fun xs H2 q2 e => q2 (by simp [e]))⟩
theorem pal_nil : PA X [] (TN G E cal 0 lNil) := ⟨fun pos pins s σ H Q I h => pa_nil.run pos pins s σ H Q I ((TL.nil h) rfl)⟩
theorem pal_cons {e : Expr} {es : List Expr} {m : ES} {l : LS} {n : Nat} (hn : noStar e = true) (h : PE X e (T G E cal m)) (hl : PA X es (TN G E cal n l)) : PA X (e :: es) (TN G E cal (n + 1) (lCons m l)) :=
  ⟨fun pos pins s σ H Q I q => (pa_cons h hl (starEach_cons hn es X.env)).run pos pins s σ H Q I ((TL.cons q).imp fun x H1 q1 => q1.imp fun xs H2 q2 e => q2 (by simp [e]))⟩
/-- the keywords' names -/
def kwNames : List Keyword → Option (List Str)
  | [] => some []
  | ⟨some n, _, _⟩ :: r => (kwNames r).map (n :: ·)
  | _ => none
theorem kw_facts : ∀ {kws : List Keyword} {ks : List Str} (h : kwNames kws = some ks) (pos : Pos) (env : Env), (backToKw pos (keywordEach kws env)).all (·.1.isSome) = true ∧ (backToKw pos (keywordEach kws env)).filterMap (·.1) = ks ∧ (backToKw pos (keywordEach kws env)).any (·.1.isNone) = false ∧ ks.length = kws.length
  | [], ks, h, pos, env => by
    cases h
    exact ⟨rfl, rfl, rfl, rfl⟩
  | ⟨some n, e, p⟩ :: r, ks, h, pos, env => by
    cases q : kwNames r with
    | none => rw [show kwNames (⟨some n, e, p⟩ :: r) = (kwNames r).map (n :: ·) from rfl, q] at h; cases h
    | some ks' =>
      rw [show kwNames (⟨some n, e, p⟩ :: r) = (kwNames r).map (n :: ·) from rfl, q] at h
      cases h
      obtain ⟨h1, h2, h3, h4⟩ := kw_facts q pos env
      refine ⟨?_, ?_, ?_, by simp [h4]⟩
      · show ((true : Bool) && (backToKw pos (keywordEach r env)).all (·.1.isSome)) = true
        rw [h1]; rfl
      · show n :: (backToKw pos (keywordEach r env)).filterMap (·.1) = _
        rw [h2]
      · show ((false : Bool) || (backToKw pos (keywordEach r env)).any (·.1.isNone)) = false
        rw [h3]; rfl
  | ⟨none, e, p⟩ :: r, ks, h, pos, env => by cases h
theorem permK_eq : ∀ (pm : List Nat) (vs : List EV) (kk : List EV → R), permK vs pm kk = (if pm.all (fun i => decide (i < vs.length)) = true then kk (permG pm vs) else .no)
  | [], vs, kk => rfl
  | i :: pm, vs, kk => by
    show nth R.no vs i (fun v => permK vs pm fun r => kk (v :: r)) = _
    rw [nth_eq]
    unfold permG
    rw [List.filterMap_cons]
    cases e : vs[i]? with
    | none =>
      have : ¬ i < vs.length := by
        intro h
        rw [List.getElem?_eq_getElem h] at e; cases e
      simp [this]
    | some v =>
      have : i < vs.length := (List.getElem?_eq_some_iff.mp e).1
      show permK vs pm (fun r => kk (v :: r)) = _
      rw [permK_eq pm vs]
      simp [this, permG]
theorem RVs.perm {vs : List EV} {ws : List V} (h : RVs G μ H vs ws) : ∀ pm : List Nat, RVs G μ H (permG pm vs) (permG pm ws)
  | [] => .nil
  | i :: pm => by
    have ih := RVs.perm h pm
    unfold permG
    rw [List.filterMap_cons, List.filterMap_cons]
    cases e : vs[i]? with
    | none =>
      have : ws[i]? = none := by
        rw [List.getElem?_eq_none_iff] at e ⊢
        rw [← h.length]; exact e
      rw [this]; exact ih
    | some v =>
      obtain ⟨u, e1, e2⟩ := h.get e
      rw [e1]
      exact .cons e2 ih
theorem TL.bind2 {l j : LS} {kk : List EV → List EV → Sto → R} {Q : VK} (h : T G E cal (fun c ρ st => rBL (l c ρ st) fun vs st => rBL (j c ρ st) fun zs st => kk vs zs st) σ H Q) :
    TL G E cal l σ H fun ws H1 => TL G E cal j σ H1 fun ys H2 => ∃ μ st vs zs, RS' G μ H2 st ∧ RVs G μ H2 vs ws ∧ RVs G μ H2 zs ys ∧ PostE G μ H2 (kk vs zs st) Q E := by
  obtain ⟨μ, ρ, st, s, r, h⟩ := h
  refine ⟨μ, ρ, st, s, r, ?_⟩
  have h := PostL.bind (r := l cal ρ st) (k := fun vs st => rBL (j cal ρ st) fun zs st => kk vs zs st) h
  cases e : l cal ρ st with
  | ex c p st1 => rw [e] at h; exact h
  | no => rw [e] at h; exact h
  | ok v st1 =>
    rw [e] at h
    intro μ' H' y x s' q
    obtain ⟨μ1, st2, v2, x2, s2, r2, h⟩ := h μ' H' y x s' q
    refine ⟨μ1, ρ, st2, s2, r.mono x2 s.notup, ?_⟩
    have h := PostL.bind (r := j cal ρ st2) h
    cases e2 : j cal ρ st2 with
    | ex c p st1 => rw [e2] at h; exact h
    | no => rw [e2] at h; exact h
    | ok v3 st3 =>
      rw [e2] at h
      intro μ3 H3 y3 x3 s3 q3
      obtain ⟨μ4, st4, v4, x4, s4, r4, h⟩ := h μ3 H3 y3 x3 s3 q3
      exact ⟨μ4, st4, v2, v4, s4, r2.mono x4 s2.notup, r4, h⟩
theorem callK_h (g : Good G P w mg base k c E X) {f n m : Nat} {l j : LS} {pm : List Nat} {Q : VK} {E' : XK} (hE : ∀ c p st μ H, E c p st μ H → exOf G E' c p st μ H) (h : T G E cal (cCallK f l j pm) σ H Q) :
    tCallN n m (spC G cal f) (fun vs zs => permG pm (vs ++ zs)) E' (TN G E cal n l) (TN G E cal m j) σ H Q := by
  refine (TL.bind2 (kk := fun vs zs st => app vs zs fun vs => permK vs pm fun vs => cal f vs st) h).imp fun ws H1 h e1 => h.imp fun ys H2 ⟨μ, st, vs, zs, s, r, rz, h⟩ e2 => ⟨e1, e2, ?_⟩
  rw [app_eq, permK_eq] at h
  split at h
  · exact ⟨μ, st, _, s, (r.append rz).perm pm, h.impE hE⟩
  · exact h.elim
theorem t_callK (g : Good G P w mg base k c E X) {f : Nat} {ps : List Str} (ck : CalOk G P w mg base k cal f ps) {x : Str} {e : Expr} {es : List Expr} {kws : List Keyword} {ks : List Str} {l j : LS} {pm : List Nat} {p pos : Pos} (hx : c.sc.names.lookup x = some .globalImplicit) (hp : plainN x = true) (hm : mg x = some (.ref (G.fad f)))
    (hn : (e :: es).all noStar = true) (h : PA X (e :: es) (TN G E cal (es.length + 1) l)) (hk : PK X kws (TN G E cal kws.length j)) (hks : kwNames kws = some ks)
    (hb : kwC ps (es.length + 1) ks pm = true) :
    PE X (.Call (.Name x p) (e :: es) kws pos) (T G E cal (cCallK f l j pm)) := by
  obtain ⟨fd, F, B, N⟩ := ck.fn
  have N := N (es.length + 1) ks pm hb
  obtain ⟨E', hP, hE⟩ := g.pass
  have hg : Gl X x := by
    show X.env.scope.names.lookup x = _
    rw [g.sc]; exact hx
  obtain ⟨p1, p2, p3⟩ := plainN_of hp
  have F' : FnOk X.prog X.w X.K X.mg X.base (CX P w) k (G.fad f) fd ps (spC G cal f) := by rw [g.pr, g.wo, g.kk, g.mm, g.bb]; exact F
  have N' : KBn X.K fd ps (es.length + 1) ks (fun us ws => permG pm (us ++ ws)) fun vs zs => permG pm (vs ++ zs) := by rw [g.kk]; exact N
  have K' : PySem.W.keepIn X.K (.ref (G.fad f)) = true := by rw [g.kk]; exact ck.kp
  have M' : X.mg x = some (.ref (G.fad f)) := by rw [g.mm]; exact hm
  obtain ⟨h1, h2⟩ := Bool.and_eq_true_iff.mp (show (noStar e && es.all noStar) = true from hn)
  obtain ⟨k1, k2, k3, k4⟩ := kw_facts hks pos X.env
  refine (pe_callN F' g.room hg M' K' N' hP h hk k1 k2 p1 (starEach_cons h1 es X.env) (by rw [star_any hn pos X.env, k3]; rfl)).impL fun σ H Q q => ?_
  rw [k4]
  exact callK_h g hE q
/-- f(k = v, ..) -/
theorem t_callK0 (g : Good G P w mg base k c E X) {f : Nat} {ps : List Str} (ck : CalOk G P w mg base k cal f ps) {x : Str} {kws : List Keyword} {ks : List Str} {j : LS} {pm : List Nat} {p pos : Pos} (hx : c.sc.names.lookup x = some .globalImplicit) (hp : plainN x = true) (hm : mg x = some (.ref (G.fad f)))
    (hk : PK X kws (TN G E cal kws.length j)) (hks : kwNames kws = some ks)
    (hb : kwC ps 0 ks pm = true) :
    PE X (.Call (.Name x p) [] kws pos) (T G E cal (cCallK f lNil j pm)) := by
  obtain ⟨fd, F, B, N⟩ := ck.fn
  have N := N 0 ks pm hb
  obtain ⟨E', hP, hE⟩ := g.pass
  have hg : Gl X x := by
    show X.env.scope.names.lookup x = _
    rw [g.sc]; exact hx
  obtain ⟨p1, p2, p3⟩ := plainN_of hp
  have F' : FnOk X.prog X.w X.K X.mg X.base (CX P w) k (G.fad f) fd ps (spC G cal f) := by rw [g.pr, g.wo, g.kk, g.mm, g.bb]; exact F
  have N' : KBn X.K fd ps 0 ks (fun us ws => permG pm (us ++ ws)) fun vs zs => permG pm (vs ++ zs) := by rw [g.kk]; exact N
  have K' : PySem.W.keepIn X.K (.ref (G.fad f)) = true := by rw [g.kk]; exact ck.kp
  have M' : X.mg x = some (.ref (G.fad f)) := by rw [g.mm]; exact hm
  obtain ⟨k1, k2, k3, k4⟩ := kw_facts hks pos X.env
  refine ⟨fun pins s σ H Q I q => ?_⟩
  have q := TL.nil (callK_h g (n := 0) (m := kws.length) hE q)
  have q := q rfl
  refine wpAny_Call_Name_kw (ld_glob I hg M' ?_ p1)
  refine PySem.W.callWith_KW0 (h₀ := X.base) I.ok.mod.kin K' k1 (thn (hk.run pos pins s σ H _ I q) fun ws s2 ⟨zs, H2, I2, rz, l1, l2, q2⟩ => ⟨I2.kIn, ?_⟩) (by rw [k3]; rfl)
  rw [k2]
  exact run_fnN F' g.room N' hP I2 .nil rz rfl (l2.trans k4.symm) q2
end
end L3

set_option Elab.async false
set_option linter.all false
set_option maxRecDepth 100000
set_option maxHeartbeats 4000000
/-! L3: targets, statements. -/
noncomputable section
namespace L3
open PySem PySem.Spec PyProof.Rows L2

/-! ### targets -/
/-- a target's run has no other end than going on -/
def NoRt (g : GS) : Prop := ∀ c v ρ st, match g c v ρ st with
  | .nx _ _ => True
  | .ex _ _ _ => True
  | .no => True
  | _ => False
/-- .. and never fails but by not being known -/
def Pure1 (g : GS) : Prop := ∀ c v ρ st, (∃ ρ', g c v ρ st = .nx ρ' st) ∨ g c v ρ st = .no
def PureL (l : GLS) (n : Nat) : Prop := ∀ c vs ρ st, (∃ ρ', l c vs ρ st = .nx ρ' st ∧ vs.length = n) ∨ l c vs ρ st = .no
/-- nothing but the slots sl is changed -/
def Off (sl : List Nat) (σ σ' : L2.St) : Prop := σ'.length = σ.length ∧ ∀ j, j ∉ sl → σ'[j]? = σ[j]?
def goE (Q : L2.St → Hp → Prop) : Ends := ⟨Q, fun _ _ => False, fun _ _ => False, fun _ _ => False⟩
section
variable (G : Fix) (E : EXK) (cal : Cal)
def TGd (g : GS) (sl : List Nat) : TG := fun v σ H Q => ∃ μ ρ st ev, RS' G μ H st ∧ RR G μ H ρ σ ∧ RV G μ H ev v ∧ PostS G μ H (g cal ev ρ st) (goE fun σ' H' => Off sl σ σ' → Q σ' H') E
def TGl (l : GLS) (sl : List Nat) : TGs := fun vs σ H Q => ∃ μ ρ st evs, RS' G μ H st ∧ RR G μ H ρ σ ∧ RVs G μ H evs vs ∧ PostS G μ H (l cal evs ρ st) (goE fun σ' H' => Off sl σ σ' → Q σ' H') E
end
theorem Off.refl {sl : List Nat} {σ : L2.St} : Off sl σ σ := ⟨rfl, fun _ _ => rfl⟩
theorem Off.trans {a b : List Nat} {σ σ1 σ2 : L2.St} (h : Off a σ σ1) (k : Off b σ1 σ2) : Off (a ++ b) σ σ2 :=
  ⟨k.1.trans h.1, fun j hj => (k.2 j fun z => hj (List.mem_append_right _ z)).trans (h.2 j fun z => hj (List.mem_append_left _ z))⟩
theorem Off.set {i : Nat} {σ : L2.St} {v : Option V} : Off [i] σ (σ.set i v) := ⟨by simp, fun j hj => by rw [List.getElem?_set_ne (fun e => hj (by simp [e]))]⟩
theorem Off.sub {a b : List Nat} {σ σ' : L2.St} (h : Off a σ σ') (s : ∀ i ∈ a, i ∈ b) : Off b σ σ' := ⟨h.1, fun j hj => h.2 j fun z => hj (s j z)⟩
theorem wipe_get (σ : L2.St) (j : Nat) : ∀ vs : List Nat, (L2.wipe σ vs)[j]? = if j ∈ vs ∧ j < σ.length then some none else σ[j]?
  | [] => by simp [L2.wipe]
  | v :: vs => by
    unfold L2.wipe
    by_cases e : v = j
    · subst e
      by_cases hl : v < σ.length
      · rw [List.getElem?_set_self (by rw [L2.wipe_length]; exact hl), if_pos ⟨by simp, hl⟩]
      · rw [if_neg (fun z => hl z.2), List.getElem?_eq_none (by simp [L2.wipe_length]; omega), List.getElem?_eq_none (by omega)]
    · rw [List.getElem?_set_ne e, wipe_get σ j vs]
      have e' : ¬ j = v := fun z => e z.symm
      simp [e']
theorem Off.wipe {vs : List Nat} {σ σ' : L2.St} (h : Off vs (L2.wipe σ vs) σ') : L2.wipe σ' vs = L2.wipe σ vs := by
  apply List.ext_getElem?
  intro j
  have hl : σ'.length = σ.length := by rw [h.1, L2.wipe_length]
  rw [wipe_get, wipe_get, hl]
  by_cases hj : j ∈ vs
  · by_cases hlt : j < σ.length
    · rw [if_pos ⟨hj, hlt⟩, if_pos ⟨hj, hlt⟩]
    · rw [if_neg (fun z => hlt z.2), if_neg (fun z => hlt z.2), List.getElem?_eq_none (by omega), List.getElem?_eq_none (by omega)]
  · rw [if_neg (fun z => hj z.1), if_neg (fun z => hj z.1), h.2 j hj, wipe_get, if_neg (fun z => hj z.1)]
section
variable {G : Fix} {P : Program} {w : World} {mg : Str → Option Value} {base : Heap} {k : Nat} {c : SC} {E : EXK} {cal : Cal} {X : Cx}
variable {μ μ1 μ' : List Addr} {H H1 H' : Hp} {st : Sto} {ρ : List EV} {σ : L2.St} {D : Ends}
theorem pureV (i : Nat) : Pure1 (gV i) := fun c v ρ st => .inl ⟨ρ.set i v, putAt_eq v ρ i _⟩
theorem pureNil : PureL gNil 0 := fun c vs ρ st => by
  cases vs with
  | nil => exact .inl ⟨ρ, rfl, rfl⟩
  | cons _ _ => exact .inr rfl
theorem pureCons {g : GS} {l : GLS} {n : Nat} (hg : Pure1 g) (hl : PureL l n) : PureL (gCons g l) (n + 1) := fun c vs ρ st => by
  cases vs with
  | nil => exact .inr rfl
  | cons v r =>
    show (∃ ρ', sBd (g c v ρ st) (fun ρ st => l c r ρ st) = .nx ρ' st ∧ _) ∨ sBd (g c v ρ st) (fun ρ st => l c r ρ st) = .no
    rcases hg c v ρ st with ⟨ρ1, e⟩ | e
    · rw [e]
      rcases hl c r ρ1 st with ⟨ρ2, e2, e3⟩ | e2
      · exact .inl ⟨ρ2, e2, by simp [e3]⟩
      · exact .inr e2
    · rw [e]; exact .inr rfl
theorem pureTup {l : GLS} {n : Nat} (hl : PureL l n) : Pure1 (gTup l) := fun c v ρ st => by
  cases v with
  | t xs =>
    rcases hl c xs ρ st with ⟨ρ1, e, _⟩ | e
    · exact .inl ⟨ρ1, e⟩
    · exact .inr e
  | _ => exact .inr rfl
theorem noRt_of {g : GS} (h : Pure1 g) : NoRt g := fun c v ρ st => by
  rcases h c v ρ st with ⟨ρ1, e⟩ | e <;> rw [e] <;> trivial
theorem noRt_sub {o i : ES} : NoRt (gSub o i) := fun c v ρ st => by
  show match rBs (o c ρ st) (fun o st => rBs (i c ρ st) fun i st => rBs (setIx o i v st) fun _ st => .nx ρ st) with
    | .nx _ _ => True
    | .ex _ _ _ => True
    | .no => True
    | _ => False
  cases o c ρ st with
  | ex c p st1 => trivial
  | no => trivial
  | ok x st1 =>
    show match rBs (i c ρ st1) (fun i st => rBs (setIx x i v st) fun _ st => .nx ρ st) with
      | .nx _ _ => True
      | .ex _ _ _ => True
      | .no => True
      | _ => False
    cases i c ρ st1 with
    | ex c p st1 => trivial
    | no => trivial
    | ok y st2 =>
      show match rBs (setIx x y v st2) (fun _ st => .nx ρ st) with
        | .nx _ _ => True
        | .ex _ _ _ => True
        | .no => True
        | _ => False
      cases setIx x y v st2 <;> trivial
theorem pg_v (g : Good G P w mg base k c E X) {i : Nat} {x : Str} {pos : Pos} (hN : c.N[i]? = some x) (hx : Loc c.sc x) (hf : X.fn x = true ∨ c.sc.names.lookup x = some .local) : PG X (.Name x pos) (TGd G E cal (gV i) [i]) := by
  have q : PG X (.Name x pos) (gName i) := pg_name g.nd (by rw [g.nn]; exact hN) (by rw [g.sc]; exact hx) (by rw [g.sc]; exact hf)
  refine ⟨fun pins s σ H v u Q I r h => q.run pins s σ H v u Q I r ?_⟩
  obtain ⟨μ, ρ, st, ev, s', r', rv, h⟩ := h
  have h : PostS G μ H (putAt ev ρ i fun ρ => .nx ρ st) (goE fun σ' H' => Off [i] σ σ' → Q σ' H') E := h
  rw [putAt_eq] at h
  exact h μ H _ .refl s' (r'.set rv i) Off.set
theorem pgl_nil : PGs X [] (TGl G E cal gNil []) := by
  refine ⟨fun pins s σ H vs us Q I r h => pgs_nil.run pins s σ H vs us Q I r ?_⟩
  obtain ⟨μ, ρ, st, evs, s', r', rv, h⟩ := h
  cases rv with
  | nil => exact ⟨rfl, h μ H σ .refl s' r' Off.refl⟩
  | cons _ _ => exact h.elim
theorem assignEach_cons {e : Expr} (h : noStar e = true) (es : List Expr) (env : Env) : assignEach (e :: es) env = (false, assign e env) :: assignEach es env := by
  cases e <;> first | rfl | (cases (show false = true from h))
theorem pgl_cons {e : Expr} {es : List Expr} {g : GS} {l : GLS} {a b : List Nat} (hs : noStar e = true) (hg : Pure1 g) (h1 : PG X e (TGd G E cal g a)) (h2 : PGs X es (TGl G E cal l b)) : PGs X (e :: es) (TGl G E cal (gCons g l) (a ++ b)) := by
  refine ⟨fun pins s σ H vs us Q I r h => (pgs_cons h1 h2 (by rw [assignEach_cons hs]; rfl)).run pins s σ H vs us Q I r ?_⟩
  obtain ⟨μ, ρ, st, evs, s', r', rv, h⟩ := h
  cases rv with
  | nil => exact h.elim
  | @cons ev v evs vs q rq =>
    refine ⟨v, vs, rfl, μ, ρ, st, ev, s', r', q, ?_⟩
    have h : PostS G μ H (sBd (g cal ev ρ st) fun ρ st => l cal evs ρ st) (goE fun σ' H' => Off (a ++ b) σ σ' → Q σ' H') E := h
    rcases hg cal ev ρ st with ⟨ρ1, e1⟩ | e1
    · rw [e1] at h ⊢
      intro μ' H' σ' x s2 r2 o2
      refine ⟨μ', ρ1, st, evs, s2, r2, rq.mono x s'.notup, ?_⟩
      have h := PostS.mono (r := l cal evs ρ1 st) h x
      cases e : l cal evs ρ1 st with
      | nx ρ3 st3 => rw [e] at h; exact fun μ3 H3 σ3 x3 s3 r3 o3 => h μ3 H3 σ3 x3 s3 r3 (o2.trans o3)
      | ex => rw [e] at h; exact h
      | no => rw [e] at h; exact h
      | rt => rw [e] at h; exact h
      | bk => rw [e] at h; exact h
      | ct => rw [e] at h; exact h
    · rw [e1] at h; exact h.elim
theorem assignEach_len (env : Env) : ∀ {es : List Expr}, (assignEach es env).length = es.length
  | [] => rfl
  | e :: es => by
    have ih := assignEach_len env (es := es)
    cases e <;> simp [assignEach, ih]
theorem assignEach_nostar (env : Env) : ∀ {es : List Expr}, es.all noStar = true → (assignEach es env).findIdx? (·.1) = none
  | [], _ => rfl
  | e :: es, h => by
    obtain ⟨h1, h2⟩ := Bool.and_eq_true_iff.mp (show (noStar e && es.all noStar) = true from h)
    rw [assignEach_cons h1, List.findIdx?_cons, assignEach_nostar env h2]
    rfl
theorem pg_t (g : Good G P w mg base k c E X) {es : List Expr} {l : GLS} {kk : Nat} {pos : Pos} {sl : List Nat} (hs : es.all noStar = true) (hl : PureL l es.length) (h : PGs X es (TGl G E cal l sl)) : PG X (.Tuple es kk pos) (TGd G E cal (L3.gTup l) sl) := by
  have q : PG X (.Tuple es kk pos) (L2.gTup X.K es.length (TGl G E cal l sl)) := pg_tup g.calm h (assignEach_len _) (assignEach_nostar _ hs)
  refine ⟨fun pins s σ H v u Q I r h => q.run pins s σ H v u Q I r ?_⟩
  obtain ⟨μ, ρ, st, ev, s', r', rv, h⟩ := h
  cases rv with
  | @t xs a vs hq rs =>
    refine ⟨a, vs, rfl, by rw [g.kk]; exact hq.sq, ?_, μ, ρ, st, xs, s', r', rs, h⟩
    have h : PostS G μ H (l cal xs ρ st) _ E := h
    rcases hl cal xs ρ st with ⟨_, _, e⟩ | e
    · rw [← rs.length]; exact e
    · rw [e] at h; exact h.elim
  | _ => exact h.elim
/-- o[i] = v, by values -/
def Set3 (G : Fix) (E : EXK) (X : Cx) : Prop := PSet X fun o i v H Q => ∃ μ st a b d, RS' G μ H st ∧ RV G μ H a o ∧ RV G μ H b i ∧ RV G μ H d v ∧ PostE G μ H (setIx a b d st) (fun _ H' => Q H') E
def isSlice : Expr → Bool
  | .Slice .. => true
  | _ => false
theorem assign_sub {o i : Expr} {pos : Pos} {env : Env} (h : isSlice i = false) (v : Value) : assign (.Subscript o i pos) env v = (do
      let ov ← holding [v] (eval o env)
      let iv ← holding [v, ov] (eval i env)
      standAt pos
      holding [v, ov, iv] (setItem ov iv v)
      release [v, ov, iv] []) := by
  cases i <;> first | rfl | (cases (show true = false from h))
end
section
variable {G : Fix} {P : Program} {w : World} {mg : Str → Option Value} {base : Heap} {k : Nat} {c : SC} {E : EXK} {cal : Cal} {X : Cx}
variable {μ μ1 μ' : List Addr} {H H1 H' : Hp} {st : Sto} {ρ : List EV} {σ : L2.St} {D : Ends}
/-- a run's value, then a statement that knows it (the locals as they were) -/
theorem runS {m : ES} {kk : EV → Sto → RS} {DD : Ends} {Q : VK} (s : RS' G μ H st) (r : RR G μ H ρ σ) (h : PostS G μ H (rBs (m cal ρ st) kk) DD E)
    (i : ∀ v H1 μ1 st1 ev, Ext μ H μ1 H1 → RS' G μ1 H1 st1 → RR G μ1 H1 ρ σ → RV G μ1 H1 ev v → PostS G μ1 H1 (kk ev st1) DD E → Q v H1) : T G E cal m σ H Q := by
  refine ⟨μ, ρ, st, s, r, ?_⟩
  have h := PostE.bindS (r := m cal ρ st) h
  cases e : m cal ρ st with
  | ok v st1 =>
    rw [e] at h
    exact fun μ' H' y x s' q => let ⟨μ1, st2, v2, x2, s2, r2, p2⟩ := h μ' H' y x s' q; i y H' μ1 st2 v2 x2 s2 (r.mono x2 s.notup) r2 p2
  | ex c p st1 => rw [e] at h; exact h
  | no => rw [e] at h; exact h
theorem pg_ix {o i : Expr} {mo mi : ES} {pos : Pos} (hset : Set3 G E X) (hs : isSlice i = false) (ho : PE X o (T G E cal mo)) (hi : PE X i (T G E cal mi)) : PG X (.Subscript o i pos) (TGd G E cal (L3.gSub mo mi) []) := by
  refine ⟨fun pins s σ H v u Q I r h => (pg_sub ho hi hset (assign_sub hs)).run pins s σ H v u Q I r ?_⟩
  obtain ⟨μ, ρ, st, ev, s', r', rv, h⟩ := h
  refine runS s' r' (kk := fun o st => rBs (mi cal ρ st) fun i st => rBs (setIx o i ev st) fun _ st => .nx ρ st) h fun ov H1 μ1 st1 eo x1 s1 r1 ro h => ?_
  refine runS s1 r1 (kk := fun i st => rBs (setIx eo i ev st) fun _ st => .nx ρ st) h fun iv H2 μ2 st2 ei x2 s2 r2 ri h => ?_
  refine ⟨μ2, st2, eo, ei, ev, s2, ro.mono x2 s1.notup, ri, (rv.mono x1 s'.notup).mono x2 s1.notup, ?_⟩
  have h := PostE.bindS (r := setIx eo ei ev st2) h
  cases e : setIx eo ei ev st2 with
  | ex => rw [e] at h; exact h
  | no => rw [e] at h; exact h
  | ok v3 st3 =>
    rw [e] at h
    intro μ' H' y x3 s3 q3
    obtain ⟨μ4, st4, v4, x4, s4, r4, h⟩ := h μ' H' y x3 s3 q3
    exact h μ4 H' σ .refl s4 (r2.mono x4 s2.notup) Off.refl

/-! ### statements -/
theorem ts_nil : PSs X [] (TS' G E cal sNil) := pss_nil.impL fun D σ H ⟨μ, ρ, st, s, r, h⟩ => h μ H σ .refl s r
theorem ts_cons {s1 : Stmt} {ss : List Stmt} {a b : SS} (h1 : PS X s1 (TS' G E cal a)) (h2 : PSs X ss (TS' G E cal b)) : PSs X (s1 :: ss) (TS' G E cal (sCons a b)) := by
  refine (pss_cons h1 h2).impL fun D σ H ⟨μ, ρ, st, s, r, h⟩ => ⟨μ, ρ, st, s, r, ?_⟩
  have h := PostS.bindS (r := a cal ρ st) (k := fun ρ st => b cal ρ st) h
  cases e : a cal ρ st with
  | nx ρ1 st1 =>
    rw [e] at h
    intro μ' H' σ' x s' r'
    obtain ⟨μ1, st2, ρ2, x2, s2, r2, p⟩ := h μ' H' σ' x s' r'
    exact ⟨μ1, ρ2, st2, s2, r2, p⟩
  | rt => rw [e] at h; exact h
  | bk => rw [e] at h; exact h
  | ct => rw [e] at h; exact h
  | ex => rw [e] at h; exact h
  | no => rw [e] at h; exact h
theorem ts_ret {e : Expr} {m : ES} {pos : Pos} (h : PE X e (T G E cal m)) : PS X (.Return (some e) pos) (TS' G E cal (sRet m)) := by
  refine (ps_ret h).impL fun D σ H ⟨μ, ρ, st, s, r, h⟩ => ⟨μ, ρ, st, s, r, ?_⟩
  have h : PostS G μ H (rBs (m cal ρ st) fun v st => .rt v st) D E := h
  cases e : m cal ρ st with
  | ok v st1 => rw [e] at h; exact h
  | ex => rw [e] at h; exact h
  | no => rw [e] at h; exact h
theorem ts_retN {pos : Pos} : PS X (.Return none pos) (TS' G E cal (sRet (cK .n))) := ps_retN.impL fun D σ H ⟨μ, ρ, st, s, r, h⟩ => h μ H _ .refl s .n
theorem ts_pass {pos : Pos} : PS X (.Pass pos) (TS' G E cal sNil) := ps_pass.impL fun D σ H ⟨μ, ρ, st, s, r, h⟩ => h μ H σ .refl s r
theorem ts_brk {pos : Pos} : PS X (.Break pos) (TS' G E cal sBrk) := ps_break.impL fun D σ H ⟨μ, ρ, st, s, r, h⟩ => h μ H σ .refl s r
theorem ts_cnt {pos : Pos} : PS X (.Continue pos) (TS' G E cal sCnt) := ps_continue.impL fun D σ H ⟨μ, ρ, st, s, r, h⟩ => h μ H σ .refl s r
/-- not a comprehension: its store is not swapped with it -/
def noComp : Expr → Bool
  | .ListComp .. => false
  | .SetComp .. => false
  | .DictComp .. => false
  | _ => true
theorem swaps_no {e : Expr} (h : noComp e = true) (t : Option Expr) (l : Nat) (env : Env) : swapsWith e t l env = pure false := by
  cases e <;> first | rfl | (cases (show false = true from h))
theorem ts_ex {e : Expr} {m : ES} {pos : Pos} (hn : noComp e = true) (h : PE X e (T G E cal m)) : PS X (.Expr e pos) (TS' G E cal (sEx m)) := by
  refine (ps_expr h (swaps_no hn _ _ _)).impL fun D σ H ⟨μ, ρ, st, s, r, h⟩ => runS s r h fun v H1 μ1 st1 ev x1 s1 r1 rv h => h μ1 H1 σ .refl s1 r1
theorem ts_doc {x j pos pos'} : PS X (.Expr (.Constant (.str x) j pos) pos') (TS' G E cal sNil) := ps_doc.impL fun D σ H ⟨μ, ρ, st, s, r, h⟩ => h μ H σ .refl s r
theorem ts_if {e : Expr} {a b : List Stmt} {m : ES} {ma mb : SS} {pos : Pos} (h : PT X e (TT' G E cal m)) (ha : PSs X a (TS' G E cal ma)) (hb : PSs X b (TS' G E cal mb)) : PS X (.If e a b pos) (TS' G E cal (sIf m ma mb)) := by
  refine (ps_if h ha hb).impL fun D σ H ⟨μ, ρ, st, s, r, h⟩ => ⟨μ, ρ, st, s, r, ?_⟩
  have h := PostT.byS (r := m cal ρ st) (f := fun v st => mb cal ρ st) (t := fun v st => ma cal ρ st) h
  cases e : m cal ρ st with
  | ex c p st1 => rw [e] at h; exact h
  | no => rw [e] at h; exact h
  | ok v st1 =>
    rw [e] at h
    intro μ' H' y x s' q
    have h := h μ' H' y x s' q
    cases tv : truth st1 v with
    | x => rw [tv] at h; exact h.elim
    | t =>
      rw [tv] at h
      obtain ⟨μ1, st2, v2, y2, x2, s2, r2, e2, p2⟩ := h
      exact ⟨μ1, ρ, st2, s2, r.mono x2 s.notup, p2⟩
    | f =>
      rw [tv] at h
      obtain ⟨μ1, st2, v2, y2, x2, s2, r2, e2, p2⟩ := h
      exact ⟨μ1, ρ, st2, s2, r.mono x2 s.notup, p2⟩
/-! ### while -/
def wLoop (c : Cal) (e : ES) (b : SS) (n : Nat) (ρ : List EV) (st : Sto) : RS :=
  @Nat.rec (fun _ => List EV → Sto → RS) (fun _ _ => .no) (fun _ ih ρ st => tstS (e c ρ st) (fun st => @RS.rec (fun _ => RS) ih RS.rt RS.nx ih RS.ex RS.no (b c ρ st)) fun st => .nx ρ st) n ρ st
theorem ts_whl (g : Good G P w mg base k c E X) {e : Expr} {b : List Stmt} {m : ES} {mb : SS} {pos : Pos} (h : PT X e (TT' G E cal m)) (hb : PSs X b (TS' G E cal mb)) : PS X (.While e b [] pos) (TS' G E cal (sWhl m mb)) := by
  refine (ps_while g.own h hb).impL fun D σ H ⟨μ, ρ, st, s, r, h⟩ => ?_
  refine ⟨fun n σ H => ∃ μ ρ st, RS' G μ H st ∧ RR G μ H ρ σ ∧ PostS G μ H (wLoop cal m mb n ρ st) D E, ⟨TURNS, μ, ρ, st, s, r, h⟩, ?_⟩
  rintro n σ H ⟨μ, ρ, st, s, r, h⟩
  cases n with
  | zero => exact h.elim
  | succ n =>
    refine ⟨μ, ρ, st, s, r, ?_⟩
    have h := PostT.byS (r := m cal ρ st) (f := fun v st => .nx ρ st) (t := fun v st => @RS.rec (fun _ => RS) (wLoop cal m mb n) RS.rt RS.nx (wLoop cal m mb n) RS.ex RS.no (mb cal ρ st)) h
    cases e : m cal ρ st with
    | ex c p st1 => rw [e] at h; exact h
    | no => rw [e] at h; exact h
    | ok v st1 =>
      rw [e] at h
      intro μ' H' y x s' q
      have h := h μ' H' y x s' q
      cases tv : truth st1 v with
      | x => rw [tv] at h; exact h.elim
      | f =>
        rw [tv] at h
        obtain ⟨μ1, st2, v2, y2, x2, s2, r2, e2, p2⟩ := h
        exact p2 μ1 H' σ .refl s2 (r.mono x2 s.notup)
      | t =>
        rw [tv] at h
        obtain ⟨μ1, st2, v2, y2, x2, s2, r2, e2, p2⟩ := h
        refine ⟨fun σ' H' => ∃ μ ρ st, RS' G μ H' st ∧ RR G μ H' ρ σ' ∧ PostS G μ H' (wLoop cal m mb n ρ st) D E, fun σ' H' z => ⟨n, Nat.lt_succ_self n, z⟩, μ1, ρ, st2, s2, r.mono x2 s.notup, ?_⟩
        have p2 : PostS G μ1 H' (@RS.rec (fun _ => RS) (wLoop cal m mb n) RS.rt RS.nx (wLoop cal m mb n) RS.ex RS.no (mb cal ρ st2)) D E := p2
        cases e3 : mb cal ρ st2 with
        | nx ρ3 st3 => rw [e3] at p2; exact fun μ3 H3 σ3 x3 s3 r3 => ⟨μ3, ρ3, st3, s3, r3, PostS.mono (r := wLoop cal m mb n ρ3 st3) p2 x3⟩
        | ct ρ3 st3 => rw [e3] at p2; exact fun μ3 H3 σ3 x3 s3 r3 => ⟨μ3, ρ3, st3, s3, r3, PostS.mono (r := wLoop cal m mb n ρ3 st3) p2 x3⟩
        | bk ρ3 st3 => rw [e3] at p2; exact p2
        | rt v3 st3 => rw [e3] at p2; exact p2
        | ex => rw [e3] at p2; exact p2
        | no => rw [e3] at p2; exact p2
/-! ### what is walked -/
inductive NX where
  | bad | fin | it (v : EV) (j : J)
inductive NB where
  | bad | fin | it (v : EV) (j : JB)
theorem nxB_eq {α : Type} (bad fin : α) (j : JB) (st : Sto) (kk : EV → JB → α) : nxB bad fin j st kk = match nxB NB.bad NB.fin j st NB.it with
    | .bad => bad
    | .fin => fin
    | .it v j => kk v j := by
  cases j with
  | ls a i =>
    show gOL bad (st.get a) (fun xs => nth fin xs i fun v => sN (i + 1) fun i => kk v (.ls a i)) = match gOL NB.bad (st.get a) (fun xs => nth NB.fin xs i fun v => sN (i + 1) fun i => NB.it v (.ls a i)) with
      | .bad => bad
      | .fin => fin
      | .it v j => kk v j
    cases st.get a with
    | l xs =>
      show nth fin xs i (fun v => sN (i + 1) fun i => kk v (.ls a i)) = match nth NB.fin xs i (fun v => sN (i + 1) fun i => NB.it v (.ls a i)) with
        | .bad => bad
        | .fin => fin
        | .it v j => kk v j
      rw [nth_eq, nth_eq]
      cases xs[i]? with
      | none => rfl
      | some v => simp only [sN_eq]
    | _ => rfl
  | ts xs => cases xs <;> rfl
  | rg i n =>
    cases n with
    | zero => rfl
    | succ n =>
      show sI (i + 1) (fun i' => kk (.i i) (.rg i' n)) = match sI (i + 1) (fun i' => NB.it (.i i) (.rg i' n)) with
        | .bad => bad
        | .fin => fin
        | .it v j => kk v j
      rw [sI_eq, sI_eq]
  | ss cs => cases cs <;> rfl
/-- two, by turns -/
theorem nxL2_eq {α : Type} (bad fin : α) (j1 j2 : JB) (st : Sto) (kk : List EV → List JB → α) : nxL bad fin [j1, j2] st kk = match nxB NB.bad NB.fin j1 st NB.it with
    | .bad => bad
    | .fin => (match nxB NB.bad NB.fin j2 st NB.it with
      | .bad => bad
      | .fin => fin
      | .it _ _ => fin)
    | .it v1 j1 => match nxB NB.bad NB.fin j2 st NB.it with
      | .bad => bad
      | .fin => fin
      | .it v2 j2 => kk [v1, v2] [j1, j2] := by
  show nxB bad (nxB bad fin j2 st fun _ _ => fin) j1 st (fun v j' => nxB bad fin j2 st fun v2 j2' => kk [v, v2] [j', j2']) = _
  rw [nxB_eq]
  cases nxB NB.bad NB.fin j1 st NB.it with
  | bad => rfl
  | fin =>
    show nxB bad fin j2 st (fun _ _ => fin) = _
    rw [nxB_eq]
  | it v1 j1 =>
    show nxB bad fin j2 st (fun v2 j2' => kk [v1, v2] [j1, j2']) = _
    rw [nxB_eq]
end
end L3

set_option Elab.async false
set_option linter.all false
set_option maxRecDepth 100000
set_option maxHeartbeats 4000000
/-! L3: enumerate and zip of lists and tuples in any mix, as they stand at each turn. -/
noncomputable section
namespace L3
open PySem PySem.Spec PyProof.Rows L2

/-! ### a list or a tuple (q) at an address -/
def bIt (q : Bool) (K : PySem.W.Frag) (l : Addr) : It := if q then Itt K l else Itl K l
def bSq (q : Bool) (K : PySem.W.Frag) (H : Hp) (l : Addr) (xs : List V) : Prop := if q then SqT K H l xs else SqL K H l xs
def isSq (q : Bool) (h : Heap) (l : Addr) (items : Array Value) : Prop := if q then h.IsTuple l items else h.IsList l items
def isIt (q : Bool) (h : Heap) (it l : Addr) (i : Nat) : Prop := if q then h.IsTupleIter it l i else h.IsListIter it l i
def itO (q : Bool) (l : Addr) : Obj := if q then { cls := .type "tuple_iterator", data := .fields #[.ref l, .int 0 0] } else { cls := .type "list_iterator", data := .fields #[.ref l, .int 0 0] }
theorem bDraws {prog : Program} {w : World} {A : Around} (q : Bool) (hh : A.handled = none) (it l : Addr) (hne : l ≠ it) (items : Array Value) : Draws prog w A it [it, l] items.size (fun i v => items[i]? = some v) (fun i h => isIt q h it l i ∧ isSq q h l items) := by
  cases q with
  | true => exact Draws.tuple hh it l hne items
  | false => exact Draws.list hh it l hne items
theorem bDrawsEnd {prog : Program} {w : World} {A : Around} (q : Bool) (hh : A.handled = none) (it l : Addr) (items : Array Value) (i : Nat) (hi : items[i]? = none) :
    Draws prog w A it [it, l] i (fun _ _ => False) (fun j h => j = i ∧ isIt q h it l j ∧ isSq q h l items) where
  live := fun _ _ st => by
    cases q with
    | true => obtain ⟨o, e, _⟩ := (st.2.1 : Heap.IsTupleIter _ it l _); exact ⟨o, e⟩
    | false => obtain ⟨o, e, _⟩ := (st.2.1 : Heap.IsListIter _ it l _); exact ⟨o, e⟩
  frame := fun _ _ _ st hk => by
    cases q with
    | true => exact ⟨st.1, Heap.IsTupleIter.at st.2.1 fun o e => hk it (by simp) o e, Heap.IsTuple.at st.2.2 fun o e => hk l (by simp) o e⟩
    | false => exact ⟨st.1, Heap.IsListIter.at st.2.1 fun o e => hk it (by simp) o e, Heap.IsList.at st.2.2 fun o e => hk l (by simp) o e⟩
  item := fun j s Q E hj st hQ => absurd st.1 (Nat.ne_of_lt hj)
  done := fun s Q E st hE => by
    cases q with
    | true => exact wpAny_nextOf_tuple_end hh st.2.1 st.2.2 hi hE
    | false => exact wpAny_nextOf_list_end hh st.2.1 st.2.2 hi hE
theorem bBegins (q : Bool) (l : Addr) (items : Array Value) : Begins (.ref l) (itO q l) fun h => isSq q h l items := by
  cases q with
  | true => exact begins_tuple l items
  | false => exact begins_list l items
theorem isIt.at {q : Bool} {h h' : Heap} {it l : Addr} {i : Nat} (x : isIt q h it l i) (k : ∀ o, h.get? it = some o → h'.get? it = some o) : isIt q h' it l i := by
  cases q with
  | true => exact Heap.IsTupleIter.at (h := h) x k
  | false => exact Heap.IsListIter.at (h := h) x k
theorem isIt.obj {q : Bool} {h : Heap} {it l : Addr} {i : Nat} (x : isIt q h it l i) : ∃ o, h.get? it = some o ∧ ∀ v, o.data ≠ .cell v := by
  cases q with
  | true => obtain ⟨o, e, _, d⟩ := (x : h.IsTupleIter it l i); exact ⟨o, e, fun v z => by rw [d] at z; cases z⟩
  | false => obtain ⟨o, e, _, d⟩ := (x : h.IsListIter it l i); exact ⟨o, e, fun v z => by rw [d] at z; cases z⟩
theorem isIt.new {q : Bool} {h : Heap} {it l : Addr} (x : h.get? it = some (itO q l)) : isIt q h it l 0 := by
  cases q with
  | true => exact ⟨_, x, rfl, rfl⟩
  | false => exact ⟨_, x, rfl, rfl⟩
theorem isSq.lt {q : Bool} {h : Heap} {l : Addr} {xs : Array Value} (x : isSq q h l xs) : l < h.objs.size := by
  cases q with
  | true => obtain ⟨o, e, _⟩ := (x : h.IsTuple l xs); exact Heap.lt_size e
  | false => obtain ⟨o, e, _⟩ := (x : h.IsList l xs); exact Heap.lt_size e
theorem bInv {X : Cx} {pins : List (Addr × Obj)} {σ : L2.St} {H : Hp} {s : Shared} (I : Inv X pins σ H s) {q : Bool} {l : Addr} {xs : List V} (h : bSq q X.K H l xs) : ∃ its, Vals xs its ∧ isSq q s.heap l its.toArray := by
  cases q with
  | true => obtain ⟨its, rv, p, _⟩ := I.tuple (a := l) (xs := xs) h; exact ⟨its, rv, p⟩
  | false => obtain ⟨its, rv, p, _⟩ := I.list (a := l) (xs := xs) h; exact ⟨its, rv, p.isList⟩
theorem bInj {X : Cx} {pins : List (Addr × Obj)} {σ : L2.St} {H : Hp} {s : Shared} (I : Inv X pins σ H s) {q : Bool} {l : Addr} {xs ys : List V} (h : bSq q X.K H l xs) (h' : bSq q X.K H l ys) : xs = ys := by
  cases q with
  | true => exact I.tuple_inj h h'
  | false => exact I.list_inj h h'
theorem bGo {q : Bool} {K : PySem.W.Frag} {l : Addr} {i : Nat} {H : Hp} : (bIt q K l).go i H ↔ ∃ xs x, bSq q K H l xs ∧ xs[i]? = some x := by cases q <;> exact Iff.rfl
theorem bYld {q : Bool} {K : PySem.W.Frag} {l : Addr} {i : Nat} {H H' : Hp} {x : V} : (bIt q K l).yld i H x H' ↔ H' = H ∧ ∀ xs, bSq q K H l xs → xs[i]? = some x := by cases q <;> exact Iff.rfl
theorem bStop {q : Bool} {K : PySem.W.Frag} {l : Addr} {i : Nat} {H : Hp} : (bIt q K l).stop i H ↔ ∃ xs, bSq q K H l xs ∧ xs.length ≤ i := by cases q <;> exact Iff.rfl

/-! ### enumerate -/
def ItE (B : It) (k : Int) : It := ⟨B.go, fun i H v H' => ∃ T x, v = .ref T ∧ H T = none ∧ H' = upd H T (.tup [.int (k + (i : Nat)), x]) ∧ B.yld i H x H, B.stop⟩
theorem turn_enumB {P : Program} {w : World} {K : PySem.W.Frag} {elts : List Expr} {kk : Nat} {tpos : Pos} (q : Bool) (k : Int) (l e it : Addr) (hne : e ≠ it) (hel : e ≠ l) (hil : l ≠ it) :
    Turn P w K (.Tuple elts kk tpos) (ItE (bIt q K l) k) [e, it] e (fun i h => (∃ old, IsEnum h e it (k + (i : Nat)) old) ∧ isIt q h it l i) where
  mem := by simp
  obj := fun i h st b hb => by
    obtain ⟨⟨old, he⟩, hi⟩ := st
    have e' : b = e ∨ b = it := by simpa using hb
    rcases e' with z | z
    · rw [z]; exact ⟨_, he, fun v q => nomatch q⟩
    · rw [z]; exact hi.obj
  keep := fun i h h' st k => let ⟨⟨old, he⟩, hi⟩ := st; ⟨⟨old, k e (by simp) _ he⟩, hi.at fun o q => k it (by simp) o q⟩
  item := by
    intro X hP hw hK hc i pins s σ H E I hf st hg
    subst hP hw hK
    obtain ⟨⟨old, he⟩, hit⟩ := st
    obtain ⟨xs, x, hq, hx⟩ := bGo.mp hg
    obtain ⟨its, rv, p⟩ := bInv I hq
    obtain ⟨u, hu, ru⟩ := rv.get hx
    have helt : e < s.heap.objs.size := Heap.lt_size he
    have hilt : it < s.heap.objs.size := by obtain ⟨_, q, _⟩ := hit.obj; exact Heap.lt_size q
    refine wpAny_pyNext_enum_itemC (D := bDraws (A := X.A.in1) q (I.ok.hd hc) it l hil its.toArray) he ⟨hit, p⟩ ?_ hne (by simp [hne, hel]) fun y h' tk hy ho hst' hT hsz hk => ?_
    · have := (List.getElem?_eq_some_iff.mp hu).1
      simpa using this
    · obtain ⟨hit', p'⟩ := hst'
      have ey : y = u := by
        have h1 : its[i]? = some y := by simpa using hy
        rw [hu] at h1; cases h1; rfl
      subst ey
      refine ⟨_, rfl, wpAny_letOwnedTupleGo_enum (s := { s with heap := h', toks := tk + 1 }) ho fun h'' he' sb => ?_⟩
      have hT2 : h''.get? s.heap.objs.size = some { cls := .type "tuple", data := .seq #[.int (k + (i : Nat)) tk, y] } := (sb.2 _ (Nat.ne_of_gt helt)).trans hT
      have new : ObjOk X.prog X.w (upd H s.heap.objs.size (.tup [.int (k + (i : Nat)), x])) h'' s.heap.objs.size (.tup [.int (k + (i : Nat)), x]) :=
        ⟨by show 2 ≤ sizeLine; decide, [.int (k + (i : Nat)) tk, y], .cons ⟨_, rfl⟩ (.cons ru .nil), ⟨_, hT2, rfl, _, rfl⟩⟩
      have I1 : Inv X pins σ (upd H s.heap.objs.size (.tup [.int (k + (i : Nat)), x])) { s with heap := h'', toks := tk + 1 } :=
        I.turnedNew (ch := [e, it]) (fun b ob hb q => (sb.2 b (fun z => hb (by simp [z]))).trans (hk b ob (fun z => hb (by simp [z])) (fun z => hb (by simp [z])) q)) hf (Nat.le_refl _) new
      refine ⟨.ref s.heap.objs.size, _, I1, rfl, ⟨_, x, rfl, I.hok.fresh (Nat.le_refl _), rfl, bYld.mpr ⟨rfl, fun ys hy => by rw [bInj I hy hq]; exact hx⟩⟩, ⟨⟨y, ?_⟩, hit'.at fun o q => (sb.2 it (Ne.symm hne)).trans q⟩, fun b hb => ?_⟩
      · have e1 : k + ((i + 1 : Nat) : Int) = k + (i : Nat) + 1 := by omega
        rw [e1]; exact he'
      · have hb' : b < s.heap.objs.size := by
          have e' : b = e ∨ b = it := by simpa using hb
          rcases e' with z | z
          · rw [z]; exact helt
          · rw [z]; exact hilt
        rw [upd_ne (Nat.ne_of_lt hb')]
        exact (hf b hb).1
  done := by
    intro X hP hw hK hc i pins s σ H E I hf st hg
    subst hP hw hK
    obtain ⟨⟨old, he⟩, hit⟩ := st
    obtain ⟨xs, hq, hx⟩ := bStop.mp hg
    obtain ⟨its, rv, p⟩ := bInv I hq
    have hl := rv.length
    have hn : its.toArray[i]? = none := by simp; omega
    exact wpAny_pyNext_enum_endD (D := bDrawsEnd (A := X.A.in1) q (I.ok.hd hc) it l its.toArray i hn) he ⟨rfl, hit, p⟩ fun h' eb => ⟨rfl, I.turnedL (t' := s.toks) (ch := [e, it]) (fun b o hb q => eb b o (fun z => hb (by simp [z])) q) hf⟩
  self := fun A i s Q E st h => let ⟨⟨_, he⟩, _⟩ := st; wpAny_pyIter_enum he h
/-- enumerate(e), enumerate(e, k) -/
def iEnumB (K : PySem.W.Frag) (ta : TA) : TI := fun σ H R => ta σ H fun vs H1 => ∃ q a xs k, (vs = [.ref a] ∧ k = 0 ∨ vs = [.ref a, .int k]) ∧ (-(2 ^ 63) ≤ k ∧ k < 2 ^ 63) ∧ bSq q K H1 a xs ∧ R (ItE (bIt q K a) k) H1
theorem enum_start {X : Cx} {elts : List Expr} {kk : Nat} {tpos : Pos} {pins : List (Addr × Obj)} {σ : L2.St} {H1 : Hp} {R : It → Hp → Prop} {s1 : Shared} {q : Bool} {a : Addr} {k : Int} {E : Value → Shared → Prop} (I1 : Inv X pins σ H1 s1) (la : a < s1.heap.objs.size) (hR : R (ItE (bIt q X.K a) k) H1) {h' : Heap}
    (he : IsEnum h' (s1.heap.objs.size + 1) s1.heap.objs.size k .none) (ho : isIt q h' s1.heap.objs.size a 0) (hk : ∀ b o, s1.heap.get? b = some o → h'.get? b = some o) :
    wpAny (model X.prog X.w) X.A (pyIter (.ref (s1.heap.objs.size + 1))) (PIE X pins σ (.Tuple elts kk tpos) R) E { s1 with heap := h' } := by
  refine wpAny_pyIter_enum he ?_
  have I2 : Inv X pins σ H1 { s1 with heap := h' } := I1.kept (t' := s1.toks) hk
  have la' : (a : Nat) < s1.heap.objs.size := la
  refine ⟨s1.heap.objs.size + 1, [s1.heap.objs.size + 1, s1.heap.objs.size], _, _, H1, rfl, I2, turn_enumB q k a (s1.heap.objs.size + 1) s1.heap.objs.size (Nat.succ_ne_self _) (fun z => ?_) (Nat.ne_of_lt la), ⟨⟨.none, by rw [show k + ((0 : Nat) : Int) = k by omega]; exact he⟩, ho⟩, fun b hb => ?_, hR⟩
  · have z' : a = (s1.heap.objs.size + 1 : Nat) := z.symm
    rw [z'] at la
    exact absurd la (by simp)
  · have e' : b = s1.heap.objs.size + 1 ∨ b = s1.heap.objs.size := by simpa using hb
    have hle : s1.heap.objs.size ≤ b := by
      rcases e' with z | z
      · rw [z]; exact Nat.le_add_right _ _
      · rw [z]; exact Nat.le_refl _
    exact I1.fpOk hle (I1.hok.fresh hle)
set_option maxHeartbeats 1000000 in
theorem meets_enumerate_newB1 {v : Value} {o : Obj} {H : Heap → Prop} (B : Begins v o H) :
    Meets (Builtin.«enumerate.__new__» ⟨[.type "enumerate", v], []⟩) (fun _ R s => H s.heap ∧
      R (.ok (.ret (.ref (s.heap.push o).objs.size))) { s with heap := (s.heap.push o).push { cls := .type "enumerate", data := .fields #[.none, .bool false, .ref s.heap.objs.size, rawInt 0, .none, .none] } }) :=
  .of_wp fun prog w A R s h => by
    obtain ⟨hp, g, d, tk, os⟩ := s; obtain ⟨h1, h⟩ := h
    have hsub := sub_enumerate
    have q1 : ∀ {A' : Around} {E : Value → Shared → Prop} {Q : Value → Shared → Prop}, Q (.ref hp.objs.size) ⟨hp.push o, g, d, tk, os⟩ → wpAny (model prog w) A' (pyIter v) Q E ⟨hp, g, d, tk, os⟩ :=
      fun q => B.iter prog w _ _ ⟨hp, g, d, tk, os⟩ _ h1 q
    wp_walk using q1
    refine wpAny_stack_any fun st => wpAny_pure ?_
    split
    · rename_i c _ _ _ _ _
      cases (c == Value.type "enumerate")
      · wp_walk using q1
        exact ⟨_, rfl, h⟩
      · wp_walk using q1
        exact ⟨_, rfl, h⟩
    · wp_walk using q1
      exact ⟨_, rfl, h⟩
theorem enum_begins1 {prog : Program} {w : World} {A : Around} {E : Value → Shared → Prop} {s : Shared} {v : Value} {o : Obj} {H : Heap → Prop} {Q : Value → Shared → Prop} (B : Begins v o H) (h1 : H s.heap)
    (h : ∀ h', IsEnum h' (s.heap.objs.size + 1) s.heap.objs.size 0 .none → h'.get? s.heap.objs.size = some o → h'.objs.size = s.heap.objs.size + 2 →
      (∀ b o, s.heap.get? b = some o → h'.get? b = some o) → Q (.ref (s.heap.objs.size + 1)) { s with heap := h' }) :
    wpAny (model prog w) A (call (.type "enumerate") [v]) Q E s := by
  refine callType_new F.called_enumerate (by decide) (F.typeCall_enumerate_1 _) (F.newCall_enumerate_1 _) (fun obj => F.args_object_init_2 obj _) F.entry_enumerate_new
    (meets_enumerate_newB1 B) ⟨h1, ?_⟩
  have hz : (s.heap.push o).objs.size = s.heap.objs.size + 1 := Heap.size_push ..
  show _ ∧ _
  rw [hz]
  have he : IsEnum ((s.heap.push o).push { cls := .type "enumerate", data := .fields #[.none, .bool false, .ref s.heap.objs.size, rawInt 0, .none, .none] }) (s.heap.objs.size + 1) s.heap.objs.size 0 .none := by
    have := Heap.get?_push_size (s.heap.push o) (o := { cls := .type "enumerate", data := .fields #[.none, .bool false, .ref s.heap.objs.size, rawInt 0, .none, .none] }) rfl
    rw [hz] at this; exact this
  refine ⟨⟨_, he, rfl⟩, h _ he (Heap.get?_push_of_some _ (Heap.get?_push_size _ B.free)) (by rw [Heap.size_push, hz]) fun b o x => Heap.get?_push_of_some _ (Heap.get?_push_of_some _ x)⟩
theorem enum_made {X : Cx} {elts : List Expr} {kk : Nat} {tpos : Pos} {pins : List (Addr × Obj)} {σ : L2.St} {H1 : Hp} {R : It → Hp → Prop} {s1 : Shared} {q : Bool} {a : Addr} {xs : List V} {k : Int} {E : Value → Shared → Prop} (I1 : Inv X pins σ H1 s1) (hq : bSq q X.K H1 a xs) (hR : R (ItE (bIt q X.K a) k) H1)
    (vs : List Value) (hv : (vs = [.ref a] ∧ k = 0) ∨ ∃ t, vs = [.ref a, .int k t]) (hk0 : -(2 ^ 63) ≤ k) (hk1 : k < 2 ^ 63) :
    wpAny (model X.prog X.w) X.A (call (.type "enumerate") vs) (fun v s2 => wpAny (model X.prog X.w) X.A (pyIter v) (PIE X pins σ (.Tuple elts kk tpos) R) E s2) E s1 := by
  obtain ⟨its, rv, p⟩ := bInv I1 hq
  rcases hv with ⟨rfl, rfl⟩ | ⟨t, rfl⟩
  · exact enum_begins1 (bBegins q a its.toArray) p fun h' he ho hsz hk => enum_start I1 (isSq.lt p) hR he (.new ho) hk
  · exact enum_begins (bBegins q a its.toArray) p hk0 hk1 fun h' he ho hsz hk => enum_start I1 (isSq.lt p) hR he (.new ho) hk
theorem pi_enum1 {X : Cx} {e : Expr} {ta : TA} {p pos tpos : Pos} {elts : List Expr} {kk : Nat} (hg : Gl X "enumerate") (hm : X.mg "enumerate" = none) (hn : noStar e = true) (ha : PA X [e] ta) :
    PI X (.Tuple elts kk tpos) (.Call (.Name "enumerate" p) [e] [] pos) (iEnumB X.K ta) := by
  refine ⟨fun pins s σ H R I h => ?_⟩
  refine Call_ (ld_blt I hg hm boot_enumerate (PyProof.Rows.callWith_type1 (thn (ha.run pos pins s σ H _ I h) fun us s1 ⟨vs, H1, I1, r1, q1⟩ => ?_) (starEach_cons hn [] X.env) rfl))
  obtain ⟨q, a, xs, k, ex, ⟨hk0, hk1⟩, hq, hR⟩ := q1
  rcases ex with ⟨rfl, rfl⟩ | rfl
  · cases r1 with
    | cons r rr =>
      cases rr
      cases r
      exact enum_made I1 hq hR _ (.inl ⟨rfl, rfl⟩) hk0 hk1
  · cases r1 with
    | cons r rr =>
      cases rr with
      | cons r' rr =>
        cases rr
        cases r
        obtain ⟨t, rfl⟩ := r'
        exact enum_made I1 hq hR _ (.inr ⟨t, rfl⟩) hk0 hk1
theorem pi_enum2 {X : Cx} {e e2 : Expr} {ta : TA} {p pos tpos : Pos} {elts : List Expr} {kk : Nat} (hg : Gl X "enumerate") (hm : X.mg "enumerate" = none) (hn : noStar e = true) (hn2 : noStar e2 = true) (ha : PA X [e, e2] ta) :
    PI X (.Tuple elts kk tpos) (.Call (.Name "enumerate" p) [e, e2] [] pos) (iEnumB X.K ta) := by
  refine ⟨fun pins s σ H R I h => ?_⟩
  refine Call_ (ld_blt I hg hm boot_enumerate (PyProof.Rows.callWith_type1 (thn (ha.run pos pins s σ H _ I h) fun us s1 ⟨vs, H1, I1, r1, q1⟩ => ?_) (starEach_cons hn [e2] X.env) (by rw [starEach_cons hn2]; rfl)))
  obtain ⟨q, a, xs, k, ex, ⟨hk0, hk1⟩, hq, hR⟩ := q1
  rcases ex with ⟨rfl, rfl⟩ | rfl
  · cases r1 with
    | cons r rr =>
      cases rr
      cases r
      exact enum_made I1 hq hR _ (.inl ⟨rfl, rfl⟩) hk0 hk1
  · cases r1 with
    | cons r rr =>
      cases rr with
      | cons r' rr =>
        cases rr
        cases r
        obtain ⟨t, rfl⟩ := r'
        exact enum_made I1 hq hR _ (.inr ⟨t, rfl⟩) hk0 hk1

/-! ### zip of two -/
def ItZ (A B : It) : It := ⟨fun i H => A.go i H ∧ B.go i H, fun i H v H' => ∃ T x y, v = .ref T ∧ H T = none ∧ H' = upd H T (.tup [x, y]) ∧ A.yld i H x H ∧ B.yld i H y H, fun i H => (A.stop i H ∧ (B.stop i H ∨ B.go i H)) ∨ (A.go i H ∧ B.stop i H)⟩
theorem turn_zipB {P : Program} {w : World} {K : PySem.W.Frag} {elts : List Expr} {kk : Nat} {tpos : Pos} (q r : Bool) {a b z TI TO i1 i2 : Addr} (D : ZipSep2 z TI TO i1 i2 [i1, a] [i2, b]) (ha : a ≠ i1) (hb : b ≠ i2) :
    Turn P w K (.Tuple elts kk tpos) (ItZ (bIt q K a) (bIt r K b)) [z, TI, TO, i1, i2] z (fun i h => IsZip h z TI TO .none ∧ IsTupOf2 h TI (.ref i1) (.ref i2) ∧ (∃ x y, IsTupOf2 h TO x y) ∧ isIt q h i1 a i ∧ isIt r h i2 b i) where
  mem := by simp
  obj := fun i h st c hc => by
    obtain ⟨hz, hTI, ⟨x, y, hTO⟩, h1, h2⟩ := st
    have e' : c = z ∨ c = TI ∨ c = TO ∨ c = i1 ∨ c = i2 := by simpa using hc
    rcases e' with q | q | q | q | q
    · rw [q]; exact ⟨_, hz, fun v q => nomatch q⟩
    · rw [q]; exact ⟨_, hTI, fun v q => nomatch q⟩
    · rw [q]; exact ⟨_, hTO, fun v q => nomatch q⟩
    · rw [q]; exact h1.obj
    · rw [q]; exact h2.obj
  keep := fun i h h' st k => by
    obtain ⟨hz, hTI, ⟨x, y, hTO⟩, h1, h2⟩ := st
    exact ⟨k z (by simp) _ hz, k TI (by simp) _ hTI, ⟨x, y, k TO (by simp) _ hTO⟩, h1.at fun o q => k i1 (by simp) o q, h2.at fun o q => k i2 (by simp) o q⟩
  item := by
    intro X hP hw hK hc i pins s σ H E I hf st hg
    subst hP hw hK
    obtain ⟨hz, hTI, ⟨x0, y0, hTO⟩, h1, h2⟩ := st
    obtain ⟨hg1, hg2⟩ := hg
    obtain ⟨xs, x, hqx, hx⟩ := bGo.mp hg1
    obtain ⟨ys, y, hqy, hy⟩ := bGo.mp hg2
    obtain ⟨its, rv, p⟩ := bInv I hqx
    obtain ⟨its2, rv2, p2⟩ := bInv I hqy
    obtain ⟨u, hu, ru⟩ := rv.get hx
    obtain ⟨u2, hu2, ru2⟩ := rv2.get hy
    have hzl : z < s.heap.objs.size := Heap.lt_size hz
    refine wpAny_pyNext_zipD2_item D (bDraws (A := X.A.in1) q (I.ok.hd hc) i1 a ha its.toArray) (bDraws (A := X.A.in1) r (I.ok.hd hc) i2 b hb its2.toArray) hz hTI hTO ⟨h1, p⟩ ⟨h2, p2⟩ ?_ ?_ fun x1 x2 h' tk e1 e2 z' TO' h1' h2' hT hsz hk => ?_
    · have := (List.getElem?_eq_some_iff.mp hu).1
      simpa using this
    · have := (List.getElem?_eq_some_iff.mp hu2).1
      simpa using this
    · have e1 : x1 = u := by
        have h1 : its[i]? = some x1 := by simpa using e1
        rw [hu] at h1; cases h1; rfl
      have e2 : x2 = u2 := by
        have h1 : its2[i]? = some x2 := by simpa using e2
        rw [hu2] at h1; cases h1; rfl
      subst e1; subst e2
      refine ⟨_, rfl, wpAny_letOwnedTupleGo_zip (s := { s with heap := h', toks := tk }) z' fun h'' z'' sb => ?_⟩
      have hT2 : h''.get? s.heap.objs.size = some { cls := .type "tuple", data := .seq #[x1, x2] } := (sb.2 _ (Nat.ne_of_gt hzl)).trans hT
      have new : ObjOk X.prog X.w (upd H s.heap.objs.size (.tup [x, y])) h'' s.heap.objs.size (.tup [x, y]) :=
        ⟨by show 2 ≤ sizeLine; decide, [x1, x2], .cons ru (.cons ru2 .nil), ⟨_, hT2, rfl, _, rfl⟩⟩
      have I1 : Inv X pins σ (upd H s.heap.objs.size (.tup [x, y])) { s with heap := h'', toks := tk } :=
        I.turnedNew (t' := tk) (ch := [z, TI, TO, i1, i2]) (fun c o hb q => (sb.2 c (fun q' => hb (by simp [q']))).trans (hk c o (fun q' => hb (by simp [q'])) (fun q' => hb (by simp [q'])) (fun q' => hb (by simp [q'])) (fun q' => hb (by simp [q'])) q)) hf (Nat.le_refl _) new
      refine ⟨.ref s.heap.objs.size, _, I1, rfl, ⟨_, x, y, rfl, I.hok.fresh (Nat.le_refl _), rfl, bYld.mpr ⟨rfl, fun l hl => by rw [bInj I hl hqx]; exact hx⟩, bYld.mpr ⟨rfl, fun l hl => by rw [bInj I hl hqy]; exact hy⟩⟩, ⟨z'', ?_, ⟨x1, x2, ?_⟩, ?_, ?_⟩, fun c hcm => ?_⟩
      · exact (sb.2 _ D.TIz).trans (hk _ _ D.TIz D.TITO D.TIi1 D.TIi2 hTI)
      · exact (sb.2 _ D.TOz).trans TO'
      · exact h1'.1.at fun o q => (sb.2 _ D.zi1.symm).trans q
      · exact h2'.1.at fun o q => (sb.2 _ D.zi2.symm).trans q
      · have hlt : c < s.heap.objs.size := by
          have e' : c = z ∨ c = TI ∨ c = TO ∨ c = i1 ∨ c = i2 := by simpa using hcm
          rcases e' with q | q | q | q | q
          · rw [q]; exact hzl
          · rw [q]; exact Heap.lt_size hTI
          · rw [q]; exact Heap.lt_size hTO
          · rw [q]; obtain ⟨_, e1, _⟩ := h1.obj; exact Heap.lt_size e1
          · rw [q]; obtain ⟨_, e2, _⟩ := h2.obj; exact Heap.lt_size e2
        rw [upd_ne (Nat.ne_of_lt hlt)]
        exact (hf c hcm).1
  done := by
    intro X hP hw hK hc i pins s σ H E I hf st hg
    subst hP hw hK
    obtain ⟨hz, hTI, ⟨x0, y0, hTO⟩, h1, h2⟩ := st
    have fin : ∀ h' tk, (∀ c o, c ≠ z → c ≠ TO → c ≠ i1 → c ≠ i2 → s.heap.get? c = some o → h'.get? c = some o) → (none : Option Value) = none ∧ Inv X pins σ H { s with heap := h', toks := tk } := fun h' tk hk =>
      ⟨rfl, I.turnedL (t' := tk) (ch := [z, TI, TO, i1, i2]) (fun c o hb q => hk c o (fun q' => hb (by simp [q'])) (fun q' => hb (by simp [q'])) (fun q' => hb (by simp [q'])) (fun q' => hb (by simp [q'])) q) hf⟩
    have stopN : ∀ {q : Bool} {l : Addr} {i : Nat}, (bIt q X.K l).stop i H → ∃ its : List Value, isSq q s.heap l its.toArray ∧ its.toArray[i]? = none := fun {q l i} hs => by
      obtain ⟨xs, hq, hx⟩ := bStop.mp hs
      obtain ⟨its, rv, p⟩ := bInv I hq
      have hl := rv.length
      exact ⟨its, p, by simp; omega⟩
    have goN : ∀ {q : Bool} {l : Addr} {i : Nat}, (bIt q X.K l).go i H → ∃ its : List Value, isSq q s.heap l its.toArray ∧ i ≤ its.toArray.size := fun {q l i} hs => by
      obtain ⟨xs, x, hq, hx⟩ := bGo.mp hs
      obtain ⟨its, rv, p⟩ := bInv I hq
      have hl := rv.length
      have := (List.getElem?_eq_some_iff.mp hx).1
      exact ⟨its, p, by simp; omega⟩
    have dr : ∀ (q : Bool) (l it : Addr) (its : List Value) (i : Nat), its.toArray[i]? = none → Draws X.prog X.w X.A.in1 it [it, l] i (fun _ _ => False) (fun j h => j = i ∧ isIt q h it l j ∧ isSq q h l its.toArray) := fun q l it its i hi => bDrawsEnd (A := X.A.in1) q (I.ok.hd hc) it l its.toArray i hi
    rcases hg with ⟨hs, hs2 | hg2⟩ | ⟨hg1, hs⟩
    · obtain ⟨its, p, e⟩ := stopN hs
      obtain ⟨its2, p2, e2⟩ := stopN hs2
      exact wpAny_pyNext_zipD2_end (i := i) D (dr q a i1 its i e) (dr r b i2 its2 i e2) hz hTI hTO ⟨rfl, h1, p⟩ ⟨rfl, h2, p2⟩ (Nat.le_refl _) (Nat.le_refl _) (.inl rfl) fin
    · obtain ⟨its, p, e⟩ := stopN hs
      obtain ⟨its2, p2, e2⟩ := goN hg2
      exact wpAny_pyNext_zipD2_end (i := i) D (dr q a i1 its i e) (bDraws (A := X.A.in1) r (I.ok.hd hc) i2 b hb its2.toArray) hz hTI hTO ⟨rfl, h1, p⟩ ⟨h2, p2⟩ (Nat.le_refl _) e2 (.inl rfl) fin
    · obtain ⟨its, p, e⟩ := goN hg1
      obtain ⟨its2, p2, e2⟩ := stopN hs
      exact wpAny_pyNext_zipD2_end (i := i) D (bDraws (A := X.A.in1) q (I.ok.hd hc) i1 a ha its.toArray) (dr r b i2 its2 i e2) hz hTI hTO ⟨h1, p⟩ ⟨rfl, h2, p2⟩ e (Nat.le_refl _) (.inr rfl) fin
  self := fun A i s Q E st h => wpAny_pyIter_zip st.1 h
def iZipB (K : PySem.W.Frag) (ta : TA) : TI := fun σ H R => ta σ H fun vs H1 => ∃ q r a b xs ys, vs = [.ref a, .ref b] ∧ bSq q K H1 a xs ∧ bSq r K H1 b ys ∧ R (ItZ (bIt q K a) (bIt r K b)) H1
theorem lt_ne {a n j : Nat} (h : a < n) : n + j ≠ a := by omega
theorem lt_ne0 {a n : Nat} (h : a < n) : n ≠ a := by omega
theorem pi_zip2 {X : Cx} {e e2 : Expr} {ta : TA} {p pos tpos : Pos} {elts : List Expr} {kk : Nat} (hg : Gl X "zip") (hm : X.mg "zip" = none) (hn : noStar e = true) (hn2 : noStar e2 = true) (ha : PA X [e, e2] ta) :
    PI X (.Tuple elts kk tpos) (.Call (.Name "zip" p) [e, e2] [] pos) (iZipB X.K ta) := by
  refine ⟨fun pins s σ H R I h => ?_⟩
  refine Call_ (ld_blt I hg hm PyProof.Rows.boot_zip (PyProof.Rows.callWith_type1 (thn (ha.run pos pins s σ H _ I h) fun us s1 ⟨vs, H1, I1, r1, q1⟩ => ?_) (starEach_cons hn [e2] X.env) (by rw [starEach_cons hn2]; rfl)))
  obtain ⟨q, r, a, b, xs, ys, ex, hqx, hqy, hR⟩ := q1
  subst ex
  cases r1 with
  | cons ra rr =>
    cases rr with
    | cons rb rr =>
      cases rr
      cases ra
      cases rb
      obtain ⟨its, rv, p1⟩ := bInv I1 hqx
      obtain ⟨its2, rv2, p2⟩ := bInv I1 hqy
      have la := isSq.lt p1
      have lb := isSq.lt p2
      refine zip_begins2 (bBegins q a its.toArray) (bBegins r b its2.toArray) p1 p2 fun h' hz hTI hTO h1 h2 hsz hk => wpAny_pyIter_zip hz ?_
      have I2 : Inv X pins σ H1 { s1 with heap := h' } := I1.kept (t' := s1.toks) hk
      refine ⟨s1.heap.objs.size + 4, [s1.heap.objs.size + 4, s1.heap.objs.size + 2, s1.heap.objs.size + 3, s1.heap.objs.size, s1.heap.objs.size + 1], _, _, H1, rfl, I2,
        turn_zipB q r (zip_sep2 (N := s1.heap.objs.size) (fp1 := [a]) (fp2 := [b]) (fun c hc => by rw [List.mem_singleton.mp hc]; exact la) (fun c hc => by rw [List.mem_singleton.mp hc]; exact lb)) (Nat.ne_of_lt la) (fun z => lt_ne (j := 1) lb z.symm), ⟨hz, hTI, ⟨_, _, hTO⟩, .new h1, .new h2⟩, fun c hcm => ?_, hR⟩
      have e' : c = s1.heap.objs.size + 4 ∨ c = s1.heap.objs.size + 2 ∨ c = s1.heap.objs.size + 3 ∨ c = s1.heap.objs.size ∨ c = s1.heap.objs.size + 1 := by simpa using hcm
      have hle : s1.heap.objs.size ≤ c := by
        rcases e' with z | z | z | z | z
        · rw [z]; exact Nat.le_add_right _ _
        · rw [z]; exact Nat.le_add_right _ _
        · rw [z]; exact Nat.le_add_right _ _
        · rw [z]; exact Nat.le_refl _
        · rw [z]; exact Nat.le_add_right _ _
      exact I1.fpOk hle (I1.hok.fresh hle)
end L3

set_option Elab.async false
set_option linter.all false
set_option maxRecDepth 100000
set_option maxHeartbeats 4000000
/-! L3: what is walked, for, comprehensions. -/
noncomputable section
namespace L3
open PySem PySem.Spec PyProof.Rows L2

/-! ### what an iterator of the run says of the layer's -/
/-- a plain one at turn i -/
def WB (G : Fix) (μ : List Addr) (H : Hp) (A : It) (i : Nat) : JB → Prop
  | .ls a i' => i' = i ∧ ∃ p, μ[a]? = some p ∧ A = bIt false G.K p
  | .ts xs => ∃ p ws, SqT G.K H p ws ∧ i ≤ ws.length ∧ RVs G μ H xs (ws.drop i) ∧ A = bIt true G.K p
  | .rg lo n => ∃ lo0 n0, A = Itr lo0 n0 ∧ lo = lo0 + (i : Nat) ∧ n + i = n0
  | .ss cs => ∃ x : Str, x.cps.toList.drop i = cs ∧ i ≤ x.cps.size ∧ A = Its x
/-- .. of a list or a tuple -/
def WQ (G : Fix) (μ : List Addr) (H : Hp) (A : It) (i : Nat) (j : JB) : Prop := WB G μ H A i j ∧ ∃ q l, A = bIt q G.K l
def WJ (G : Fix) (μ : List Addr) (H : Hp) (A : It) (i : Nat) : J → Prop
  | .b j => WB G μ H A i j
  | .en k j => ∃ B k0, A = ItE B k0 ∧ k = k0 + (i : Nat) ∧ WB G μ H B i j
  | .zp [j1, j2] => ∃ B1 B2, A = ItZ B1 B2 ∧ WQ G μ H B1 i j1 ∧ WQ G μ H B2 i j2
  | .zp _ => False
section
variable {G : Fix} {P : Program} {w : World} {mg : Str → Option Value} {base : Heap} {k : Nat} {c : SC} {E : EXK} {cal : Cal} {X : Cx}
variable {μ μ1 μ' : List Addr} {H H1 H' : Hp} {st : Sto} {ρ : List EV} {σ : L2.St} {D : Ends} {A B : It} {i : Nat}
theorem WB.mono (x : Ext μ H μ' H') (n : NoTup μ H) : ∀ {j : JB}, WB G μ H A i j → WB G μ' H' A i j
  | .ls a i', ⟨h1, p, h2, h3⟩ => ⟨h1, p, x.ix h2, h3⟩
  | .ts xs, ⟨p, ws, h1, h2, h3, h4⟩ => ⟨p, ws, x.sqT n h1, h2, h3.mono x n, h4⟩
  | .rg lo n0, h => h
  | .ss cs, h => h
theorem WQ.mono (x : Ext μ H μ' H') (n : NoTup μ H) {j : JB} (h : WQ G μ H A i j) : WQ G μ' H' A i j := ⟨h.1.mono x n, h.2⟩
theorem WJ.mono (x : Ext μ H μ' H') (n : NoTup μ H) : ∀ {j : J}, WJ G μ H A i j → WJ G μ' H' A i j
  | .b j, h => WB.mono (j := j) x n h
  | .en k j, ⟨B, k0, h1, h2, h3⟩ => ⟨B, k0, h1, h2, h3.mono x n⟩
  | .zp [j1, j2], ⟨B1, B2, h1, h2, h3⟩ => ⟨B1, B2, h1, h2.mono x n, h3.mono x n⟩
/-- a turn of a plain one -/
def stepB (G : Fix) (μ : List Addr) (H : Hp) (A : It) (i : Nat) : NB → Prop
  | .bad => True
  | .fin => A.stop i H
  | .it v j => A.go i H ∧ (∀ x H', A.yld i H x H' → H' = H ∧ RV G μ H v x) ∧ WB G μ H A (i + 1) j
theorem WB.step (s : RS' G μ H st) : ∀ {j : JB}, WB G μ H A i j → stepB G μ H A i (nxB NB.bad NB.fin j st NB.it)
  | .ls a i', ⟨h1, p, h2, h3⟩ => by
    subst h1 h3
    have o := s.at_ a p h2
    show stepB G μ H _ i' (gOL NB.bad (st.get a) fun xs => nth NB.fin xs i' fun v => sN (i' + 1) fun i => .it v (.ls a i))
    have e : st.get a = st.tr.get a := by cases st; rfl
    rw [e]
    cases ho : st.tr.get a with
    | l xs =>
      rw [ho] at o
      obtain ⟨vs, e1, r⟩ := o
      show stepB G μ H _ i' (nth NB.fin xs i' fun v => sN (i' + 1) fun i => .it v (.ls a i))
      rw [nth_eq]
      cases hx : xs[i']? with
      | none =>
        refine ⟨vs, SqL.of e1, ?_⟩
        rw [← r.length]
        exact List.getElem?_eq_none_iff.mp hx
      | some v =>
        obtain ⟨y, hy, ry⟩ := r.get hx
        simp only [sN_eq]
        refine ⟨⟨vs, y, SqL.of e1, hy⟩, fun x H' hyl => ?_, rfl, p, h2, rfl⟩
        obtain ⟨e2, hyl⟩ := hyl
        have := hyl vs (SqL.of e1)
        rw [hy] at this
        cases this
        exact ⟨e2, ry⟩
    | d kvs => trivial
    | z => trivial
    | o c fs => trivial
  | .ts xs, ⟨p, ws, h1, h2, h3, h4⟩ => by
    subst h4
    cases xs with
    | nil =>
      have hl := h3.length
      refine ⟨ws, h1, ?_⟩
      simp at hl
      omega
    | cons v r =>
      cases hd : ws.drop i with
      | nil => rw [hd] at h3; cases h3
      | cons y ys =>
        rw [hd] at h3
        cases h3 with
        | cons ry rr =>
          have hy : ws[i]? = some y := by
            have := congrArg (·[0]?) hd
            simpa using this
          have hlt : i < ws.length := (List.getElem?_eq_some_iff.mp hy).1
          refine ⟨⟨ws, y, h1, hy⟩, fun x H' hyl => ?_, p, ws, h1, hlt, ?_, rfl⟩
          · obtain ⟨e2, hyl⟩ := hyl
            have := hyl ws h1
            rw [hy] at this
            cases this
            exact ⟨e2, ry⟩
          · have e : ws.drop (i + 1) = ys := by
              rw [← List.drop_drop, hd]
              rfl
            rw [e]; exact rr
  | .rg lo n, ⟨lo0, n0, h1, h2, h3⟩ => by
    subst h1
    cases n with
    | zero =>
      show n0 ≤ i
      omega
    | succ n =>
      show stepB G μ H _ i (sI (lo + 1) fun i' => NB.it (.i lo) (.rg i' n))
      rw [sI_eq]
      refine ⟨show i < n0 by omega, fun x H' hyl => ?_, lo0, n0, rfl, by rw [h2]; push_cast; omega, by omega⟩
      obtain ⟨e1, e2⟩ := hyl
      rw [e2, ← h2]
      exact ⟨e1, .i lo⟩
  | .ss cs, ⟨x, h1, h2, h3⟩ => by
    subst h3
    cases cs with
    | nil =>
      show x.cps.size ≤ i
      have := congrArg List.length h1
      simp at this
      omega
    | cons ch r =>
      have hy : x.cps[i]? = some ch := by
        have := congrArg (·[0]?) h1
        simpa using this
      have hlt : i < x.cps.size := (Array.getElem?_eq_some_iff.mp hy).1
      refine ⟨hlt, fun v H' hyl => ?_, x, ?_, hlt, rfl⟩
      · obtain ⟨e1, ch', e2, e3⟩ := hyl
        rw [hy] at e2
        cases e2
        rw [e3]
        exact ⟨e1, .s [ch] (by simp)⟩
      · rw [← List.drop_drop, h1]
        rfl
/-- a turn -/
def stepJ (G : Fix) (μ : List Addr) (H : Hp) (st : Sto) (A : It) (i : Nat) : NX → Prop
  | .bad => True
  | .fin => A.stop i H
  | .it v j => A.go i H ∧ ∀ x H', A.yld i H x H' → Ext μ H μ H' ∧ RS' G μ H' st ∧ RV G μ H' v x ∧ WJ G μ H' A (i + 1) j
theorem nxJ_eq {α : Type} (bad fin : α) (j : J) (st : Sto) (kk : EV → J → α) (h : WJ G μ H A i j) : nxJ bad fin j st kk = match nxJ NX.bad NX.fin j st NX.it with
    | .bad => bad
    | .fin => fin
    | .it v j => kk v j := by
  cases j with
  | b j =>
    show nxB bad fin j st (fun v j => kk v (.b j)) = match nxB NX.bad NX.fin j st (fun v j => NX.it v (.b j)) with
      | .bad => bad
      | .fin => fin
      | .it v j => kk v j
    rw [nxB_eq, nxB_eq NX.bad NX.fin]
    cases nxB NB.bad NB.fin j st NB.it <;> rfl
  | en n j =>
    show nxB bad fin j st (fun v j => sI (n + 1) fun n' => kk (.t [.i n, v]) (.en n' j)) = match nxB NX.bad NX.fin j st (fun v j => sI (n + 1) fun n' => NX.it (.t [.i n, v]) (.en n' j)) with
      | .bad => bad
      | .fin => fin
      | .it v j => kk v j
    rw [nxB_eq, nxB_eq NX.bad NX.fin]
    cases nxB NB.bad NB.fin j st NB.it with
    | bad => rfl
    | fin => rfl
    | it v j => simp only [sI_eq]
  | zp js =>
    match js, h with
    | [j1, j2], _ =>
      show nxL bad fin [j1, j2] st (fun vs js => kk (.t vs) (.zp js)) = match nxL NX.bad NX.fin [j1, j2] st (fun vs js => NX.it (.t vs) (.zp js)) with
        | .bad => bad
        | .fin => fin
        | .it v j => kk v j
      rw [nxL2_eq, nxL2_eq NX.bad NX.fin]
      cases nxB NB.bad NB.fin j1 st NB.it with
      | bad => rfl
      | fin => cases nxB NB.bad NB.fin j2 st NB.it <;> rfl
      | it v1 j1 => cases nxB NB.bad NB.fin j2 st NB.it <;> rfl
theorem WJ.step (s : RS' G μ H st) : ∀ {j : J}, WJ G μ H A i j → stepJ G μ H st A i (nxJ NX.bad NX.fin j st NX.it)
  | .b j, h => by
    have q := WB.step s (j := j) h
    show stepJ G μ H st A i (nxB NX.bad NX.fin j st (fun v j => NX.it v (.b j)))
    rw [nxB_eq]
    cases e : nxB NB.bad NB.fin j st NB.it with
    | bad => trivial
    | fin => rw [e] at q; exact q
    | it v j =>
      rw [e] at q
      obtain ⟨q1, q2, q3⟩ := q
      refine ⟨q1, fun x H' hy => ?_⟩
      obtain ⟨e1, e2⟩ := q2 x H' hy
      subst e1
      exact ⟨.refl, s, e2, q3⟩
  | .en n j, ⟨B, k0, h1, h2, h3⟩ => by
    subst h1 h2
    have q := WB.step s h3
    show stepJ G μ H st _ i (nxB NX.bad NX.fin j st (fun v j => sI (k0 + (i : Nat) + 1) fun n' => NX.it (.t [.i (k0 + (i : Nat)), v]) (.en n' j)))
    rw [nxB_eq]
    cases e : nxB NB.bad NB.fin j st NB.it with
    | bad => trivial
    | fin => rw [e] at q; exact q
    | it v j =>
      rw [e] at q
      obtain ⟨q1, q2, q3⟩ := q
      simp only [sI_eq]
      refine ⟨q1, fun x H' hy => ?_⟩
      obtain ⟨T, y, rfl, hT, rfl, hy⟩ := hy
      obtain ⟨_, e2⟩ := q2 y H hy
      have x := Ext.tup (μ := μ) (H := H) (u := .tup [.int (k0 + (i : Nat)), y]) hT
      exact ⟨x, s.tup hT, .t (.inl upd_same) (.cons (.i _) (.cons (e2.mono x s.notup) .nil)), B, k0, rfl, by push_cast; omega, q3.mono x s.notup⟩
  | .zp [j1, j2], ⟨B1, B2, h1, ⟨h2, k2⟩, ⟨h3, k3⟩⟩ => by
    subst h1
    have q := WB.step s h2
    have q' := WB.step s h3
    show stepJ G μ H st _ i (nxL NX.bad NX.fin [j1, j2] st (fun vs js => NX.it (.t vs) (.zp js)))
    rw [nxL2_eq]
    cases e : nxB NB.bad NB.fin j1 st NB.it with
    | bad => trivial
    | fin =>
      rw [e] at q
      cases e' : nxB NB.bad NB.fin j2 st NB.it with
      | bad => trivial
      | fin => rw [e'] at q'; exact .inl ⟨q, .inl q'⟩
      | it v2 j2 => rw [e'] at q'; exact .inl ⟨q, .inr q'.1⟩
    | it v1 j1 =>
      rw [e] at q
      obtain ⟨q1, q2, q3⟩ := q
      cases e' : nxB NB.bad NB.fin j2 st NB.it with
      | bad => trivial
      | fin =>
        rw [e'] at q'
        exact .inr ⟨q1, q'⟩
      | it v2 j2 =>
        rw [e'] at q'
        obtain ⟨p1, p2, p3⟩ := q'
        refine ⟨⟨q1, p1⟩, fun x H' hy => ?_⟩
        obtain ⟨T, y, y', rfl, hT, rfl, hy, hy'⟩ := hy
        obtain ⟨_, e2⟩ := q2 y H hy
        obtain ⟨_, e3⟩ := p2 y' H hy'
        have x := Ext.tup (μ := μ) (H := H) (u := .tup [y, y']) hT
        exact ⟨x, s.tup hT, .t (.inl upd_same) (.cons (e2.mono x s.notup) (.cons (e3.mono x s.notup) .nil)), B1, B2, rfl, ⟨q3.mono x s.notup, k2⟩, ⟨p3.mono x s.notup, k3⟩⟩

/-! ### a loop's source -/
section
variable (G : Fix) (E : EXK) (cal : Cal)
def PostJ (μ : List Addr) (H : Hp) (r : RJ) (R : It → Hp → Prop) : Prop := match r with
  | .ok j st' => ∀ μ' H' A, Ext μ H μ' H' → RS' G μ' H' st' → WJ G μ' H' A 0 j → R A H'
  | .ex c p st' => ∀ μ' H', Ext μ H μ' H' → RS' G μ' H' st' → E c p st' μ' H'
  | .no => False
def TIw (m : WS) : TI := fun σ H R => ∃ μ ρ st, RS' G μ H st ∧ RR G μ H ρ σ ∧ PostJ G E μ H (m cal ρ st) R
end
theorem ts_for (g : Good G P w mg base k c E X) {tg iter : Expr} {body : List Stmt} {gg : GS} {m : WS} {mb : SS} {sl : List Nat} {pos : Pos} (hnr : NoRt gg) (hi : PI X tg iter (TIw G E cal m)) (hg : PG X tg (TGd G E cal gg sl)) (hb : PSs X body (TS' G E cal mb))
    (hs : ∀ x, foldedSetIterable iter X.env x = pure x) : PS X (.For tg iter body [] pos) (TS' G E cal (sFor gg m mb)) := by
  refine (ps_for g.own g.calm hi hg hb hs).impL fun D σ H ⟨μ, ρ, st, s, r, h⟩ => ⟨μ, ρ, st, s, r, ?_⟩
  have h : PostS G μ H (@RJ.rec (fun _ => RS) (fun j st => fLoop cal gg mb TURNS j ρ st) RS.ex .no (m cal ρ st)) D E := h
  cases e : m cal ρ st with
  | ex c p st1 => rw [e] at h; exact h
  | no => rw [e] at h; exact h
  | ok j st1 =>
    rw [e] at h
    intro μ' H' A x s' w0
    refine ⟨fun i n σ2 H2 => ∃ μ ρ st j, RS' G μ H2 st ∧ RR G μ H2 ρ σ2 ∧ WJ G μ H2 A i j ∧ PostS G μ H2 (fLoop cal gg mb n j ρ st) D E, ⟨TURNS, μ', ρ, st1, j, s', r.mono x s.notup, w0, PostS.mono (r := fLoop cal gg mb TURNS j ρ st1) h x⟩, ?_⟩
    clear h e w0 s' x r s
    rintro i n σ2 H2 ⟨μ, ρ, st, j, s, r, w1, h⟩
    cases n with
    | zero => exact h.elim
    | succ n =>
      have h : PostS G μ H2 (nxJ RS.no (.nx ρ st) j st fun v j => sBd (gg cal v ρ st) fun ρ st => @RS.rec (fun _ => RS) (fLoop cal gg mb n j) RS.rt RS.nx (fLoop cal gg mb n j) RS.ex RS.no (mb cal ρ st)) D E := h
      rw [nxJ_eq _ _ _ _ _ w1] at h
      have q := WJ.step s w1
      cases e : nxJ NX.bad NX.fin j st NX.it with
      | bad => rw [e] at h; exact h.elim
      | fin => rw [e] at h q; exact .inl ⟨q, h μ H2 σ2 .refl s r⟩
      | it v j1 =>
        rw [e] at h q
        obtain ⟨q1, q2⟩ := q
        refine .inr ⟨q1, fun σ' H' => ∃ μ ρ st j, RS' G μ H' st ∧ RR G μ H' ρ σ' ∧ WJ G μ H' A (i + 1) j ∧ PostS G μ H' (fLoop cal gg mb n j ρ st) D E, fun σ' H' z => ⟨n, Nat.lt_succ_self n, z⟩, fun x H' hy => ?_⟩
        obtain ⟨x1, s1, rv, w2⟩ := q2 x H' hy
        refine ⟨μ, ρ, st, v, s1, r.mono x1 s.notup, rv, ?_⟩
        have h := PostS.mono (r := sBd (gg cal v ρ st) fun ρ st => @RS.rec (fun _ => RS) (fLoop cal gg mb n j1) RS.rt RS.nx (fLoop cal gg mb n j1) RS.ex RS.no (mb cal ρ st)) h x1
        have nr := hnr cal v ρ st
        cases e2 : gg cal v ρ st with
        | rt => rw [e2] at nr; exact False.elim nr
        | bk => rw [e2] at nr; exact False.elim nr
        | ct => rw [e2] at nr; exact False.elim nr
        | ex => rw [e2] at h; exact h
        | no => rw [e2] at h; exact h
        | nx ρ2 st2 =>
          rw [e2] at h
          intro μ3 H3 σ3 x3 s3 r3 _
          refine ⟨μ3, ρ2, st2, s3, r3, ?_⟩
          have w3 := w2.mono x3 s1.notup
          have h := PostS.mono (r := @RS.rec (fun _ => RS) (fLoop cal gg mb n j1) RS.rt RS.nx (fLoop cal gg mb n j1) RS.ex RS.no (mb cal ρ2 st2)) h x3
          cases e3 : mb cal ρ2 st2 with
          | nx ρ4 st4 => rw [e3] at h; exact fun μ4 H4 σ4 x4 s4 r4 => ⟨μ4, ρ4, st4, j1, s4, r4, w3.mono x4 s3.notup, PostS.mono (r := fLoop cal gg mb n j1 ρ4 st4) h x4⟩
          | ct ρ4 st4 => rw [e3] at h; exact fun μ4 H4 σ4 x4 s4 r4 => ⟨μ4, ρ4, st4, j1, s4, r4, w3.mono x4 s3.notup, PostS.mono (r := fLoop cal gg mb n j1 ρ4 st4) h x4⟩
          | bk ρ4 st4 => rw [e3] at h; exact h
          | rt v4 st4 => rw [e3] at h; exact h
          | ex => rw [e3] at h; exact h
          | no => rw [e3] at h; exact h
/-- a list, a tuple, a text -/
def iAny (K : PySem.W.Frag) (te : TE) : TI := fun σ H R => te σ H fun x H1 => (∃ q a xs, x = .ref a ∧ bSq q K H1 a xs ∧ R (bIt q K a) H1) ∨ ∃ t, x = .str t ∧ R (Its t) H1
theorem pi_any {tg l : Expr} {tl : TE} (hl : PE X l tl) : PI X tg l (iAny X.K tl) := by
  refine ⟨fun pins s σ H R I h => ?_⟩
  refine thn (hl.run pins s σ H _ I h) fun v s1 ⟨x, H1, I1, r1, q1⟩ => ?_
  rcases q1 with ⟨b, a, xs, e, hq, q⟩ | ⟨t, e, q⟩
  · subst e
    cases r1
    cases b with
    | false =>
      obtain ⟨its, rv, p, hz⟩ := I1.list (a := a) (xs := xs) hq
      exact wpAny_pyIter_list p.isList (pi_one (tk := s1.toks) I1 _ (turn_list a _) ⟨_, Heap.get?_push_size _ rfl, rfl, rfl⟩ q)
    | true =>
      obtain ⟨its, rv, p, hz⟩ := I1.tuple (a := a) (xs := xs) hq
      exact wpAny_pyIter_tuple (show s1.heap.IsTuple a its.toArray from p) (pi_one (tk := s1.toks) I1 _ (turn_tuple a _) ⟨_, Heap.get?_push_size _ rfl, rfl, rfl⟩ q)
  · subst e
    obtain ⟨u, rfl⟩ := r1
    cases ha : t.cps.all (· < 128)
    · exact wpAny_pyIter_wide ha (pi_one (tk := s1.toks) I1 _ (turn_str _ t u "str_iterator" (.inr rfl)) ⟨_, Heap.get?_push_size _ rfl, rfl, rfl⟩ q)
    · exact wpAny_pyIter_ascii ha (pi_one (tk := s1.toks) I1 _ (turn_str _ t u "str_ascii_iterator" (.inl rfl)) ⟨_, Heap.get?_push_size _ rfl, rfl, rfl⟩ q)
/-- what mkJ, mkQ make of a value -/
def mkJr (v : EV) (st : Sto) : Option JB := mkJ none v st some
def mkQr (v : EV) (st : Sto) : Option JB := mkQ none v st some
theorem mkJ_eq {α : Type} (no : α) (v : EV) (st : Sto) (kk : JB → α) : mkJ no v st kk = match mkJr v st with
    | none => no
    | some j => kk j := by
  cases v with
  | l a =>
    show gO2 no (st.get a) (fun _ => kk (.ls a 0)) (fun _ => no) = match gO2 none (st.get a) (fun _ => some (JB.ls a 0)) (fun _ => none) with
      | none => no
      | some j => kk j
    cases st.get a <;> rfl
  | _ => rfl
theorem mkQ_eq {α : Type} (no : α) (v : EV) (st : Sto) (kk : JB → α) : mkQ no v st kk = match mkQr v st with
    | none => no
    | some j => kk j := by
  cases v with
  | l a =>
    show gO2 no (st.get a) (fun _ => kk (.ls a 0)) (fun _ => no) = match gO2 none (st.get a) (fun _ => some (JB.ls a 0)) (fun _ => none) with
      | none => no
      | some j => kk j
    cases st.get a <;> rfl
  | _ => rfl
theorem mkQ_ok (s : RS' G μ H st) {v : EV} {x : V} (r : RV G μ H v x) {j : JB} (h : mkQr v st = some j) : ∃ q a xs, x = .ref a ∧ bSq q G.K H a xs ∧ WQ G μ H (bIt q G.K a) 0 j := by
  cases r with
  | @t xs a vs hq rs =>
    cases h
    exact ⟨true, a, vs, rfl, hq.sq, ⟨a, vs, hq.sq, Nat.zero_le _, rs, rfl⟩, true, a, rfl⟩
  | @l l a hl =>
    have o := s.at_ _ a hl
    have h : gO2 none (st.get l) (fun _ => some (JB.ls l 0)) (fun _ => none) = some j := h
    have e : st.get l = st.tr.get l := by cases st; rfl
    rw [e] at h
    cases ho : st.tr.get l with
    | l xs =>
      rw [ho] at h o
      cases h
      obtain ⟨vs, e1, r⟩ := o
      exact ⟨false, a, vs, rfl, SqL.of e1, ⟨rfl, a, hl, rfl⟩, false, a, rfl⟩
    | d kvs => rw [ho] at h; cases h
    | z => rw [ho] at o; exact o.elim
    | o c fs => rw [ho] at o; exact o.elim
  | _ => cases h
theorem mkJ_ok (s : RS' G μ H st) {v : EV} {x : V} (r : RV G μ H v x) {j : JB} (h : mkJr v st = some j) : (∃ q a xs, x = .ref a ∧ bSq q G.K H a xs ∧ WQ G μ H (bIt q G.K a) 0 j) ∨ ∃ t, x = .str t ∧ WB G μ H (Its t) 0 j := by
  cases r with
  | s c hc =>
    cases h
    exact .inr ⟨_, rfl, ⟨c.toArray⟩, by simp, Nat.zero_le _, rfl⟩
  | @t xs a vs hq rs => exact .inl (mkQ_ok s (.t hq rs) h)
  | @l l a hl => exact .inl (mkQ_ok s (.l hl) h)
  | _ => cases h
/-- a run's value, then an iterator -/
theorem runJ {m : ES} {kk : EV → Sto → RJ} {Q : VK} {R : It → Hp → Prop} (s : RS' G μ H st) (r : RR G μ H ρ σ) (h : PostJ G E μ H (jB (m cal ρ st) kk) R)
    (i : ∀ v H1 μ1 st1 ev, Ext μ H μ1 H1 → RS' G μ1 H1 st1 → RR G μ1 H1 ρ σ → RV G μ1 H1 ev v → PostJ G E μ1 H1 (kk ev st1) R → Q v H1) : T G E cal m σ H Q := by
  refine ⟨μ, ρ, st, s, r, ?_⟩
  cases e : m cal ρ st with
  | ex c p st1 => rw [e] at h; exact h
  | no => rw [e] at h; exact h
  | ok v st1 =>
    rw [e] at h
    intro μ1 H1 y x1 s1 r1
    refine i y H1 μ1 st1 v x1 s1 (r.mono x1 s.notup) r1 ?_
    have h : PostJ G E μ H (kk v st1) R := h
    cases e2 : kk v st1 with
    | ok j st2 => rw [e2] at h; exact fun μ' H' A x2 => h μ' H' A (x1.trans x2)
    | ex c p st2 => rw [e2] at h; exact fun μ' H' x2 => h μ' H' (x1.trans x2)
    | no => rw [e2] at h; exact h
theorem ti_e (g : Good G P w mg base k c E X) {tg e : Expr} {m : ES} (h : PE X e (T G E cal m)) : PI X tg e (TIw G E cal (wE m)) := by
  refine ⟨fun pins s σ H R I h0 => (pi_any h).run pins s σ H R I ?_⟩
  obtain ⟨μ, ρ, st, s, r, h0⟩ := h0
  refine runJ (kk := fun v st => mkJ .no v st fun j => .ok (.b j) st) s r h0 fun v H1 μ1 st1 ev x1 s1 r1 rv h1 => ?_
  rw [mkJ_eq] at h1
  cases e1 : mkJr ev st1 with
  | none => rw [e1] at h1; exact h1.elim
  | some j =>
    rw [e1] at h1
    rw [g.kk]
    rcases mkJ_ok s1 rv e1 with ⟨q, a, xs, e2, e3, w0⟩ | ⟨t, e2, w0⟩
    · exact .inl ⟨q, a, xs, e2, e3, h1 μ1 H1 _ .refl s1 w0.1⟩
    · exact .inr ⟨t, e2, h1 μ1 H1 _ .refl s1 w0⟩
theorem small_ok {i : Int} (h : small i = true) : -(2 ^ 62) ≤ i ∧ i < 2 ^ 62 := by
  have h : i.natAbs < 1000000000000 := by
    have h : Nat.blt i.natAbs 1000000000000 = true := h
    exact Nat.le_of_ble_eq_true h
  omega
theorem jift {b : Bool} {r : RJ} {R : It → Hp → Prop} (h : PostJ G E μ H (ift b r .no) R) : b = true ∧ PostJ G E μ H r R := by
  cases b with
  | true => exact ⟨rfl, h⟩
  | false => exact h.elim
theorem gI_cases {α : Type} {no : α} {v : EV} {kk : Int → α} {p : α → Prop} (h : p (gI no v kk)) (hn : ¬ p no) : ∃ i, v = .i i ∧ p (kk i) := by
  cases v with
  | i x => exact ⟨x, rfl, h⟩
  | _ => exact absurd h hn
theorem ti_rng2 (g : Good G P w mg base k c E X) {tg a b : Expr} {ma mb : ES} {p pos : Pos} (hx : c.sc.names.lookup ("range" : Str) = some .globalImplicit) (hm : mg ("range" : Str) = none) (hn : noStar a = true) (hn2 : noStar b = true) (ha : PE X a (T G E cal ma)) (hb : PE X b (T G E cal mb)) :
    PI X tg (.Call (.Name "range" p) [a, b] [] pos) (TIw G E cal (wRng ma mb)) := by
  have hg : Gl X "range" := by
    show X.env.scope.names.lookup ("range" : Str) = _
    rw [g.sc]; exact hx
  have q := pi_range2 (tg := tg) (p := p) (pos := pos) hg (by rw [g.mm]; exact hm) (pa_cons ha (pa_cons hb pa_nil (starEach_cons hn2 [] X.env)) (starEach_cons hn [b] X.env)) (by rw [starEach_cons hn, starEach_cons hn2]; rfl) (by rw [starEach_cons hn2]; rfl)
  refine ⟨fun pins s σ H R I h0 => q.run pins s σ H R I ?_⟩
  obtain ⟨μ, ρ, st, s, r, h0⟩ := h0
  refine runJ (kk := fun x st => jB (mb cal ρ st) fun y st => gI .no x fun x => gI .no y fun y => ift (small x) (ift (small y) (.ok (.b (.rg x (y - x).toNat)) st) .no) .no) s r h0 fun v H1 μ1 st1 ev x1 s1 r1 rv h1 => ?_
  refine runJ (kk := fun y st => gI .no ev fun x => gI .no y fun y => ift (small x) (ift (small y) (.ok (.b (.rg x (y - x).toNat)) st) .no) .no) s1 r1 h1 fun v2 H2 μ2 st2 ev2 x2 s2 r2 rv2 h2 => ?_
  cases rv with
  | i x =>
    cases rv2 with
    | i y =>
      obtain ⟨e1, h2⟩ := jift h2
      obtain ⟨e2, h2⟩ := jift h2
      obtain ⟨a1, a2⟩ := small_ok e1
      obtain ⟨b1, b2⟩ := small_ok e2
      exact ⟨x, y, rfl, ⟨a1, a2, b1, b2⟩, h2 μ2 H2 _ .refl s2 ⟨x, (y - x).toNat, rfl, by simp, rfl⟩⟩
    | _ => exact h2.elim
  | _ => exact h2.elim
theorem ti_rng1 (g : Good G P w mg base k c E X) {tg b : Expr} {mb : ES} {p pos : Pos} (hx : c.sc.names.lookup ("range" : Str) = some .globalImplicit) (hm : mg ("range" : Str) = none) (hn2 : noStar b = true) (hb : PE X b (T G E cal mb)) :
    PI X tg (.Call (.Name "range" p) [b] [] pos) (TIw G E cal (wRng (cK (.i 0)) mb)) := by
  have hg : Gl X "range" := by
    show X.env.scope.names.lookup ("range" : Str) = _
    rw [g.sc]; exact hx
  have q := pi_range1 (tg := tg) (p := p) (pos := pos) hg (by rw [g.mm]; exact hm) (pa_cons hb pa_nil (starEach_cons hn2 [] X.env)) (by rw [starEach_cons hn2]; rfl)
  refine ⟨fun pins s σ H R I h0 => q.run pins s σ H R I ?_⟩
  obtain ⟨μ, ρ, st, s, r, h0⟩ := h0
  refine runJ (kk := fun y st => gI .no (.i 0) fun x => gI .no y fun y => ift (small x) (ift (small y) (.ok (.b (.rg x (y - x).toNat)) st) .no) .no) s r h0 fun v2 H2 μ2 st2 ev2 x2 s2 r2 rv2 h2 => ?_
  cases rv2 with
  | i y =>
    have h2 : PostJ G E μ2 H2 (ift (small y) (.ok (.b (.rg 0 (y - 0).toNat)) st2) .no) R := h2
    obtain ⟨e2, h2⟩ := jift h2
    obtain ⟨b1, b2⟩ := small_ok e2
    refine ⟨y, rfl, b1, b2, h2 μ2 H2 _ .refl s2 ⟨0, y.toNat, rfl, by simp, by simp⟩⟩
  | _ => exact h2.elim
theorem ti_en2 (g : Good G P w mg base k c E X) {a b : Expr} {ma mb : ES} {p pos tpos : Pos} {elts : List Expr} {kk : Nat} (hx : c.sc.names.lookup ("enumerate" : Str) = some .globalImplicit) (hm : mg ("enumerate" : Str) = none) (hn : noStar a = true) (hn2 : noStar b = true) (ha : PE X a (T G E cal ma)) (hb : PE X b (T G E cal mb)) :
    PI X (.Tuple elts kk tpos) (.Call (.Name "enumerate" p) [a, b] [] pos) (TIw G E cal (wEn ma mb)) := by
  have hg : Gl X "enumerate" := by
    show X.env.scope.names.lookup ("enumerate" : Str) = _
    rw [g.sc]; exact hx
  have q := pi_enum2 (kk := kk) (tpos := tpos) (elts := elts) (p := p) (pos := pos) hg (by rw [g.mm]; exact hm) hn hn2 (pa_cons ha (pa_cons hb pa_nil (starEach_cons hn2 [] X.env)) (starEach_cons hn [b] X.env))
  refine ⟨fun pins s σ H R I h0 => q.run pins s σ H R I ?_⟩
  obtain ⟨μ, ρ, st, s, r, h0⟩ := h0
  refine runJ (kk := fun v st => jB (mb cal ρ st) fun i st => gI .no i fun i => ift (small i) (mkQ .no v st fun j => .ok (.en i j) st) .no) s r h0 fun v H1 μ1 st1 ev x1 s1 r1 rv h1 => ?_
  refine runJ (kk := fun i st => gI .no i fun i => ift (small i) (mkQ .no ev st fun j => .ok (.en i j) st) .no) s1 r1 h1 fun v2 H2 μ2 st2 ev2 x2 s2 r2 rv2 h2 => ?_
  cases rv2 with
  | i y =>
    obtain ⟨e2, h2⟩ := jift h2
    obtain ⟨b1, b2⟩ := small_ok e2
    rw [mkQ_eq] at h2
    cases e1 : mkQr ev st2 with
    | none => rw [e1] at h2; exact h2.elim
    | some j =>
      rw [e1] at h2
      obtain ⟨q, a, xs, e3, e4, w0⟩ := mkQ_ok s2 (rv.mono x2 s1.notup) e1
      rw [g.kk]
      exact ⟨q, a, xs, y, .inr (by rw [e3]), ⟨by omega, by omega⟩, e4, h2 μ2 H2 _ .refl s2 ⟨_, y, rfl, by simp, w0.1⟩⟩
  | _ => exact h2.elim
theorem ti_en1 (g : Good G P w mg base k c E X) {a : Expr} {ma : ES} {p pos tpos : Pos} {elts : List Expr} {kk : Nat} (hx : c.sc.names.lookup ("enumerate" : Str) = some .globalImplicit) (hm : mg ("enumerate" : Str) = none) (hn : noStar a = true) (ha : PE X a (T G E cal ma)) :
    PI X (.Tuple elts kk tpos) (.Call (.Name "enumerate" p) [a] [] pos) (TIw G E cal (wEn ma (cK (.i 0)))) := by
  have hg : Gl X "enumerate" := by
    show X.env.scope.names.lookup ("enumerate" : Str) = _
    rw [g.sc]; exact hx
  have q := pi_enum1 (kk := kk) (tpos := tpos) (elts := elts) (p := p) (pos := pos) hg (by rw [g.mm]; exact hm) hn (pa_cons ha pa_nil (starEach_cons hn [] X.env))
  refine ⟨fun pins s σ H R I h0 => q.run pins s σ H R I ?_⟩
  obtain ⟨μ, ρ, st, s, r, h0⟩ := h0
  refine runJ (kk := fun v st => gI .no (.i 0) fun i => ift (small i) (mkQ .no v st fun j => .ok (.en i j) st) .no) s r h0 fun v H1 μ1 st1 ev x1 s1 r1 rv h1 => ?_
  have h1 : PostJ G E μ1 H1 (mkQ .no ev st1 fun j => .ok (.en 0 j) st1) R := h1
  rw [mkQ_eq] at h1
  cases e1 : mkQr ev st1 with
  | none => rw [e1] at h1; exact h1.elim
  | some j =>
    rw [e1] at h1
    obtain ⟨q, a, xs, e3, e4, w0⟩ := mkQ_ok s1 rv e1
    rw [g.kk]
    exact ⟨q, a, xs, 0, .inl ⟨by rw [e3], rfl⟩, ⟨by omega, by omega⟩, e4, h1 μ1 H1 _ .refl s1 ⟨_, 0, rfl, by simp, w0.1⟩⟩
theorem ti_zip (g : Good G P w mg base k c E X) {a b : Expr} {ma mb : ES} {p pos tpos : Pos} {elts : List Expr} {kk : Nat} (hx : c.sc.names.lookup ("zip" : Str) = some .globalImplicit) (hm : mg ("zip" : Str) = none) (hn : noStar a = true) (hn2 : noStar b = true) (ha : PE X a (T G E cal ma)) (hb : PE X b (T G E cal mb)) :
    PI X (.Tuple elts kk tpos) (.Call (.Name "zip" p) [a, b] [] pos) (TIw G E cal (wZip (lCons ma (lCons mb lNil)))) := by
  have hg : Gl X "zip" := by
    show X.env.scope.names.lookup ("zip" : Str) = _
    rw [g.sc]; exact hx
  have q := pi_zip2 (kk := kk) (tpos := tpos) (elts := elts) (p := p) (pos := pos) hg (by rw [g.mm]; exact hm) hn hn2 (pa_cons ha (pa_cons hb pa_nil (starEach_cons hn2 [] X.env)) (starEach_cons hn [b] X.env))
  refine ⟨fun pins s σ H R I h0 => q.run pins s σ H R I ?_⟩
  obtain ⟨μ, ρ, st, s, r, h0⟩ := h0
  refine runJ (R := R) (kk := fun v st => jB (mb cal ρ st) fun v2 st => mkJs .no [v, v2] st fun js => .ok (.zp js) st) s r ?_ fun v H1 μ1 st1 ev x1 s1 r1 rv h1 => ?_
  · have e : jB (ma cal ρ st) (fun v st => jB (mb cal ρ st) fun v2 st => mkJs .no [v, v2] st fun js => .ok (.zp js) st) = wZip (lCons ma (lCons mb lNil)) cal ρ st := by
      show _ = jBL (rBl (ma cal ρ st) fun v st => lB (rBl (mb cal ρ st) fun v st => lB (.ok [] st) fun vs st => .ok (v :: vs) st) fun vs st => .ok (v :: vs) st) fun vs st => mkJs .no vs st fun js => .ok (.zp js) st
      cases ma cal ρ st with
      | ok v st1 =>
        show jB (mb cal ρ st1) _ = jBL (lB (rBl (mb cal ρ st1) fun v st => lB (.ok [] st) fun vs st => .ok (v :: vs) st) fun vs st => .ok (v :: vs) st) fun vs st => mkJs .no vs st fun js => .ok (.zp js) st
        cases mb cal ρ st1 <;> rfl
      | ex => rfl
      | no => rfl
    rw [e]
    exact h0
  refine runJ (kk := fun v2 st => mkJs .no [ev, v2] st fun js => .ok (.zp js) st) s1 r1 h1 fun v2 H2 μ2 st2 ev2 x2 s2 r2 rv2 h2 => ?_
  have h2 : PostJ G E μ2 H2 (mkQ RJ.no ev st2 fun j1 => mkQ RJ.no ev2 st2 fun j2 => .ok (.zp [j1, j2]) st2) R := h2
  rw [mkQ_eq] at h2
  cases e1 : mkQr ev st2 with
  | none => rw [e1] at h2; exact h2.elim
  | some j1 =>
    rw [e1] at h2
    have h2 : PostJ G E μ2 H2 (mkQ RJ.no ev2 st2 fun j2 => .ok (.zp [j1, j2]) st2) R := h2
    rw [mkQ_eq] at h2
    cases e2 : mkQr ev2 st2 with
    | none => rw [e2] at h2; exact h2.elim
    | some j2 =>
      rw [e2] at h2
      obtain ⟨q, a, xs, e3, e4, w0⟩ := mkQ_ok s2 (rv.mono x2 s1.notup) e1
      obtain ⟨q', a', xs', e3', e4', w0'⟩ := mkQ_ok s2 rv2 e2
      rw [g.kk]
      exact ⟨q, q', a, a', xs, xs', by rw [e3, e3'], e4, e4', h2 μ2 H2 _ .refl s2 ⟨_, _, rfl, w0, w0'⟩⟩
end
end L3

set_option Elab.async false
set_option linter.all false
set_option maxRecDepth 100000
set_option maxHeartbeats 4000000
/-! L3: list comprehensions. -/
noncomputable section
namespace L3
open PySem PySem.Spec PyProof.Rows L2

/-! ### what keeps values -/
structure Kp (G : Fix) (μ : List Addr) (H : Hp) (μ' : List Addr) (H' : Hp) : Prop where
  ix : ∀ (l : Nat) (a : Addr), μ[l]? = some a → μ'[l]? = some a
  sq : ∀ a vs, SqT G.K H a vs → SqT G.K H' a vs
  tq : ∀ a vs, TqT G.K H a vs → TqT G.K H' a vs
section
variable {G : Fix} {μ μ1 μ' : List Addr} {H H1 H' : Hp} {st : Sto} {ρ : List EV} {σ : L2.St} {A : It} {i : Nat}
mutual
theorem RV.kp (x : Kp G μ H μ' H') : ∀ {e : EV} {v : V}, RV G μ H e v → RV G μ' H' e v
  | _, _, .n => .n
  | _, _, .b y => .b y
  | _, _, .i y => .i y
  | _, _, .s c h => .s c h
  | _, _, .t h r => .t (x.tq _ _ h) (RVs.kp x r)
  | _, _, .l h => .l (x.ix _ _ h)
  | _, _, .f k => .f k
  | _, _, .y k => .y k
theorem RVs.kp (x : Kp G μ H μ' H') : ∀ {e : List EV} {v : List V}, RVs G μ H e v → RVs G μ' H' e v
  | _, _, .nil => .nil
  | _, _, .cons h r => .cons (RV.kp x h) (RVs.kp x r)
end
theorem RD.kp (x : Kp G μ H μ' H') : ∀ {e : List (EV × EV)} {v : List (Key × V)}, RD G μ H e v → RD G μ' H' e v
  | _, _, .nil => .nil
  | _, _, .cons h1 h2 t => .cons h1 (h2.kp x) (t.kp x)
theorem RDT.kp (x : Kp G μ H μ' H') : ∀ {e : List (EV × EV)} {v : List (List Key × V)}, RDT G μ H e v → RDT G μ' H' e v
  | _, _, .nil => .nil
  | _, _, .cons h1 h2 t => .cons h1 (h2.kp x) (t.kp x)
theorem RO.kp (x : Kp G μ H μ' H') {a : Addr} {o : O} (r : RO G μ H a o) (e : H' a = H a) : RO G μ' H' a o := by
  cases o with
  | l xs => obtain ⟨vs, h, q⟩ := r; exact ⟨vs, e.trans h, q.kp x⟩
  | d kvs =>
    rcases r with ⟨q, h, z⟩ | ⟨q, h, z⟩
    · exact .inl ⟨q, e.trans h, z.kp x⟩
    · exact .inr ⟨q, e.trans h, z.kp x⟩
  | z => exact r
  | o c fs => exact r
theorem RR.kp (x : Kp G μ H μ' H') (r : RR G μ H ρ σ) : RR G μ' H' ρ σ := ⟨r.len, fun i e h u => by
  obtain ⟨v, h1, h2⟩ := r.at_ i e h u
  exact ⟨v, h1, h2.kp x⟩⟩
theorem WB.kp (x : Kp G μ H μ' H') : ∀ {j : JB}, WB G μ H A i j → WB G μ' H' A i j
  | .ls a i', ⟨h1, p, h2, h3⟩ => ⟨h1, p, x.ix _ _ h2, h3⟩
  | .ts xs, ⟨p, ws, h1, h2, h3, h4⟩ => ⟨p, ws, x.sq _ _ h1, h2, h3.kp x, h4⟩
  | .rg lo n0, h => h
  | .ss cs, h => h
theorem WQ.kp (x : Kp G μ H μ' H') {j : JB} (h : WQ G μ H A i j) : WQ G μ' H' A i j := ⟨h.1.kp x, h.2⟩
theorem WJ.kp (x : Kp G μ H μ' H') : ∀ {j : J}, WJ G μ H A i j → WJ G μ' H' A i j
  | .b j, h => WB.kp (j := j) x h
  | .en k j, ⟨B, k0, h1, h2, h3⟩ => ⟨B, k0, h1, h2, h3.kp x⟩
  | .zp [j1, j2], ⟨B1, B2, h1, h2, h3⟩ => ⟨B1, B2, h1, h2.kp x, h3.kp x⟩
/-- the list that a comprehension makes grows -/
theorem Kp.off {D : Addr} {xs : List V} {u : HO} (hD : H D = some (.lst xs)) : Kp G μ H μ (upd H D u) := by
  have ne : ∀ a o, H a = some o → (∀ ys, o ≠ .lst ys) → a ≠ D := fun a o e n z => by
    rw [z, hD] at e
    cases e
    exact n _ rfl
  refine ⟨fun _ _ h => h, fun a vs h => ?_, fun a vs h => ?_⟩
  · rcases h with (h | ⟨o, h⟩) | h
    · exact .inl (.inl (by rw [upd_ne (ne _ _ h fun _ z => nomatch z)]; exact h))
    · exact .inl (.inr ⟨o, by rw [upd_ne (ne _ _ h fun _ z => nomatch z)]; exact h⟩)
    · exact .inr h
  · rcases h with h | h
    · exact .inl (by rw [upd_ne (ne _ _ h fun _ z => nomatch z)]; exact h)
    · exact .inr h
theorem RS'.off {D : Addr} {xs : List V} {u : HO} (r : RS' G μ H st) (hD : H D = some (.lst xs)) (hn : D ∉ μ) : RS' G μ (upd H D u) st :=
  ⟨r.n, r.full, r.nd, fun l a h => (r.at_ l a h).kp (Kp.off hD) (upd_ne fun z => hn (z ▸ List.mem_of_getElem? h))⟩
theorem Ext.off {D : Addr} {u : HO} (x : Ext μ H μ' H') (h0 : H D = none) : Ext μ H μ' (upd H' D u) :=
  ⟨x.pre, fun a o e => by
    obtain ⟨o', e'⟩ := x.there a o e
    exact ⟨o', by rw [upd_ne (ne_of_none e h0)]; exact e'⟩, fun a o e n => by rw [upd_ne (ne_of_none e h0)]; exact x.keep a o e n⟩
theorem Ext.notin {D : Addr} {o : HO} (x : Ext μ H μ' H') (hn : D ∉ μ) (hD : H D = some o) : D ∉ μ' ∧ H' D = some o := by
  obtain ⟨⟨ν, rfl, hν⟩, t, k⟩ := x
  refine ⟨fun z => ?_, k D o hD hn⟩
  rcases List.mem_append.mp z with q | q
  · exact hn q
  · rw [hν D q] at hD; cases hD
theorem Kp.app (μ ν : List Addr) : Kp G μ H (μ ++ ν) H := ⟨fun l a h => by rw [List.getElem?_append_left (List.getElem?_eq_some_iff.mp h).1]; exact h, fun _ _ h => h, fun _ _ h => h⟩
/-- the made list comes to the store -/
theorem RS'.adopt {D : Addr} {xs : List EV} {vs : List V} (r : RS' G μ H st) (hD : H D = some (.lst vs)) (hn : D ∉ μ) (rv : RVs G μ H xs vs) : RS' G (μ ++ [D]) H ⟨st.tr.set (.l xs) st.n, st.n + 1⟩ := by
  refine ⟨by simp [r.n], r.full.new, ?_, fun l a h => ?_⟩
  · rw [List.nodup_append]
    refine ⟨r.nd, by simp, fun a ha b hb e => ?_⟩
    rw [List.mem_singleton.mp hb] at e
    exact hn (e ▸ ha)
  · show RO G _ _ a ((st.tr.set (.l xs) st.n).get l)
    rw [r.full.get_set (Nat.le_refl _)]
    by_cases hl : l = st.n
    · rw [if_pos hl]
      have e : a = D := by
        rw [hl, ← r.n] at h
        simpa using h.symm
      rw [e]
      exact ⟨vs, hD, rv.kp (Kp.app μ [D])⟩
    · rw [if_neg hl]
      have hlt : l < μ.length := by
        have := (List.getElem?_eq_some_iff.mp h).1
        rw [List.length_append] at this
        have e := r.n
        simp at this
        omega
      rw [List.getElem?_append_left hlt] at h
      exact (r.at_ l a h).kp (Kp.app μ [D]) rfl
theorem Ext.adopt {D : Addr} (x : Ext μ H μ' H') (h0 : H D = none) : Ext μ H (μ' ++ [D]) H' := by
  obtain ⟨⟨ν, rfl, hν⟩, t, k⟩ := x
  refine ⟨⟨ν ++ [D], List.append_assoc .., fun p hp => ?_⟩, t, k⟩
  rcases List.mem_append.mp hp with q | q
  · exact hν p q
  · rw [List.mem_singleton.mp q]; exact h0
theorem revA_eq {β : Type} : ∀ (xs ys : List β), revA xs ys = xs.reverse ++ ys
  | [], ys => rfl
  | x :: r, ys => by
    show revA r (x :: ys) = _
    rw [revA_eq r]
    simp
theorem revK_eq {α β : Type} (xs : List β) (k : List β → α) : revK xs k = k xs.reverse := by
  unfold revK
  rw [sL_eq, revA_eq]
  simp
theorem wipe_eq (ρ : List EV) : ∀ w : List Nat, L3.wipe w ρ = w.foldr (fun i r => r.set i .u) ρ
  | [] => rfl
  | i :: w => by
    show putAt EV.u (L3.wipe w ρ) i (fun r => r) = _
    rw [putAt_eq, wipe_eq ρ w]
    rfl
theorem RR.wipe (r : RR G μ H ρ σ) : ∀ w : List Nat, RR G μ H (L3.wipe w ρ) (L2.wipe σ w)
  | [] => r
  | i :: w => by
    have ih := RR.wipe r w
    show RR G μ H (putAt EV.u (L3.wipe w ρ) i fun r => r) ((L2.wipe σ w).set i none)
    rw [putAt_eq]
    refine ⟨by simp [ih.len], fun j e h u => ?_⟩
    by_cases hj : i = j
    · subst hj
      have hlt : i < (L3.wipe w ρ).length := by
        have := (List.getElem?_eq_some_iff.mp h).1
        simpa using this
      rw [List.getElem?_set_self hlt] at h
      cases h
      cases u
    · rw [List.getElem?_set_ne hj] at h ⊢
      exact ih.at_ j e h u
end

/-! ### the loop of a comprehension -/
def EB : EXK := fun _ _ _ _ _ => False
/-- a clause never shortens what is made -/
def Mon (k : CS) : Prop := ∀ c ρ st acc acc' st', k c ρ st acc = .ok acc' st' → acc.length ≤ acc'.length
theorem lB_ok {r : RL} {kk : List EV → Sto → RL} {v : List EV} {st' : Sto} (h : lB r kk = .ok v st') : ∃ x st, r = .ok x st ∧ kk x st = .ok v st' := by
  cases r with
  | ok x st => exact ⟨x, st, rfl, h⟩
  | ex c p st => cases h
  | no => cases h
theorem rBl_ok {r : R} {kk : EV → Sto → RL} {v : List EV} {st' : Sto} (h : rBl r kk = .ok v st') : ∃ x st, r = .ok x st ∧ kk x st = .ok v st' := by
  cases r with
  | ok x st => exact ⟨x, st, rfl, h⟩
  | ex c p st => cases h
  | no => cases h
theorem mon_elt (e : ES) : Mon (kElt e) := fun c ρ st acc acc' st' h => by
  obtain ⟨x, s1, _, h⟩ := rBl_ok h
  cases h
  simp
theorem tests_ok : ∀ {l : List ES} {c : Cal} {ρ : List EV} {st : Sto} {t f : Sto → RL} {v : List EV} {st' : Sto}, tests l c ρ st t f = .ok v st' → ∃ st1, t st1 = .ok v st' ∨ f st1 = .ok v st'
  | [], _, _, st, _, _, _, _, h => ⟨st, .inl h⟩
  | e :: l, c, ρ, st, t, f, v, st', h => by
    have h : rBl (e c ρ st) (fun v st => b3 (truth st v) (f st) (tests l c ρ st t f) .no) = .ok v st' := h
    obtain ⟨x, s1, _, h⟩ := rBl_ok h
    cases tv : truth s1 x with
    | x => rw [tv] at h; cases h
    | f => rw [tv] at h; exact ⟨s1, .inr h⟩
    | t => rw [tv] at h; exact tests_ok h
theorem nxJ_ok {j : J} {st : Sto} {fin : RL} {kk : EV → J → RL} {v : List EV} {st' : Sto} : nxJ RL.no fin j st kk = .ok v st' → fin = .ok v st' ∨ ∃ x j', kk x j' = .ok v st' := by
  have hB : ∀ (j : JB) (f : RL) (kk : EV → JB → RL), nxB RL.no f j st kk = .ok v st' → f = .ok v st' ∨ ∃ x j', kk x j' = .ok v st' := fun j f kk h => by
    rw [nxB_eq] at h
    cases e : nxB NB.bad NB.fin j st NB.it with
    | bad => rw [e] at h; cases h
    | fin => rw [e] at h; exact .inl h
    | it x j' => rw [e] at h; exact .inr ⟨x, j', h⟩
  have hC : ∀ (js : List JB), chk RL.no fin js st = .ok v st' → fin = .ok v st' := fun js => by
    induction js with
    | nil => exact id
    | cons j js ih =>
      intro h
      rcases hB j (chk RL.no fin js st) (fun _ _ => chk RL.no fin js st) h with h | ⟨_, _, h⟩ <;> exact ih h
  have hL : ∀ (js : List JB) (kk : List EV → List JB → RL), nxL RL.no fin js st kk = .ok v st' → fin = .ok v st' ∨ ∃ x j', kk x j' = .ok v st' := fun js => by
    induction js with
    | nil => exact fun kk h => .inr ⟨[], [], h⟩
    | cons j js ih =>
      intro kk h
      rcases hB j (chk RL.no fin js st) (fun v j' => nxL RL.no fin js st fun vs js' => kk (v :: vs) (j' :: js')) h with h | ⟨x, j', h⟩
      · exact .inl (hC js h)
      · rcases ih _ h with h | ⟨x2, j2, h⟩
        · exact .inl h
        · exact .inr ⟨_, _, h⟩
  cases j with
  | b j => exact fun h => (hB j fin (fun v j => kk v (.b j)) h).imp id fun ⟨x, j', h⟩ => ⟨x, _, h⟩
  | en k j =>
    exact fun h => (hB j fin (fun v j => sI (k + 1) fun i' => kk (.t [.i k, v]) (.en i' j)) h).imp id fun ⟨x, j', h⟩ => by
      rw [sI_eq] at h
      exact ⟨_, _, h⟩
  | zp js => exact fun h => (hL js (fun vs js => kk (.t vs) (.zp js)) h).imp id fun ⟨x, j', h⟩ => ⟨_, _, h⟩
theorem jLoop_mon {c : Cal} {g : GS} {ifs : List ES} {k : CS} (hk : Mon k) (ρ0 : List EV) : ∀ (n : Nat) (j : J) (st : Sto) (acc acc' : List EV) (st' : Sto), jLoop c g ifs k ρ0 n j st acc = .ok acc' st' → acc.length ≤ acc'.length
  | 0, j, st, acc, acc', st', h => by cases h
  | n + 1, j, st, acc, acc', st', h => by
    have ih := jLoop_mon (c := c) (g := g) (ifs := ifs) hk ρ0 n
    have h : nxJ RL.no (.ok acc st) j st (fun v j => @RS.rec (fun _ => RL) (fun ρ st => tests ifs c ρ st (fun st => lB (k c ρ st acc) fun acc st => jLoop c g ifs k ρ0 n j st acc) fun st => jLoop c g ifs k ρ0 n j st acc)
      (fun _ _ => .no) (fun _ _ => .no) (fun _ _ => .no) (fun _ _ _ => .no) .no (g c v ρ0 st)) = .ok acc' st' := h
    rcases nxJ_ok h with h | ⟨x, j', h⟩
    · cases h; exact Nat.le_refl _
    · cases e : g c x ρ0 st with
      | nx ρ2 st2 =>
        rw [e] at h
        obtain ⟨st3, h | h⟩ := tests_ok (l := ifs) h
        · obtain ⟨acc2, st4, h1, h2⟩ := lB_ok h
          exact Nat.le_trans (hk _ _ _ _ _ _ h1) (ih _ _ _ _ _ h2)
        · exact ih _ _ _ _ _ h
      | rt => rw [e] at h; cases h
      | bk => rw [e] at h; cases h
      | ct => rw [e] at h; cases h
      | ex => rw [e] at h; cases h
      | no => rw [e] at h; cases h
theorem mon_for {g : GS} {w : WS} {ifs : List ES} {k : CS} {own : List Nat} (hk : Mon k) : Mon (kFor g w ifs k own) := fun c ρ st acc acc' st' h => by
  cases e : w c ρ st with
  | ok j st1 =>
    have h : @RJ.rec (fun _ => RL) (fun j st => jLoop c g ifs k (wipe own ρ) TURNS j st acc) (fun _ _ _ => .no) .no (w c ρ st) = .ok acc' st' := h
    rw [e] at h
    exact jLoop_mon hk _ _ _ _ _ _ _ h
  | ex =>
    have h : @RJ.rec (fun _ => RL) (fun j st => jLoop c g ifs k (wipe own ρ) TURNS j st acc) (fun _ _ _ => .no) .no (w c ρ st) = .ok acc' st' := h
    rw [e] at h; cases h
  | no =>
    have h : @RJ.rec (fun _ => RL) (fun j st => jLoop c g ifs k (wipe own ρ) TURNS j st acc) (fun _ _ _ => .no) .no (w c ρ st) = .ok acc' st' := h
    rw [e] at h; cases h

/-- what a loop's state says: base, the list at D so far -/
structure LcS (G : Fix) (D : Addr) (μ1 : List Addr) (H1 : Hp) (μ : List Addr) (H : Hp) (st : Sto) (acc : List EV) : Prop where
  rs : RS' G μ H st
  x : Ext μ1 H1 μ H
  nD : D ∉ μ
  made : ∃ accV, H D = some (.lst accV) ∧ RVs G μ H acc.reverse accV
section
variable {G : Fix} {cal : Cal} {D : Addr} {μ1 μ μ' : List Addr} {H1 H H' : Hp} {st st' : Sto} {acc : List EV} {ρ : List EV} {σ : L2.St} {A : It} {i : Nat}
theorem LcS.ext (s : LcS G D μ1 H1 μ H st acc) (x : Ext μ H μ' H') (r : RS' G μ' H' st') : LcS G D μ1 H1 μ' H' st' acc := by
  obtain ⟨accV, h1, h2⟩ := s.made
  obtain ⟨n, e⟩ := x.notin s.nD h1
  exact ⟨r, s.x.trans x, n, accV, e, h2.mono x s.rs.notup⟩
theorem LcS.push (s : LcS G D μ1 H1 μ H st acc) (h0 : H1 D = none) {e : EV} {y : V} (r : RV G μ H e y) : ∃ accV, H D = some (.lst accV) ∧ accV.length = acc.length ∧ LcS G D μ1 H1 μ (upd H D (.lst (accV ++ [y]))) st (e :: acc) := by
  obtain ⟨accV, h1, h2⟩ := s.made
  have kp : Kp G μ H μ (upd H D (.lst (accV ++ [y]))) := Kp.off h1
  refine ⟨accV, h1, by rw [← h2.length]; simp, s.rs.off h1 s.nD, s.x.off h0, s.nD, accV ++ [y], upd_same, ?_⟩
  rw [List.reverse_cons]
  exact (h2.kp kp).append (.cons (r.kp kp) .nil)
/-- a clause's tests -/
def TTl (G : Fix) (cal : Cal) : List ES → TT
  | [] => tYes
  | [e] => TT' G EB cal e
  | _ => fun _ _ _ => False
/-- the state of a loop with fuel n -/
def LSt (G : Fix) (cal : Cal) (D : Addr) (μ1 : List Addr) (H1 : Hp) (C : List Addr → Hp → Prop) (F : RL → Prop) (gg : GS) (ms : List ES) (k : CS) (ρ0 : List EV) (σ0 : L2.St) (A : It) (i n : Nat) (H : Hp) : Prop :=
  ∃ μ st acc j, LcS G D μ1 H1 μ H st acc ∧ RR G μ H ρ0 σ0 ∧ WJ G μ H A i j ∧ C μ H ∧ F (jLoop cal gg ms k ρ0 n j st acc)
/-- what is carried along stays -/
structure Stays (G : Fix) (C : List Addr → Hp → Prop) : Prop where
  ext : ∀ {μ H μ' H' st}, RS' G μ H st → Ext μ H μ' H' → C μ H → C μ' H'
  kp : ∀ {μ H μ' H'}, Kp G μ H μ' H' → C μ H → C μ' H'
theorem lc_turn {C : List Addr → Hp → Prop} (hC : Stays G C) {F : RL → Prop} {gg : GS} {ms : List ES} {k : CS} {ρ0 : List EV} {σ0 : L2.St} {n : Nat} {H : Hp} {sl : List Nat} (hF : ∀ r, F r → ∃ acc st, r = .ok acc st ∧ acc.length ≤ 16000000) (hm : ms.length ≤ 1)
    {Bd : L2.St → Hp → Prop} (hk : ∀ μ H2 st acc j ρ2 σ2, LcS G D μ1 H1 μ H2 st acc → RR G μ H2 ρ2 σ2 → RR G μ H2 ρ0 σ0 → WJ G μ H2 A (i + 1) j → C μ H2 → F (lB (k cal ρ2 st acc) fun acc st => jLoop cal gg ms k ρ0 n j st acc) → Bd σ2 H2)
    (h : LSt G cal D μ1 H1 C F gg ms k ρ0 σ0 A i (n + 1) H) :
    (A.stop i H ∧ ∃ μ st acc, LcS G D μ1 H1 μ H st acc ∧ C μ H ∧ F (.ok acc st)) ∨ (A.go i H ∧ ∀ x H', A.yld i H x H' → TGd G EB cal gg sl x σ0 H' fun σ2 H2 => Off sl σ0 σ2 ∧ TTl G cal ms σ2 H2 fun b H3 => if b = true then Bd σ2 H3 else LSt G cal D μ1 H1 C F gg ms k ρ0 σ0 A (i + 1) n H3) := by
  obtain ⟨μ, st, acc, j, s, r, w1, cc, h⟩ := h
  have h : F (nxJ RL.no (.ok acc st) j st fun v j => @RS.rec (fun _ => RL) (fun ρ st => tests ms cal ρ st (fun st => lB (k cal ρ st acc) fun acc st => jLoop cal gg ms k ρ0 n j st acc) fun st => jLoop cal gg ms k ρ0 n j st acc)
    (fun _ _ => .no) (fun _ _ => .no) (fun _ _ => .no) (fun _ _ _ => .no) .no (gg cal v ρ0 st)) := h
  rw [nxJ_eq _ _ _ _ _ w1] at h
  have no : ¬ F .no := fun z => by obtain ⟨_, _, e, _⟩ := hF _ z; cases e
  have q := WJ.step s.rs w1
  cases e : nxJ NX.bad NX.fin j st NX.it with
  | bad => rw [e] at h; exact absurd h no
  | fin => rw [e] at h q; exact .inl ⟨q, μ, st, acc, s, cc, h⟩
  | it v j1 =>
    rw [e] at h q
    obtain ⟨q1, q2⟩ := q
    refine .inr ⟨q1, fun x H' hy => ?_⟩
    obtain ⟨x1, s1, rv, w2⟩ := q2 x H' hy
    have ss := s.ext x1 s1
    have rr := r.mono x1 s.rs.notup
    have c1 := hC.ext s.rs x1 cc
    refine ⟨μ, ρ0, st, v, s1, rr, rv, ?_⟩
    have h : F (@RS.rec (fun _ => RL) (fun ρ st => tests ms cal ρ st (fun st => lB (k cal ρ st acc) fun acc st => jLoop cal gg ms k ρ0 n j1 st acc) fun st => jLoop cal gg ms k ρ0 n j1 st acc)
      (fun _ _ => .no) (fun _ _ => .no) (fun _ _ => .no) (fun _ _ _ => .no) .no (gg cal v ρ0 st)) := h
    cases e2 : gg cal v ρ0 st with
    | rt => rw [e2] at h; exact absurd h no
    | bk => rw [e2] at h; exact absurd h no
    | ct => rw [e2] at h; exact absurd h no
    | ex => rw [e2] at h; exact absurd h no
    | no => rw [e2] at h; exact absurd h no
    | nx ρ2 st2 =>
      rw [e2] at h
      intro μ3 H3 σ3 x3 s3 r3 off
      refine ⟨off, ?_⟩
      have s4 := ss.ext x3 s3
      have r4 := rr.mono x3 s1.notup
      have w4 := w2.mono x3 s1.notup
      have c4 := hC.ext s1 x3 c1
      match ms, hm with
      | [], _ => exact hk μ3 H3 st2 acc j1 ρ2 σ3 s4 r3 r4 w4 c4 h
      | [m], _ =>
        refine ⟨μ3, ρ2, st2, s3, r3, ?_⟩
        have h : F (rBl (m cal ρ2 st2) fun v st => b3 (truth st v) (jLoop cal gg [m] k ρ0 n j1 st acc) (lB (k cal ρ2 st acc) fun acc st => jLoop cal gg [m] k ρ0 n j1 st acc) .no) := h
        cases e3 : m cal ρ2 st2 with
        | ex c p st3 => rw [e3] at h; obtain ⟨_, _, e, _⟩ := hF _ h; cases e
        | no => rw [e3] at h; exact absurd h no
        | ok v3 st3 =>
          rw [e3] at h
          intro μ5 H5 y x5 s5 q5
          have s6 := s4.ext x5 s5
          have h : F (b3 (truth st3 v3) (jLoop cal gg [m] k ρ0 n j1 st3 acc) (lB (k cal ρ2 st3 acc) fun acc st => jLoop cal gg [m] k ρ0 n j1 st acc) .no) := h
          cases tv : truth st3 v3 with
          | x => rw [tv] at h; exact absurd h no
          | f => rw [tv] at h; exact ⟨μ5, st3, acc, j1, s6, r4.mono x5 s3.notup, w4.mono x5 s3.notup, hC.ext s3 x5 c4, h⟩
          | t => rw [tv] at h; exact hk μ5 H5 st3 acc j1 ρ2 σ3 s6 (r3.mono x5 s3.notup) (r4.mono x5 s3.notup) (w4.mono x5 s3.notup) (hC.ext s3 x5 c4) h
theorem stays_true : Stays G fun _ _ => True := ⟨fun _ _ _ => trivial, fun _ _ => trivial⟩
/-- a clause's element -/
theorem lc_elt {F : RL → Prop} {m : ES} {kk : List EV → Sto → RL} {Nx : Hp → Prop} (h0 : H1 D = none) (hF : ∀ r, F r → ∃ acc st, r = .ok acc st ∧ acc.length ≤ 16000000) (hM : ∀ acc st acc' st', kk acc st = .ok acc' st' → acc.length ≤ acc'.length)
    (s : LcS G D μ1 H1 μ H st acc) (r : RR G μ H ρ σ) (h : F (lB (kElt m cal ρ st acc) kk))
    (hN : ∀ μ' H' st' acc', Ext μ H μ' H' → RS' G μ' H' st' → (∀ accV y, H' D = some (.lst accV) → LcS G D μ1 H1 μ' (upd H' D (.lst (accV ++ [y]))) st' acc' → Kp G μ' H' μ' (upd H' D (.lst (accV ++ [y]))) → F (kk acc' st') → Nx (upd H' D (.lst (accV ++ [y]))))) :
    T G EB cal m σ H fun y H4 => ∃ acc, H4 D = some (.lst acc) ∧ acc.length < sizeLine ∧ Nx (upd H4 D (.lst (acc ++ [y]))) := by
  refine ⟨μ, ρ, st, s.rs, r, ?_⟩
  have h : F (lB (rBl (m cal ρ st) fun v st => .ok (v :: acc) st) kk) := h
  have no : ¬ F .no := fun z => by obtain ⟨_, _, e, _⟩ := hF _ z; cases e
  cases e : m cal ρ st with
  | ex c p st3 => rw [e] at h; obtain ⟨_, _, e, _⟩ := hF _ h; cases e
  | no => rw [e] at h; exact absurd h no
  | ok v st1 =>
    rw [e] at h
    have h : F (kk (v :: acc) st1) := h
    intro μ' H' y x s1 rv
    have s2 := s.ext x s1
    obtain ⟨accV, h1, h2, h3⟩ := s2.push h0 rv
    obtain ⟨acc', st', e', hl⟩ := hF _ h
    have hm := hM _ _ _ _ e'
    refine ⟨accV, h1, ?_, hN μ' H' st1 (v :: acc) x s1 accV y h1 h3 (Kp.off h1) h⟩
    rw [h2, sizeLine_eq]
    simp at hm
    omega
end
/-- what is behind the loop: the list comes to the store -/
def compEnd (r : RL) : R := @RL.rec (fun _ => R) (fun vs st => revK vs (newL st)) (fun _ _ _ => .no) .no r
section
variable {G : Fix} {P : Program} {w : World} {mg : Str → Option Value} {base : Heap} {k : Nat} {c : SC} {E : EXK} {cal : Cal} {X : Cx}
variable {D : Addr} {μ1 μ μ' : List Addr} {H1 H H' : Hp} {st st' : Sto} {acc : List EV} {ρ : List EV} {σ : L2.St} {A : It} {i : Nat} {Q : VK}
theorem compEnd_len (r : RL) (h : PostE G μ1 H1 (compEnd r) Q E) : ∃ acc st, r = .ok acc st ∧ acc.length ≤ 16000000 := by
  cases r with
  | ok acc st =>
    have h : PostE G μ1 H1 (revK acc (newL st)) Q E := h
    rw [revK_eq] at h
    obtain ⟨h1, _⟩ := PostE.fits h
    rw [lenN_eq] at h1
    exact ⟨acc, st, rfl, by simpa using h1⟩
  | ex c p st => exact h.elim
  | no => exact h.elim
theorem compEnd_ok (h0 : H1 D = none) (s : LcS G D μ1 H1 μ H st acc) (h : PostE G μ1 H1 (compEnd (.ok acc st)) Q E) : Q (.ref D) H := by
  have h : PostE G μ1 H1 (revK acc (newL st)) Q E := h
  rw [revK_eq] at h
  obtain ⟨_, h⟩ := PostE.fits h
  rw [Sto.new_eq] at h
  obtain ⟨accV, e1, e2⟩ := s.made
  refine h (μ ++ [D]) H _ (s.x.adopt h0) (s.rs.adopt e1 s.nD e2) (.l ?_)
  rw [← s.rs.n]
  simp
/-- where a comprehension's block stands -/
abbrev Blk (X : Cx) (scope : Scope) (s : Shared) (H : Hp) (C : Addr) (cl : List (Str × Addr)) (fp : List Addr) : Cx := X.blk s H scope (compEnvC scope cl C X.env) fp
theorem tgd_wipe {gg : GS} {sl own : List Nat} {x : V} {σ0 : L2.St} {H : Hp} {R : L2.St → Hp → Prop} (hsl : ∀ i ∈ sl, i ∈ own) (h : TGd G EB cal gg sl x (L2.wipe σ0 own) H fun σ2 H2 => Off sl (L2.wipe σ0 own) σ2 ∧ R σ2 H2) :
    TGd G EB cal gg sl x (L2.wipe σ0 own) H fun σ2 H2 => L2.wipe σ2 own = L2.wipe σ0 own ∧ R σ2 H2 := by
  obtain ⟨μ3, ρ3, st3, ev3, t1, t2, t3, t4⟩ := h
  refine ⟨μ3, ρ3, st3, ev3, t1, t2, t3, ?_⟩
  cases e4 : gg cal ev3 ρ3 st3 with
  | nx ρ4 st4 => rw [e4] at t4; exact fun μ5 H5 σ5 x5 s5 r5 o5 => ⟨(o5.sub hsl).wipe, (t4 μ5 H5 σ5 x5 s5 r5 o5).2⟩
  | rt => rw [e4] at t4; exact t4
  | bk => rw [e4] at t4; exact t4
  | ct => rw [e4] at t4; exact t4
  | ex => rw [e4] at t4; exact t4
  | no => rw [e4] at t4; exact t4
theorem comp1_h (g : Good G P w mg base k c E X) {gg : GS} {m : WS} {ms : List ES} {me : ES} {own : List Nat} {sl : List Nat} (hsl : ∀ i ∈ sl, i ∈ own) (hm : ms.length ≤ 1) (h : T G E cal (cComp gg m ms (kElt me) own) σ H Q) :
    tLc (TIw G E cal m) (TGd G EB cal gg sl) (TTl G cal ms) (T G EB cal me) own σ H Q := by
  obtain ⟨μ, ρ, st, s, r, h⟩ := h
  refine ⟨μ, ρ, st, s, r, ?_⟩
  have h : PostE G μ H (@RJ.rec (fun _ => R) (fun j st => compEnd (jLoop cal gg ms (kElt me) (L3.wipe own ρ) TURNS j st [])) R.ex .no (m cal ρ st)) Q E := h
  cases e : m cal ρ st with
  | ex c p st1 => rw [e] at h; exact h
  | no => rw [e] at h; exact h
  | ok j st1 =>
    rw [e] at h
    intro μ1 H1 A x1 s1 w1 D h0
    have h : PostE G μ1 H1 (compEnd (jLoop cal gg ms (kElt me) (L3.wipe own ρ) TURNS j st1 [])) Q E := PostE.mono h x1
    have nD : D ∉ μ1 := fun z => by
      obtain ⟨l, hl, e⟩ := List.getElem_of_mem z
      obtain ⟨o, e', _⟩ := (s1.at_ l D (by rw [List.getElem?_eq_getElem hl, e])).some
      rw [h0] at e'; cases e'
    have x2 := Ext.tup (μ := μ1) (H := H1) (u := .lst []) h0
    refine ⟨fun i n H => LSt G cal D μ1 H1 (fun _ _ => True) (fun r => PostE G μ1 H1 (compEnd r) Q E) gg ms (kElt me) (L3.wipe own ρ) (L2.wipe σ own) A i n H, ⟨TURNS, μ1, st1, [], j, ⟨s1.tup h0, x2, nD, [], upd_same, .nil⟩, ((r.mono x1 s.notup).mono x2 s1.notup).wipe own, w1.mono x2 s1.notup, trivial, h⟩, ?_⟩
    intro i n H2 hL
    cases n with
    | zero => obtain ⟨_, _, _, _, _, _, _, _, z⟩ := hL; exact z.elim
    | succ n =>
      have turn := lc_turn stays_true (sl := sl) (Bd := fun σ2 H3 => T G EB cal me σ2 H3 fun y H4 => ∃ acc, H4 D = some (.lst acc) ∧ acc.length < sizeLine ∧ LSt G cal D μ1 H1 (fun _ _ => True) (fun r => PostE G μ1 H1 (compEnd r) Q E) gg ms (kElt me) (L3.wipe own ρ) (L2.wipe σ own) A (i + 1) n (upd H4 D (.lst (acc ++ [y])))) compEnd_len hm
        (fun μ5 H5 st5 acc5 j5 ρ5 σ5 s5 r5 r5' w5 _ h5 => lc_elt h0 compEnd_len (fun acc st acc' st' => jLoop_mon (mon_elt me) _ _ _ _ _ _ _) s5 r5 h5 fun μ' H' st' acc' x' rs' accV y hD s6 kp h6 =>
          ⟨μ', st', acc', j5, s6, (r5'.mono x' s5.rs.notup).kp kp, (w5.mono x' s5.rs.notup).kp kp, trivial, h6⟩) hL
      rcases turn with ⟨q1, μ2, st2, acc2, s2, _, q2⟩ | ⟨q1, q2⟩
      · exact .inl ⟨q1, compEnd_ok h0 s2 q2⟩
      · refine .inr ⟨q1, fun H' => LSt G cal D μ1 H1 (fun _ _ => True) (fun r => PostE G μ1 H1 (compEnd r) Q E) gg ms (kElt me) (L3.wipe own ρ) (L2.wipe σ own) A (i + 1) n H', fun H' z => ⟨n, Nat.lt_succ_self n, z⟩, fun x H' hy => ?_⟩
        exact tgd_wipe hsl (q2 x H' hy)
/-- two clauses -/
theorem comp2_h (g : Good G P w mg base k c E X) {gg gg1 : GS} {m m1 : WS} {ms ms1 : List ES} {me : ES} {own own1 : List Nat} {sl sl1 : List Nat} (hsl : ∀ i ∈ sl, i ∈ own) (hsl1 : ∀ i ∈ sl1, i ∈ own1) (hm : ms.length ≤ 1) (hm1 : ms1.length ≤ 1) (h : T G E cal (cComp gg m ms (kFor gg1 m1 ms1 (kElt me) own1) own) σ H Q) :
    tLc2 (TIw G E cal m) (TGd G EB cal gg sl) (TTl G cal ms) (TIw G EB cal m1) (TGd G EB cal gg1 sl1) (TTl G cal ms1) (T G EB cal me) own own1 σ H Q := by
  obtain ⟨μ, ρ, st, s, r, h⟩ := h
  refine ⟨μ, ρ, st, s, r, ?_⟩
  have h : PostE G μ H (@RJ.rec (fun _ => R) (fun j st => compEnd (jLoop cal gg ms (kFor gg1 m1 ms1 (kElt me) own1) (L3.wipe own ρ) TURNS j st [])) R.ex .no (m cal ρ st)) Q E := h
  cases e : m cal ρ st with
  | ex c p st1 => rw [e] at h; exact h
  | no => rw [e] at h; exact h
  | ok j st1 =>
    rw [e] at h
    intro μ1 H1 A x1 s1 w1 D h0
    have h : PostE G μ1 H1 (compEnd (jLoop cal gg ms (kFor gg1 m1 ms1 (kElt me) own1) (L3.wipe own ρ) TURNS j st1 [])) Q E := PostE.mono h x1
    have nD : D ∉ μ1 := fun z => by
      obtain ⟨l, hl, e⟩ := List.getElem_of_mem z
      obtain ⟨o, e', _⟩ := (s1.at_ l D (by rw [List.getElem?_eq_getElem hl, e])).some
      rw [h0] at e'; cases e'
    have x2 := Ext.tup (μ := μ1) (H := H1) (u := .lst []) h0
    have mk := mon_for (g := gg1) (w := m1) (ifs := ms1) (own := own1) (mon_elt me)
    refine ⟨fun i n H => LSt G cal D μ1 H1 (fun _ _ => True) (fun r => PostE G μ1 H1 (compEnd r) Q E) gg ms (kFor gg1 m1 ms1 (kElt me) own1) (L3.wipe own ρ) (L2.wipe σ own) A i n H, ⟨TURNS, μ1, st1, [], j, ⟨s1.tup h0, x2, nD, [], upd_same, .nil⟩, ((r.mono x1 s.notup).mono x2 s1.notup).wipe own, w1.mono x2 s1.notup, trivial, h⟩, ?_⟩
    intro i n H2 hL
    cases n with
    | zero => obtain ⟨_, _, _, _, _, _, _, _, z⟩ := hL; exact z.elim
    | succ n =>
      have turn := lc_turn stays_true (sl := sl) (Bd := fun σ2 H3 => TIw G EB cal m1 σ2 H3 fun J1 H4 => ∃ W1 : Nat → Nat → Hp → Prop, (∃ m, W1 0 m H4) ∧ ∀ j k H, W1 j k H →
          (J1.stop j H ∧ LSt G cal D μ1 H1 (fun _ _ => True) (fun r => PostE G μ1 H1 (compEnd r) Q E) gg ms (kFor gg1 m1 ms1 (kElt me) own1) (L3.wipe own ρ) (L2.wipe σ own) A (i + 1) n H) ∨ (J1.go j H ∧ ∃ Nx1 : Hp → Prop, (∀ H', Nx1 H' → ∃ k', k' < k ∧ W1 (j + 1) k' H') ∧ ∀ x H', J1.yld j H x H' → TGd G EB cal gg1 sl1 x (L2.wipe σ2 own1) H' fun σ3 H5 => L2.wipe σ3 own1 = L2.wipe σ2 own1 ∧ TTl G cal ms1 σ3 H5 fun b H6 =>
            if b = true then T G EB cal me σ3 H6 fun y H7 => ∃ acc, H7 D = some (.lst acc) ∧ acc.length < sizeLine ∧ Nx1 (upd H7 D (.lst (acc ++ [y]))) else Nx1 H6)) compEnd_len hm ?_ hL
      · rcases turn with ⟨q1, μ2, st2, acc2, s2, _, q2⟩ | ⟨q1, q2⟩
        · exact .inl ⟨q1, compEnd_ok h0 s2 q2⟩
        · refine .inr ⟨q1, fun H' => LSt G cal D μ1 H1 (fun _ _ => True) (fun r => PostE G μ1 H1 (compEnd r) Q E) gg ms (kFor gg1 m1 ms1 (kElt me) own1) (L3.wipe own ρ) (L2.wipe σ own) A (i + 1) n H', fun H' z => ⟨n, Nat.lt_succ_self n, z⟩, fun x H' hy => ?_⟩
          exact tgd_wipe hsl (q2 x H' hy)
      · intro μ5 H5 st5 acc5 j5 ρ5 σ5 s5 r5 r5' w5 _ h5
        refine ⟨μ5, ρ5, st5, s5.rs, r5, ?_⟩
        -- behind the inner loop the outer goes on
        generalize hF : (fun r => PostE G μ1 H1 (compEnd (lB r fun acc st => jLoop cal gg ms (kFor gg1 m1 ms1 (kElt me) own1) (L3.wipe own ρ) n j5 st acc)) Q E) = F
        have hFl : ∀ r, F r → ∃ acc st, r = .ok acc st ∧ acc.length ≤ 16000000 := fun r z => by
          subst hF
          obtain ⟨acc, st, e1, e2⟩ := compEnd_len _ z
          obtain ⟨acc', st', e3, e4⟩ := lB_ok e1
          exact ⟨acc', st', e3, Nat.le_trans (jLoop_mon mk _ _ _ _ _ _ _ e4) e2⟩
        have h5 : F (@RJ.rec (fun _ => RL) (fun j st => jLoop cal gg1 ms1 (kElt me) (L3.wipe own1 ρ5) TURNS j st acc5) (fun _ _ _ => .no) .no (m1 cal ρ5 st5)) := by
          subst hF; exact h5
        cases e5 : m1 cal ρ5 st5 with
        | ex c p st6 => rw [e5] at h5; obtain ⟨_, _, z, _⟩ := hFl _ h5; cases z
        | no => rw [e5] at h5; obtain ⟨_, _, z, _⟩ := hFl _ h5; cases z
        | ok j6 st6 =>
          rw [e5] at h5
          intro μ6 H6 A6 x6 s6 w6
          have t6 := s5.ext x6 s6
          have r6 := (r5.mono x6 s5.rs.notup).wipe own1
          have hC : Stays G fun μ H => RR G μ H (L3.wipe own ρ) (L2.wipe σ own) ∧ WJ G μ H A (i + 1) j5 := ⟨fun s x ⟨a, b⟩ => ⟨a.mono x s.notup, b.mono x s.notup⟩, fun k ⟨a, b⟩ => ⟨a.kp k, b.kp k⟩⟩
          refine ⟨fun i6 n6 H => LSt G cal D μ1 H1 (fun μ H => RR G μ H (L3.wipe own ρ) (L2.wipe σ own) ∧ WJ G μ H A (i + 1) j5) F gg1 ms1 (kElt me) (L3.wipe own1 ρ5) (L2.wipe σ5 own1) A6 i6 n6 H,
            ⟨TURNS, μ6, st6, acc5, j6, t6, r6, w6, ⟨r5'.mono x6 s5.rs.notup, w5.mono x6 s5.rs.notup⟩, h5⟩, ?_⟩
          intro i7 n7 H7 hL7
          cases n7 with
          | zero => obtain ⟨_, _, _, _, _, _, _, _, z⟩ := hL7; obtain ⟨_, _, z, _⟩ := hFl _ z; cases z
          | succ n7 =>
            have turn := lc_turn hC (sl := sl1) (Bd := fun σ2 H3 => T G EB cal me σ2 H3 fun y H4 => ∃ acc, H4 D = some (.lst acc) ∧ acc.length < sizeLine ∧ LSt G cal D μ1 H1 (fun μ H => RR G μ H (L3.wipe own ρ) (L2.wipe σ own) ∧ WJ G μ H A (i + 1) j5) F gg1 ms1 (kElt me) (L3.wipe own1 ρ5) (L2.wipe σ5 own1) A6 (i7 + 1) n7 (upd H4 D (.lst (acc ++ [y])))) hFl hm1
              (fun μ8 H8 st8 acc8 j8 ρ8 σ8 s8 r8 r8' w8 c8 h8 => lc_elt h0 hFl (fun acc st acc' st' => jLoop_mon (mon_elt me) _ _ _ _ _ _ _) s8 r8 h8 fun μ' H' st' acc' x' rs' accV y hD s9 kp h9 =>
                ⟨μ', st', acc', j8, s9, (r8'.mono x' s8.rs.notup).kp kp, (w8.mono x' s8.rs.notup).kp kp, hC.kp kp (hC.ext s8.rs x' c8), h9⟩) hL7
            rcases turn with ⟨q1, μ2, st2, acc2, s2, c2, q2⟩ | ⟨q1, q2⟩
            · subst hF
              exact .inl ⟨q1, μ2, st2, acc2, j5, s2, c2.1, c2.2, trivial, q2⟩
            · refine .inr ⟨q1, fun H' => LSt G cal D μ1 H1 (fun μ H => RR G μ H (L3.wipe own ρ) (L2.wipe σ own) ∧ WJ G μ H A (i + 1) j5) F gg1 ms1 (kElt me) (L3.wipe own1 ρ5) (L2.wipe σ5 own1) A6 (i7 + 1) n7 H', fun H' z => ⟨n7, Nat.lt_succ_self n7, z⟩, fun x H' hy => ?_⟩
              exact tgd_wipe hsl1 (q2 x H' hy)
end
end L3

set_option Elab.async false
set_option linter.all false
set_option maxRecDepth 100000
set_option maxHeartbeats 4000000
/-! L3: assignments, what stands in a block. -/
noncomputable section
namespace L3
open PySem PySem.Spec PyProof.Rows L2

section
variable {G : Fix} {P : Program} {w : World} {mg : Str → Option Value} {base : Heap} {k : Nat} {c : SC} {E : EXK} {cal : Cal} {X : Cx}
variable {μ μ1 μ' : List Addr} {H H1 H' : Hp} {st : Sto} {ρ : List EV} {σ : L2.St} {D : Ends}
theorem tasg_h {m : ES} {gg : GS} {sl : List Nat} (hnr : NoRt gg) {D : Ends} (h : TS' G E cal (sSet gg m) D σ H) : tAsg (T G E cal m) (TGd G E cal gg sl) D σ H := by
  obtain ⟨μ, ρ, st, s, r, h⟩ := h
  refine runS s r (kk := fun v st => gg cal v ρ st) h fun v H1 μ1 st1 ev x1 s1 r1 rv h => ?_
  refine ⟨μ1, ρ, st1, ev, s1, r1, rv, ?_⟩
  have nr := hnr cal ev ρ st1
  cases e : gg cal ev ρ st1 with
  | nx ρ2 st2 => rw [e] at h; exact fun μ' H' σ' x s' r' _ => h μ' H' σ' x s' r'
  | ex => rw [e] at h; exact h
  | no => rw [e] at h; exact h
  | rt => rw [e] at nr; exact False.elim nr
  | bk => rw [e] at nr; exact False.elim nr
  | ct => rw [e] at nr; exact False.elim nr
/-- a target that is a name, a tuple or an item; its store not swapped with the value -/
theorem ts_set {tg e : Expr} {m : ES} {gg : GS} {sl : List Nat} {pos : Pos} (hst : noStar tg = true) (hnr : NoRt gg) (he : PE X e (T G E cal m)) (hg : PG X tg (TGd G E cal gg sl)) (hs : swapsWith e (some tg) pos.line X.env = pure false) (hw : swappedStores [tg] e X.env = pure none) :
    PS X (.Assign [tg] e pos) (TS' G E cal (sSet gg m)) :=
  (ps_asg he hg hs hw (by rw [assignEach_cons hst]; rfl)).impL fun D σ H h => tasg_h hnr h
/-- a name whose store is swapped with a comprehension -/
theorem blk_kind {env : Env} (hk : env.scope.kind = .function) : env.blockKind = .function := by unfold Env.blockKind; rw [hk]; rfl
/-- swapsWith of a comprehension and a name -/
def swB (sc : Scope) (scope : Scope) (t : Str) (same : Bool) : Bool := sc.names.lookup t == some .local && same && !(scope.names.any fun (n, k) => n == t && (k == .local || k == .cell))
theorem sw_comp {elt : Expr} {gs : List Comprehension} {scope : Scope} {pos py : Pos} {y : Str} {l : Nat} {env : Env} (hk : env.scope.kind = .function) : swapsWith (.ListComp elt gs scope pos) (some (.Name y py)) l env = pure (swB env.scope scope y (py.line == pos.line)) := by
  unfold swapsWith
  have hb := blk_kind hk
  simp only [hb]
  rfl
theorem sw_tup {e : Expr} {es : List Expr} {k : Nat} {p : Pos} {l : Nat} {env : Env} : swapsWith e (some (.Tuple es k p)) l env = pure false := by cases e <;> rfl
theorem sw_sub {e o i : Expr} {p : Pos} {l : Nat} {env : Env} : swapsWith e (some (.Subscript o i p)) l env = pure false := by cases e <;> rfl
theorem st_name {e : Expr} {x : Str} {p : Pos} {env : Env} : swappedStores [.Name x p] e env = pure none := by cases e <;> rfl
theorem st_sub {e o i : Expr} {p : Pos} {env : Env} : swappedStores [.Subscript o i p] e env = pure none := by cases e <;> rfl
def isTup : Expr → Bool
  | .Tuple .. => true
  | _ => false
theorem st_tup {e : Expr} {ts : List Expr} {k : Nat} {p : Pos} {env : Env} (h : isTup e = false) : swappedStores [.Tuple ts k p] e env = pure none := by
  cases e <;> first | rfl | (cases (show true = false from h))
/-- the names that a pair's or a triple's stores are swapped over; none: not known here -/
def swp (sc : Scope) (ts vs : List Expr) : Option (Option (List Str)) :=
  if !(ts.length == 2 || ts.length == 3) || vs.length != ts.length then some none
  else if vs.any fun | .Starred .. => true | _ => false then some none
  else
    let line := (ts.head?.map (·.pos.line)).getD 0
    let names := ts.filterMap fun
      | .Name id pos => if sc.names.lookup id == some .local && pos.line == line then some id else none
      | _ => none
    if names.length != ts.length || names.eraseDups.length != names.length then some none
    else if vs.all (foldedForSure 8) then some none
    else if vs.all (constantsAlone 8) then none
    else some (some names)
theorem swp_ok {env : Env} (hk : env.scope.kind = .function) {ts vs : List Expr} {k k2 : Nat} {p p2 : Pos} {r : Option (List Str)} (h : swp env.scope ts vs = some r) : swappedStores [.Tuple ts k p] (.Tuple vs k2 p2) env = pure r := by
  have hb := blk_kind hk
  have hkd : ∀ id, env.kindOf id = env.scope.names.lookup id := fun _ => rfl
  unfold swp at h
  simp only [swappedStores, hb, hkd]
  generalize e1 : (!(ts.length == 2 || ts.length == 3) || vs.length != ts.length) = b1 at h ⊢
  cases b1 with
  | true => cases h; rfl
  | false =>
    have e2 : (false || (ScopeKind.function != ScopeKind.function)) = false := rfl
    simp only [e2, Bool.false_eq_true, if_false] at h ⊢
    generalize (List.any vs _) = b2 at h ⊢
    generalize (List.filterMap _ ts) = nm at h ⊢
    cases b2 with
    | true => cases h; rfl
    | false =>
      simp only [Bool.false_eq_true, if_false] at h ⊢
      generalize (nm.length != ts.length || nm.eraseDups.length != nm.length) = b3 at h ⊢
      cases b3 with
      | true => cases h; rfl
      | false =>
        simp only [Bool.false_eq_true, if_false] at h ⊢
        generalize vs.all (foldedForSure 8) = b4 at h ⊢
        cases b4 with
        | true => cases h; rfl
        | false =>
          simp only [Bool.false_eq_true, if_false] at h ⊢
          generalize vs.all (constantsAlone 8) = b5 at h ⊢
          cases b5 with
          | true => cases h
          | false => cases h; rfl
/-- a, b = x, y with swapped stores -/
theorem ts_par2 (g : Good G P w mg base k c E X) {i j : Nat} {x y : Str} {a b : Expr} {ma mb : ES} {px py pt pos : Pos} {kt k2 : Nat} {pt2 : Pos} (hi : c.N[i]? = some x) (hj : c.N[j]? = some y) (hij : i ≠ j) (hx : c.sc.names.lookup x = some .local) (hy : c.sc.names.lookup y = some .local)
    (hk : c.sc.kind = .function) (hw : swp c.sc [.Name x px, .Name y py] [a, b] = some (some [x, y])) (na : noStar a = true) (nb : noStar b = true) (ha : PE X a (T G E cal ma)) (hb : PE X b (T G E cal mb)) :
    PS X (.Assign [.Tuple [.Name x px, .Name y py] kt pt] (.Tuple [a, b] k2 pt2) pos) (TS' G E cal (sSet (L3.gTup (L3.gCons (gV i) (L3.gCons (gV j) L3.gNil))) (cTup (lCons ma (lCons mb lNil))))) := by
  have hk' : X.env.scope.kind = .function := by rw [g.sc]; exact hk
  have pa := pa_cons ha (pa_cons hb pa_nil (starEach_cons nb [] X.env)) (starEach_cons na [b] X.env)
  refine (ps_par g.calm g.nd (by rw [g.nn]; exact hi) (by rw [g.nn]; exact hj) hij (by rw [g.sc]; exact hx) (by rw [g.sc]; exact hy) (tl_cons na ha (tl_cons nb hb tl_nil)) (swp_ok hk' (by rw [g.sc]; exact hw))).impL fun D σ H ⟨μ, ρ, st, s, r, h⟩ => ?_
  have h : PostS G μ H (rBs (rBL (lCons ma (lCons mb lNil) cal ρ st) fun vs st => okT st vs) fun v st => L3.gTup (L3.gCons (gV i) (L3.gCons (gV j) L3.gNil)) cal v ρ st) D E := h
  refine ⟨μ, ρ, st, s, r, ?_⟩
  cases e : lCons ma (lCons mb lNil) cal ρ st with
  | ex c p st1 => rw [e] at h; exact h
  | no => rw [e] at h; exact h
  | ok vs st1 =>
    rw [e] at h
    intro μ' H' ws x' s' rv
    have h : PostS G μ H (rBs (fits (lenN vs) .no (.ok (.t vs) st1)) fun v st => L3.gTup (L3.gCons (gV i) (L3.gCons (gV j) L3.gNil)) cal v ρ st) D E := h
    rw [fits_eq] at h
    split at h
    · have h : PostS G μ H (L3.gCons (gV i) (L3.gCons (gV j) L3.gNil) cal vs ρ st1) D E := h
      cases rv with
      | nil => exact h.elim
      | cons r1 rr =>
        have h : PostS G μ H (sBd (gV i cal _ ρ st1) fun ρ st => L3.gCons (gV j) L3.gNil cal _ ρ st) D E := h
        have e1 : ∀ (i : Nat) (v : EV) (ρ : List EV) (st : Sto), gV i cal v ρ st = .nx (ρ.set i v) st := fun i v ρ st => putAt_eq v ρ i _
        rw [e1] at h
        cases rr with
        | nil => exact h.elim
        | cons r2 rr =>
          have h : PostS G μ H (sBd (gV j cal _ (ρ.set i _) st1) fun ρ st => L3.gNil cal _ ρ st) D E := h
          rw [e1] at h
          cases rr with
          | nil => exact ⟨_, _, rfl, h μ' H' _ x' s' ((((r.mono x' s.notup).set r1 i)).set r2 j)⟩
          | cons _ _ => exact h.elim
    · exact h.elim
theorem ts_par3 (g : Good G P w mg base k c E X) {i j l : Nat} {x y z : Str} {a b d : Expr} {ma mb md : ES} {px py pz pt pos : Pos} {kt k2 : Nat} {pt2 : Pos} (hi : c.N[i]? = some x) (hj : c.N[j]? = some y) (hl : c.N[l]? = some z) (hij : i ≠ j) (hil : i ≠ l) (hjl : j ≠ l)
    (hx : c.sc.names.lookup x = some .local) (hy : c.sc.names.lookup y = some .local) (hz : c.sc.names.lookup z = some .local) (hk : c.sc.kind = .function) (hw : swp c.sc [.Name x px, .Name y py, .Name z pz] [a, b, d] = some (some [x, y, z]))
    (na : noStar a = true) (nb : noStar b = true) (nd : noStar d = true) (ha : PE X a (T G E cal ma)) (hb : PE X b (T G E cal mb)) (hd : PE X d (T G E cal md)) :
    PS X (.Assign [.Tuple [.Name x px, .Name y py, .Name z pz] kt pt] (.Tuple [a, b, d] k2 pt2) pos) (TS' G E cal (sSet (L3.gTup (L3.gCons (gV i) (L3.gCons (gV j) (L3.gCons (gV l) L3.gNil)))) (cTup (lCons ma (lCons mb (lCons md lNil)))))) := by
  have hk' : X.env.scope.kind = .function := by rw [g.sc]; exact hk
  refine (ps_par3 g.calm g.nd (by rw [g.nn]; exact hi) (by rw [g.nn]; exact hj) (by rw [g.nn]; exact hl) hij hil hjl (by rw [g.sc]; exact hx) (by rw [g.sc]; exact hy) (by rw [g.sc]; exact hz) (tl_cons na ha (tl_cons nb hb (tl_cons nd hd tl_nil))) (swp_ok hk' (by rw [g.sc]; exact hw))).impL fun D σ H ⟨μ, ρ, st, s, r, h⟩ => ?_
  have h : PostS G μ H (rBs (rBL (lCons ma (lCons mb (lCons md lNil)) cal ρ st) fun vs st => okT st vs) fun v st => L3.gTup (L3.gCons (gV i) (L3.gCons (gV j) (L3.gCons (gV l) L3.gNil))) cal v ρ st) D E := h
  refine ⟨μ, ρ, st, s, r, ?_⟩
  cases e : lCons ma (lCons mb (lCons md lNil)) cal ρ st with
  | ex c p st1 => rw [e] at h; exact h
  | no => rw [e] at h; exact h
  | ok vs st1 =>
    rw [e] at h
    intro μ' H' ws x' s' rv
    have h : PostS G μ H (rBs (fits (lenN vs) .no (.ok (.t vs) st1)) fun v st => L3.gTup (L3.gCons (gV i) (L3.gCons (gV j) (L3.gCons (gV l) L3.gNil))) cal v ρ st) D E := h
    rw [fits_eq] at h
    split at h
    · have h : PostS G μ H (L3.gCons (gV i) (L3.gCons (gV j) (L3.gCons (gV l) L3.gNil)) cal vs ρ st1) D E := h
      have e1 : ∀ (i : Nat) (v : EV) (ρ : List EV) (st : Sto), gV i cal v ρ st = .nx (ρ.set i v) st := fun i v ρ st => putAt_eq v ρ i _
      cases rv with
      | nil => exact h.elim
      | cons r1 rr =>
        have h : PostS G μ H (sBd (gV i cal _ ρ st1) fun ρ st => L3.gCons (gV j) (L3.gCons (gV l) L3.gNil) cal _ ρ st) D E := h
        rw [e1] at h
        cases rr with
        | nil => exact h.elim
        | cons r2 rr =>
          have h : PostS G μ H (sBd (gV j cal _ (ρ.set i _) st1) fun ρ st => L3.gCons (gV l) L3.gNil cal _ ρ st) D E := h
          rw [e1] at h
          cases rr with
          | nil => exact h.elim
          | cons r3 rr =>
            have h : PostS G μ H (sBd (gV l cal _ ((ρ.set i _).set j _) st1) fun ρ st => L3.gNil cal _ ρ st) D E := h
            rw [e1] at h
            cases rr with
            | nil => exact ⟨_, _, _, rfl, h μ' H' _ x' s' (((((r.mono x' s.notup).set r1 i)).set r2 j).set r3 l)⟩
            | cons _ _ => exact h.elim
    · exact h.elim
/-- t1 = t2 = e -/
theorem ts_set2 {t1 t2 e : Expr} {m : ES} {g1 g2 : GS} {sl1 sl2 : List Nat} {pos : Pos} (hs1 : noStar t1 = true) (hs2 : noStar t2 = true) (n1 : NoRt g1) (n2 : NoRt g2) (he : PE X e (T G E cal m)) (h1 : PG X t1 (TGd G E cal g1 sl1)) (h2 : PG X t2 (TGd G E cal g2 sl2)) :
    PS X (.Assign [t1, t2] e pos) (TS' G E cal (sSet2 g1 g2 m)) := by
  refine (ps_asg2 he h1 h2 (by rw [assignEach_cons hs1, assignEach_cons hs2]; rfl) (by cases t1 <;> first | rfl | (cases e <;> rfl))).impL fun D σ H ⟨μ, ρ, st, s, r, h⟩ => ?_
  refine runS s r (kk := fun v st => sBd (g1 cal v ρ st) fun ρ st => g2 cal v ρ st) h fun v H1 μ1 st1 ev x1 s1 r1 rv h => ?_
  refine ⟨μ1, ρ, st1, ev, s1, r1, rv, ?_⟩
  have nr := n1 cal ev ρ st1
  cases e1 : g1 cal ev ρ st1 with
  | ex => rw [e1] at h; exact h
  | no => rw [e1] at h; exact h
  | rt => rw [e1] at nr; exact False.elim nr
  | bk => rw [e1] at nr; exact False.elim nr
  | ct => rw [e1] at nr; exact False.elim nr
  | nx ρ2 st2 =>
    rw [e1] at h
    intro μ' H' σ' x s' r' _
    refine ⟨μ', ρ2, st2, ev, s', r', rv.mono x s1.notup, ?_⟩
    have h := PostS.mono (r := g2 cal ev ρ2 st2) h x
    have nr := n2 cal ev ρ2 st2
    cases e2 : g2 cal ev ρ2 st2 with
    | nx ρ3 st3 => rw [e2] at h; exact fun μ3 H3 σ3 x3 s3 r3 _ => h μ3 H3 σ3 x3 s3 r3
    | ex => rw [e2] at h; exact h
    | no => rw [e2] at h; exact h
    | rt => rw [e2] at nr; exact False.elim nr
    | bk => rw [e2] at nr; exact False.elim nr
    | ct => rw [e2] at nr; exact False.elim nr
/-! ### op= -/
def Ip2 (G : Fix) (E : EXK) (X : Cx) (op : Operator) (p : P2) : Prop := PIp X op fun x y H Q => ∃ μ st a b, RS' G μ H st ∧ RV G μ H a x ∧ RV G μ H b y ∧ PostE G μ H (p a b st) Q E
def Get2 (G : Fix) (E : EXK) (X : Cx) : Prop := PGet X fun o i H Q => ∃ μ st a b, RS' G μ H st ∧ RV G μ H a o ∧ RV G μ H b i ∧ PostE G μ H (pIxL a b st) Q E
theorem ts_aug (g : Good G P w mg base k c E X) {i : Nat} {x : Str} {e : Expr} {m : ES} {op : Operator} {p : P2} {pos pos' : Pos} (hi : c.N[i]? = some x) (hx : Loc c.sc x) (hf : X.fn x = true ∨ c.sc.names.lookup x = some .local) (ho : Ip2 G E X op p) (he : PE X e (T G E cal m)) :
    PS X (.AugAssign (.Name x pos') op e pos) (TS' G E cal (sAug p i m)) := by
  refine (ps_aug g.nd (by rw [g.nn]; exact hi) (by rw [g.sc]; exact hx) he ho (by rw [g.sc]; exact hf)).impL fun D σ H ⟨μ, ρ, st, s, r, h⟩ => ?_
  have h : PostS G μ H (nth .no ρ i fun a => ift (isU a) .no (rBs (m cal ρ st) fun v st => rBs (p a v st) fun z st => putAt z ρ i fun ρ => .nx ρ st)) D E := h
  rw [nth_eq] at h
  cases ea : ρ[i]? with
  | none => rw [ea] at h; exact h.elim
  | some a =>
    rw [ea] at h
    have h : PostS G μ H (ift (isU a) RS.no (rBs (m cal ρ st) fun v st => rBs (p a v st) fun z st => putAt z ρ i fun ρ => .nx ρ st)) D E := h
    cases u : isU a with
    | true => rw [u] at h; exact h.elim
    | false =>
      rw [u] at h
      obtain ⟨y, h1, h2⟩ := r.at_ i a ea u
      refine ⟨y, h1, ?_⟩
      refine runS s r (kk := fun v st => rBs (p a v st) fun z st => putAt z ρ i fun ρ => .nx ρ st) h fun v H1 μ1 st1 ev x1 s1 r1 rv h => ?_
      refine ⟨μ1, st1, a, ev, s1, h2.mono x1 s.notup, rv, ?_⟩
      have h := PostE.bindS (r := p a ev st1) h
      cases e2 : p a ev st1 with
      | ex => rw [e2] at h; exact h
      | no => rw [e2] at h; exact h
      | ok z st3 =>
        rw [e2] at h
        intro μ' H' y3 x3 s3 q3
        obtain ⟨μ4, st4, v4, x4, s4, r4, h⟩ := h μ' H' y3 x3 s3 q3
        have h : PostS G μ4 H' (putAt v4 ρ i fun ρ => .nx ρ st4) D E := h
        rw [putAt_eq] at h
        exact h μ4 H' _ .refl s4 ((r1.mono x4 s1.notup).set r4 i)
theorem augStore_no {i : Expr} (h : isSlice i = false) (ov iv new : Value) : augStore i ov iv new = (do holding [new, ov, iv] (setItem ov iv new); release [new, ov, iv] []; pure .next) := by
  cases i <;> first | rfl | (cases (show true = false from h))
theorem ts_augS {o i e : Expr} {mo mi m : ES} {op : Operator} {p : P2} {pos tpos : Pos} (hs : isSlice i = false) (hset : Set3 G E X) (hget : Get2 G E X) (hip : Ip2 G E X op p) (ho : PE X o (T G E cal mo)) (hi : PE X i (T G E cal mi)) (he : PE X e (T G E cal m)) :
    PS X (.AugAssign (.Subscript o i tpos) op e pos) (TS' G E cal (sAugS p mo mi m)) := by
  refine (ps_augS ho hi hget he hip hset (augStore_no hs)).impL fun D σ H ⟨μ, ρ, st, s, r, h⟩ => ?_
  refine runS s r (kk := fun o st => rBs (mi cal ρ st) fun i st => rBs (pIxL o i st) fun a st => rBs (m cal ρ st) fun v st => rBs (p a v st) fun z st => rBs (setIx o i z st) fun _ st => .nx ρ st) h fun ov H1 μ1 st1 eo x1 s1 r1 ro h => ?_
  refine runS s1 r1 (kk := fun i st => rBs (pIxL eo i st) fun a st => rBs (m cal ρ st) fun v st => rBs (p a v st) fun z st => rBs (setIx eo i z st) fun _ st => .nx ρ st) h fun iv H2 μ2 st2 ei x2 s2 r2 ri h => ?_
  refine ⟨μ2, st2, eo, ei, s2, ro.mono x2 s1.notup, ri, ?_⟩
  have h := PostE.bindS (r := pIxL eo ei st2) h
  cases e3 : pIxL eo ei st2 with
  | ex => rw [e3] at h; exact h
  | no => rw [e3] at h; exact h
  | ok a3 st3 =>
    rw [e3] at h
    intro μ' H' ya x3 s3 q3
    obtain ⟨μ3, st3', a3', x3, s3, ra, h⟩ := h μ' H' ya x3 s3 q3
    have h : PostS G μ3 H' (rBs (m cal ρ st3') fun v st => rBs (p a3' v st) fun z st => rBs (setIx eo ei z st) fun _ st => .nx ρ st) D E := h
    have n2 := s2.notup
    refine runS s3 (r2.mono x3 n2) h fun v H4 μ4 st4 ev x4 s4 r4 rv h => ?_
    refine ⟨μ4, st4, a3', ev, s4, ra.mono x4 s3.notup, rv, ?_⟩
    have h := PostE.bindS (r := p a3' ev st4) h
    cases e5 : p a3' ev st4 with
    | ex => rw [e5] at h; exact h
    | no => rw [e5] at h; exact h
    | ok z5 st5 =>
      rw [e5] at h
      intro μ5 H5 yz x5 s5 q5
      obtain ⟨μ6, st6, z6, x6, s6, rz, h⟩ := h μ5 H5 yz x5 s5 q5
      have x36 := x3.trans (x4.trans x6)
      refine ⟨μ6, st6, eo, ei, z6, s6, (ro.mono x2 s1.notup).mono x36 n2, ri.mono x36 n2, rz, ?_⟩
      have h := PostE.bindS (r := setIx eo ei z6 st6) h
      cases e7 : setIx eo ei z6 st6 with
      | ex => rw [e7] at h; exact h
      | no => rw [e7] at h; exact h
      | ok v7 st7 =>
        rw [e7] at h
        intro μ7 H7 y7 x7 s7 q7
        obtain ⟨μ8, st8, v8, x8, s8, r8, h⟩ := h μ7 H7 y7 x7 s7 q7
        exact h μ8 H7 σ .refl s8 ((r4.mono x6 s4.notup).mono x8 s6.notup)

/-! ### a comprehension's block -/
def blkC (c : SC) (scope : Scope) : SC := ⟨c.N, relS scope c.sc, some scope⟩
theorem good_blk (g : Good G P w mg base k c E X) (scope : Scope) (s : Shared) (H : Hp) (C : Addr) (cl : List (Str × Addr)) (fp : List Addr) : Good G P w mg base k (blkC c scope) EB (Blk X scope s H C cl fp) where
  pr := g.pr
  wo := g.wo
  kk := g.kk
  mm := g.mm
  bb := g.bb
  nn := g.nn
  sc := by
    show relS scope X.env.scope = relS scope c.sc
    rw [g.sc]
  calm := g.calm
  nd := g.nd
  room := g.room
  own := PassesOwn.never
  pass := ⟨fun _ _ _ => False, fun pins σ H s e s' I h => by
    obtain ⟨_, _, _, _, _, _, _, _, _, _, _, _, z⟩ := h
    exact z.elim, fun _ _ _ _ _ z => z.elim⟩
  fn := rfl
/-- what is asked of a one-clause comprehension -/
structure Comp1 (G : Fix) (P : Program) (w : World) (mg : Str → Option Value) (base : Heap) (k : Nat) (c : SC) (cal : Cal) (X : Cx) (elt tg : Expr) (ifs : List Expr) (scope : Scope) (gg : GS) (ms : List ES) (me : ES) (sl : List Nat) : Prop where
  tg : ∀ X', Good G P w mg base k (blkC c scope) EB X' → PG X' tg (TGd G EB cal gg sl)
  ts : ∀ X', Good G P w mg base k (blkC c scope) EB X' → PTs X' ifs (TTl G cal ms)
  el : ∀ X', Good G P w mg base k (blkC c scope) EB X' → PE X' elt (T G EB cal me)
theorem t_comp1 (g : Good G P w mg base k c E X) {elt tg iter : Expr} {ifs : List Expr} {scope : Scope} {own : List (Str × Nat)} {pos : Pos} {gg : GS} {m : WS} {ms : List ES} {me : ES} {sl : List Nat} (hsl : ∀ i ∈ sl, i ∈ own.map (·.2)) (hm : ms.length ≤ 1) (ok : BlkOk c.N c.sc scope own)
    (hi : PI X tg iter (TIw G E cal m)) (h : Comp1 G P w mg base k c cal X elt tg ifs scope gg ms me sl) (hs : ∀ x, foldedSetIterable iter X.env x = pure x) :
    PE X (.ListComp elt [⟨tg, iter, ifs, 0⟩] scope pos) (T G E cal (cComp gg m ms (kElt me) (own.map (·.2)))) :=
  (pe_lc g.calm g.nd hi (by rw [g.nn, g.sc]; exact ok) (fun s H C cl fp => h.tg _ (good_blk g scope s H C cl fp)) (fun s H C cl fp => h.ts _ (good_blk g scope s H C cl fp)) (fun s H C cl fp => h.el _ (good_blk g scope s H C cl fp)) hs).impL fun _ _ _ z => comp1_h g hsl hm z
theorem tsetLc_h {m : ES} {t : TE} {i : Nat} {D : Ends} (hm : ∀ σ H Q, T G E cal m σ H Q → t σ H Q) (h : TS' G E cal (sSet (gV i) m) D σ H) : tAsg t (gName i) D σ H := by
  obtain ⟨μ, ρ, st, s, r, h⟩ := h
  refine hm _ _ _ (runS s r (kk := fun v st => gV i cal v ρ st) h fun v H1 μ1 st1 ev x1 s1 r1 rv h => ?_)
  have h : PostS G μ1 H1 (putAt ev ρ i fun ρ => .nx ρ st1) D E := h
  rw [putAt_eq] at h
  exact h μ1 H1 _ .refl s1 (r1.set rv i)
theorem ts_comp1 (g : Good G P w mg base k c E X) {i : Nat} {y : Str} {py spos : Pos} {elt tg iter : Expr} {ifs : List Expr} {scope : Scope} {own : List (Str × Nat)} {pos : Pos} {gg : GS} {m : WS} {ms : List ES} {me : ES} {sl : List Nat} (hsl : ∀ i ∈ sl, i ∈ own.map (·.2)) (hm : ms.length ≤ 1) (ok : BlkOk c.N c.sc scope own)
    (hy : c.N[i]? = some y) (hyl : c.sc.names.lookup y = some .local) (hk : c.sc.kind = .function) (hsw : swB c.sc scope y (py.line == pos.line) = true)
    (hi : PI X tg iter (TIw G E cal m)) (h : Comp1 G P w mg base k c cal X elt tg ifs scope gg ms me sl) (hs : ∀ x, foldedSetIterable iter X.env x = pure x) :
    PS X (.Assign [.Name y py] (.ListComp elt [⟨tg, iter, ifs, 0⟩] scope pos) spos) (TS' G E cal (sSet (gV i) (cComp gg m ms (kElt me) (own.map (·.2))))) :=
  (ps_setLc g.calm g.nd (by rw [g.nn]; exact hy) (by rw [g.sc]; exact hyl) (by rw [sw_comp (by rw [g.sc]; exact hk), g.sc, hsw]) hi (by rw [g.nn, g.sc]; exact ok) (fun s H C cl fp => h.tg _ (good_blk g scope s H C cl fp)) (fun s H C cl fp => h.ts _ (good_blk g scope s H C cl fp)) (fun s H C cl fp => h.el _ (good_blk g scope s H C cl fp)) hs).impL
    fun D σ H z => tsetLc_h (fun _ _ _ z => comp1_h g hsl hm z) z
/-- .. of two clauses -/
structure Comp2 (G : Fix) (P : Program) (w : World) (mg : Str → Option Value) (base : Heap) (k : Nat) (c : SC) (cal : Cal) (X : Cx) (elt tg : Expr) (ifs : List Expr) (tg1 iter1 : Expr) (ifs1 : List Expr) (scope : Scope) (gg : GS) (ms : List ES) (gg1 : GS) (m1 : WS) (ms1 : List ES) (me : ES) (sl sl1 : List Nat) : Prop where
  tg : ∀ X', Good G P w mg base k (blkC c scope) EB X' → PG X' tg (TGd G EB cal gg sl)
  ts : ∀ X', Good G P w mg base k (blkC c scope) EB X' → PTs X' ifs (TTl G cal ms)
  it1 : ∀ X', Good G P w mg base k (blkC c scope) EB X' → PI X' tg1 iter1 (TIw G EB cal m1)
  tg1 : ∀ X', Good G P w mg base k (blkC c scope) EB X' → PG X' tg1 (TGd G EB cal gg1 sl1)
  ts1 : ∀ X', Good G P w mg base k (blkC c scope) EB X' → PTs X' ifs1 (TTl G cal ms1)
  el : ∀ X', Good G P w mg base k (blkC c scope) EB X' → PE X' elt (T G EB cal me)
theorem t_comp2 (g : Good G P w mg base k c E X) {elt tg iter tg1 iter1 : Expr} {ifs ifs1 : List Expr} {scope : Scope} {own : List (Str × Nat)} {own1 : List Nat} {pos : Pos} {gg gg1 : GS} {m m1 : WS} {ms ms1 : List ES} {me : ES} {sl sl1 : List Nat} (hsl : ∀ i ∈ sl, i ∈ own.map (·.2)) (hsl1 : ∀ i ∈ sl1, i ∈ own1) (ho : ∀ i ∈ own1, i ∈ own.map (·.2))
    (hm : ms.length ≤ 1) (hm1 : ms1.length ≤ 1) (ok : BlkOk c.N c.sc scope own) (hi : PI X tg iter (TIw G E cal m)) (h : Comp2 G P w mg base k c cal X elt tg ifs tg1 iter1 ifs1 scope gg ms gg1 m1 ms1 me sl sl1) (hs : ∀ x, foldedSetIterable iter X.env x = pure x) (hs1 : ∀ env x, foldedSetIterable iter1 env x = pure x) :
    PE X (.ListComp elt [⟨tg, iter, ifs, 0⟩, ⟨tg1, iter1, ifs1, 0⟩] scope pos) (T G E cal (cComp gg m ms (kFor gg1 m1 ms1 (kElt me) own1) (own.map (·.2)))) :=
  (pe_lc2 g.calm g.nd hi (by rw [g.nn, g.sc]; exact ok) ho (fun s H C cl fp => h.tg _ (good_blk g scope s H C cl fp)) (fun s H C cl fp => h.ts _ (good_blk g scope s H C cl fp)) (fun s H C cl fp => h.it1 _ (good_blk g scope s H C cl fp)) (fun s H C cl fp => h.tg1 _ (good_blk g scope s H C cl fp)) (fun s H C cl fp => h.ts1 _ (good_blk g scope s H C cl fp))
    (fun s H C cl fp => h.el _ (good_blk g scope s H C cl fp)) hs hs1).impL fun _ _ _ z => comp2_h g hsl hsl1 hm hm1 z
theorem ts_comp2 (g : Good G P w mg base k c E X) {i : Nat} {y : Str} {py spos : Pos} {elt tg iter tg1 iter1 : Expr} {ifs ifs1 : List Expr} {scope : Scope} {own : List (Str × Nat)} {own1 : List Nat} {pos : Pos} {gg gg1 : GS} {m m1 : WS} {ms ms1 : List ES} {me : ES} {sl sl1 : List Nat} (hsl : ∀ i ∈ sl, i ∈ own.map (·.2)) (hsl1 : ∀ i ∈ sl1, i ∈ own1) (ho : ∀ i ∈ own1, i ∈ own.map (·.2))
    (hm : ms.length ≤ 1) (hm1 : ms1.length ≤ 1) (ok : BlkOk c.N c.sc scope own) (hy : c.N[i]? = some y) (hyl : c.sc.names.lookup y = some .local) (hk : c.sc.kind = .function) (hsw : swB c.sc scope y (py.line == pos.line) = true)
    (hi : PI X tg iter (TIw G E cal m)) (h : Comp2 G P w mg base k c cal X elt tg ifs tg1 iter1 ifs1 scope gg ms gg1 m1 ms1 me sl sl1) (hs : ∀ x, foldedSetIterable iter X.env x = pure x) (hs1 : ∀ env x, foldedSetIterable iter1 env x = pure x) :
    PS X (.Assign [.Name y py] (.ListComp elt [⟨tg, iter, ifs, 0⟩, ⟨tg1, iter1, ifs1, 0⟩] scope pos) spos) (TS' G E cal (sSet (gV i) (cComp gg m ms (kFor gg1 m1 ms1 (kElt me) own1) (own.map (·.2))))) :=
  (ps_setLc2 g.calm g.nd (by rw [g.nn]; exact hy) (by rw [g.sc]; exact hyl) (by rw [sw_comp (by rw [g.sc]; exact hk), g.sc, hsw]) hi (by rw [g.nn, g.sc]; exact ok) ho (fun s H C cl fp => h.tg _ (good_blk g scope s H C cl fp)) (fun s H C cl fp => h.ts _ (good_blk g scope s H C cl fp)) (fun s H C cl fp => h.it1 _ (good_blk g scope s H C cl fp)) (fun s H C cl fp => h.tg1 _ (good_blk g scope s H C cl fp)) (fun s H C cl fp => h.ts1 _ (good_blk g scope s H C cl fp))
    (fun s H C cl fp => h.el _ (good_blk g scope s H C cl fp)) hs hs1).impL fun D σ H z => tsetLc_h (fun _ _ _ z => comp2_h g hsl hsl1 hm hm1 z) z
end
end L3

set_option Elab.async false
set_option linter.all false
set_option maxRecDepth 100000
set_option maxHeartbeats 4000000
/-! L3: operators by values. -/
noncomputable section
namespace L3
open PySem PySem.Spec PyProof.Rows L2

section
variable {G : Fix} {P : Program} {w : World} {mg : Str → Option Value} {base : Heap} {k : Nat} {c : SC} {E : EXK} {cal : Cal} {X : Cx}
variable {μ μ1 μ' : List Addr} {H H1 H' : Hp} {st : Sto} {ρ : List EV} {σ : L2.St} {Q : VK}
theorem UnR.of {f : Value → Sem Value} {r : V → Hp → VK → Prop} (h : ∀ x H Q, r x H Q → ∃ r' : V → Hp → VK → Prop, UnR X f r' ∧ r' x H Q) : UnR X f r := fun pins s σ H x v Q I rx q =>
  let ⟨_, ho, q'⟩ := h x H Q q
  ho pins s σ H x v Q I rx q'
theorem st_get (st : Sto) (a : Nat) : st.get a = st.tr.get a := by cases st; rfl
theorem RS'.lst (s : RS' G μ H st) {a : Nat} {p : Addr} (h : μ[a]? = some p) {xs : List EV} (e : st.get a = .l xs) : ∃ vs, H p = some (.lst vs) ∧ RVs G μ H xs vs := by
  have o := s.at_ a p h
  rw [st_get] at e
  rw [e] at o
  exact o
theorem PostE.sI {i : Int} (h : PostE G μ H (okI st i) Q E) (s : RS' G μ H st) : Q (.int i) H := by
  have h : PostE G μ H (L3.sI i fun i => .ok (.i i) st) Q E := h
  rw [sI_eq] at h
  exact PostE.ok h s (.i i)
theorem PostE.sNn {n : Nat} (h : PostE G μ H (okN st n) Q E) (s : RS' G μ H st) : Q (.int n) H := by
  have h : PostE G μ H (L3.sN n fun n => .ok (.i (.ofNat n)) st) Q E := h
  rw [sN_eq] at h
  exact PostE.ok h s (.i (.ofNat n))
theorem PostE.sT {xs : List EV} {ws : List V} (h : PostE G μ H (okT st xs) Q E) (s : RS' G μ H st) (r : RVs G μ H xs ws) : ws.length ≤ 16000000 ∧ (∀ a, TqT G.K H a ws → Q (.ref a) H) ∧ ∀ p, H p = none → Q (.ref p) (upd H p (.tup ws)) := by
  obtain ⟨h1, h⟩ := PostE.fits h
  rw [lenN_eq, r.length] at h1
  exact ⟨h1, fun a ha => PostE.ok (v := .t xs) h s (.t ha r), fun p hp => new_tup s r h hp⟩
theorem PostE.sLn {xs : List EV} {ws : List V} (h : PostE G μ H (newL st xs) Q E) (s : RS' G μ H st) (r : RVs G μ H xs ws) : ws.length ≤ 16000000 ∧ ∀ p, H p = none → Q (.ref p) (upd H p (.lst ws)) := by
  obtain ⟨h1, h⟩ := PostE.fits h
  rw [lenN_eq, r.length] at h1
  exact ⟨h1, fun p hp => new_lst s r h hp⟩
theorem PostE.sS {cs : List Nat} (h : PostE G μ H (okS st cs) Q E) (s : RS' G μ H st) : cs.length ≤ 16000000 ∧ Q (.str ⟨cs.toArray⟩) H := by
  obtain ⟨h1, h⟩ := PostE.fits h
  rw [lenN_eq] at h1
  exact ⟨h1, PostE.ok (v := .s cs) h s (.s cs h1)⟩
theorem PostE.sP {a : Nat} {p : Addr} {xs : List EV} {ws : List V} {v : EV} {y : V} {o : HO} (h : PostE G μ H (putL st a xs v) Q E) (s : RS' G μ H st) (hp : μ[a]? = some p) (ho : H p = some o) (r : RVs G μ H xs ws) (kp : Kp G μ H μ (upd H p (.lst ws))) (rv : RV G μ H v y) : ws.length ≤ 16000000 ∧ Q y (upd H p (.lst ws)) := by
  obtain ⟨h1, h⟩ := PostE.fits h
  rw [lenN_eq, r.length] at h1
  rw [Sto.put_eq] at h
  exact ⟨h1, h μ _ y (Ext.put (List.mem_of_getElem? hp) ho) (s.put hp ⟨ws, upd_same, r.kp kp⟩) (rv.kp kp)⟩
/-- a tracked list rewritten -/
theorem Kp.put {p : Addr} {u : HO} {o : HO} (s : RS' G μ H st) (hp : p ∈ μ) (ho : H p = some o) : Kp G μ H μ (upd H p u) := ⟨fun _ _ h => h, fun a vs h => (Ext.put hp ho).sqT s.notup h, fun a vs h => (Ext.put hp ho).tqT s.notup h⟩
theorem okB_cases {b : B3} {R' : Prop} (h : PostE G μ H (okB st b) Q E) (s : RS' G μ H st) : ∃ z : Bool, b = .of z ∧ Q (.bl z) H := by
  cases b with
  | f => exact ⟨false, rfl, PostE.ok (v := .b false) h s (.b false)⟩
  | t => exact ⟨true, rfl, PostE.ok (v := .b true) h s (.b true)⟩
  | x => exact h.elim

/-! ### + - * // % - -/
theorem op2_add (g : Good G P w mg base k c E X) : Op2 G E X (binaryOp .Add) pAdd := OpR.of fun x y H Q ⟨μ, st, a, b, s, ra, rb, h⟩ => by
  cases ra with
  | i x =>
    cases rb with
    | i y => exact ⟨_, op_add, x, y, rfl, rfl, PostE.sI h s⟩
    | _ => exact h.elim
  | s cs hc =>
    cases rb with
    | s ds hd =>
      have h : PostE G μ H (app cs ds (okS st)) Q E := h
      rw [app_eq] at h
      obtain ⟨h1, h2⟩ := PostE.sS h s
      rw [List.length_append] at h1
      refine ⟨_, op_add_str, ⟨cs.toArray⟩, ⟨ds.toArray⟩, rfl, rfl, ?_, ?_⟩
      · rw [sizeLine_eq]
        show cs.toArray.size + ds.toArray.size ≤ _
        simp; omega
      · have e : (⟨cs.toArray⟩ : Str) ++ ⟨ds.toArray⟩ = ⟨(cs ++ ds).toArray⟩ := by
          show (⟨cs.toArray ++ ds.toArray⟩ : Str) = _
          simp
        rw [e]; exact h2
    | _ => exact h.elim
  | @t xs p vs hp r =>
    cases rb with
    | @t ys p' ws hp' r' =>
      have h : PostE G μ H (app xs ys (okT st)) Q E := h
      rw [app_eq] at h
      obtain ⟨h1, h2, h3⟩ := PostE.sT h s (r.append r')
      rw [List.length_append] at h1
      refine ⟨_, op_catA, p, p', vs, ws, rfl, rfl, by rw [g.kk]; exact hp.sq, by rw [g.kk]; exact hp'.sq, by rw [sizeLine_eq]; omega, fun e => ?_, fun _ e => ?_, fun _ _ => h3⟩
      · subst e; exact h2 p' (by simpa using hp')
      · subst e; exact h2 p (by simpa using hp)
    | _ => exact h.elim
  | @l l p hl =>
    have h : PostE G μ H (gOL R.no (st.get l) fun xs => gLs .no b st fun _ ys => app xs ys (newL st)) Q E := h
    cases e : st.get l with
    | l xs =>
      rw [e] at h
      obtain ⟨vs, e1, r⟩ := s.lst hl e
      cases rb with
      | @l l' p' hl' =>
        have h : PostE G μ H (gOL R.no (st.get l') fun ys => app xs ys (newL st)) Q E := h
        cases e' : st.get l' with
        | l ys =>
          rw [e'] at h
          obtain ⟨ws, e1', r'⟩ := s.lst hl' e'
          have h : PostE G μ H (app xs ys (newL st)) Q E := h
          rw [app_eq] at h
          obtain ⟨h1, h2⟩ := PostE.sLn h s (r.append r')
          rw [List.length_append] at h1
          exact ⟨_, op_cat, p, p', vs, ws, rfl, rfl, e1, e1', by rw [sizeLine_eq]; omega, h2⟩
        | _ => rw [e'] at h; exact h.elim
      | _ => exact h.elim
    | _ => rw [e] at h; exact h.elim
  | _ => exact h.elim
theorem op2_sub : Op2 G E X (binaryOp .Sub) pSub := OpR.of fun x y H Q ⟨μ, st, a, b, s, ra, rb, h⟩ => by
  cases ra with
  | i x =>
    cases rb with
    | i y => exact ⟨_, op_sub, x, y, rfl, rfl, PostE.sI h s⟩
    | _ => exact h.elim
  | _ => exact h.elim
theorem mulOk_ok {x y : Int} (h : mulOk x y = true) : IntMulOk x y := by
  have h : ift (Nat.blt y.natAbs 1000000000000) true (Nat.blt (Nat.log2 x.natAbs + Nat.log2 y.natAbs) 900000) = true := h
  rw [ift_eq] at h
  split at h
  · rename_i e
    have e : y.natAbs < 1000000000000 := Nat.le_of_ble_eq_true e
    exact .of_right (intBits_le_64 (by omega) (by omega))
  · have h : Nat.log2 x.natAbs + Nat.log2 y.natAbs < 900000 := Nat.le_of_ble_eq_true h
    exact CMulW.ok (by unfold CMulW; omega)
theorem op_mulO : OpR X (binaryOp .Mult) (rI IntMulOk fun i j => .int (i * j)) := opI fun _ _ _ _ _ _ _ hc q => mul_int q hc
theorem repK_eq {α β : Type} (xs : List β) : ∀ (n : Nat) (kk : List β → α), repK xs n kk = kk (List.replicate n xs).flatten
  | 0, kk => rfl
  | n + 1, kk => by
    show repK xs n (fun r => app xs r kk) = _
    rw [repK_eq xs n, app_eq, List.replicate_succ, List.flatten_cons]
theorem RVs.rep {xs : List EV} {vs : List V} (r : RVs G μ H xs vs) : ∀ n : Nat, RVs G μ H (List.replicate n xs).flatten (List.replicate n vs).flatten
  | 0 => .nil
  | n + 1 => by
    rw [List.replicate_succ, List.replicate_succ, List.flatten_cons, List.flatten_cons]
    exact r.append (r.rep n)
theorem RVs.empty {xs : List EV} (r : RVs G μ H xs []) : xs = [] := by cases r; rfl
theorem small_lt {i : Int} (h : small i = true) : i.natAbs < 1000000000000 := Nat.le_of_ble_eq_true h
theorem times_ok {n : Int} {l : Nat} (h : times n l = true) : n.toNat * l ≤ 16000000 ∧ n.natAbs < 1000000000000 := by
  have h : ift (small n) (Nat.ble (n.toNat * l) 16000000) false = true := h
  rw [ift_eq] at h
  split at h
  · rename_i a
    exact ⟨Nat.le_of_ble_eq_true h, small_lt a⟩
  · cases h
theorem op2_fdiv (g : Good G P w mg base k c E X) : Op2 G E X (binaryOp .FloorDiv) pFdiv := OpR.of fun x y H Q ⟨μ, st, a, b, s, ra, rb, h⟩ => by
  cases ra with
  | i x =>
    cases rb with
    | i y =>
      obtain ⟨e, h⟩ := PostE.ift h
      have q := PostE.sI h s
      cases y with
      | ofNat n =>
        have e : ift (Nat.beq n 0) false (Nat.blt (Nat.log2 n) 9000) = true := e
        rw [ift_eq] at e
        split at e
        · cases e
        · rename_i hn
          have hn0 : n ≠ 0 := fun z => hn (by rw [z]; rfl)
          have e := Nat.le_of_ble_eq_true e
          refine ⟨_, op_fdivW, x, _, rfl, rfl, ⟨?_, e⟩, ?_⟩
          · show (0 : Int) < (n : Int); omega
          · have e3 : x.fdiv (Int.ofNat n) = x / Int.ofNat n := Int.fdiv_eq_ediv_of_nonneg x (Int.natCast_nonneg n)
            rw [e3] at q
            exact q
      | negSucc n =>
        have e : n < 1000000000 := Nat.le_of_ble_eq_true e
        refine ⟨_, op_fdivN, x, _, rfl, rfl, ⟨by omega, ?_⟩, q⟩
        show n + 1 < _
        omega
    | _ => exact h.elim
  | _ => exact h.elim
theorem beq_dec (a b : Nat) : Nat.beq a b = decide (a = b) := by
  rw [Bool.eq_iff_iff, decide_eq_true_iff]
  exact ⟨Nat.eq_of_beq_eq_true, fun e => by rw [e]; exact Nat.beq_refl b⟩
theorem blt_dec (a b : Nat) : Nat.blt a b = decide (a < b) := by
  rw [Bool.eq_iff_iff, decide_eq_true_iff]
  exact ⟨fun h => Nat.le_of_ble_eq_true h, fun h => Nat.ble_eq_true_of_le h⟩
theorem iEq_ok : ∀ (a b : Int), iEq a b = decide (a = b)
  | .ofNat a, .ofNat b => by
    show Nat.beq a b = _
    rw [beq_dec]
    apply decide_eq_decide.mpr
    exact ⟨fun e => by rw [e], fun e => Int.ofNat.inj e⟩
  | .ofNat a, .negSucc b => rfl
  | .negSucc a, .ofNat b => rfl
  | .negSucc a, .negSucc b => by
    show Nat.beq a b = _
    rw [beq_dec]
    apply decide_eq_decide.mpr
    exact ⟨fun e => by rw [e], fun e => Int.negSucc.inj e⟩
theorem iLt_ok : ∀ (a b : Int), iLt a b = decide (a < b)
  | .ofNat a, .ofNat b => by
    show Nat.blt a b = _
    rw [blt_dec]
    apply decide_eq_decide.mpr
    show a < b ↔ (a : Int) < (b : Int)
    omega
  | .ofNat a, .negSucc b => by
    show false = _
    symm
    apply decide_eq_false
    show ¬ (a : Int) < Int.negSucc b
    omega
  | .negSucc a, .ofNat b => by
    show true = _
    symm
    apply decide_eq_true
    show Int.negSucc a < (b : Int)
    omega
  | .negSucc a, .negSucc b => by
    show Nat.blt b a = _
    rw [blt_dec]
    apply decide_eq_decide.mpr
    omega
theorem op2_mod : Op2 G E X (binaryOp .Mod) pMod := OpR.of fun x y H Q ⟨μ, st, a, b, s, ra, rb, h⟩ => by
  cases ra with
  | i x =>
    cases rb with
    | i y =>
      have h : PostE G μ H (ift (iEq y 0) .no (okI st (Int.fmod x y))) Q E := h
      rw [ift_eq, iEq_ok] at h
      split at h
      · exact h.elim
      · rename_i hn
        exact ⟨_, op_modN, x, y, rfl, rfl, by simpa using hn, PostE.sI h s⟩
    | _ => exact h.elim
  | _ => exact h.elim
theorem op1_neg : Op1 G E X (unaryOp .USub) pNeg := UnR.of fun x H Q ⟨μ, st, a, s, ra, h⟩ => by
  cases ra with
  | i x => exact ⟨_, un_neg, x, rfl, PostE.sI h s⟩
  | _ => exact h.elim
/-! ### comparisons of ints, is None -/
theorem of_inj {a b : Bool} (h : B3.of a = B3.of b) : a = b := by cases a <;> cases b <;> first | rfl | (cases (show B3.f = B3.t from h)) | (cases (show B3.t = B3.f from h))
theorem notB_of (b : Bool) : notB (.of b) = .of (!b) := by cases b <;> rfl
theorem op2_le : Op2 G E X (compareOp .LtE) pLe := OpR.of fun x y H Q ⟨μ, st, a, b, s, ra, rb, h⟩ => by
  cases ra with
  | i x =>
    cases rb with
    | i y =>
      have h : PostE G μ H (okB st (notB (.of (iLt y x)))) Q E := h
      rw [notB_of] at h
      obtain ⟨z, e, q⟩ := okB_cases (R' := True) h s
      have e := of_inj e
      rw [iLt_ok] at e
      refine ⟨_, op_le, x, y, rfl, rfl, ?_⟩
      show Q (.bl (decide (x ≤ y))) H
      rw [show decide (x ≤ y) = z from by rw [← e]; by_cases hh : x ≤ y <;> simp [hh] <;> omega]
      exact q
    | _ => exact h.elim
  | _ => exact h.elim
theorem op2_ge : Op2 G E X (compareOp .GtE) pGe := OpR.of fun x y H Q ⟨μ, st, a, b, s, ra, rb, h⟩ => by
  cases ra with
  | i x =>
    cases rb with
    | i y =>
      have h : PostE G μ H (okB st (notB (.of (iLt x y)))) Q E := h
      rw [notB_of] at h
      obtain ⟨z, e, q⟩ := okB_cases (R' := True) h s
      have e := of_inj e
      rw [iLt_ok] at e
      refine ⟨_, op_ge, x, y, rfl, rfl, ?_⟩
      show Q (.bl (decide (y ≤ x))) H
      rw [show decide (y ≤ x) = z from by rw [← e]; by_cases hh : x < y <;> simp [hh] <;> omega]
      exact q
    | _ => exact h.elim
  | _ => exact h.elim
theorem isN_ok {v : EV} {x : V} {st : Sto} {b : Bool} (r : RV G μ H v x) (h : isN v = .of b) : decide (x = .non) = b := by
  cases r with
  | n => exact of_inj (a := true) h
  | b y => exact of_inj (a := false) h
  | i y => exact of_inj (a := false) h
  | s y => exact of_inj (a := false) h
  | t y => exact of_inj (a := false) h
  | l y => exact of_inj (a := false) h
  | f y => exact of_inj (a := false) h
  | y y => exact of_inj (a := false) h
/-- is None, is not None: the right side is None -/
theorem t_isN {a b : Expr} {ma : ES} {pos : Pos} (ha : PE X a (T G E cal ma)) (hb : PE X b (tC .non)) (hm : behindInMarks .Is b = false) : PE X (.Compare a [.Is] [b] pos) (T G E cal (c1 pIsN ma)) :=
  (pe_cmpR op_isN ha hb hm).impL fun σ H Q h => (T.one h).imp fun x H1 ⟨μ, st, v, s, r, h⟩ => by
    obtain ⟨z, e, q⟩ := okB_cases (R' := True) h s
    refine ⟨rfl, ?_⟩
    rw [isN_ok (st := st) r e]
    exact q
theorem t_isnN {a b : Expr} {ma : ES} {pos : Pos} (ha : PE X a (T G E cal ma)) (hb : PE X b (tC .non)) (hm : behindInMarks .IsNot b = false) : PE X (.Compare a [.IsNot] [b] pos) (T G E cal (c1 pIsnN ma)) :=
  (pe_cmpR op_notN ha hb hm).impL fun σ H Q h => (T.one h).imp fun x H1 ⟨μ, st, v, s, r, h⟩ => by
    obtain ⟨z, e, q⟩ := okB_cases (R' := True) h s
    refine ⟨rfl, ?_⟩
    have e1 : isN v = .of (!z) := by
      cases hv : isN v with
      | f => rw [hv] at e; rw [← of_inj (a := true) e]; rfl
      | t => rw [hv] at e; rw [← of_inj (a := false) e]; rfl
      | x => rw [hv] at e; cases z <;> cases (show B3.x = _ from e)
    rw [isN_ok (st := st) r e1, Bool.not_not]
    exact q
end
end L3

set_option Elab.async false
set_option linter.all false
set_option maxRecDepth 100000
set_option maxHeartbeats 4000000
/-! L3: == of data. -/
noncomputable section
namespace L3
open PySem PySem.Spec PyProof.Rows L2

/-- the data that a value is -/
def toD (st : Sto) : Nat → EV → PyData
  | 0, _ => .none
  | n + 1, .b x => .bool x
  | n + 1, .i x => .int x
  | n + 1, .s c => .str ⟨c.toArray⟩
  | n + 1, .t xs => .tuple (xs.map (toD st n))
  | n + 1, .l a => match st.get a with
    | .l xs => .list (xs.map (toD st n))
    | _ => .none
  | n + 1, _ => .none
theorem allB1_ok {β : Type} {p : β → Bool} : ∀ {xs : List β}, allB1 p xs = true → ∀ x ∈ xs, p x = true
  | [], _, x, hx => absurd hx (by simp)
  | y :: xs, h, x, hx => by
    have h : ift (p y) (allB1 p xs) false = true := h
    rw [ift_eq] at h
    split at h
    · rcases List.mem_cons.mp hx with e | hx
      · rw [e]; assumption
      · exact allB1_ok h x hx
    · cases h
section
variable {G : Fix} {P : Program} {w : World} {mg : Str → Option Value} {base : Heap} {k : Nat} {c : SC} {E : EXK} {cal : Cal} {X : Cx}
variable {μ μ1 μ' : List Addr} {H H1 H' : Hp} {st : Sto} {ρ : List EV} {σ : L2.St} {Q : VK}
theorem dpAll_of {n : Nat} (ih : ∀ (v : EV) (x : V), RV G μ H v x → dD st n v = true → Dp G.K H x (toD st n v) ∧ (toD st n v).canLay0 = true ∧ (toD st n v).depth ≤ n) :
    ∀ {xs : List EV} {vs : List V}, RVs G μ H xs vs → (∀ x ∈ xs, dD st n x = true) → DpAll G.K H vs (xs.map (toD st n)) ∧ PyData.canLayAll0 (xs.map (toD st n)) = true ∧ PyData.depthAll (xs.map (toD st n)) ≤ n
  | _, _, .nil, _ => ⟨.nil, rfl, Nat.zero_le _⟩
  | _, _, .cons (x := x) (xs := xs) h r, hd => by
    obtain ⟨a1, a2, a3⟩ := ih _ _ h (hd x List.mem_cons_self)
    obtain ⟨b1, b2, b3⟩ := dpAll_of ih r fun y hy => hd y (List.mem_cons_of_mem _ hy)
    refine ⟨.cons a1 b1, ?_, ?_⟩
    · show ((toD st n x).canLay0 && PyData.canLayAll0 (xs.map (toD st n))) = true
      rw [a2, b2]; rfl
    · show max (toD st n x).depth (PyData.depthAll (xs.map (toD st n))) ≤ n
      exact Nat.max_le.mpr ⟨a3, b3⟩
theorem dp_of (s : RS' G μ H st) : ∀ (n : Nat) (v : EV) (x : V), RV G μ H v x → dD st n v = true → Dp G.K H x (toD st n v) ∧ (toD st n v).canLay0 = true ∧ (toD st n v).depth ≤ n
  | 0, _, _, _, h => by cases h
  | n + 1, v, x, r, h => by
    have ih := dp_of s n
    have h : dStep st (dD st n) v = true := h
    cases r with
    | n => exact ⟨.non, rfl, Nat.zero_le _⟩
    | b y => exact ⟨.bl y, rfl, Nat.zero_le _⟩
    | i y => exact ⟨.int y, rfl, Nat.zero_le _⟩
    | s cs hc =>
      refine ⟨.str _, ?_, Nat.zero_le _⟩
      show PyData.strOk ⟨cs.toArray⟩ = true
      unfold PyData.strOk
      have h := allB1_ok (xs := cs) h
      simp only [Array.all_eq_true']
      intro y hy
      have := h y (by simpa using hy)
      exact decide_eq_true (Nat.le_of_ble_eq_true this)
    | @t xs a vs hq rs =>
      obtain ⟨b1, b2, b3⟩ := dpAll_of ih rs (allB1_ok (xs := xs) h)
      exact ⟨.tup hq.sq b1, b2, Nat.succ_le_succ b3⟩
    | @l l a hl =>
      have h : gOL false (st.get l) (fun xs => allB1 (dD st n) xs) = true := h
      show Dp G.K H (.ref a) (match st.get l with
        | .l xs => .list (xs.map (toD st n))
        | _ => .none) ∧ (match st.get l with
        | .l xs => .list (xs.map (toD st n))
        | _ => .none : PyData).canLay0 = true ∧ (match st.get l with
        | .l xs => .list (xs.map (toD st n))
        | _ => .none : PyData).depth ≤ n + 1
      cases e : st.get l with
      | l xs =>
        rw [e] at h
        obtain ⟨vs, e1, rs⟩ := s.lst hl e
        obtain ⟨b1, b2, b3⟩ := dpAll_of ih rs (allB1_ok (xs := xs) h)
        exact ⟨.lst (SqL.of e1) b1, b2, Nat.succ_le_succ b3⟩
      | _ => rw [e] at h; cases h
    | f y => cases h
    | y y => cases h
theorem cEq_ok : ∀ a b : List Nat, cEq a b = decide (a = b)
  | [], [] => rfl
  | [], _ :: _ => rfl
  | _ :: _, [] => rfl
  | x :: a, y :: b => by
    show ift (Nat.beq x y) (cEq a b) false = _
    rw [ift_eq, beq_dec, cEq_ok a b]
    by_cases h : x = y
    · subst h
      by_cases h2 : a = b <;> simp [h2]
    · simp [h]
theorem eqL_ok {n : Nat} {r : EV → EV → B3} (ih : ∀ a b z, r a b = .of z → dD st n a = true → dD st n b = true → PyData.eqv (toD st n a) (toD st n b) = z) :
    ∀ (xs ys : List EV) (z : Bool), eqL r xs ys = .of z → (∀ x ∈ xs, dD st n x = true) → (∀ x ∈ ys, dD st n x = true) → PyData.eqvAll (xs.map (toD st n)) (ys.map (toD st n)) = z
  | [], [], z, h, _, _ => of_inj (a := true) h
  | [], _ :: _, z, h, _, _ => of_inj (a := false) h
  | _ :: _, [], z, h, _, _ => of_inj (a := false) h
  | x :: xs, y :: ys, z, h, hx, hy => by
    have h : b3 (r x y) B3.f (eqL r xs ys) B3.x = .of z := h
    show (PyData.eqv (toD st n x) (toD st n y) && PyData.eqvAll (xs.map (toD st n)) (ys.map (toD st n))) = z
    cases e : r x y with
    | x => rw [e] at h; cases z <;> cases (show B3.x = _ from h)
    | f =>
      rw [e] at h
      rw [ih x y false e (hx x List.mem_cons_self) (hy y List.mem_cons_self)]
      exact of_inj (a := false) h
    | t =>
      rw [e] at h
      rw [ih x y true e (hx x List.mem_cons_self) (hy y List.mem_cons_self)]
      rw [eqL_ok ih xs ys z h (fun v hv => hx v (List.mem_cons_of_mem _ hv)) (fun v hv => hy v (List.mem_cons_of_mem _ hv))]
      rfl
theorem no_x {z : Bool} {p : Prop} (h : B3.x = .of z) : p := by cases z <;> cases h
theorem eqD_ok : ∀ (n : Nat) (a b : EV) (z : Bool), eqD st n a b = .of z → dD st n a = true → dD st n b = true → PyData.eqv (toD st n a) (toD st n b) = z
  | 0, _, _, z, _, h, _ => by cases h
  | n + 1, a, b, z, h, ha, hb => by
    have ih := eqD_ok n
    have h : eqStep st (eqD st n) a b = .of z := h
    have lv : ∀ {l : Nat}, dD st (n + 1) (.l l) = true → ∃ xs, st.get l = .l xs ∧ (∀ x ∈ xs, dD st n x = true) ∧ toD st (n + 1) (.l l) = .list (xs.map (toD st n)) := fun {l} hl => by
      have hl : gOL false (st.get l) (fun xs => allB1 (dD st n) xs) = true := hl
      cases e : st.get l with
      | l xs =>
        rw [e] at hl
        refine ⟨xs, rfl, allB1_ok (xs := xs) hl, ?_⟩
        show (match st.get l with
          | .l xs => .list (xs.map (toD st n))
          | _ => .none : PyData) = _
        rw [e]
      | _ => rw [e] at hl; cases hl
    cases a with
    | u => cases ha
    | f => cases ha
    | y => cases ha
    | n =>
      cases b with
      | n => exact of_inj (a := true) h
      | b y => exact of_inj (a := false) h
      | i y => exact of_inj (a := false) h
      | s y => exact of_inj (a := false) h
      | t y => exact of_inj (a := false) h
      | l y =>
        obtain ⟨xs, e, _, e2⟩ := lv hb
        rw [e2]
        exact of_inj (a := false) h
      | u => cases hb
      | f => cases hb
      | y => cases hb
    | b x =>
      cases b with
      | n => exact of_inj (a := false) h
      | b y =>
        have e := of_inj h
        show (x == y) = z
        rw [← e]
        cases x <;> cases y <;> rfl
      | i y => exact no_x h
      | s y => exact of_inj (a := false) h
      | t y => exact of_inj (a := false) h
      | l y =>
        obtain ⟨xs, e, _, e2⟩ := lv hb
        rw [e2]
        exact of_inj (a := false) h
      | u => cases hb
      | f => cases hb
      | y => cases hb
    | i x =>
      cases b with
      | n => exact of_inj (a := false) h
      | b y => exact no_x h
      | i y =>
        have e := of_inj h
        show (x == y) = z
        rw [← e, iEq_ok]
        by_cases hh : x = y <;> simp [hh]
      | s y => exact of_inj (a := false) h
      | t y => exact of_inj (a := false) h
      | l y =>
        obtain ⟨xs, e, _, e2⟩ := lv hb
        rw [e2]
        exact of_inj (a := false) h
      | u => cases hb
      | f => cases hb
      | y => cases hb
    | s x =>
      cases b with
      | n => exact of_inj (a := false) h
      | b y => exact of_inj (a := false) h
      | i y => exact of_inj (a := false) h
      | s y =>
        have e := of_inj h
        show ((⟨x.toArray⟩ : Str) == ⟨y.toArray⟩) = z
        rw [← e, cEq_ok]
        by_cases hh : x = y <;> simp [hh]
      | t y => exact of_inj (a := false) h
      | l y =>
        obtain ⟨xs, e, _, e2⟩ := lv hb
        rw [e2]
        exact of_inj (a := false) h
      | u => cases hb
      | f => cases hb
      | y => cases hb
    | t x =>
      cases b with
      | n => exact of_inj (a := false) h
      | b y => exact of_inj (a := false) h
      | i y => exact of_inj (a := false) h
      | s y => exact of_inj (a := false) h
      | t y => exact eqL_ok ih x y z h (allB1_ok (xs := x) ha) (allB1_ok (xs := y) hb)
      | l y =>
        obtain ⟨xs, e, _, e2⟩ := lv hb
        rw [e2]
        exact of_inj (a := false) h
      | u => cases hb
      | f => cases hb
      | y => cases hb
    | l x =>
      obtain ⟨xs, e, d1, e2⟩ := lv ha
      rw [e2]
      cases b with
      | n => exact of_inj (a := false) h
      | b y => exact of_inj (a := false) h
      | i y => exact of_inj (a := false) h
      | s y => exact of_inj (a := false) h
      | t y => exact of_inj (a := false) h
      | l y =>
        obtain ⟨ys, e', d2, e2'⟩ := lv hb
        rw [e2']
        have h : gOL B3.x (st.get x) (fun xs => gOL .x (st.get y) fun ys => eqL (eqD st n) xs ys) = .of z := h
        rw [e, e'] at h
        exact eqL_ok ih xs ys z h d1 d2
      | u => cases hb
      | f => cases hb
      | y => cases hb
theorem eqV_ok {a b : EV} {z : Bool} (h : eqV st a b = .of z) : dD st 40 a = true ∧ dD st 40 b = true ∧ PyData.eqv (toD st 40 a) (toD st 40 b) = z := by
  have h : ift (dD st 40 a) (ift (dD st 40 b) (eqD st 40 a b) .x) .x = .of z := h
  rw [ift_eq, ift_eq] at h
  split at h
  · split at h
    · rename_i h1 h2
      exact ⟨h1, h2, eqD_ok 40 a b z h h1 h2⟩
    · exact no_x h
  · exact no_x h
theorem shaped_of {d : PyData} (h1 : d.canLay0 = true) (h2 : d.depth ≤ 40) : SeqAt.shaped d = true := by
  unfold SeqAt.shaped
  rw [h1]
  exact decide_eq_true (by omega)
theorem eqV_dp (s : RS' G μ H st) {a b : EV} {x y : V} (ra : RV G μ H a x) (rb : RV G μ H b y) {z : Bool} (h : eqV st a b = .of z) : ∃ d e, Dp G.K H x d ∧ Dp G.K H y e ∧ SeqAt.shaped d = true ∧ SeqAt.shaped e = true ∧ PyData.eqv d e = z := by
  obtain ⟨h1, h2, h3⟩ := eqV_ok h
  obtain ⟨p1, p2, p3⟩ := dp_of s 40 a x ra h1
  obtain ⟨q1, q2, q3⟩ := dp_of s 40 b y rb h2
  exact ⟨_, _, p1, q1, shaped_of p2 p3, shaped_of q2 q3, h3⟩
theorem op2_eq (g : Good G P w mg base k c E X) : Op2 G E X (compareOp .Eq) pEq := OpR.of fun x y H Q ⟨μ, st, a, b, s, ra, rb, h⟩ => by
  obtain ⟨z, e, q⟩ := okB_cases (R' := True) h s
  obtain ⟨d, d', h1, h2, h3, h4, h5⟩ := eqV_dp s ra rb e
  exact ⟨_, op_eqD g.room.units, d, d', by rw [g.kk]; exact h1, by rw [g.kk]; exact h2, h3, h4, by rw [h5]; exact q⟩
theorem notB_inv {b : B3} {z : Bool} (h : notB b = .of z) : b = .of (!z) := by
  cases b with
  | f => rw [← of_inj (a := true) h]; rfl
  | t => rw [← of_inj (a := false) h]; rfl
  | x => exact no_x h
theorem op2_ne (g : Good G P w mg base k c E X) : Op2 G E X (compareOp .NotEq) pNe := OpR.of fun x y H Q ⟨μ, st, a, b, s, ra, rb, h⟩ => by
  obtain ⟨z, e, q⟩ := okB_cases (R' := True) h s
  obtain ⟨d, d', h1, h2, h3, h4, h5⟩ := eqV_dp s ra rb (notB_inv e)
  exact ⟨_, op_neD g.room.units, d, d', by rw [g.kk]; exact h1, by rw [g.kk]; exact h2, h3, h4, by rw [h5, Bool.not_not]; exact q⟩
end
end L3

set_option Elab.async false
set_option linter.all false
set_option maxRecDepth 100000
set_option maxHeartbeats 4000000
/-! L3: dicts. -/
noncomputable section
namespace L3
open PySem PySem.Spec PyProof.Rows L2

section
variable {G : Fix} {P : Program} {w : World} {mg : Str → Option Value} {base : Heap} {k : Nat} {c : SC} {E : EXK} {cal : Cal} {X : Cx}
variable {μ μ1 μ' : List Addr} {H H1 H' : Hp} {st : Sto} {ρ : List EV} {σ : L2.St} {Q : VK}
theorem upd_upd (H : Hp) (a : Addr) (u v : HO) : upd (upd H a u) a v = upd H a v := by
  funext b
  by_cases h : b = a
  · rw [h, upd_same, upd_same]
  · rw [upd_ne h, upd_ne h, upd_ne h]
/-- an empty dict is of either kind -/
theorem inv_toT {pins : List (Addr × Obj)} {s : Shared} {a : Addr} (I : Inv X pins σ H s) (h : H a = some (.dK [])) : Inv X pins σ (upd H a (.dT [])) s := by
  obtain ⟨z, hd, vs, rel, o, es, ep, e1, e2, e3, _, e5, _⟩ := (show ObjOk X.prog X.w H s.heap a (.dK []) from I.hok a _ h)
  cases rel
  have ez : es.toList = [] := by
    have := Pairs.length e5
    simpa using this
  refine I.write (x := a) (e := a) (t' := s.toks) (h' := s.heap) (by rw [h]; exact True.intro) (.inl rfl) (fun b v _ q => q) ⟨o, e1⟩ ?_
  exact ⟨z, hd, [], .nil, o, es, ep, e1, e2, e3, by rw [ez]; rfl, List.nodup_nil⟩
theorem inv_toK {pins : List (Addr × Obj)} {s : Shared} {a : Addr} (I : Inv X pins σ H s) (h : H a = some (.dT [])) : Inv X pins σ (upd H a (.dK [])) s := by
  obtain ⟨z, hd, vs, rel, o, es, ep, e1, e2, e3, e4, _⟩ := (show ObjOk X.prog X.w H s.heap a (.dT []) from I.hok a _ h)
  cases rel
  have ez : es = #[] := by
    have : es.toList = [] := by rw [e4]; rfl
    exact Array.toList_eq_nil_iff.mp this
  subst ez
  refine I.write (x := a) (e := a) (t' := s.toks) (h' := s.heap) (by rw [h]; exact True.intro) (.inl rfl) (fun b v _ q => q) ⟨o, e1⟩ ?_
  exact ⟨z, hd, [], .nil, o, #[], ep, e1, e2, e3, fun e he => absurd he (by simp), .nil, List.nodup_nil⟩
/-! ### keys -/
theorem intsB_ok : ∀ {xs : List EV} {vs : List V}, RVs G μ H xs vs → intsB xs = true → ∃ ns : List Int, xs = ns.map EV.i ∧ vs = ns.map V.int
  | [], _, .nil, _ => ⟨[], rfl, rfl⟩
  | x :: xs, _, .cons rx r, h => by
    cases rx with
    | i y =>
      obtain ⟨ns, e1, e2⟩ := intsB_ok r h
      exact ⟨y :: ns, by rw [e1]; rfl, by rw [e2]; rfl⟩
    | _ => cases h
/-- a key's EV, its value, the layer's key -/
theorem kk_one {e : EV} {y : V} (r : RV G μ H e y) (h : kk e = 1) : ∃ k, y = kV k ∧ RK e k := by
  cases r with
  | i x => exact ⟨.inl x, rfl, .i x⟩
  | s c hc => exact ⟨.inr ⟨c.toArray⟩, rfl, .s c⟩
  | @t xs a vs hq rs =>
    cases xs with
    | nil => cases h
    | cons x xs =>
      have h : ift (intsB (x :: xs)) 2 0 = 1 := h
      rw [ift_eq] at h
      split at h <;> cases h
  | _ => cases h
theorem kk_two {e : EV} {y : V} (r : RV G μ H e y) (h : kk e = 2) : ∃ (ns : List Int) (b : Addr), e = .t (ns.map EV.i) ∧ y = .ref b ∧ H b = some (.tup ((ns.map Sum.inl).map kV)) := by
  cases r with
  | @t xs a vs hq rs =>
    cases xs with
    | nil => cases h
    | cons x xs =>
      have h : ift (intsB (x :: xs)) 2 0 = 2 := h
      rw [ift_eq] at h
      split at h
      · rename_i hi
        obtain ⟨ns, e1, e2⟩ := intsB_ok rs hi
        refine ⟨ns, a, by rw [e1], rfl, ?_⟩
        have e3 : (ns.map (Sum.inl : Int → Key)).map kV = ns.map V.int := by rw [List.map_map]; rfl
        rw [e3, ← e2]
        rcases hq with hq | ⟨_, hq⟩
        · exact hq
        · cases ns with
          | nil => simp at e1
          | cons n ns =>
            obtain ⟨z, hz⟩ := hq (.int n) (by rw [e2]; exact List.mem_cons_self)
            cases hz
      · cases h
  | _ => cases h
theorem RKs.ints : ∀ ns : List Int, RKs (ns.map EV.i) (ns.map Sum.inl)
  | [] => .nil
  | n :: ns => .cons (.i n) (RKs.ints ns)
theorem kEq1_ok {a b : EV} {k j : Key} (ra : RK a k) (rb : RK b j) {z : Bool} (h : kEq1 a b = .of z) : decide (j = k) = z := by
  cases ra with
  | i x =>
    cases rb with
    | i y =>
      have e := of_inj (show B3.of (iEq x y) = B3.of z from h)
      rw [iEq_ok] at e
      rw [← e]
      apply decide_eq_decide.mpr
      exact ⟨fun q => (Sum.inl.inj q).symm, fun q => by rw [q]⟩
    | s y =>
      rw [← of_inj (a := false) h]
      exact decide_eq_false (fun q => nomatch q)
  | s x =>
    cases rb with
    | i y =>
      rw [← of_inj (a := false) h]
      exact decide_eq_false (fun q => nomatch q)
    | s y =>
      have e := of_inj (show B3.of (cEq x y) = B3.of z from h)
      rw [cEq_ok] at e
      rw [← e]
      apply decide_eq_decide.mpr
      refine ⟨fun q => ?_, fun q => by rw [q]⟩
      have := Sum.inr.inj q
      have : y.toArray = x.toArray := congrArg Str.cps this
      have := congrArg Array.toList this
      simpa using this.symm
theorem kEqL_ok : ∀ {a b : List EV} {k j : List Key}, RKs a k → RKs b j → ∀ {z : Bool}, kEqL a b = .of z → decide (j = k) = z
  | _, _, _, _, .nil, .nil, z, h => of_inj (a := true) h
  | _, _, _, _, .nil, .cons _ _, z, h => by
    rw [← of_inj (a := false) h]
    exact decide_eq_false (fun q => nomatch q)
  | _, _, _, _, .cons _ _, .nil, z, h => by
    rw [← of_inj (a := false) h]
    exact decide_eq_false (fun q => nomatch q)
  | _, _, _, _, .cons (x := x) (xs := xs) ra as, .cons (x := y) (xs := ys) rb bs, z, h => by
    have h : b3 (kEq1 x y) B3.f (kEqL xs ys) B3.x = .of z := h
    cases e : kEq1 x y with
    | x => rw [e] at h; exact no_x h
    | f =>
      rw [e] at h
      have q := kEq1_ok ra rb (z := false) e
      rw [← of_inj (a := false) h]
      rw [decide_eq_false_iff_not] at q
      exact decide_eq_false (fun w => q (List.cons.inj w).1)
    | t =>
      rw [e] at h
      have q := kEq1_ok ra rb (z := true) e
      have q2 := kEqL_ok as bs h
      rw [decide_eq_true_iff] at q
      rw [← q2]
      apply decide_eq_decide.mpr
      rw [q]
      exact ⟨fun w => (List.cons.inj w).2, fun w => by rw [w]⟩
/-- lookups -/
theorem dGet_k {α : Type} {bad none' : α} {key : EV} {kf : EV → α} {k : Key} (rk : RK key k) {p : α → Prop} (hb : ¬ p bad) : ∀ {kvs : List (EV × EV)} {q : List (Key × V)}, RD G μ H kvs q → p (dGet bad none' (kEq key) kvs kf) → (valV q k = none ∧ p none') ∨ ∃ v x, valV q k = some x ∧ RV G μ H v x ∧ p (kf v)
  | _, _, .nil, h => .inl ⟨rfl, h⟩
  | _, _, .cons (a := a) (v := v) (k := j) (w := w) (r := r) (q := q) h1 h2 t, h => by
    have h : p (b3 (kEq key a) (dGet bad none' (kEq key) r kf) (kf v) bad) := h
    have e0 : kEq key a = kEq1 key a := by cases rk <;> rfl
    rw [e0] at h
    cases e : kEq1 key a with
    | x => rw [e] at h; exact absurd h hb
    | f =>
      rw [e] at h
      have e2 := kEq1_ok rk h1 (z := false) e
      rw [decide_eq_false_iff_not] at e2
      rw [valV_neg e2]
      exact dGet_k rk hb t h
    | t =>
      rw [e] at h
      have e2 := kEq1_ok rk h1 (z := true) e
      rw [decide_eq_true_iff] at e2
      exact .inr ⟨v, w, valV_pos e2, h2, h⟩
theorem dGet_t {α : Type} {bad none' : α} {key : List EV} {kf : EV → α} {k : List Key} (rk : RKs key k) {p : α → Prop} (hb : ¬ p bad) : ∀ {kvs : List (EV × EV)} {q : List (List Key × V)}, RDT G μ H kvs q → p (dGet bad none' (kEq (.t key)) kvs kf) → (valV q k = none ∧ p none') ∨ ∃ v x, valV q k = some x ∧ RV G μ H v x ∧ p (kf v)
  | _, _, .nil, h => .inl ⟨rfl, h⟩
  | _, _, .cons (a := a) (v := v) (k := j) (w := w) (r := r) (q := q) h1 h2 t, h => by
    have h : p (b3 (kEqL key a) (dGet bad none' (kEq (.t key)) r kf) (kf v) bad) := h
    cases e : kEqL key a with
    | x => rw [e] at h; exact absurd h hb
    | f =>
      rw [e] at h
      have e2 := kEqL_ok rk h1 (z := false) e
      rw [decide_eq_false_iff_not] at e2
      rw [valV_neg e2]
      exact dGet_t rk hb t h
    | t =>
      rw [e] at h
      have e2 := kEqL_ok rk h1 (z := true) e
      rw [decide_eq_true_iff] at e2
      exact .inr ⟨v, w, valV_pos e2, h2, h⟩
/-! ### stores -/
section
variable {κ : Type} [DecidableEq κ]
theorem putK_hit {p : κ × V} {r : List (κ × V)} {k : κ} {v : V} (h : p.1 = k) (hr : ∀ x ∈ r, x.1 ≠ k) : putK (p :: r) k v = (p.1, v) :: r := by
  unfold putK
  rw [if_pos (by simp [h]), List.map_cons, if_pos h]
  congr 1
  conv => rhs; rw [← List.map_id r]
  apply List.map_congr_left
  intro x hx
  rw [if_neg (hr x hx)]
  rfl
theorem putK_miss {p : κ × V} {r : List (κ × V)} {k : κ} {v : V} (h : ¬ p.1 = k) : putK (p :: r) k v = p :: putK r k v := by
  unfold putK
  rw [List.any_cons, decide_eq_false h, Bool.false_or]
  split
  · rw [List.map_cons, if_neg h]
  · rfl
end
theorem RK.uniq {a : EV} {k j : Key} (h : RK a k) (h' : RK a j) : k = j := by cases h <;> cases h' <;> rfl
theorem dPut_k {key v : EV} {w : V} {k : Key} (rk : RK key k) (rv : RV G μ H v w) {p : R → Prop} (hb : ¬ p .no) : ∀ {kvs : List (EV × EV)} {q : List (Key × V)} {kf : List (EV × EV) → R}, RD G μ H kvs q → (q.map (·.1)).Nodup → p (dPut R.no (kEq key) key v kvs kf) → ∃ kvs', RD G μ H kvs' (putK q k w) ∧ p (kf kvs')
  | _, _, kf, .nil, _, h => ⟨[(key, v)], .cons rk rv .nil, h⟩
  | _, _, kf, .cons (a := a) (v := v0) (k := j) (w := w0) (r := r) (q := q) h1 h2 t, nd, h => by
    have h : p (b3 (kEq key a) (dPut R.no (kEq key) key v r fun r' => kf ((a, v0) :: r')) (kf ((a, v) :: r)) R.no) := h
    have e0 : kEq key a = kEq1 key a := by cases rk <;> rfl
    rw [e0] at h
    have nd := List.nodup_cons.mp (show ((j, w0).1 :: q.map (·.1)).Nodup from nd)
    cases e : kEq1 key a with
    | x => rw [e] at h; exact absurd h hb
    | f =>
      rw [e] at h
      have e2 := kEq1_ok rk h1 (z := false) e
      rw [decide_eq_false_iff_not] at e2
      rw [putK_miss e2]
      obtain ⟨kvs', g1, g2⟩ := dPut_k rk rv hb (kf := fun r' => kf ((a, v0) :: r')) t nd.2 h
      exact ⟨(a, v0) :: kvs', .cons h1 h2 g1, g2⟩
    | t =>
      rw [e] at h
      have e2 := kEq1_ok rk h1 (z := true) e
      rw [decide_eq_true_iff] at e2
      rw [putK_hit e2 fun x hx z => nd.1 (List.mem_map.mpr ⟨x, hx, z.trans e2.symm⟩)]
      exact ⟨(a, v) :: r, .cons h1 rv t, h⟩
theorem dPut_t {key : List EV} {v : EV} {w : V} {k : List Key} (rk : RKs key k) (rv : RV G μ H v w) {p : R → Prop} (hb : ¬ p .no) : ∀ {kvs : List (EV × EV)} {q : List (List Key × V)} {kf : List (EV × EV) → R}, RDT G μ H kvs q → (q.map (·.1)).Nodup → p (dPut R.no (kEq (.t key)) (.t key) v kvs kf) → ∃ kvs', RDT G μ H kvs' (putK q k w) ∧ p (kf kvs')
  | _, _, kf, .nil, _, h => ⟨[(.t key, v)], .cons rk rv .nil, h⟩
  | _, _, kf, .cons (a := a) (v := v0) (k := j) (w := w0) (r := r) (q := q) h1 h2 t, nd, h => by
    have h : p (b3 (kEqL key a) (dPut R.no (kEq (.t key)) (.t key) v r fun r' => kf ((.t a, v0) :: r')) (kf ((.t a, v) :: r)) R.no) := h
    have nd := List.nodup_cons.mp (show ((j, w0).1 :: q.map (·.1)).Nodup from nd)
    cases e : kEqL key a with
    | x => rw [e] at h; exact absurd h hb
    | f =>
      rw [e] at h
      have e2 := kEqL_ok rk h1 (z := false) e
      rw [decide_eq_false_iff_not] at e2
      rw [putK_miss e2]
      obtain ⟨kvs', g1, g2⟩ := dPut_t rk rv hb (kf := fun r' => kf ((.t a, v0) :: r')) t nd.2 h
      exact ⟨(.t a, v0) :: kvs', .cons h1 h2 g1, g2⟩
    | t =>
      rw [e] at h
      have e2 := kEqL_ok rk h1 (z := true) e
      rw [decide_eq_true_iff] at e2
      rw [putK_hit e2 fun x hx z => nd.1 (List.mem_map.mpr ⟨x, hx, z.trans e2.symm⟩)]
      exact ⟨(.t a, v) :: r, .cons h1 rv t, h⟩
/-- the dict at hand, of the key's kind -/
structure DAt (G : Fix) (μ : List Addr) (H2 : Hp) (p : Addr) (key : EV) (y : V) (kvs : List (EV × EV)) : Prop where
  ok : (∃ (q : List (Key × V)) (k : Key), H2 p = some (.dK q) ∧ RD G μ H2 kvs q ∧ y = kV k ∧ RK key k) ∨
    ∃ (q : List (List Key × V)) (ns : List Int) (b : Addr), H2 p = some (.dT q) ∧ RDT G μ H2 kvs q ∧ y = .ref b ∧ H2 b = some (.tup ((ns.map Sum.inl).map kV)) ∧ key = .t (ns.map EV.i)
theorem d_prep {pins : List (Addr × Obj)} {s0 : Shared} (I : Inv X pins σ H s0) (s : RS' G μ H st) {l : Nat} {p : Addr} {kvs : List (EV × EV)} (hl : μ[l]? = some p) (e : st.get l = .d kvs) {key : EV} {y : V} (ry : RV G μ H key y) (hk : kkD key kvs = true) :
    ∃ H2, Inv X pins σ H2 s0 ∧ Ext μ H μ H2 ∧ RS' G μ H2 st ∧ Kp G μ H μ H2 ∧ DAt G μ H2 p key y kvs := by
  have o := s.at_ l p hl
  rw [st_get] at e
  rw [e] at o
  have hp := List.mem_of_getElem? hl
  have set' : ∀ (u u' : HO), H p = some u → RO G μ (upd H p u') p (.d kvs) → Ext μ H μ (upd H p u') ∧ RS' G μ (upd H p u') st ∧ Kp G μ H μ (upd H p u') := fun u u' h1 h2 => by
    refine ⟨Ext.put hp h1, ⟨s.n, s.full, s.nd, fun m b hm => ?_⟩, Kp.put s hp h1⟩
    by_cases hb : b = p
    · subst hb
      have := s.inj hm hl
      subst this
      rw [e]
      exact h2
    · exact (s.at_ m b hm).mono (Ext.put hp h1) s.notup (upd_ne hb)
  cases hn : kk key with
  | zero =>
    have : kkD key kvs = false := by
      unfold kkD
      rw [hn]
      rfl
    rw [this] at hk
    cases hk
  | succ n =>
    have hk : @List.rec (EV × EV) (fun _ => Bool) true (fun p _ _ => Nat.beq (kk p.1) (n + 1)) kvs = true := by
      unfold kkD at hk
      rw [hn] at hk
      exact hk
    have cases2 : n = 0 ∨ n = 1 := by
      cases key with
      | i x => exact .inl (Nat.succ.inj hn).symm
      | s c => exact .inl (Nat.succ.inj hn).symm
      | t xs =>
        cases xs with
        | nil => cases hn
        | cons x xs =>
          have hn : ift (intsB (x :: xs)) 2 0 = n + 1 := hn
          rw [ift_eq] at hn
          split at hn
          · exact .inr (Nat.succ.inj hn).symm
          · cases hn
      | _ => cases hn
    rcases cases2 with rfl | rfl
    · obtain ⟨k, e1, e2⟩ := kk_one ry hn
      rcases o with ⟨q, h1, h2⟩ | ⟨q, h1, h2⟩
      · exact ⟨H, I, .refl, s, ⟨fun _ _ h => h, fun _ _ h => h, fun _ _ h => h⟩, ⟨.inl ⟨q, k, h1, h2, e1, e2⟩⟩⟩
      · cases h2 with
        | nil =>
          obtain ⟨x1, s1, k1⟩ := set' _ (.dK []) h1 (.inl ⟨[], upd_same, .nil⟩)
          exact ⟨_, inv_toK I h1, x1, s1, k1, ⟨.inl ⟨[], k, upd_same, .nil, e1, e2⟩⟩⟩
        | cons a b t =>
          cases a with
          | nil => cases hk
          | @cons x1 kq xs1 ks1 a as =>
            have hk : Nat.beq (ift (intsB (x1 :: xs1)) 2 0) 1 = true := hk
            rw [ift_eq] at hk
            split at hk <;> cases hk
    · obtain ⟨ns, b, e1, e2, e3⟩ := kk_two ry hn
      rcases o with ⟨q, h1, h2⟩ | ⟨q, h1, h2⟩
      · cases h2 with
        | nil =>
          obtain ⟨x1, s1, k1⟩ := set' _ (.dT []) h1 (.inr ⟨[], upd_same, .nil⟩)
          refine ⟨_, inv_toT I h1, x1, s1, k1, ⟨.inr ⟨[], ns, b, upd_same, .nil, e2, ?_, e1⟩⟩⟩
          rw [upd_ne fun z => by rw [z, h1] at e3; cases e3]
          exact e3
        | cons a b' t => cases a <;> cases hk
      · exact ⟨H, I, .refl, s, ⟨fun _ _ h => h, fun _ _ h => h, fun _ _ h => h⟩, ⟨.inr ⟨q, ns, b, h1, h2, e2, e3, e1⟩⟩⟩
/-- what a dict holds at a key -/
theorem d_look {α : Type} {bad none' : α} {kf : EV → α} {p : α → Prop} (hb : ¬ p bad) {a : Addr} {key : EV} {y : V} {kvs : List (EV × EV)} (d : DAt G μ H a key y kvs) (h : p (dGet bad none' (kEq key) kvs kf)) : (DGet H a y none ∧ p none') ∨ ∃ v x, DGet H a y (some x) ∧ RV G μ H v x ∧ p (kf v) := by
  rcases d.ok with ⟨q, k, h1, h2, rfl, h4⟩ | ⟨q, ns, b, h1, h2, rfl, h4, rfl⟩
  · rcases dGet_k h4 hb h2 h with ⟨g1, g2⟩ | ⟨v, x, g1, g2, g3⟩
    · exact .inl ⟨by have := DGet.k (k := k) h1; rw [g1] at this; exact this, g2⟩
    · exact .inr ⟨v, x, by have := DGet.k (k := k) h1; rw [g1] at this; exact this, g2, g3⟩
  · rcases dGet_t (RKs.ints ns) hb h2 h with ⟨g1, g2⟩ | ⟨v, x, g1, g2, g3⟩
    · exact .inl ⟨by have := DGet.t (k := ns.map Sum.inl) h1 h4; rw [g1] at this; exact this, g2⟩
    · exact .inr ⟨v, x, by have := DGet.t (k := ns.map Sum.inl) h1 h4; rw [g1] at this; exact this, g2, g3⟩
end
end L3

set_option Elab.async false
set_option linter.all false
set_option maxRecDepth 100000
set_option maxHeartbeats 4000000
/-! L3: in, calls of built-ins, items, slices, methods. -/
noncomputable section
namespace L3
open PySem PySem.Spec PyProof.Rows L2

section
variable {G : Fix} {P : Program} {w : World} {mg : Str → Option Value} {base : Heap} {k : Nat} {c : SC} {E : EXK} {cal : Cal} {X : Cx}
variable {μ μ1 μ' : List Addr} {H H1 H' : Hp} {st : Sto} {ρ : List EV} {σ : L2.St} {Q : VK}
/-! ### in, not in -/
def rInT (K : PySem.W.Frag) (neg : Bool) : R2 := fun x y H Q => ∃ d ds, Dp K H x d ∧ (Dp K H y (.list ds) ∨ Dp K H y (.tuple ds)) ∧ SeqAt.shaped d = true ∧ PyData.canLayAll0 ds = true ∧ Q (.bl (if neg then !ds.any fun z => PyData.eqv z d else ds.any fun z => PyData.eqv z d)) H
theorem op_inT (hu : X.A.units + 65 < cLine) : OpR X (compareOp .In) (rInT X.K false) := by
  intro pins s σ H x y v u Q I rx ry h
  obtain ⟨d, ds, hd, he, sd, se, q⟩ := h
  obtain ⟨as, r1⟩ := Dp.reads I d x v hd rx
  rcases he with he | he
  · obtain ⟨bs, r2⟩ := Dp.reads I (.list ds) y u he ry
    exact SeqAt.in_list_reads r2 r1 se (SeqAt.canLay_of_shaped sd) (room_in_shaped sd hu) ⟨.bl _, H, I, rfl, q⟩
  · obtain ⟨bs, r2⟩ := Dp.reads I (.tuple ds) y u he ry
    exact SeqAt.in_tuple_reads r2 r1 se (SeqAt.canLay_of_shaped sd) (room_in_shaped sd hu) ⟨.bl _, H, I, rfl, q⟩
theorem op_notInT (hu : X.A.units + 65 < cLine) : OpR X (compareOp .NotIn) (rInT X.K true) := by
  intro pins s σ H x y v u Q I rx ry h
  obtain ⟨d, ds, hd, he, sd, se, q⟩ := h
  obtain ⟨as, r1⟩ := Dp.reads I d x v hd rx
  rcases he with he | he
  · obtain ⟨bs, r2⟩ := Dp.reads I (.list ds) y u he ry
    exact SeqAt.notIn_list_reads r2 r1 se (SeqAt.canLay_of_shaped sd) (room_in_shaped sd hu) ⟨.bl _, H, I, rfl, q⟩
  · obtain ⟨bs, r2⟩ := Dp.reads I (.tuple ds) y u he ry
    exact SeqAt.notIn_tuple_reads r2 r1 se (SeqAt.canLay_of_shaped sd) (room_in_shaped sd hu) ⟨.bl _, H, I, rfl, q⟩
theorem inL_ok {a : EV} : ∀ {xs : List EV} {z : Bool}, inL (fun z => eqD st 39 z a) xs = .of z → (∀ x ∈ xs, dD st 39 x = true) → dD st 39 a = true → (xs.map (toD st 39)).any (fun y => PyData.eqv y (toD st 39 a)) = z
  | [], z, h, _, _ => of_inj (a := false) h
  | x :: xs, z, h, hx, ha => by
    have h : b3 (eqD st 39 x a) (inL (fun z => eqD st 39 z a) xs) B3.t B3.x = .of z := h
    show (PyData.eqv (toD st 39 x) (toD st 39 a) || (xs.map (toD st 39)).any fun y => PyData.eqv y (toD st 39 a)) = z
    cases e : eqD st 39 x a with
    | x => rw [e] at h; exact no_x h
    | f =>
      rw [e] at h
      rw [eqD_ok 39 x a false e (hx x List.mem_cons_self) ha, inL_ok h (fun v hv => hx v (List.mem_cons_of_mem _ hv)) ha]
      rfl
    | t =>
      rw [e] at h
      rw [eqD_ok 39 x a true e (hx x List.mem_cons_self) ha]
      exact of_inj (a := true) h
theorem inV_ok {a : EV} {xs : List EV} {z : Bool} (h : inV st a xs = .of z) : dD st 39 a = true ∧ (∀ x ∈ xs, dD st 39 x = true) ∧ (xs.map (toD st 39)).any (fun y => PyData.eqv y (toD st 39 a)) = z := by
  have h : ift (dD st 39 a) (ift (allB1 (dD st 39) xs) (inL (fun z => eqD st 39 z a) xs) .x) .x = .of z := h
  rw [ift_eq, ift_eq] at h
  split at h
  · split at h
    · rename_i h1 h2
      have h2 := allB1_ok (xs := xs) h2
      exact ⟨h1, h2, inL_ok h h2 h1⟩
    · exact no_x h
  · exact no_x h
theorem inSeq (s : RS' G μ H st) {a : EV} {x : V} (ra : RV G μ H a x) {xs : List EV} {ws : List V} (r : RVs G μ H xs ws) {z : Bool} (h : inV st a xs = .of z) : ∃ d ds, Dp G.K H x d ∧ DpAll G.K H ws ds ∧ SeqAt.shaped d = true ∧ PyData.canLayAll0 ds = true ∧ ds.any (fun y => PyData.eqv y d) = z := by
  obtain ⟨h1, h2, h3⟩ := inV_ok h
  obtain ⟨p1, p2, p3⟩ := dp_of s 39 a x ra h1
  obtain ⟨q1, q2, q3⟩ := dpAll_of (dp_of s 39) r h2
  exact ⟨_, _, p1, q1, shaped_of p2 (by omega), q2, h3⟩
theorem chrIn_ok (ch : Nat) : ∀ z : List Nat, chrIn ch z = decide (ch ∈ z)
  | [] => by simp [chrIn]
  | x :: z => by
    show ift (Nat.beq ch x) true (chrIn ch z) = _
    rw [ift_eq, chrIn_ok ch z, beq_dec]
    by_cases h : ch = x
    · simp [h]
    · simp [h]
theorem in_h (s : RS' G μ H st) {a b : EV} {x y : V} (ra : RV G μ H a x) (rb : RV G μ H b y) {z : Bool} (h : inB a b st = .of z) :
    (∃ d ds, Dp G.K H x d ∧ (Dp G.K H y (.list ds) ∨ Dp G.K H y (.tuple ds)) ∧ SeqAt.shaped d = true ∧ PyData.canLayAll0 ds = true ∧ ds.any (fun y => PyData.eqv y d) = z) ∨ (∃ (ch : Nat) (t : Str), x = .str ⟨#[ch]⟩ ∧ y = .str t ∧ decide (ch ∈ t.cps.toList) = z) ∨
      ∃ l p kvs, y = .ref p ∧ μ[l]? = some p ∧ st.get l = .d kvs ∧ kkD a kvs = true ∧ dGet B3.x B3.f (kEq a) kvs (fun _ => B3.t) = .of z := by
  cases rb with
  | s t ht =>
    cases ra with
    | s cs hc =>
      match cs, h with
      | [], h => exact no_x h
      | [ch], h =>
        have e := of_inj h
        refine .inr (.inl ⟨ch, _, rfl, rfl, ?_⟩)
        rw [← e, chrIn_ok]
      | _ :: _ :: _, h => exact no_x h
    | _ => exact no_x h
  | @t xs p vs hp r =>
    obtain ⟨d, ds, h1, h2, h3, h4, h5⟩ := inSeq s ra r h
    exact .inl ⟨d, ds, h1, .inr (.tup hp.sq h2), h3, h4, h5⟩
  | @l l p hl =>
    have h : gO2 B3.x (st.get l) (fun xs => inV st a xs) (fun kvs => ift (kkD a kvs) (dGet B3.x B3.f (kEq a) kvs fun _ => B3.t) B3.x) = .of z := h
    cases e : st.get l with
    | l xs =>
      rw [e] at h
      obtain ⟨vs, e1, r⟩ := s.lst hl e
      obtain ⟨d, ds, h1, h2, h3, h4, h5⟩ := inSeq s ra r h
      exact .inl ⟨d, ds, h1, .inl (.lst (SqL.of e1) h2), h3, h4, h5⟩
    | d kvs =>
      rw [e] at h
      have h : ift (kkD a kvs) (dGet B3.x B3.f (kEq a) kvs fun _ => B3.t) B3.x = .of z := h
      rw [ift_eq] at h
      split at h
      · exact .inr (.inr ⟨l, p, kvs, rfl, hl, e, by assumption, h⟩)
      · exact no_x h
    | _ => rw [e] at h; exact no_x h
  | _ => exact no_x h
theorem units65 (g : Good G P w mg base k c E X) : X.A.units + 65 < cLine := by have := g.room.un; omega
theorem units1 (g : Good G P w mg base k c E X) : X.A.units + 1 < cLine := by have := g.room.un; omega
theorem d_in_at {a : EV} {x : V} {H2 : Hp} {p : Addr} {kvs : List (EV × EV)} {z : Bool} (d : DAt G μ H2 p a x kvs) (h : dGet B3.x B3.f (kEq a) kvs (fun _ => B3.t) = .of z) : ∃ o, DGet H2 p x o ∧ o.isSome = z := by
  rcases d_look (p := fun b => b = B3.of z) (fun q => no_x q) d h with ⟨g1, g2⟩ | ⟨v, y, g1, _, g2⟩
  · exact ⟨none, g1, of_inj (a := false) g2⟩
  · exact ⟨some y, g1, of_inj (a := true) g2⟩
theorem op2_in (g : Good G P w mg base k c E X) : Op2 G E X (compareOp .In) pIn := by
  intro pins s0 σ H x y v u Q I rx ry ⟨μ, st, a, b, s, ra, rb, h⟩
  obtain ⟨z, e, q⟩ := okB_cases (R' := True) h s
  rcases in_h s ra rb e with ⟨d, ds, h1, h2, h3, h4, h5⟩ | ⟨ch, t, rfl, rfl, h5⟩ | ⟨l, p, kvs, rfl, hl, e1, e2, h5⟩
  · exact op_inT (units65 g) pins s0 σ H _ _ v u Q I rx ry ⟨d, ds, by rw [g.kk]; exact h1, by rw [g.kk]; exact h2, h3, h4, by rw [if_neg Bool.false_ne_true, h5]; exact q⟩
  · exact op_in_sign pins s0 σ H _ _ v u Q I rx ry ⟨ch, t, rfl, rfl, by rw [h5]; exact q⟩
  · obtain ⟨H2, I2, x2, s2, kp, d⟩ := d_prep I s hl e1 ra e2
    obtain ⟨o, g1, g2⟩ := d_in_at d h5
    have e' : PostE G μ H2 (okB st (.of z)) Q E := by
      have h := PostE.mono h x2
      have h : PostE G μ H2 (okB st (inB a b st)) Q E := h
      rw [e] at h
      exact h
    obtain ⟨z', e3, q'⟩ := okB_cases (R' := True) e' s2
    have e3 := of_inj e3
    subst e3
    cases ry
    exact d_in (units1 g) I2 g1 rx fun s' I' => ⟨.bl o.isSome, H2, I', rfl, by rw [g2]; exact q'⟩
theorem op2_nin (g : Good G P w mg base k c E X) : Op2 G E X (compareOp .NotIn) pNin := by
  intro pins s0 σ H x y v u Q I rx ry ⟨μ, st, a, b, s, ra, rb, h⟩
  obtain ⟨z, e, q⟩ := okB_cases (R' := True) h s
  rcases in_h s ra rb (notB_inv e) with ⟨d, ds, h1, h2, h3, h4, h5⟩ | ⟨ch, t, rfl, rfl, h5⟩ | ⟨l, p, kvs, rfl, hl, e1, e2, h5⟩
  · exact op_notInT (units65 g) pins s0 σ H _ _ v u Q I rx ry ⟨d, ds, by rw [g.kk]; exact h1, by rw [g.kk]; exact h2, h3, h4, by rw [if_pos rfl, h5, Bool.not_not]; exact q⟩
  · exact op_notIn_sign pins s0 σ H _ _ v u Q I rx ry ⟨ch, t, rfl, rfl, by rw [h5, Bool.not_not]; exact q⟩
  · obtain ⟨H2, I2, x2, s2, kp, d⟩ := d_prep I s hl e1 ra e2
    obtain ⟨o, g1, g2⟩ := d_in_at d h5
    have e' : PostE G μ H2 (okB st (.of z)) Q E := by
      have h := PostE.mono h x2
      have h : PostE G μ H2 (okB st (notB (inB a b st))) Q E := h
      rw [e] at h
      exact h
    obtain ⟨z', e3, q'⟩ := okB_cases (R' := True) e' s2
    have e3 := of_inj e3
    subst e3
    cases ry
    exact d_notIn (units1 g) I2 g1 rx fun s' I' => ⟨.bl (!o.isSome), H2, I', rfl, by rw [g2, Bool.not_not]; exact q'⟩

/-! ### calls of built-ins -/
theorem CallR.of {f : Value} {r : List V → Hp → VK → Prop} (h : ∀ xs H Q, r xs H Q → ∃ r' : List V → Hp → VK → Prop, CallR X f r' ∧ r' xs H Q) : CallR X f r := fun pins s σ H xs us Q I rs q =>
  let ⟨_, ho, q'⟩ := h xs H Q q
  ho pins s σ H xs us Q I rs q'
def Cl1 (G : Fix) (E : EXK) (X : Cx) (f : Value) (p : P1) : Prop := CallR X f fun xs H Q => ∃ x, xs = [x] ∧ ∃ μ st a, RS' G μ H st ∧ RV G μ H a x ∧ PostE G μ H (p a st) Q E
def Cl2 (G : Fix) (E : EXK) (X : Cx) (f : Value) (p : P2) : Prop := CallR X f fun xs H Q => ∃ x y, xs = [x, y] ∧ ∃ μ st a b, RS' G μ H st ∧ RV G μ H a x ∧ RV G μ H b y ∧ PostE G μ H (p a b st) Q E
theorem gl_of (g : Good G P w mg base k c E X) {x : Str} (hx : c.sc.names.lookup x = some .globalImplicit) : Gl X x := by
  show X.env.scope.names.lookup x = _
  rw [g.sc]; exact hx
/-- a built-in by its name: a function, a type -/
theorem t_blt1 (g : Good G P w mg base k c E X) {x : Str} {f : Value} {p : P1} {e : Expr} {m : ES} {q pos : Pos} (hf : (∃ id, f = .builtin id) ∨ ∃ T, f = .type T) (ho : Cl1 G E X f p) (hx : c.sc.names.lookup x = some .globalImplicit) (hp : plainN x = true) (hm : mg x = none) (hv : bootBuiltins x = some f)
    (hn : noStar e = true) (he : PE X e (T G E cal m)) : PE X (.Call (.Name x q) [e] [] pos) (T G E cal (c1 p m)) := by
  obtain ⟨p1, p2, p3⟩ := plainN_of hp
  have key : PE X (.Call (.Name x q) [e] [] pos) (tCB (fun xs H Q => ∃ x, xs = [x] ∧ ∃ μ st a, RS' G μ H st ∧ RV G μ H a x ∧ PostE G μ H (p a st) Q E) (tCons (T G E cal m) tNil)) := by
    rcases hf with ⟨id, rfl⟩ | ⟨T, rfl⟩
    · exact pe_callB ho (gl_of g hx) (by rw [g.mm]; exact hm) hv (pa_cons he pa_nil (starEach_cons hn [] X.env)) p3 p1 (starEach_cons hn [] X.env) rfl
    · exact pe_callTy ho (gl_of g hx) (by rw [g.mm]; exact hm) hv (pa_cons he pa_nil (starEach_cons hn [] X.env)) p3 p1 (starEach_cons hn [] X.env) rfl
  refine key.impL fun σ H Q h => (T.one h).imp fun v H1 ⟨μ, st, a, s, r, h⟩ => ⟨v, rfl, μ, st, a, s, r, h⟩
theorem t_blt2 (g : Good G P w mg base k c E X) {x : Str} {f : Value} {p : P2} {e e2 : Expr} {m m2 : ES} {q pos : Pos} (hf : (∃ id, f = .builtin id) ∨ ∃ T, f = .type T) (ho : Cl2 G E X f p) (hx : c.sc.names.lookup x = some .globalImplicit) (hp : plainN x = true) (hm : mg x = none) (hv : bootBuiltins x = some f)
    (hn : noStar e = true) (hn2 : noStar e2 = true) (he : PE X e (T G E cal m)) (he2 : PE X e2 (T G E cal m2)) : PE X (.Call (.Name x q) [e, e2] [] pos) (T G E cal (c2 p m m2)) := by
  obtain ⟨p1, p2, p3⟩ := plainN_of hp
  have pa := pa_cons he (pa_cons he2 pa_nil (starEach_cons hn2 [] X.env)) (starEach_cons hn [e2] X.env)
  have key : PE X (.Call (.Name x q) [e, e2] [] pos) (tCB (fun xs H Q => ∃ x y, xs = [x, y] ∧ ∃ μ st a b, RS' G μ H st ∧ RV G μ H a x ∧ RV G μ H b y ∧ PostE G μ H (p a b st) Q E) (tCons (T G E cal m) (tCons (T G E cal m2) tNil))) := by
    rcases hf with ⟨id, rfl⟩ | ⟨T, rfl⟩
    · exact pe_callB ho (gl_of g hx) (by rw [g.mm]; exact hm) hv pa p3 p1 (starEach_cons hn [e2] X.env) (by rw [starEach_cons hn2]; rfl)
    · exact pe_callTy ho (gl_of g hx) (by rw [g.mm]; exact hm) hv pa p3 p1 (starEach_cons hn [e2] X.env) (by rw [starEach_cons hn2]; rfl)
  refine key.impL fun σ H Q h => h.two.imp fun v H1 h => h.imp fun y H2 ⟨μ, st, a, b, s, r, r2, h⟩ => ⟨v, y, rfl, μ, st, a, b, s, r, r2, h⟩
/-- a module's name for a built-in function (math.gcd) -/
theorem t_fun2 (g : Good G P w mg base k c E X) {x : Str} {id : String} {p : P2} {e e2 : Expr} {m m2 : ES} {q pos : Pos} (ho : Cl2 G E X (.builtin id) p) (hx : c.sc.names.lookup x = some .globalImplicit) (hp : plainN x = true) (hm : mg x = some (.builtin id))
    (hn : noStar e = true) (hn2 : noStar e2 = true) (he : PE X e (T G E cal m)) (he2 : PE X e2 (T G E cal m2)) : PE X (.Call (.Name x q) [e, e2] [] pos) (T G E cal (c2 p m m2)) := by
  obtain ⟨p1, p2, p3⟩ := plainN_of hp
  refine (pe_callBfun ho (gl_of g hx) (by rw [g.mm]; exact hm) (pa_cons he (pa_cons he2 pa_nil (starEach_cons hn2 [] X.env)) (starEach_cons hn [e2] X.env)) p1 (starEach_cons hn [e2] X.env) (by rw [starEach_cons hn2]; rfl)).impL
    fun σ H Q h => h.two.imp fun v H1 h => h.imp fun y H2 ⟨μ, st, a, b, s, r, r2, h⟩ => ⟨v, y, rfl, μ, st, a, b, s, r, r2, h⟩
theorem cl_len (g : Good G P w mg base k c E X) : Cl1 G E X (.builtin "len") pLen := CallR.of fun xs H Q ⟨x, e, μ, st, a, s, ra, h⟩ => by
  subst e
  cases ra with
  | s cs hc =>
    have h : PostE G μ H (okN st (lenN cs)) Q E := h
    rw [lenN_eq] at h
    refine ⟨_, call_len_str, _, rfl, ?_, ?_⟩
    · rw [sizeLine_eq]
      show cs.toArray.size ≤ _
      simp; omega
    · have q := PostE.sNn h s
      show Q (.int ((cs.toArray.size : Nat) : Int)) H
      simpa using q
  | @t ys p vs hp r =>
    have h : PostE G μ H (okN st (lenN ys)) Q E := h
    rw [lenN_eq, r.length] at h
    exact ⟨_, call_len_seq, p, vs, rfl, .inr (by rw [g.kk]; exact hp.sq), PostE.sNn h s⟩
  | @l l p hl =>
    have h : PostE G μ H (gOL R.no (st.get l) fun xs => okN st (lenN xs)) Q E := h
    cases e : st.get l with
    | l xs =>
      rw [e] at h
      obtain ⟨vs, e1, r⟩ := s.lst hl e
      have h : PostE G μ H (okN st (lenN xs)) Q E := h
      rw [lenN_eq, r.length] at h
      exact ⟨_, call_len_seq, p, vs, rfl, .inl (SqL.of e1), PostE.sNn h s⟩
    | _ => rw [e] at h; exact h.elim
  | _ => exact h.elim
theorem cl_abs : Cl1 G E X (.builtin "abs") pAbs := CallR.of fun xs H Q ⟨x, e, μ, st, a, s, ra, h⟩ => by
  subst e
  cases ra with
  | i x =>
    refine ⟨_, call_abs, x, rfl, ?_⟩
    have q := PostE.sNn h s
    rw [show (if x < 0 then -x else x) = ((x.natAbs : Nat) : Int) from by split <;> omega]
    exact q
  | _ => exact h.elim
theorem ift_post {b : Bool} {r r' : R} (h : PostE G μ H (ift b r r') Q E) : (b = true ∧ PostE G μ H r Q E) ∨ (b = false ∧ PostE G μ H r' Q E) := by
  cases b with
  | true => exact .inl ⟨rfl, h⟩
  | false => exact .inr ⟨rfl, h⟩
theorem cl_max2 (g : Good G P w mg base k c E X) : Cl2 G E X (.builtin "max") pMax2 := CallR.of fun xs H Q ⟨x, y, e, μ, st, a, b, s, ra, rb, h⟩ => by
  subst e
  cases ra with
  | i x =>
    cases rb with
    | i y =>
      refine ⟨_, call_max2 g.calm, x, y, rfl, ?_⟩
      rcases ift_post h with ⟨e, h⟩ | ⟨e, h⟩
      · rw [iLt_ok, decide_eq_true_iff] at e
        rw [if_pos e]; exact PostE.ok h s (.i y)
      · rw [iLt_ok, decide_eq_false_iff_not] at e
        rw [if_neg e]; exact PostE.ok h s (.i x)
    | _ => exact h.elim
  | _ => exact h.elim
theorem cl_min2 (g : Good G P w mg base k c E X) : Cl2 G E X (.builtin "min") pMin2 := CallR.of fun xs H Q ⟨x, y, e, μ, st, a, b, s, ra, rb, h⟩ => by
  subst e
  cases ra with
  | i x =>
    cases rb with
    | i y =>
      refine ⟨_, call_min2 g.calm, x, y, rfl, ?_⟩
      rcases ift_post h with ⟨e, h⟩ | ⟨e, h⟩
      · rw [iLt_ok, decide_eq_true_iff] at e
        rw [if_pos e]; exact PostE.ok h s (.i y)
      · rw [iLt_ok, decide_eq_false_iff_not] at e
        rw [if_neg e]; exact PostE.ok h s (.i x)
    | _ => exact h.elim
  | _ => exact h.elim
theorem cl_gcd : Cl2 G E X (.builtin "math.gcd") pGcd := CallR.of fun xs H Q ⟨x, y, e, μ, st, a, b, s, ra, rb, h⟩ => by
  subst e
  cases ra with
  | i x =>
    cases rb with
    | i y => exact ⟨_, cr_gcd, x, y, rfl, PostE.sNn h s⟩
    | _ => exact h.elim
  | _ => exact h.elim
theorem cl_int : Cl1 G E X (.type "int") pInt := CallR.of fun xs H Q ⟨x, e, μ, st, a, s, ra, h⟩ => by
  subst e
  cases ra with
  | i x => exact ⟨_, call_int1, .inl ⟨x, rfl, PostE.ok h s (.i x)⟩⟩
  | b y =>
    refine ⟨_, call_int1, .inr ⟨y, rfl, ?_⟩⟩
    cases y with
    | true => exact PostE.ok h s (.i 1)
    | false => exact PostE.ok h s (.i 0)
  | _ => exact h.elim
theorem sumI_ok {α : Type} : ∀ (xs : List EV) (ws : List V) (a : Int) (kk : Int → R), RVs G μ H xs ws → PostE G μ H (sumI xs a kk) Q E → ∃ ns : List Int, ws = ns.map V.int ∧ PostE G μ H (kk (a + ns.sum)) Q E
  | [], _, a, kk, .nil, h => ⟨[], rfl, by
    have h : PostE G μ H (kk a) Q E := h
    simpa using h⟩
  | x :: xs, _, a, kk, .cons rx r, h => by
    cases rx with
    | i y =>
      have h : PostE G μ H (L3.sI (a + y) fun b => sumI xs b kk) Q E := h
      rw [sI_eq] at h
      obtain ⟨ns, e, h⟩ := sumI_ok (α := α) xs _ (a + y) kk r h
      refine ⟨y :: ns, by rw [e]; rfl, ?_⟩
      rw [List.sum_cons, ← Int.add_assoc]
      exact h
    | _ => exact h.elim
theorem lsD {no : R} {a : EV} {x : V} {kk : Nat → List EV → R} (s : RS' G μ H st) (ra : RV G μ H a x) (h : PostE G μ H (gLs .no a st kk) Q E) : ∃ l p xs vs, a = .l l ∧ x = .ref p ∧ μ[l]? = some p ∧ st.get l = .l xs ∧ H p = some (.lst vs) ∧ RVs G μ H xs vs ∧ PostE G μ H (kk l xs) Q E := by
  cases ra with
  | @l l p hl =>
    have h : PostE G μ H (gOL R.no (st.get l) fun xs => kk l xs) Q E := h
    cases e : st.get l with
    | l xs =>
      rw [e] at h
      obtain ⟨vs, e1, r⟩ := s.lst hl e
      exact ⟨l, p, xs, vs, rfl, rfl, hl, e, e1, r, h⟩
    | _ => rw [e] at h; exact h.elim
  | _ => exact h.elim
theorem cl_sum (g : Good G P w mg base k c E X) : Cl1 G E X (.builtin "sum") pSum := CallR.of fun xs H Q ⟨x, e, μ, st, a, s, ra, h⟩ => by
  subst e
  obtain ⟨l, p, xs, vs, rfl, rfl, hl, _, e1, r, h⟩ := lsD (no := .no) s ra h
  obtain ⟨ns, e, h⟩ := sumI_ok (α := Unit) xs vs 0 _ r h
  subst e
  rw [Int.zero_add] at h
  exact ⟨_, cr_sum g.calm, p, ns, rfl, SqL.of e1, PostE.ok h s (.i _)⟩
theorem bools_ok : ∀ (xs : List EV) (ws : List V) (kk : R), RVs G μ H xs ws → PostE G μ H (bools xs .no kk) Q E → ∃ bs : List Bool, ws = bs.map V.bl ∧ xs = bs.map EV.b ∧ PostE G μ H kk Q E
  | [], _, kk, .nil, h => ⟨[], rfl, rfl, h⟩
  | x :: xs, _, kk, .cons rx r, h => by
    cases rx with
    | b y =>
      obtain ⟨bs, e, e2, h⟩ := bools_ok xs _ kk r h
      exact ⟨y :: bs, by rw [e]; rfl, by rw [e2]; rfl, h⟩
    | _ => exact h.elim
theorem allB_eq (kk : Bool → R) : ∀ bs : List Bool, allB (bs.map EV.b) kk = kk (bs.all id)
  | [] => rfl
  | b :: bs => by
    show ift b (allB (bs.map EV.b) kk) (kk false) = _
    rw [allB_eq kk bs]
    cases b <;> rfl
theorem anyB_eq (kk : Bool → R) : ∀ bs : List Bool, anyB (bs.map EV.b) kk = kk (bs.any id)
  | [] => rfl
  | b :: bs => by
    show ift b (kk true) (anyB (bs.map EV.b) kk) = _
    rw [anyB_eq kk bs]
    cases b <;> rfl
theorem cl_all (g : Good G P w mg base k c E X) : Cl1 G E X (.builtin "all") pAll := CallR.of fun xs H Q ⟨x, e, μ, st, a, s, ra, h⟩ => by
  subst e
  obtain ⟨l, p, xs, vs, rfl, rfl, hl, _, e1, r, h⟩ := lsD (no := .no) s ra h
  obtain ⟨bs, e, e2, h⟩ := bools_ok xs vs _ r h
  subst e e2
  rw [allB_eq] at h
  exact ⟨_, cr_all g.calm, p, bs, rfl, SqL.of e1, PostE.ok h s (.b _)⟩
theorem cl_any (g : Good G P w mg base k c E X) : Cl1 G E X (.builtin "any") pAny := CallR.of fun xs H Q ⟨x, e, μ, st, a, s, ra, h⟩ => by
  subst e
  obtain ⟨l, p, xs, vs, rfl, rfl, hl, _, e1, r, h⟩ := lsD (no := .no) s ra h
  obtain ⟨bs, e, e2, h⟩ := bools_ok xs vs _ r h
  subst e e2
  rw [anyB_eq] at h
  exact ⟨_, cr_any g.calm, p, bs, rfl, SqL.of e1, PostE.ok h s (.b _)⟩
end
end L3

set_option Elab.async false
set_option linter.all false
set_option maxRecDepth 100000
set_option maxHeartbeats 4000000
/-! L3: tuple, list, isinstance, items, slices, methods of lists, sorted. -/
noncomputable section
namespace L3
open PySem PySem.Spec PyProof.Rows L2

section
variable {G : Fix} {P : Program} {w : World} {mg : Str → Option Value} {base : Heap} {k : Nat} {c : SC} {E : EXK} {cal : Cal} {X : Cx}
variable {μ μ1 μ' : List Addr} {H H1 H' : Hp} {st : Sto} {ρ : List EV} {σ : L2.St} {Q : VK}
theorem cl_tup (g : Good G P w mg base k c E X) : Cl1 G E X (.type "tuple") pTup := CallR.of fun xs H Q ⟨x, e, μ, st, a, s, ra, h⟩ => by
  subst e
  cases ra with
  | @t ys p vs hp r => exact ⟨_, call_tuple_of, p, vs, rfl, .inr ⟨by rw [g.kk]; exact hp.sq, PostE.ok (v := .t ys) h s (.t hp r)⟩⟩
  | @l l p hl =>
    have h : PostE G μ H (gOL R.no (st.get l) fun xs => .ok (.t xs) st) Q E := h
    cases e : st.get l with
    | l xs =>
      rw [e] at h
      obtain ⟨vs, e1, r⟩ := s.lst hl e
      exact ⟨_, call_tuple_of, p, vs, rfl, .inl ⟨SqL.of e1, fun q hq => new_tup s r h hq⟩⟩
    | _ => rw [e] at h; exact h.elim
  | _ => exact h.elim
theorem cl_list (g : Good G P w mg base k c E X) : Cl1 G E X (.type "list") pList := CallR.of fun xs H Q ⟨x, e, μ, st, a, s, ra, h⟩ => by
  subst e
  cases ra with
  | @t ys p vs hp r => exact ⟨_, call_list_of, p, vs, rfl, .inr (by rw [g.kk]; exact hp.sq), (PostE.sLn h s r).2⟩
  | @l l p hl =>
    have h : PostE G μ H (gOL R.no (st.get l) (newL st)) Q E := h
    cases e : st.get l with
    | l xs =>
      rw [e] at h
      obtain ⟨vs, e1, r⟩ := s.lst hl e
      exact ⟨_, call_list_of, p, vs, rfl, .inl (SqL.of e1), (PostE.sLn h s r).2⟩
    | _ => rw [e] at h; exact h.elim
  | _ => exact h.elim
/-! ### isinstance -/
def kdN : Nat → String
  | 0 => "int" | 1 => "bool" | 2 => "str" | 3 => "tuple" | 4 => "list" | 5 => "dict" | _ => "NoneType"
theorem kit_all : (List.range 7).all (fun a => (List.range 6).all fun b => kitB (kdN a) (kdN b) == some (isKind a b)) = true := by decide +kernel
theorem kit_at {K : PySem.W.Frag} {a b : Nat} (ha : a < 7) (hb : b < 6) : PySem.W.kitOne K (.type (kdN a)) (.type (kdN b)) = some (isKind a b) := by
  refine kit_ty ?_
  have h := List.all_eq_true.mp kit_all a (List.mem_range.mpr ha)
  have h := List.all_eq_true.mp h b (List.mem_range.mpr hb)
  exact of_decide_eq_true (by simpa using h)
theorem tyn_kd {b : Nat} (hb : b < 6) : tyn b = kdN b := by
  match b, hb with
  | 0, _ => rfl
  | 1, _ => rfl
  | 2, _ => rfl
  | 3, _ => rfl
  | 4, _ => rfl
  | 5, _ => rfl
/-- a value's type by its kind -/
theorem kind_ty (s : RS' G μ H st) {a : EV} {x : V} {kk : Nat → R} (ra : RV G μ H a x) (h : PostE G μ H (kindV .no st a kk) Q E) : ∃ n, n < 7 ∧ TyX G.K H x (.type (kdN n)) ∧ PostE G μ H (kk n) Q E := by
  cases ra with
  | n => exact ⟨6, by decide, .base .non, h⟩
  | b y => exact ⟨1, by decide, .base (.bl y), h⟩
  | i y => exact ⟨0, by decide, .base (.int y), h⟩
  | s y hy => exact ⟨2, by decide, .base (.str _), h⟩
  | @t ys p vs hp r =>
    refine ⟨3, by decide, ?_, h⟩
    rcases hp with hp | hp
    · exact .base (.tup hp)
    · obtain ⟨⟨o, its, n, e, c, _⟩, _⟩ := hp
      exact .kTuple e c
  | @l l p hl =>
    have h : PostE G μ H (gO2 R.no (st.get l) (fun _ => kk 4) fun _ => kk 5) Q E := h
    have o := s.at_ l p hl
    rw [st_get] at h
    cases e : st.tr.get l with
    | l xs =>
      rw [e] at h o
      obtain ⟨vs, e1, _⟩ := o
      exact ⟨4, by decide, .base (.lst e1), h⟩
    | d kvs =>
      rw [e] at h o
      rcases o with ⟨q, e1, _⟩ | ⟨q, e1, _⟩
      · exact ⟨5, by decide, .base (.dK e1), h⟩
      · exact ⟨5, by decide, .base (.dT e1), h⟩
    | z => rw [e] at o; exact o.elim
    | o c fs => rw [e] at o; exact o.elim
  | _ => exact h.elim
theorem cl_isin (g : Good G P w mg base k c E X) : Cl2 G E X (.builtin "isinstance") pIsin := CallR.of fun xs H Q ⟨x, y, e, μ, st, a, b, s, ra, rb, h⟩ => by
  subst e
  obtain ⟨n, hn, ty, h⟩ := kind_ty s ra h
  cases rb with
  | y m =>
    obtain ⟨hm, h⟩ := PostE.ift h
    have hm : m < 6 := Nat.le_of_ble_eq_true hm
    obtain ⟨z, ez, q⟩ := okB_cases (R' := True) h s
    have ez := of_inj ez
    rw [tyn_kd hm]
    exact ⟨_, call_isi, x, .ty (kdN m), .type (kdN n), .type (kdN m), isKind n m, rfl, .ty _, by rw [g.kk]; exact ty, kit_at hn hm, by rw [ez]; exact q⟩
  | _ => exact h.elim
/-- isinstance(x, (C, D)) -/
theorem t_isin2 (g : Good G P w mg base k c E X) {e ta tb : Expr} {m : ES} {a b : Nat} {q tpos pos : Pos} {kk : Nat} (hx : c.sc.names.lookup ("isinstance" : Str) = some .globalImplicit) (hm : mg ("isinstance" : Str) = none) (ha : a < 6) (hb : b < 6) (hn : noStar e = true) (hna : noStar ta = true) (hnb : noStar tb = true)
    (he : PE X e (T G E cal m)) (h1 : PE X ta (tC (.ty (kdN a)))) (h2 : PE X tb (tC (.ty (kdN b)))) : PE X (.Call (.Name "isinstance" q) [e, .Tuple [ta, tb] kk tpos] [] pos) (T G E cal (c1 (pIsin2 a b) m)) := by
  have ptup := pe_tup (X := X) (pos := tpos) (x1 := kk) (pa_cons h1 (pa_cons h2 pa_nil (starEach_cons hnb [] X.env)) (starEach_cons hna [tb] X.env))
  have pa := pa_cons he (pa_cons ptup pa_nil (starEach_cons (e := .Tuple [ta, tb] kk tpos) rfl [] X.env)) (starEach_cons hn [.Tuple [ta, tb] kk tpos] X.env)
  refine (pe_callB (pos := pos) (p := q) call_isiT (gl_of g hx) (by rw [g.mm]; exact hm) PyProof.Rows.boot_isinstance pa (by decide) (by decide) (starEach_cons hn [.Tuple [ta, tb] kk tpos] X.env) rfl).impL fun σ H Q h => (T.one h).imp fun x H1 ⟨μ, st, v, s, r, h⟩ => ?_
  refine ⟨by show 2 ≤ sizeLine; rw [sizeLine_eq]; omega, fun p hp => ?_⟩
  have x1 := Ext.tup (μ := μ) (H := H1) (u := .tup [.ty (kdN a), .ty (kdN b)]) hp
  obtain ⟨n, hnn, ty, h⟩ := kind_ty (s.tup hp) (r.mono x1 s.notup) (PostE.mono h x1)
  obtain ⟨z, ez, q⟩ := okB_cases (R' := True) h (s.tup hp)
  have ez := of_inj ez
  refine ⟨x, p, [.ty (kdN a), .ty (kdN b)], .type (kdN n), [.type (kdN a), .type (kdN b)], z, rfl, upd_same, .cons (.ty _) (.cons (.ty _) .nil), by rw [g.kk]; exact ty, ?_, q⟩
  rw [← ez, ift_eq]
  refine kitAny_cons (kit_at hnn ha) (fun e => ?_) fun e => by rw [if_pos e]
  rw [e, if_neg Bool.false_ne_true]
  exact kitAny_cons (kit_at hnn hb) (fun e => by rw [e]; rfl) fun e => e
/-! ### items, slices -/
theorem place_ok {α : Type} {no : α} {i : Int} {n : Nat} {kk : Nat → α} {p : α → Prop} (h : p (place no i n kk)) (hn : ¬ p no) : ∃ j, ixN n i = some j ∧ j < n ∧ p (kk j) := by
  cases i with
  | ofNat m =>
    have h : p (ift (Nat.blt m n) (kk m) no) := h
    rw [ift_eq] at h
    split at h
    · rename_i e
      have e : m < n := Nat.le_of_ble_eq_true e
      refine ⟨m, ?_, e, h⟩
      unfold ixN
      have h1 : (0 : Int) ≤ Int.ofNat m := Int.natCast_nonneg m
      have h2 : Int.ofNat m < (n : Int) := by show (m : Int) < n; omega
      rw [if_pos h1, if_pos h2]
      rfl
    · exact absurd h hn
  | negSucc m =>
    have h : p (ift (Nat.ble (m + 1) n) (kk (n - (m + 1))) no) := h
    rw [ift_eq] at h
    split at h
    · rename_i e
      have e : m + 1 ≤ n := Nat.le_of_ble_eq_true e
      refine ⟨n - (m + 1), ?_, by omega, h⟩
      unfold ixN
      rw [if_neg (by omega), if_pos (by omega)]
      congr 1
      omega
    · exact absurd h hn
theorem atI_of {α : Type} {xs : List α} {i : Int} {j : Nat} (h : ixN xs.length i = some j) : atI xs i = xs[j]? := by
  unfold atI
  rw [h]
  rfl
theorem ix_h (s : RS' G μ H st) {a b : EV} {x y : V} (ra : RV G μ H a x) (rb : RV G μ H b y) (h : PostE G μ H (pIx a b st) Q E) : rIx G.K x y H Q ∨ ∃ l p kvs, x = .ref p ∧ μ[l]? = some p ∧ st.get l = .d kvs ∧ kkD b kvs = true ∧ PostE G μ H (dGet R.no R.no (kEq b) kvs fun v => .ok v st) Q E := by
  have no : ¬ PostE G μ H .no Q E := fun z => z
  cases ra with
  | s cs hc =>
    cases rb with
    | i i =>
      have h : PostE G μ H (place .no i (lenN cs) fun j => nth .no cs j fun x => .ok (.s [x]) st) Q E := h
      rw [lenN_eq] at h
      obtain ⟨j, h1, h2, h⟩ := place_ok (p := fun r => PostE G μ H r Q E) h no
      have h : PostE G μ H (nth .no cs j fun x => .ok (.s [x]) st) Q E := h
      rw [nth_eq] at h
      cases e : cs[j]? with
      | none => rw [e] at h; exact h.elim
      | some ch =>
        rw [e] at h
        refine .inl (.inr (.inr ⟨⟨cs.toArray⟩, i, ch, rfl, rfl, ?_, ?_, ?_⟩))
        · rw [sizeLine_eq]; show cs.toArray.size ≤ _; simp; omega
        · have e1 : (⟨cs.toArray⟩ : Str).cps.toList = cs := by simp
          rw [e1, atI_of h1]; exact e
        · exact PostE.ok (v := .s [ch]) h s (.s [ch] (by simp))
    | _ => exact h.elim
  | @t xs p vs hp r =>
    cases rb with
    | i i =>
      have h : PostE G μ H (place .no i (lenN xs) fun j => nth .no xs j fun x => .ok x st) Q E := h
      rw [lenN_eq, r.length] at h
      obtain ⟨j, h1, h2, h⟩ := place_ok (p := fun r => PostE G μ H r Q E) h no
      have h : PostE G μ H (nth .no xs j fun x => .ok x st) Q E := h
      rw [nth_eq] at h
      cases e : xs[j]? with
      | none => rw [e] at h; exact h.elim
      | some ev =>
        rw [e] at h
        obtain ⟨z, e2, rz⟩ := r.get e
        exact .inl (.inr (.inl ⟨p, vs, i, z, rfl, rfl, hp.sq, by rw [atI_of h1]; exact e2, PostE.ok (v := ev) h s rz⟩))
    | _ => exact h.elim
  | @l l p hl =>
    have h : PostE G μ H (gO2 R.no (st.get l) (fun xs => gI .no b fun i => place .no i (lenN xs) fun j => nth .no xs j fun x => .ok x st) fun kvs => ift (kkD b kvs) (dGet R.no R.no (kEq b) kvs fun v => .ok v st) .no) Q E := h
    cases e0 : st.get l with
    | l xs =>
      rw [e0] at h
      obtain ⟨vs, e1, r⟩ := s.lst hl e0
      cases rb with
      | i i =>
        have h : PostE G μ H (place .no i (lenN xs) fun j => nth .no xs j fun x => .ok x st) Q E := h
        rw [lenN_eq, r.length] at h
        obtain ⟨j, h1, h2, h⟩ := place_ok (p := fun r => PostE G μ H r Q E) h no
        have h : PostE G μ H (nth .no xs j fun x => .ok x st) Q E := h
        rw [nth_eq] at h
        cases e : xs[j]? with
        | none => rw [e] at h; exact h.elim
        | some ev =>
          rw [e] at h
          obtain ⟨z, e2, rz⟩ := r.get e
          exact .inl (.inl ⟨p, vs, i, z, rfl, rfl, SqL.of e1, by rw [atI_of h1]; exact e2, PostE.ok (v := ev) h s rz⟩)
      | _ => exact h.elim
    | d kvs =>
      rw [e0] at h
      obtain ⟨e1, h⟩ := PostE.ift h
      exact .inr ⟨l, p, kvs, rfl, hl, e0, e1, h⟩
    | _ => rw [e0] at h; exact h.elim
  | _ => exact h.elim
theorem plainIx {b : Expr} (h : isSlice b = false) : PlainIx b := fun o i => by
  cases b <;> first | rfl | (cases (show true = false from h))
def rIxE (G : Fix) (E : EXK) : R2 := fun x y H Q => ∃ μ st a b, RS' G μ H st ∧ RV G μ H a x ∧ RV G μ H b y ∧ PostE G μ H (pIx a b st) Q E
theorem ixE_ok (g : Good G P w mg base k c E X) : IxR X (rIxE G E) := by
  intro value slice pins s0 σ H x y v u Q I rx ry ⟨μ, st, a, b, s, ra, rb, h⟩ hs
  rcases ix_h s ra rb h with h' | ⟨l, p, kvs, rfl, hl, e1, e2, h'⟩
  · exact ix_seq value slice pins s0 σ H x y v u Q I rx ry (by rw [g.kk]; exact h') hs
  · obtain ⟨H2, I2, x2, s2, kp, d⟩ := d_prep I s hl e1 rb e2
    rcases d_look (p := fun r => PostE G μ H2 r Q E) (bad := R.no) (none' := R.no) (kf := fun v => R.ok v st) (fun q => q) d (PostE.mono h' x2) with ⟨_, g2⟩ | ⟨ev, z, g1, rz, g2⟩
    · exact g2.elim
    · cases rx
      exact tail_any (dict_typeIs I2 g1) PySem.F.slot_dict_getitem.lookup (d_getItem (units1 g) I2 g1 ry fun w' s' I' rw' => ⟨z, H2, I', rw', PostE.ok (v := ev) g2 s2 rz⟩) hs
theorem t_ix (g : Good G P w mg base k c E X) {a b : Expr} {ma mb : ES} {pos : Pos} (hs : isSlice b = false) (ha : PE X a (T G E cal ma)) (hb : PE X b (T G E cal mb)) : PE X (.Subscript a b pos) (T G E cal (c2 pIx ma mb)) :=
  (pe_ix (ixE_ok g) ha hb (plainIx hs)).impL fun σ H Q h => h.two
theorem get2_ok (g : Good G P w mg base k c E X) : Get2 G E X := by
  intro pins s0 σ H o i ov iv Q I ro ri h
  obtain ⟨μ, st, a, b, s, ra, rb, h⟩ := h
  obtain ⟨l, p, xs, vs, rfl, rfl, hl, _, e1, r, h⟩ := lsD (no := .no) s ra h
  cases rb with
  | i i =>
    have no : ¬ PostE G μ H .no Q E := fun z => z
    have h : PostE G μ H (place .no i (lenN xs) fun j => nth .no xs j fun x => .ok x st) Q E := h
    rw [lenN_eq, r.length] at h
    obtain ⟨j, h1, h2, h⟩ := place_ok (p := fun r => PostE G μ H r Q E) h no
    have h : PostE G μ H (nth .no xs j fun x => .ok x st) Q E := h
    rw [nth_eq] at h
    cases e : xs[j]? with
    | none => rw [e] at h; exact h.elim
    | some ev =>
      rw [e] at h
      obtain ⟨z, e2, rz⟩ := r.get e
      have q := PostE.ok (v := ev) h s rz
      cases ro
      obtain ⟨t, rfl⟩ := ri
      obtain ⟨its, r, pl, hz⟩ := I.list (SqL.of e1)
      obtain ⟨h1', h2', h3, h4⟩ := ixN_seq h1
      obtain ⟨w', ew, rw'⟩ := r.get e2
      have hll := r.length
      have hn := line63
      have fin : EP X pins σ Q w' s0 := ⟨z, H, I, rw', q⟩
      by_cases h0 : 0 ≤ i
      · have hj : i.toNat = j := by
          rw [seqIndex_of h0 h4] at h1'
          exact Option.some.inj h1'
        exact wpAny_getItem_list pl.isList h0 (by omega) (by rw [hj]; simpa using ew) fin
      · have hj : (i + (its.toArray.size : Int)).toNat = j := by
          rw [seqIndex_neg (by omega) h3] at h1'
          rw [List.size_toArray, ← hll]
          exact Option.some.inj h1'
        exact wpAny_getItem_list_neg pl.isList (by omega) (by rw [List.size_toArray] <;> omega) (by omega) (by rw [hj]; simpa using ew) fin
  | _ => exact h.elim
theorem put_d (s : RS' G μ H st) {l : Nat} {p : Addr} {o : HO} {kvs : List (EV × EV)} {v : EV} {y : V} {u : HO} (hl : μ[l]? = some p) (ho : H p = some o) (hr : RO G μ (upd H p u) p (.d kvs)) (rv : RV G μ H v y) (h : PostE G μ H (putD st l kvs v) Q E) : kvs.length ≤ 16000000 ∧ Q y (upd H p u) := by
  obtain ⟨h1, h⟩ := PostE.fits h
  rw [lenN_eq] at h1
  rw [Sto.put_eq] at h
  exact ⟨h1, h μ _ y (Ext.put (List.mem_of_getElem? hl) ho) (s.put hl hr) (rv.kp (Kp.put s (List.mem_of_getElem? hl) ho))⟩
theorem RD.length : ∀ {kvs : List (EV × EV)} {q : List (Key × V)}, RD G μ H kvs q → kvs.length = q.length
  | _, _, .nil => rfl
  | _, _, .cons _ _ t => by simp [t.length]
theorem RDT.length : ∀ {kvs : List (EV × EV)} {q : List (List Key × V)}, RDT G μ H kvs q → kvs.length = q.length
  | _, _, .nil => rfl
  | _, _, .cons _ _ t => by simp [t.length]
theorem KV.fsts {κ : Type} : ∀ {q : List (κ × V)} {vs : List (κ × Value)}, KV q vs → q.map (·.1) = vs.map (·.1)
  | _, _, .nil => rfl
  | _, _, .cons h t => by
    rw [List.map_cons, List.map_cons, h.1]
    congr 1
    exact KV.fsts t
theorem nodupK {pins : List (Addr × Obj)} {s0 : Shared} {p : Addr} {q : List (Key × V)} (I : Inv X pins σ H s0) (h : H p = some (.dK q)) : (q.map (·.1)).Nodup := by
  obtain ⟨_, _, vs, rel, _, _, _, _, _, _, _, _, nd⟩ := (show ObjOk X.prog X.w H s0.heap p (.dK q) from I.hok p _ h)
  rw [KV.fsts rel]
  exact nd
theorem fstsT {α β κ : Type} {T : κ × α → κ × β → Prop} {q : List (κ × α)} {vs : List (κ × β)} (r : Paired T q vs) (h : ∀ a b, T a b → a.1 = b.1) : q.map (·.1) = vs.map (·.1) := by
  induction r with
  | nil => rfl
  | cons hh _ ih => rw [List.map_cons, List.map_cons, ih, h _ _ hh]
theorem nodupT {pins : List (Addr × Obj)} {s0 : Shared} {p : Addr} {q : List (List Key × V)} (I : Inv X pins σ H s0) (h : H p = some (.dT q)) : (q.map (·.1)).Nodup := by
  obtain ⟨_, _, vs, rel, _, _, _, _, _, _, _, nd⟩ := (show ObjOk X.prog X.w H s0.heap p (.dT q) from I.hok p _ h)
  rw [fstsT rel fun _ _ h => h.1]
  exact nd
theorem length_put {κ : Type} [DecidableEq κ] (q : List (κ × V)) (k : κ) (v : V) : q.length ≤ (putK q k v).length := by
  unfold putK
  split
  · rw [List.length_map]; exact Nat.le_refl _
  · rw [List.length_append]; exact Nat.le_add_right _ _
theorem set3_ok (g : Good G P w mg base k c E X) : Set3 G E X := by
  intro pins s0 σ H o i v ov iv u Q I ro ri rv h
  obtain ⟨μ, st, a, b, d, s, ra, rb, rd, h⟩ := h
  have no : ¬ PostE G μ H .no (fun _ H' => Q H') E := fun z => z
  cases ra with
  | @l l p hl =>
    have h : PostE G μ H (gO2 R.no (st.get l) (fun xs => gI .no b fun i => place .no i (lenN xs) fun j => putAt d xs j fun zs => st.put l (.l zs) fun st => .ok .n st)
      fun kvs => ift (kkD b kvs) (dPut R.no (kEq b) b d kvs fun kvs => putD st l kvs .n) .no) (fun _ H' => Q H') E := h
    cases e0 : st.get l with
    | l xs =>
      rw [e0] at h
      obtain ⟨vs, e1, r⟩ := s.lst hl e0
      cases rb with
      | i i =>
        have h : PostE G μ H (place .no i (lenN xs) fun j => putAt d xs j fun zs => st.put l (.l zs) fun st => .ok .n st) (fun _ H' => Q H') E := h
        rw [lenN_eq, r.length] at h
        obtain ⟨j, h1, h2, h⟩ := place_ok (p := fun r => PostE G μ H r (fun _ H' => Q H') E) h no
        have h : PostE G μ H (putAt d xs j fun zs => st.put l (.l zs) fun st => .ok .n st) (fun _ H' => Q H') E := h
        rw [putAt_eq, Sto.put_eq] at h
        have kp : Kp G μ H μ (upd H p (.lst (vs.set j v))) := Kp.put s (List.mem_of_getElem? hl) e1
        exact set_list pins s0 σ H _ _ v ov iv u Q I ro ri rv ⟨p, vs, i, j, rfl, rfl, e1, h1, h μ _ .non (Ext.put (List.mem_of_getElem? hl) e1) (s.put hl ⟨_, upd_same, (r.set rd j).kp kp⟩) .n⟩
      | _ => exact h.elim
    | d kvs =>
      rw [e0] at h
      obtain ⟨e1, h⟩ := PostE.ift h
      obtain ⟨H2, I2, x2, s2, kp2, dd⟩ := d_prep I s hl e0 rb e1
      have h := PostE.mono h x2
      have rd2 := rd.kp kp2
      cases ro
      rcases dd.ok with ⟨q, k', h1, h2, e3, h4⟩ | ⟨q, ns, b', h1, h2, e3, h4, e5⟩
      · obtain ⟨kvs', g1, g2⟩ := dPut_k h4 rd2 (p := fun r => PostE G μ H2 r (fun _ H' => Q H') E) (fun z => z) h2 (nodupK I2 h1) h
        have kp3 : Kp G μ H2 μ (upd H2 p (.dK (putK q k' v))) := Kp.put s2 (List.mem_of_getElem? hl) h1
        obtain ⟨h5, h6⟩ := put_d s2 hl h1 (.inl ⟨_, upd_same, g1.kp kp3⟩) .n g2
        have h7 := length_put q k' v
        rw [g1.length] at h5
        rw [e3] at ri
        exact d_setItem (units1 g) I2 (DPut.k h1 (by rw [sizeLine_eq]; omega)) ri rv fun s' I' => ⟨_, I', h6⟩
      · subst e5
        obtain ⟨kvs', g1, g2⟩ := dPut_t (RKs.ints ns) rd2 (p := fun r => PostE G μ H2 r (fun _ H' => Q H') E) (fun z => z) h2 (nodupT I2 h1) h
        have kp3 : Kp G μ H2 μ (upd H2 p (.dT (putK q (ns.map Sum.inl) v))) := Kp.put s2 (List.mem_of_getElem? hl) h1
        obtain ⟨h5, h6⟩ := put_d s2 hl h1 (.inr ⟨_, upd_same, g1.kp kp3⟩) .n g2
        have h7 := length_put q (ns.map Sum.inl) v
        rw [g1.length] at h5
        rw [e3] at ri
        exact d_setItem (units1 g) I2 (DPut.t h1 h4 (by rw [sizeLine_eq]; omega)) ri rv fun s' I' => ⟨_, I', h6⟩
    | _ => rw [e0] at h; exact h.elim
  | _ => exact h.elim
/-- {} -/
theorem t_dic0 {pos : Pos} : PE X (.Dict [] [] pos) (T G E cal cDic0) := pe_dnewK.impL fun σ H Q ⟨μ, ρ, st, s, r, h⟩ p hp => by
  have h : PostE G μ H (newD st []) Q E := h
  obtain ⟨_, h⟩ := PostE.fits h
  rw [Sto.new_eq] at h
  refine h (μ ++ [p]) _ _ (Ext.new hp) (s.new hp (.inl ⟨[], upd_same, .nil⟩)) (.l ?_)
  rw [← s.n]
  simp
theorem ip2_add : Ip2 G E X .Add iAdd := by
  intro pins s0 σ H x y v u Q I rx ry h
  obtain ⟨μ, st, a, b, s, ra, rb, h⟩ := h
  cases ra with
  | i x =>
    cases rb with
    | i y => exact iop_add pins s0 σ H _ _ v u Q I rx ry ⟨x, y, rfl, rfl, PostE.sI h s⟩
    | _ => exact h.elim
  | s cs hc =>
    cases rb with
    | s ds hd =>
      have h : PostE G μ H (app cs ds (okS st)) Q E := h
      rw [app_eq] at h
      obtain ⟨h1, h2⟩ := PostE.sS h s
      rw [List.length_append] at h1
      refine iop_add_str pins s0 σ H _ _ v u Q I rx ry ⟨⟨cs.toArray⟩, ⟨ds.toArray⟩, rfl, rfl, ?_, ?_⟩
      · rw [sizeLine_eq]
        show cs.toArray.size + ds.toArray.size ≤ _
        simp; omega
      · have e : (⟨cs.toArray⟩ : Str) ++ ⟨ds.toArray⟩ = ⟨(cs ++ ds).toArray⟩ := by
          show (⟨cs.toArray ++ ds.toArray⟩ : Str) = _
          simp
        rw [e]; exact h2
    | _ => exact h.elim
  | _ => exact h.elim
theorem ip2_sub : Ip2 G E X .Sub pSub := by
  intro pins s0 σ H x y v u Q I rx ry h
  obtain ⟨μ, st, a, b, s, ra, rb, h⟩ := h
  cases ra with
  | i x =>
    cases rb with
    | i y => exact iop_sub pins s0 σ H _ _ v u Q I rx ry ⟨x, y, rfl, rfl, PostE.sI h s⟩
    | _ => exact h.elim
  | _ => exact h.elim
/-! ### slices -/
theorem takeK_eq {α β : Type} : ∀ (xs : List β) (n : Nat) (kk : List β → α), takeK xs n kk = kk (xs.take n)
  | [], n, kk => by simp [takeK]
  | x :: r, 0, kk => rfl
  | x :: r, n + 1, kk => takeK_eq r n fun r => kk (x :: r)
theorem dropN_eq {β : Type} : ∀ (xs : List β) (n : Nat), dropN xs n = xs.drop n
  | [], n => by simp [dropN]
  | x :: r, 0 => rfl
  | x :: r, n + 1 => dropN_eq r n
theorem cut_eq {α β : Type} (xs : List β) (lo hi : Nat) (kk : List β → α) : cut xs lo hi kk = kk ((xs.drop lo).take (hi - lo)) := by
  unfold cut
  rw [takeK_eq, dropN_eq]
theorem bound_eq (i : Int) (n d : Nat) : bound i n = HT.sIx n d (some i) := by
  cases i with
  | ofNat m =>
    show ift (Nat.ble m n) m n = _
    rw [ift_eq]
    have e := HT.sIx_nat n d m
    show _ = HT.sIx n d (some (m : Int))
    rw [e]
    split
    · rename_i h
      have h := Nat.le_of_ble_eq_true h
      omega
    · rename_i h
      have h : ¬ m ≤ n := fun z => h (Nat.ble_eq_true_of_le z)
      omega
  | negSucc m =>
    have hneg : Int.negSucc m < 0 := Int.negSucc_lt_zero m
    have e : HT.sIx n d (some (Int.negSucc m)) = (Int.negSucc m + (n : Int)).toNat := if_pos hneg
    rw [e]
    show ift (Nat.ble (m + 1) n) (n - (m + 1)) 0 = _
    rw [ift_eq]
    by_cases h : m + 1 ≤ n
    · rw [if_pos (Nat.ble_eq_true_of_le h)]
      omega
    · rw [if_neg (fun z => h (Nat.le_of_ble_eq_true z))]
      omega
def loB (n : Nat) : Option Int → Nat
  | none => 0
  | some i => bound i n
def hiB (n : Nat) : Option Int → Nat
  | none => n
  | some i => bound i n
theorem loB_eq (n : Nat) (o : Option Int) : loB n o = HT.sIx n 0 o := by
  cases o with
  | none => rfl
  | some i => exact bound_eq i n 0
theorem hiB_eq (n : Nat) (o : Option Int) : hiB n o = HT.sIx n n o := by
  cases o with
  | none => rfl
  | some i => exact bound_eq i n n
/-- a slice by its bounds -/
def slP (a : EV) (lo hi : Option Int) (st : Sto) : R := sel a (fun _ => .no) (fun c => cut c (loB (lenN c) lo) (hiB (lenN c) hi) (okS st)) (fun xs => cut xs (loB (lenN xs) lo) (hiB (lenN xs) hi) (okT st))
  (fun l => gOL .no (st.get l) fun xs => cut xs (loB (lenN xs) lo) (hiB (lenN xs) hi) (newL st)) .no
def rSl (K : PySem.W.Frag) : V → Option Int → Option Int → Hp → VK → Prop := fun x lo hi H Q => rSlL K x lo hi H Q ∨ rSlA K x lo hi H Q ∨ rSlS x lo hi H Q
theorem sl_ok : SlR X (rSl X.K) := SlR.or sl_list (SlR.or sl_tupA sl_str)
theorem sl_h (s : RS' G μ H st) {a : EV} {x : V} (ra : RV G μ H a x) {lo hi : Option Int} (h : PostE G μ H (slP a lo hi st) Q E) : rSl G.K x lo hi H Q := by
  cases ra with
  | s cs hc =>
    have h : PostE G μ H (cut cs (loB (lenN cs) lo) (hiB (lenN cs) hi) (okS st)) Q E := h
    rw [cut_eq, lenN_eq, loB_eq, hiB_eq] at h
    obtain ⟨_, q⟩ := PostE.sS h s
    refine .inr (.inr ⟨⟨cs.toArray⟩, rfl, ?_, ?_⟩)
    · rw [sizeLine_eq]; show cs.toArray.size ≤ _; simp; omega
    · have e1 : (⟨cs.toArray⟩ : Str).cps.toList = cs := by simp
      have e2 : (⟨cs.toArray⟩ : Str).length = cs.length := by show cs.toArray.size = _; simp
      unfold cutS
      rw [e1, e2]
      exact q
  | @t xs p vs hp r =>
    have h : PostE G μ H (cut xs (loB (lenN xs) lo) (hiB (lenN xs) hi) (okT st)) Q E := h
    rw [cut_eq, lenN_eq, loB_eq, hiB_eq, r.length] at h
    obtain ⟨_, q1, q2⟩ := PostE.sT h s ((r.drop _).take _)
    refine .inr (.inl ⟨p, vs, rfl, hp.sq, fun ⟨e1, e2⟩ => q1 p ?_, fun _ => q2⟩)
    rw [e1, e2]
    simpa using hp
  | @l l p hl =>
    have h : PostE G μ H (gOL R.no (st.get l) fun xs => cut xs (loB (lenN xs) lo) (hiB (lenN xs) hi) (newL st)) Q E := h
    cases e0 : st.get l with
    | l xs =>
      rw [e0] at h
      obtain ⟨vs, e1, r⟩ := s.lst hl e0
      have h : PostE G μ H (cut xs (loB (lenN xs) lo) (hiB (lenN xs) hi) (newL st)) Q E := h
      rw [cut_eq, lenN_eq, loB_eq, hiB_eq, r.length] at h
      obtain ⟨_, q⟩ := PostE.sLn h s ((r.drop _).take _)
      exact .inl ⟨p, vs, rfl, SqL.of e1, q⟩
    | _ => rw [e0] at h; exact h.elim
  | _ => exact h.elim
theorem t_slL (g : Good G P w mg base k c E X) {e lo : Expr} {m ml : ES} {p2 pos : Pos} (he : PE X e (T G E cal m)) (hl : PE X lo (T G E cal ml)) : PE X (.Subscript e (.Slice (some lo) none none p2) pos) (T G E cal (c2 pSlL m ml)) :=
  (pe_slice sl_ok he (po_some hl) po_none).impL fun σ H Q h => h.two.imp fun x H1 h => h.imp fun y H2 ⟨μ, st, a, b, s, ra, rb, h⟩ => by
    cases rb with
    | i i => exact ⟨i, rfl, by rw [g.kk]; exact sl_h (lo := some i) (hi := none) s ra h⟩
    | _ => exact h.elim
theorem t_slH (g : Good G P w mg base k c E X) {e hi : Expr} {m mh : ES} {p2 pos : Pos} (he : PE X e (T G E cal m)) (hh : PE X hi (T G E cal mh)) : PE X (.Subscript e (.Slice none (some hi) none p2) pos) (T G E cal (c2 pSlH m mh)) :=
  (pe_slice sl_ok he po_none (po_some hh)).impL fun σ H Q h => h.two.imp fun x H1 h => h.imp fun y H2 ⟨μ, st, a, b, s, ra, rb, h⟩ => by
    cases rb with
    | i i => exact ⟨i, rfl, by rw [g.kk]; exact sl_h (lo := none) (hi := some i) s ra h⟩
    | _ => exact h.elim
theorem t_slLH (g : Good G P w mg base k c E X) {e lo hi : Expr} {m ml mh : ES} {p2 pos : Pos} (he : PE X e (T G E cal m)) (hl : PE X lo (T G E cal ml)) (hh : PE X hi (T G E cal mh)) : PE X (.Subscript e (.Slice (some lo) (some hi) none p2) pos) (T G E cal (cSlLH m ml mh)) :=
  (pe_slice sl_ok he (po_some hl) (po_some hh)).impL fun σ H Q h => by
    refine (T.seq (kk := fun ρ x st => rB (ml cal ρ st) fun y st => gI .no y fun _ => rB (mh cal ρ st) fun z st => pSlLH x y z st) h).imp fun x H1 ⟨μ, ρ, st, v, s, r, rv, h⟩ => ?_
    refine ⟨μ, ρ, st, s, r, ?_⟩
    have h := PostE.bind (r := ml cal ρ st) h
    cases e : ml cal ρ st with
    | ex => rw [e] at h; exact h
    | no => rw [e] at h; exact h
    | ok u st1 =>
      rw [e] at h
      intro μ' H' y x' s' rq
      obtain ⟨μ1, st2, u2, x2, s2, r2, h⟩ := h μ' H' y x' s' rq
      cases r2 with
      | i i =>
        refine ⟨i, rfl, μ1, ρ, st2, s2, r.mono x2 s.notup, ?_⟩
        have h : PostE G μ1 H' (rB (mh cal ρ st2) fun z st => pSlLH v (.i i) z st) Q E := h
        have h := PostE.bind (r := mh cal ρ st2) h
        cases e3 : mh cal ρ st2 with
        | ex => rw [e3] at h; exact h
        | no => rw [e3] at h; exact h
        | ok u3 st3 =>
          rw [e3] at h
          intro μ4 H4 y4 x4 s4 r4
          obtain ⟨μ5, st5, u5, x5, s5, r5, h⟩ := h μ4 H4 y4 x4 s4 r4
          cases r5 with
          | i j => exact ⟨j, rfl, by rw [g.kk]; exact sl_h (lo := some i) (hi := some j) s5 ((rv.mono x2 s.notup).mono x5 s2.notup) h⟩
          | _ => exact h.elim
      | _ => exact h.elim
end
end L3

set_option Elab.async false
set_option linter.all false
set_option maxRecDepth 100000
set_option maxHeartbeats 4000000
/-! L3: methods of lists, sorted, ranges as lists, order. -/
noncomputable section
namespace L3
open PySem PySem.Spec PyProof.Rows L2

/-- o is no call without arguments: its attribute is read plainly -/
def plainBase : Expr → Bool
  | .Call (.Name _ _) [] [] _ => false
  | _ => true
theorem attr_base {o : Expr} (h : plainBase o = true) (nm : Str) (env : Env) (whole : Sem Value) : attributeBase o nm env whole = whole := by
  unfold attributeBase
  split
  · rename_i id p pos
    cases (show false = true from h)
  · rfl
section
variable {G : Fix} {P : Program} {w : World} {mg : Str → Option Value} {base : Heap} {k : Nat} {c : SC} {E : EXK} {cal : Cal} {X : Cx}
variable {μ μ1 μ' : List Addr} {H H1 H' : Hp} {st : Sto} {ρ : List EV} {σ : L2.St} {Q : VK}
theorem pe_bm1 {o e : Expr} {to : TE} {t : TA} {name : Str} {apos cpos : Pos} {Ty id : String} {r : V → List V → Hp → VK → Prop} (pa : PlainAttrs Ty) (slot : Slot Ty name id) (hty : typeOf (.builtin id) = pure (.type "method_descriptor")) (hm : MtR X id r) (ho : PE X o to) (ha : PA X [e] t)
    (hb : plainBase o = true) (hn : noStar e = true) (hline : (apos.endLine == cpos.line) = true) : PE X (.Call (.Attribute o name apos) [e] [] cpos) (tBM X.K Ty r to t) :=
  pe_bm pa slot hty hm ho ha (attr_base hb name X.env _) (by rw [starEach_cons hn]; rfl) hline (starEach_cons hn [] X.env) rfl
/-- the layer's reading of o.m(e), o a list -/
def Ml2 (G : Fix) (E : EXK) (X : Cx) (id : String) (p : P2) : Prop := MtR X id fun x xs H Q => ∃ y, xs = [y] ∧ ∃ μ st a b, RS' G μ H st ∧ RV G μ H a x ∧ RV G μ H b y ∧ PostE G μ H (p a b st) Q E
theorem MtR.of {id : String} {r : V → List V → Hp → VK → Prop} (h : ∀ x xs H Q, r x xs H Q → ∃ r' : V → List V → Hp → VK → Prop, MtR X id r' ∧ r' x xs H Q) : MtR X id r := fun pins s σ H x xs v us Q I rx rs q =>
  let ⟨_, ho, q'⟩ := h x xs H Q q
  ho pins s σ H x xs v us Q I rx rs q'
theorem t_ml (g : Good G P w mg base k c E X) {o e : Expr} {mo me : ES} {name : Str} {apos cpos : Pos} {id : String} {p : P2} (slot : Slot "list" name id) (hty : typeOf (.builtin id) = pure (.type "method_descriptor")) (hm : Ml2 G E X id p) (ho : PE X o (T G E cal mo)) (he : PE X e (T G E cal me))
    (hb : plainBase o = true) (hn : noStar e = true) (hline : (apos.endLine == cpos.line) = true) : PE X (.Call (.Attribute o name apos) [e] [] cpos) (T G E cal (cML p mo me)) := by
  refine (pe_bm1 PySem.F.plainAttrs_list slot hty hm ho (pa_cons he pa_nil (starEach_cons hn [] X.env)) hb hn hline).impL fun σ H Q h => ?_
  refine (T.seq (kk := fun ρ x st => gLs .no x st fun _ _ => rB (me cal ρ st) fun y st => p x y st) h).imp fun x H1 ⟨μ, ρ, st, v, s, r, rv, h⟩ => ?_
  obtain ⟨l, q, xs, vs, rfl, rfl, hl, e0, e1, rr, h⟩ := lsD (no := .no) s rv h
  refine ⟨.inl ⟨rfl, vs, SqL.of e1⟩, μ, ρ, st, s, r, ?_⟩
  have h := PostE.bind (r := me cal ρ st) h
  cases e : me cal ρ st with
  | ex => rw [e] at h; exact h
  | no => rw [e] at h; exact h
  | ok u st1 =>
    rw [e] at h
    intro μ' H' y x' s' rq
    obtain ⟨μ1, st2, u2, x2, s2, r2, h⟩ := h μ' H' y x' s' rq
    exact ⟨y, rfl, μ1, st2, .l l, u2, s2, rv.mono x2 s.notup, r2, h⟩
theorem ml_append : Ml2 G E X "list.append" pApp := MtR.of fun x xs H Q ⟨y, e, μ, st, a, b, s, ra, rb, h⟩ => by
  subst e
  obtain ⟨l, p, xs, vs, rfl, rfl, hl, _, e1, r, h⟩ := lsD (no := .no) s ra h
  have h : PostE G μ H (app xs [b] fun zs => putL st l zs .n) Q E := h
  rw [app_eq] at h
  obtain ⟨h1, h2⟩ := PostE.sP h s hl e1 (r.append (.cons rb .nil)) (Kp.put s (List.mem_of_getElem? hl) e1) .n
  rw [List.length_append] at h1
  simp at h1
  exact ⟨_, mt_append, p, vs, y, rfl, rfl, e1, by rw [sizeLine_eq]; omega, h2⟩
/-- extend by a list -/
theorem ml_extend : Ml2 G E X "list.extend" pExt := MtR.of fun x xs H Q ⟨y, e, μ, st, a, b, s, ra, rb, h⟩ => by
  subst e
  obtain ⟨l, p, xs, vs, rfl, rfl, hl, _, e1, r, h⟩ := lsD (no := .no) s ra h
  obtain ⟨l', p', ys, ws, rfl, rfl, hl', _, e1', r', h⟩ := lsD (no := .no) s rb h
  have h : PostE G μ H (app xs ys fun zs => putL st l zs .n) Q E := h
  rw [app_eq] at h
  obtain ⟨h1, h2⟩ := PostE.sP h s hl e1 (r.append r') (Kp.put s (List.mem_of_getElem? hl) e1) .n
  rw [List.length_append] at h1
  exact ⟨_, mt_extend, p, p', vs, ws, rfl, rfl, e1, e1', by rw [sizeLine_eq]; omega, h2⟩
theorem delK_eq {α β : Type} : ∀ (xs : List β) (n : Nat) (kk : List β → α), delK xs n kk = kk (xs.eraseIdx n)
  | [], n, kk => rfl
  | x :: r, 0, kk => rfl
  | x :: r, n + 1, kk => delK_eq r n fun r => kk (x :: r)
theorem RVs.eraseIdx : ∀ {xs : List EV} {vs : List V} (n : Nat), RVs G μ H xs vs → RVs G μ H (xs.eraseIdx n) (vs.eraseIdx n)
  | _, _, _, .nil => .nil
  | _, _, 0, .cons _ r => r
  | _, _, n + 1, .cons h r => .cons h (r.eraseIdx n)
theorem ml_popAt : Ml2 G E X "list.pop" pPopAt := MtR.of fun x xs H Q ⟨y, e, μ, st, a, b, s, ra, rb, h⟩ => by
  subst e
  obtain ⟨l, p, xs, vs, rfl, rfl, hl, _, e1, r, h⟩ := lsD (no := .no) s ra h
  cases rb with
  | i i =>
    obtain ⟨sm, h⟩ := PostE.ift h
    have no : ¬ PostE G μ H .no Q E := fun z => z
    rw [lenN_eq, r.length] at h
    obtain ⟨j, h1, h2, h⟩ := place_ok (p := fun r => PostE G μ H r Q E) h no
    have h : PostE G μ H (nth .no xs j fun y => delK xs j fun zs => putL st l zs y) Q E := h
    rw [nth_eq] at h
    cases e : xs[j]? with
    | none => rw [e] at h; exact h.elim
    | some ev =>
      rw [e] at h
      have h : PostE G μ H (delK xs j fun zs => putL st l zs ev) Q E := h
      rw [delK_eq] at h
      obtain ⟨z, e2, rz⟩ := r.get e
      obtain ⟨_, q⟩ := PostE.sP h s hl e1 (r.eraseIdx j) (Kp.put s (List.mem_of_getElem? hl) e1) rz
      obtain ⟨h1', h2', h3, h4⟩ := ixN_seq h1
      have sm := small_lt sm
      exact ⟨_, mt_popAt, p, vs, i, j, z, rfl, rfl, e1, by omega, by omega, h1', e2, q⟩
  | _ => exact h.elim
/-- o.pop() -/
theorem t_pop (g : Good G P w mg base k c E X) {o : Expr} {mo : ES} {apos cpos : Pos} (ho : PE X o (T G E cal mo)) (hb : plainBase o = true) (hline : (apos.endLine == cpos.line) = true) : PE X (.Call (.Attribute o "pop" apos) [] [] cpos) (T G E cal (c1 pPop mo)) := by
  refine (pe_bm0 PySem.F.plainAttrs_list PySem.F.slot_list_pop PySem.F.type_list_pop mt_pop ho (attr_base hb _ _ _) hline).impL fun σ H Q h => (T.one h).imp fun x H1 ⟨μ, st, v, s, rv, h⟩ => ?_
  obtain ⟨l, p, xs, vs, rfl, rfl, hl, _, e1, r, h⟩ := lsD (no := .no) s rv h
  rw [revK_eq] at h
  refine ⟨.inl ⟨rfl, vs, SqL.of e1⟩, p, vs, ?_⟩
  cases hx : xs.reverse with
  | nil => rw [hx] at h; exact h.elim
  | cons y r' =>
    rw [hx] at h
    have h : PostE G μ H1 (revK r' fun zs => putL st l zs y) Q E := h
    rw [revK_eq] at h
    have ex : xs = r'.reverse ++ [y] := by
      have := congrArg List.reverse hx
      simpa using this
    have hd : xs.dropLast = r'.reverse := by rw [ex]; simp
    have rd : RVs G μ H1 r'.reverse vs.dropLast := by
      have q := r.take (xs.length - 1)
      rw [← List.dropLast_eq_take, hd, r.length, ← List.dropLast_eq_take] at q
      exact q
    have hy : xs[xs.length - 1]? = some y := by rw [ex]; simp
    obtain ⟨z, e2, rz⟩ := r.get hy
    obtain ⟨_, q⟩ := PostE.sP h s hl e1 rd (Kp.put s (List.mem_of_getElem? hl) e1) rz
    exact ⟨z, rfl, rfl, e1, by rw [← r.length]; exact e2, q⟩
/-! ### order -/
theorem allI_ok : ∀ {xs : List EV} {ws : List V} {kk : B3} {z : Bool}, RVs G μ H xs ws → allI xs .x kk = .of z → ∃ ns : List Int, xs = ns.map EV.i ∧ ws = ns.map V.int ∧ kk = .of z
  | [], _, kk, z, .nil, h => ⟨[], rfl, rfl, h⟩
  | x :: xs, _, kk, z, .cons rx r, h => by
    cases rx with
    | i y =>
      obtain ⟨ns, e1, e2, h⟩ := allI_ok r h
      exact ⟨y :: ns, by rw [e1]; rfl, by rw [e2]; rfl, h⟩
    | _ => exact no_x h
theorem ltI_ok : ∀ (xs ys : List Int) (z : Bool), ltI (xs.map EV.i) (ys.map EV.i) = .of z → HT.lexLt xs ys = z
  | [], [], z, h => of_inj (a := false) h
  | [], _ :: _, z, h => of_inj (a := true) h
  | _ :: _, [], z, h => of_inj (a := false) h
  | x :: xs, y :: ys, z, h => by
    have h : ift (iEq x y) (ltI (xs.map EV.i) (ys.map EV.i)) (.of (iLt x y)) = .of z := h
    rw [ift_eq, iEq_ok, iLt_ok] at h
    rw [HT.lexLt_cons]
    by_cases e : x = y
    · rw [if_pos (by simpa using e)] at h
      rw [if_pos e]
      exact ltI_ok xs ys z h
    · rw [if_neg (by simpa using e)] at h
      rw [if_neg e]
      exact of_inj h
theorem op2_lt (g : Good G P w mg base k c E X) : Op2 G E X (compareOp .Lt) pLt := OpR.of fun x y H Q ⟨μ, st, a, b, s, ra, rb, h⟩ => by
  cases ra with
  | i x =>
    cases rb with
    | i y =>
      obtain ⟨z, e, q⟩ := okB_cases (R' := True) h s
      have e := of_inj e
      rw [iLt_ok] at e
      exact ⟨_, op_lt, x, y, rfl, rfl, by show Q (.bl (decide (x < y))) H; rw [e]; exact q⟩
    | _ => exact h.elim
  | @t xs p vs hp r =>
    cases rb with
    | @t ys p' ws hp' r' =>
      obtain ⟨z, e, q⟩ := okB_cases (R' := True) h s
      obtain ⟨ns, e1, e2, e⟩ := allI_ok r e
      obtain ⟨ms, e3, e4, e⟩ := allI_ok r' e
      subst e1 e2 e3 e4
      exact ⟨_, op_ltT g.room.units0, p, p', ns, ms, rfl, rfl, by rw [g.kk]; exact hp.sq, by rw [g.kk]; exact hp'.sq, by rw [ltI_ok ns ms z e]; exact q⟩
    | _ => exact h.elim
  | _ => exact h.elim
theorem op2_gt : Op2 G E X (compareOp .Gt) pGt := OpR.of fun x y H Q ⟨μ, st, a, b, s, ra, rb, h⟩ => by
  cases ra with
  | i x =>
    cases rb with
    | i y =>
      obtain ⟨z, e, q⟩ := okB_cases (R' := True) h s
      have e := of_inj e
      rw [iLt_ok] at e
      exact ⟨_, op_gt, x, y, rfl, rfl, by show Q (.bl (decide (y < x))) H; rw [e]; exact q⟩
    | _ => exact h.elim
  | _ => exact h.elim
/-! ### sorted(xs), xs a list of ints -/
theorem insI_ok (a : Int) : ∀ (ns : List Int) (kk : List EV → R), insI (.i a) a (ns.map EV.i) kk = kk ((ns.takeWhile (fun b => decide (b < a)) ++ a :: ns.dropWhile fun b => decide (b < a)).map EV.i)
  | [], kk => rfl
  | b :: ns, kk => by
    show ift (iLt b a) (insI (.i a) a (ns.map EV.i) fun r' => kk (.i b :: r')) (kk (.i a :: .i b :: ns.map EV.i)) = _
    rw [ift_eq, iLt_ok]
    by_cases h : b < a
    · rw [if_pos (by simpa using h), insI_ok a ns]
      simp [h]
    · rw [if_neg (by simpa using h)]
      simp [h]
/-- the ints, sorted -/
def srt : List Int → List Int
  | [] => []
  | a :: ns => (srt ns).takeWhile (fun b => decide (b < a)) ++ a :: (srt ns).dropWhile fun b => decide (b < a)
theorem sortI_ok : ∀ (ns : List Int) (kk : List EV → R), sortI (ns.map EV.i) kk = kk ((srt ns).map EV.i)
  | [], kk => rfl
  | a :: ns, kk => by
    show sortI (ns.map EV.i) (fun r => gI .no (.i a) fun a' => insI (.i a) a' r kk) = _
    rw [sortI_ok ns]
    show insI (.i a) a ((srt ns).map EV.i) kk = _
    rw [insI_ok]
    rfl
theorem srt_perm : ∀ ns : List Int, (srt ns).Perm ns
  | [] => .nil
  | a :: ns => by
    unfold srt
    refine List.perm_middle.trans (.cons a ?_)
    rw [List.takeWhile_append_dropWhile]
    exact srt_perm ns
theorem tw_mem {α : Type} {p : α → Bool} {b : α} : ∀ {l : List α}, b ∈ l.takeWhile p → p b = true
  | [], h => absurd h (by simp)
  | x :: l, h => by
    rw [List.takeWhile_cons] at h
    split at h
    · rcases List.mem_cons.mp h with e | h
      · rw [e]; assumption
      · exact tw_mem h
    · exact absurd h (by simp)
theorem dw_head {α : Type} {p : α → Bool} {y : α} {ys : List α} : ∀ {l : List α}, l.dropWhile p = y :: ys → p y = false
  | [], h => by simp at h
  | x :: l, h => by
    rw [List.dropWhile_cons] at h
    split at h
    · exact dw_head h
    · cases h
      simp_all
theorem srt_sorted : ∀ ns : List Int, (srt ns).Pairwise (· ≤ ·)
  | [] => .nil
  | a :: ns => by
    have ih := srt_sorted ns
    unfold srt
    have e := List.takeWhile_append_dropWhile (p := fun b => decide (b < a)) (l := srt ns)
    rw [List.pairwise_append, List.pairwise_cons]
    have ih2 := ih
    rw [← e, List.pairwise_append] at ih2
    obtain ⟨i1, i2, i3⟩ := ih2
    have tw : ∀ b ∈ (srt ns).takeWhile (fun b => decide (b < a)), b < a := fun b hb => by
      have := tw_mem hb
      simpa using this
    have dw : ∀ b ∈ (srt ns).dropWhile (fun b => decide (b < a)), a ≤ b := by
      generalize hd : (srt ns).dropWhile (fun b => decide (b < a)) = d at i2
      cases d with
      | nil => exact fun b hb => absurd hb (by simp)
      | cons y ys =>
        have hy : ¬ y < a := by
          have := dw_head hd
          simpa using this
        intro b hb
        rcases List.mem_cons.mp hb with e | hb
        · rw [e]; omega
        · have := (List.pairwise_cons.mp i2).1 b hb
          omega
    refine ⟨i1, ⟨dw, i2⟩, fun x hx y hy => ?_⟩
    rcases List.mem_cons.mp hy with e2 | hy
    · rw [e2]; exact Int.le_of_lt (tw x hx)
    · exact i3 x hx y hy
theorem sorted_uniq : ∀ {xs ys : List Int}, xs.Perm ys → xs.Pairwise (· ≤ ·) → ys.Pairwise (· ≤ ·) → xs = ys := fun p h1 h2 => p.eq_of_pairwise (fun a b _ _ => Int.le_antisymm) h1 h2
theorem intsK_ok : ∀ {xs : List EV} {ws : List V} {kk : R}, RVs G μ H xs ws → PostE G μ H (intsK xs kk) Q E → ∃ ns : List Int, xs = ns.map EV.i ∧ ws = ns.map V.int ∧ PostE G μ H kk Q E
  | [], _, kk, .nil, h => ⟨[], rfl, rfl, h⟩
  | x :: xs, _, kk, .cons rx r, h => by
    cases rx with
    | i y =>
      obtain ⟨ns, e1, e2, h⟩ := intsK_ok r h
      exact ⟨y :: ns, by rw [e1]; rfl, by rw [e2]; rfl, h⟩
    | _ => exact h.elim
theorem RVs.ints : ∀ ns : List Int, RVs G μ H (ns.map EV.i) (ns.map V.int)
  | [] => .nil
  | n :: ns => .cons (.i n) (RVs.ints ns)
theorem cl_sorted (g : Good G P w mg base k c E X) : Cl1 G E X (.builtin "sorted") pSorted := CallR.of fun xs H Q ⟨x, e, μ, st, a, s, ra, h⟩ => by
  subst e
  obtain ⟨l, p, xs, vs, rfl, rfl, hl, _, e1, r, h⟩ := lsD (no := .no) s ra h
  obtain ⟨ns, e2, e3, h⟩ := intsK_ok r h
  subst e2 e3
  rw [sortI_ok] at h
  obtain ⟨_, q⟩ := PostE.sLn h s (RVs.ints (srt ns))
  refine ⟨_, cr_sortedI, p, ns, rfl, SqL.of e1, fun ns' p' hp hs hn => ?_⟩
  rw [sorted_uniq (hp.trans (srt_perm ns).symm) hs (srt_sorted ns)]
  exact q p' hn
/-! ### max(xs), min(xs), xs a list of ints -/
theorem maxI_ok : ∀ {xs : List EV} {ws : List V} {m : Int} {kk : Int → R}, RVs G μ H xs ws → PostE G μ H (maxI xs m kk) Q E → ∃ (ns : List Int) (M : Int), ws = ns.map V.int ∧ M ∈ m :: ns ∧ (∀ y ∈ m :: ns, y ≤ M) ∧ PostE G μ H (kk M) Q E
  | [], _, m, kk, .nil, h => ⟨[], m, rfl, List.mem_cons_self, fun y hy => by rw [List.mem_singleton.mp hy]; exact Int.le_refl _, h⟩
  | x :: xs, _, m, kk, .cons rx r, h => by
    cases rx with
    | i y =>
      rcases ift_post h with ⟨e, h⟩ | ⟨e, h⟩
      · rw [iLt_ok, decide_eq_true_iff] at e
        obtain ⟨ns, M, e1, e2, e3, h⟩ := maxI_ok r h
        refine ⟨y :: ns, M, by rw [e1]; rfl, List.mem_cons_of_mem _ e2, fun z hz => ?_, h⟩
        rcases List.mem_cons.mp hz with e4 | hz
        · have := e3 y List.mem_cons_self; omega
        · exact e3 z hz
      · rw [iLt_ok, decide_eq_false_iff_not] at e
        obtain ⟨ns, M, e1, e2, e3, h⟩ := maxI_ok r h
        refine ⟨y :: ns, M, by rw [e1]; rfl, ?_, fun z hz => ?_, h⟩
        · rcases List.mem_cons.mp e2 with e4 | e4
          · rw [e4]; exact List.mem_cons_self
          · exact List.mem_cons_of_mem _ (List.mem_cons_of_mem _ e4)
        · rcases List.mem_cons.mp hz with e4 | hz
          · rw [e4]; exact e3 m List.mem_cons_self
          · rcases List.mem_cons.mp hz with e4 | hz
            · have := e3 m List.mem_cons_self; omega
            · exact e3 z (List.mem_cons_of_mem _ hz)
    | _ => exact h.elim
theorem minI_ok : ∀ {xs : List EV} {ws : List V} {m : Int} {kk : Int → R}, RVs G μ H xs ws → PostE G μ H (minI xs m kk) Q E → ∃ (ns : List Int) (M : Int), ws = ns.map V.int ∧ M ∈ m :: ns ∧ (∀ y ∈ m :: ns, M ≤ y) ∧ PostE G μ H (kk M) Q E
  | [], _, m, kk, .nil, h => ⟨[], m, rfl, List.mem_cons_self, fun y hy => by rw [List.mem_singleton.mp hy]; exact Int.le_refl _, h⟩
  | x :: xs, _, m, kk, .cons rx r, h => by
    cases rx with
    | i y =>
      rcases ift_post h with ⟨e, h⟩ | ⟨e, h⟩
      · rw [iLt_ok, decide_eq_true_iff] at e
        obtain ⟨ns, M, e1, e2, e3, h⟩ := minI_ok r h
        refine ⟨y :: ns, M, by rw [e1]; rfl, List.mem_cons_of_mem _ e2, fun z hz => ?_, h⟩
        rcases List.mem_cons.mp hz with e4 | hz
        · have := e3 y List.mem_cons_self; omega
        · exact e3 z hz
      · rw [iLt_ok, decide_eq_false_iff_not] at e
        obtain ⟨ns, M, e1, e2, e3, h⟩ := minI_ok r h
        refine ⟨y :: ns, M, by rw [e1]; rfl, ?_, fun z hz => ?_, h⟩
        · rcases List.mem_cons.mp e2 with e4 | e4
          · rw [e4]; exact List.mem_cons_self
          · exact List.mem_cons_of_mem _ (List.mem_cons_of_mem _ e4)
        · rcases List.mem_cons.mp hz with e4 | hz
          · rw [e4]; exact e3 m List.mem_cons_self
          · rcases List.mem_cons.mp hz with e4 | hz
            · have := e3 m List.mem_cons_self; omega
            · exact e3 z (List.mem_cons_of_mem _ hz)
    | _ => exact h.elim
theorem cl_max1 (g : Good G P w mg base k c E X) : Cl1 G E X (.builtin "max") pMax1 := CallR.of fun xs H Q ⟨x, e, μ, st, a, s, ra, h⟩ => by
  subst e
  obtain ⟨l, p, xs, vs, rfl, rfl, hl, _, e1, r, h⟩ := lsD (no := .no) s ra h
  cases r with
  | nil => exact h.elim
  | cons rx r =>
    cases rx with
    | i m =>
      obtain ⟨ns, M, e2, e3, e4, h⟩ := maxI_ok (kk := fun m => .ok (.i m) st) r h
      subst e2
      refine ⟨_, cr_max g.calm, p, m :: ns, rfl, SqL.of e1, by simp, fun z hz h4 => ?_⟩
      rw [show z = M from Int.le_antisymm (e4 z hz) (h4 M e3)]
      exact PostE.ok h s (.i M)
    | _ => exact h.elim
theorem cl_min1 (g : Good G P w mg base k c E X) : Cl1 G E X (.builtin "min") pMin1 := CallR.of fun xs H Q ⟨x, e, μ, st, a, s, ra, h⟩ => by
  subst e
  obtain ⟨l, p, xs, vs, rfl, rfl, hl, _, e1, r, h⟩ := lsD (no := .no) s ra h
  cases r with
  | nil => exact h.elim
  | cons rx r =>
    cases rx with
    | i m =>
      obtain ⟨ns, M, e2, e3, e4, h⟩ := minI_ok (kk := fun m => .ok (.i m) st) r h
      subst e2
      refine ⟨_, cr_min g.calm, p, m :: ns, rfl, SqL.of e1, by simp, fun z hz h4 => ?_⟩
      rw [show z = M from Int.le_antisymm (h4 M e3) (e4 z hz)]
      exact PostE.ok h s (.i M)
    | _ => exact h.elim
/-! ### list(range(..)), tuple(range(..)) -/
theorem rangeK_eq {α : Type} : ∀ (n : Nat) (i : Int) (kk : List EV → α), rangeK n i kk = kk ((List.range n).map fun j => .i (i + (j : Nat)))
  | 0, i, kk => rfl
  | n + 1, i, kk => by
    show L3.sI (i + 1) (fun j => rangeK n j fun r => kk (.i i :: r)) = _
    rw [sI_eq, rangeK_eq n, List.range_succ_eq_map, List.map_cons, List.map_map]
    congr 2
    · simp
    · apply List.map_congr_left
      intro j _
      show EV.i (i + 1 + (j : Nat)) = EV.i (i + ((j + 1 : Nat) : Int))
      congr 1
      push_cast
      omega
theorem RVs.range (i : Int) : ∀ (l : List Nat), RVs G μ H (l.map fun j => .i (i + (j : Nat))) (l.map fun j => V.int (i + (j : Nat)))
  | [] => .nil
  | j :: l => .cons (.i _) (RVs.range i l)
theorem rgD (s : RS' G μ H st) {a b : EV} {x y : V} (ra : RV G μ H a x) (rb : RV G μ H b y) {fin : List EV → R} (h : PostE G μ H (gI .no a fun x => gI .no b fun y => ift (small x) (ift (small y) (fits (y - x).toNat .no (rangeK (y - x).toNat x fin)) .no) .no) Q E) :
    ∃ i j, x = .int i ∧ y = .int j ∧ RgOk i j ∧ ∃ es, RVs G μ H es (rgV i j) ∧ PostE G μ H (fin es) Q E := by
  cases ra with
  | i i =>
    cases rb with
    | i j =>
      obtain ⟨e1, h⟩ := PostE.ift h
      obtain ⟨e2, h⟩ := PostE.ift h
      obtain ⟨e3, h⟩ := PostE.fits h
      rw [rangeK_eq] at h
      obtain ⟨a1, a2⟩ := small_ok e1
      obtain ⟨b1, b2⟩ := small_ok e2
      exact ⟨i, j, rfl, rfl, ⟨a1, a2, b1, b2, by omega⟩, _, RVs.range i _, h⟩
    | _ => exact h.elim
  | _ => exact h.elim
theorem t_listR (g : Good G P w mg base k c E X) {a b : Expr} {ma mb : ES} {p p2 q pos : Pos} (hx : c.sc.names.lookup ("list" : Str) = some .globalImplicit) (hm : mg ("list" : Str) = none) (hx2 : c.sc.names.lookup ("range" : Str) = some .globalImplicit) (hm2 : mg ("range" : Str) = none) (hn : noStar a = true) (hn2 : noStar b = true)
    (ha : PE X a (T G E cal ma)) (hb : PE X b (T G E cal mb)) : PE X (.Call (.Name "list" p) [.Call (.Name "range" p2) [a, b] [] q] [] pos) (T G E cal (c2 pListR ma mb)) :=
  (pe_listRg g.calm (gl_of g hx) (by rw [g.mm]; exact hm) (prg_2 (p := p2) (pos := q) (gl_of g hx2) (by rw [g.mm]; exact hm2) ha hb (starEach_cons hn [b] X.env) (starEach_cons hn2 [] X.env) (by rw [starEach_cons hn2]; rfl))).impL fun σ H Q h => h.two.imp fun x H1 h => h.imp fun y H2 ⟨μ, st, u, v, s, ra, rb, h⟩ => by
    obtain ⟨i, j, e1, e2, e3, es, r, h⟩ := rgD s ra rb h
    exact ⟨i, j, e1, e2, e3, (PostE.sLn h s r).2⟩
theorem t_listR1 (g : Good G P w mg base k c E X) {b : Expr} {mb : ES} {p p2 q pos : Pos} (hx : c.sc.names.lookup ("list" : Str) = some .globalImplicit) (hm : mg ("list" : Str) = none) (hx2 : c.sc.names.lookup ("range" : Str) = some .globalImplicit) (hm2 : mg ("range" : Str) = none) (hn2 : noStar b = true)
    (hb : PE X b (T G E cal mb)) : PE X (.Call (.Name "list" p) [.Call (.Name "range" p2) [b] [] q] [] pos) (T G E cal (c2 pListR (cK (.i 0)) mb)) :=
  (pe_listRg g.calm (gl_of g hx) (by rw [g.mm]; exact hm) (prg_1 (p := p2) (pos := q) (gl_of g hx2) (by rw [g.mm]; exact hm2) hb (starEach_cons hn2 [] X.env))).impL fun σ H Q h => (T.one (kk := fun y st => pListR (.i 0) y st) h).imp fun y H2 ⟨μ, st, v, s, rb, h⟩ => by
    obtain ⟨i, j, e1, e2, e3, es, r, h⟩ := rgD s (.i 0) rb h
    cases e1
    exact ⟨j, e2, e3, (PostE.sLn h s r).2⟩
theorem t_tupR (g : Good G P w mg base k c E X) {a b : Expr} {ma mb : ES} {p p2 q pos : Pos} (hx : c.sc.names.lookup ("tuple" : Str) = some .globalImplicit) (hm : mg ("tuple" : Str) = none) (hx2 : c.sc.names.lookup ("range" : Str) = some .globalImplicit) (hm2 : mg ("range" : Str) = none) (hn : noStar a = true) (hn2 : noStar b = true)
    (ha : PE X a (T G E cal ma)) (hb : PE X b (T G E cal mb)) : PE X (.Call (.Name "tuple" p) [.Call (.Name "range" p2) [a, b] [] q] [] pos) (T G E cal (c2 pTupR ma mb)) :=
  (pe_tupRg g.calm (gl_of g hx) (by rw [g.mm]; exact hm) (prg_2 (p := p2) (pos := q) (gl_of g hx2) (by rw [g.mm]; exact hm2) ha hb (starEach_cons hn [b] X.env) (starEach_cons hn2 [] X.env) (by rw [starEach_cons hn2]; rfl))).impL fun σ H Q h => h.two.imp fun x H1 h => h.imp fun y H2 ⟨μ, st, u, v, s, ra, rb, h⟩ => by
    obtain ⟨i, j, e1, e2, e3, es, r, h⟩ := rgD s ra rb h
    exact ⟨i, j, e1, e2, e3, (PostE.sT h s r).2.2⟩
theorem t_tupR1 (g : Good G P w mg base k c E X) {b : Expr} {mb : ES} {p p2 q pos : Pos} (hx : c.sc.names.lookup ("tuple" : Str) = some .globalImplicit) (hm : mg ("tuple" : Str) = none) (hx2 : c.sc.names.lookup ("range" : Str) = some .globalImplicit) (hm2 : mg ("range" : Str) = none) (hn2 : noStar b = true)
    (hb : PE X b (T G E cal mb)) : PE X (.Call (.Name "tuple" p) [.Call (.Name "range" p2) [b] [] q] [] pos) (T G E cal (c2 pTupR (cK (.i 0)) mb)) :=
  (pe_tupRg g.calm (gl_of g hx) (by rw [g.mm]; exact hm) (prg_1 (p := p2) (pos := q) (gl_of g hx2) (by rw [g.mm]; exact hm2) hb (starEach_cons hn2 [] X.env))).impL fun σ H Q h => (T.one (kk := fun y st => pTupR (.i 0) y st) h).imp fun y H2 ⟨μ, st, v, s, rb, h⟩ => by
    obtain ⟨i, j, e1, e2, e3, es, r, h⟩ := rgD s (.i 0) rb h
    cases e1
    exact ⟨j, e2, e3, (PostE.sT h s r).2.2⟩
end
end L3

set_option Elab.async false
set_option linter.all false
set_option maxRecDepth 100000
set_option maxHeartbeats 4000000
/-! L3: tuple * int, whatever the int is; t[::-1]. -/
noncomputable section
namespace L3
open PySem PySem.Spec PyProof.Rows L2

theorem tuple_mulSame (l : Addr) (items : Array Value) (n : Nat) (dd : Option Addr) (sl : Array (Option Value)) (x : Int) (u : Tok) (c0 : (decide (x < -(2 ^ 63)) || decide (x ≥ 2 ^ 63)) = false) (c1 : (items.isEmpty || x == 1) = true) :
    Meets (Builtin.«tuple.__mul__» ⟨[.ref l, .int x u], []⟩) (fun _ R s => s.heap.get? l = some { cls := .type "tuple", dict := dd, data := .seq items n, slots := sl } ∧ R (.ok (.ret (Value.ref l))) s) :=
  .of_wp fun prog w A R s h => by
    obtain ⟨hp, g, d, tk, os⟩ := s
    obtain ⟨hl, h⟩ := h
    have f1 := AutoSeq1.idx_int
    wp_walk using wpAny_loadPart' hl
    repeat (first
      | (refine wpAny_ite_false (decide_eq_false (by rw [c0]; exact Bool.false_ne_true)) ?_; wp_walk using wpAny_loadPart' hl)
      | (refine wpAny_ite_true (decide_eq_true c1) ?_; wp_walk using wpAny_loadPart' hl))
    exact ⟨_, rfl, h⟩
theorem tuple_mulNone (l : Addr) (items : Array Value) (n : Nat) (dd : Option Addr) (sl : Array (Option Value)) (x : Int) (u : Tok) (c0 : (decide (x < -(2 ^ 63)) || decide (x ≥ 2 ^ 63)) = false) (c1 : (items.isEmpty || x == 1) = false) (c2 : (decide (x ≤ 0) || items.isEmpty) = true) :
    Meets (Builtin.«tuple.__mul__» ⟨[.ref l, .int x u], []⟩) (fun _ R s => s.heap.get? l = some { cls := .type "tuple", dict := dd, data := .seq items n, slots := sl } ∧
      R (.ok (.ret (Value.ref s.heap.objs.size))) { s with heap := s.heap.push { cls := Value.type "tuple", data := Data.seq #[] }, toks := s.toks }) :=
  .of_wp fun prog w A R s h => by
    obtain ⟨hp, g, d, tk, os⟩ := s
    obtain ⟨hl, h⟩ := h
    have f1 := AutoSeq1.idx_int
    wp_walk using wpAny_loadPart' hl
    repeat (first
      | (refine wpAny_ite_false (decide_eq_false (by rw [c0]; exact Bool.false_ne_true)) ?_; wp_walk using wpAny_loadPart' hl)
      | (refine wpAny_ite_false (decide_eq_false (by rw [c1]; exact Bool.false_ne_true)) ?_; wp_walk using wpAny_loadPart' hl)
      | (refine wpAny_ite_true (decide_eq_true c2) ?_; wp_walk using wpAny_loadPart' hl))
    exact ⟨_, rfl, h⟩
section
variable {prog : Program} {w : World} {A : Around} {E : Value → Shared → Prop} {s : Shared}
theorem sliceApplied_rev {sl : Addr} {vl vu vs : Value} {n : Nat} {Q : Int × Int × Nat → Shared → Prop} (hs : s.heap.IsSliceOf sl vl vu vs) (pl : IsPart vl none) (pu : IsPart vu none) (ps : IsPart vs (some (-1)))
    (h : Q ((n : Int) - 1, -1, n) s) : wpAny (model prog w) A (Builtin.Slice.sliceApplied (.ref sl) (pure (n : Int))) Q E s := by
  obtain ⟨os, hos, hcs, hds⟩ := id hs
  unfold Builtin.Slice.sliceApplied Builtin.Slice.sliceFields
  refine wpAny_bind (wpAny_bind (wpAny_field hos hds (x := vl) rfl (wpAny_bind (wpAny_field hos hds (x := vu) rfl (wpAny_bind (wpAny_field hos hds (x := vs) rfl (wpAny_pure ?_)))))))
  refine wpAny_bind (HT.slicePart_ ps ?_)
  show wpAny _ _ (if ((-1 : Int) == 0) = true then _ else _) _ _ s
  rw [if_neg (by decide)]
  refine wpAny_bind (HT.slicePart_ pl (wpAny_bind (HT.slicePart_ pu (wpAny_bind (wpAny_pure ?_)))))
  show wpAny _ _ (match Builtin.Slice.sliceAdjust none none (-1) (n : Int) with | (lo, hi) => pure (lo, (-1 : Int), Builtin.Slice.slicePlaces lo hi (-1))) _ _ s
  have e1 : Builtin.Slice.sliceAdjust none none (-1) (n : Int) = ((n : Int) - 1, -1) := rfl
  have e2 : Builtin.Slice.slicePlaces ((n : Int) - 1) (-1) (-1) = n := by
    show ((if (n : Int) - 1 > -1 then ((n : Int) - 1 - -1 - 1) / 1 + 1 else 0) : Int).toNat = n
    split <;> omega
  rw [e1]
  show wpAny _ _ (pure ((n : Int) - 1, (-1 : Int), Builtin.Slice.slicePlaces ((n : Int) - 1) (-1) (-1))) _ _ s
  rw [e2]
  exact wpAny_pure h
theorem pick_at (xs : List Value) : ∀ k : Nat, k ≤ xs.length → (List.range k).filterMap (fun (m : Nat) => xs.toArray[((xs.length : Int) - 1 + (m : Int) * -1).toNat]?) = xs.reverse.take k
  | 0, _ => rfl
  | k + 1, hk => by
    rw [List.range_succ, List.filterMap_append, pick_at xs k (by omega)]
    have e : ((xs.length : Int) - 1 + (k : Int) * -1).toNat = xs.length - 1 - k := by omega
    have hlt : xs.length - 1 - k < xs.length := by omega
    have e2 : xs.toArray[((xs.length : Int) - 1 + (k : Int) * -1).toNat]? = some xs[xs.length - 1 - k] := by
      rw [e]
      simp [hlt]
    rw [List.filterMap_cons, e2, List.filterMap_nil, List.take_add_one]
    congr 1
    have : xs.reverse[k]? = some xs[xs.length - 1 - k] := by
      rw [List.getElem?_reverse (by omega)]
      simp [hlt]
    rw [this]
    rfl
theorem pick_rev (xs : List Value) : ((List.range xs.length).filterMap fun (m : Nat) => xs.toArray[((xs.length : Int) - 1 + (m : Int) * -1).toNat]?).toArray = xs.reverse.toArray := by
  rw [pick_at xs xs.length (Nat.le_refl _), List.take_of_length_le (by simp)]
theorem getItem_tuple_rev {t sl : Addr} {xs : List Value} {vl vu vs : Value} {Q : Value → Shared → Prop} (ht : IsTup s.heap t xs.toArray) (hs : s.heap.IsSliceOf sl vl vu vs) (pl : IsPart vl none) (pu : IsPart vu none) (ps : IsPart vs (some (-1)))
    (h : Q (.ref s.heap.objs.size) { s with heap := s.heap.push { cls := .type "tuple", data := .seq xs.reverse.toArray } })
    (hsz : xs.length ≤ sizeLine) : wpAny (model prog w) A (getItem (.ref t) (.ref sl)) Q E s := by
  have htake : sizeOk (.seq xs.reverse.toArray) := by
    show xs.reverse.toArray.size ≤ sizeLine
    simpa using hsz
  obtain ⟨os, hos, hcs, hds⟩ := id hs
  have hTs : s.TypeIs (.ref sl) "slice" := ⟨os, hos, hcs⟩
  unfold getItem
  try with_reducible refine wpAny_holding ?_
  first | refine wpAny_bind (wpAny_pure ?_) | skip
  refine wpAny_bind (wpAny_sequenceKey ht.typeIs (by decide) ?_)
  refine wpAny_bind (wpAny_callSpecial?_slot (name := Str.ofString "__getitem__") ht.typeIs PyProof.Rows.slot_tuple_getitem
    (wpAny_call_entry PyProof.Rows.slot_tuple_getitem ht.typeIs entry_tuple_getitem ?_ (args_tuple_getitem _ _)))
  show wpAny _ _ (Builtin.Tuple.tupleItemsOf (.ref t) >>= _) _ _ s
  refine wpAny_bind (tupleItemsOf_ ht ?_)
  refine wpAny_bind (wpAny_typeOf hTs ?_)
  rw [if_pos (by decide)]
  refine wpAny_bind (sliceApplied_rev (n := xs.toArray.size) hs pl pu ps ?_)
  have hno : ¬ (((xs.toArray.size : Int) - 1 == 0 && (-1 : Int) == 1 && xs.toArray.size == xs.toArray.size) = true) := by
    rw [show ((-1 : Int) == 1) = false from rfl, Bool.and_false, Bool.false_and]
    exact Bool.false_ne_true
  show wpAny _ _ (if ((xs.toArray.size : Int) - 1 == 0 && (-1 : Int) == 1 && xs.toArray.size == xs.toArray.size) = true then _ else _) _ _ s
  rw [if_neg hno]
  have e3 : ((List.range xs.toArray.size).filterMap fun (k : Nat) => xs.toArray[((xs.toArray.size : Int) - 1 + (k : Int) * -1).toNat]?).toArray = xs.reverse.toArray := by
    rw [List.size_toArray]
    exact pick_rev xs
  rw [e3]
  first
    | exact wpAny_bind (m := Builtin.Tuple.tupleExact _) (wpAny_newObj_type (wpAny_pure ⟨_, rfl, wpAny_pure h⟩) htake)
    | exact wpAny_bind (m := Builtin.Tuple.tupleExact _) (wpAny_newObj_type (wpAny_bind (wpAny_pure (wpAny_pure ⟨_, rfl, wpAny_pure h⟩))) htake)
    | exact wpAny_bind (wpAny_bind (m := Builtin.Tuple.tupleExact _) (wpAny_newObj_type (wpAny_pure (wpAny_pure ⟨_, rfl, wpAny_pure h⟩)) htake))
    | exact wpAny_bind (wpAny_bind (m := Builtin.Tuple.tupleExact _) (wpAny_newObj_type (wpAny_pure ⟨_, rfl, wpAny_pure h⟩) htake))
end
section
variable {X : Cx}
/-- xs[::-1], a list or a tuple -/
def tRevA (K : PySem.W.Frag) (te : TE) : TE := fun σ H Q => te σ H fun x H1 => (∃ a xs, x = .ref a ∧ SqL K H1 a xs ∧ ∀ p, H1 p = none → Q (.ref p) (upd H1 p (.lst xs.reverse))) ∨ ∃ a xs, x = .ref a ∧ SqT K H1 a xs ∧ ∀ p, H1 p = none → Q (.ref p) (upd H1 p (.tup xs.reverse))
theorem pe_revA {e : Expr} {te : TE} {k : Nat} {p1 p2 p3 pos : Pos} (he : PE X e te) : PE X (.Subscript e (.Slice none none (some (.UnaryOp .USub (.Constant (.int 1) k p1) p2)) p3) pos) (tRevA X.K te) := by
  refine ⟨fun pins s σ H Q I h => ?_⟩
  refine Subscript_ (thn (he.run pins s σ H _ I h) fun v s1 ⟨x, H1, I1, r1, q1⟩ => ?_)
  have hst : PO X (some (.UnaryOp .USub (.Constant (.int 1) k p1) p2)) (tPart (tUn (rU fun i => .int (-i)) (tC (.int 1)))) := po_some (pe_un un_neg pe_int)
  refine wpAny_Slice (thn (po_none.run pins s1 σ H1 (fun o H2 => o = none ∧ H2 = H1) I1 ⟨rfl, rfl⟩) fun vl s2 ⟨l, H2, I2, pl, el, e2⟩ => ?_)
  subst el e2
  refine thn (po_none.run pins s2 σ H2 (fun o H3 => o = none ∧ H3 = H2) I2 ⟨rfl, rfl⟩) fun vu s3 ⟨u, H3, I3, pu, eu, e3⟩ => ?_
  subst eu e3
  refine thn (hst.run pins s3 σ H3 (fun o H4 => o = some (-1) ∧ H4 = H3) I3 ⟨1, rfl, -1, rfl, rfl, rfl⟩) fun vs s4 ⟨o, H4, I4, ps, eo, e4⟩ => ?_
  subst eo e4
  have I5 : Inv X pins σ H4 { s4 with heap := s4.heap.push { cls := .type "slice", data := .fields #[vl, vu, vs] } } := I4.kept (t' := s4.toks) fun b ob q => Heap.get?_push_of_some _ q
  rcases q1 with ⟨a, xs, rfl, hx, q⟩ | ⟨a, xs, rfl, hx, q⟩
  · cases r1
    obtain ⟨its, r, ht, hz⟩ := I5.list hx
    have hlen := r.length
    show wpAny (model X.prog X.w) X.A (subscriptTail e (.Slice none none (some (.UnaryOp .USub (.Constant (.int 1) k p1) p2)) p3) (.ref a) (.ref s4.heap.objs.size)) (EP X pins σ Q) X.xe { s4 with heap := s4.heap.push { cls := .type "slice", data := .fields #[vl, vu, vs] } }
    refine tail_any (ops := [.ref a, .ref s4.heap.objs.size]) ht.isList.typeIs (PySem.slot_list_getitem.lookup) ?_ (by with_unfolding_all rfl)
    refine wpAny_getItem_list_slice ht.isList (Heap.IsSliceOf.new _ vl vu vs) pl pu ps (by decide) ?_ (by rw [List.size_toArray]; omega)
    rw [PySem.W.krv_pick]
    refine ⟨.ref _, _, I5.laid (t' := s4.toks) (o := .lst xs.reverse) (fun b ob q => Heap.get?_push_of_some _ q) (Nat.le_refl _) ?_, rfl, q _ (I5.hok.fresh (Nat.le_refl _))⟩
    exact ⟨by rw [List.length_reverse]; exact hz, _, 0, r.reverse, Heap.get?_push_size _ rfl⟩
  · cases r1
    obtain ⟨its, r, ht, hz⟩ := I5.tuple hx
    have hlen := r.length
    show wpAny (model X.prog X.w) X.A (subscriptTail e (.Slice none none (some (.UnaryOp .USub (.Constant (.int 1) k p1) p2)) p3) (.ref a) (.ref s4.heap.objs.size)) (EP X pins σ Q) X.xe { s4 with heap := s4.heap.push { cls := .type "slice", data := .fields #[vl, vu, vs] } }
    refine tail_any (ops := [.ref a, .ref s4.heap.objs.size]) ht.typeIs PyProof.Rows.slot_tuple_getitem.lookup ?_ (by with_unfolding_all rfl)
    refine getItem_tuple_rev ht (Heap.IsSliceOf.new _ vl vu vs) pl pu ps ?_ (by rw [← hlen]; exact hz)
    refine ⟨.ref _, _, I5.laid (t' := s4.toks) (o := .tup xs.reverse) (fun b ob q => Heap.get?_push_of_some _ q) (Nat.le_refl _) ?_, rfl, q _ (I5.hok.fresh (Nat.le_refl _))⟩
    exact ⟨by rw [List.length_reverse]; exact hz, _, r.reverse, IsTup.new _ _⟩
/-- t * n -/
def rRepA (K : PySem.W.Frag) : R2 := fun x y H Q => ∃ l k xs, x = .ref l ∧ y = .int k ∧ SqT K H l xs ∧ -(2 ^ 63) ≤ k ∧ k ≤ 1000 ∧ xs.length ≤ 1000 ∧ (xs = [] ∨ k = 1 → Q (.ref l) H) ∧ (xs ≠ [] → k ≠ 1 → ∀ p, H p = none → Q (.ref p) (upd H p (.tup (List.replicate k.toNat xs).flatten)))
theorem op_repA : OpR X (binaryOp .Mult) (rRepA X.K) := by
  intro pins s σ H x y v u Q I rx ry h
  obtain ⟨l, k, xs, rfl, rfl, hT, h0, h1, hz, q1, q2⟩ := h
  by_cases hs : xs = [] ∨ k = 1
  · cases rx
    obtain ⟨t, rfl⟩ := ry
    obtain ⟨its, r, ⟨⟨cls, dd, data, sl⟩, ho, hc, n, hd⟩, hs2⟩ := I.tuple hT
    simp only at hc hd
    subst hc hd
    have c0 : (decide (k < -(2 ^ 63)) || decide (k ≥ 2 ^ 63)) = false := by
      rw [decide_eq_false (by omega), decide_eq_false (by omega)] <;> rfl
    have c1 : (its.toArray.isEmpty || k == 1) = true := by
      rcases hs with e | e
      · subst e
        cases r
        rfl
      · subst e
        rw [Bool.or_eq_true]
        exact .inr rfl
    exact wpAny_binaryOp_repeat_ref (T := "tuple") (U := "int") (by decide) ⟨_, ho, rfl⟩ (fun s' => typeIs_int s' k t) noFill_tuple_mul F.fills_int_mul F.slot_int_rmul repeat_tuple F.slot_int_index.lookup
      (call_meets F.slot_int_rmul (typeIs_int s k t) F.entry_int_rmul (F.args_int_rmul_2 _ _) (int_rmul_tuple k t l its.toArray n dd sl)
        ⟨ho, rfl, ⟨_, ho, rfl⟩, call_meets F.slot_tuple_mul ⟨_, ho, rfl⟩ F.entry_tuple_mul (F.args_tuple_mul_2 _ _) (tuple_mulSame l its.toArray n dd sl k t c0 c1) ⟨ho, ⟨.ref l, H, I, rfl, q1 hs⟩⟩⟩)
  · have hne : xs ≠ [] := fun e => hs (.inl e)
    have hk : k ≠ 1 := fun e => hs (.inr e)
    by_cases h2 : 2 ≤ k
    · exact op_repT pins s σ H _ _ v u Q I rx ry ⟨l, k, xs, rfl, rfl, hT, hne, h2, h1, hz, q2 hne hk⟩
    · cases rx
      obtain ⟨t, rfl⟩ := ry
      obtain ⟨its, r, ⟨⟨cls, dd, data, sl⟩, ho, hc, n, hd⟩, hs2⟩ := I.tuple hT
      simp only at hc hd
      subst hc hd
      have c0 : (decide (k < -(2 ^ 63)) || decide (k ≥ 2 ^ 63)) = false := by
        rw [decide_eq_false (by omega), decide_eq_false (by omega)] <;> rfl
      have hi : its.toArray.isEmpty = false := by
        cases r with
        | nil => exact absurd rfl hne
        | cons _ _ => rfl
      have c1 : (its.toArray.isEmpty || k == 1) = false := by
        rw [hi, Bool.false_or]
        exact beq_eq_false_iff_ne.mpr hk
      have c2 : (decide (k ≤ 0) || its.toArray.isEmpty) = true := by
        rw [decide_eq_true (by omega)]
        rfl
      have q := q2 hne hk
      rw [show k.toNat = 0 by omega] at q
      refine wpAny_binaryOp_repeat_ref (T := "tuple") (U := "int") (by decide) ⟨_, ho, rfl⟩ (fun s' => typeIs_int s' k t) noFill_tuple_mul F.fills_int_mul F.slot_int_rmul repeat_tuple F.slot_int_index.lookup
        (call_meets F.slot_int_rmul (typeIs_int s k t) F.entry_int_rmul (F.args_int_rmul_2 _ _) (int_rmul_tuple k t l its.toArray n dd sl)
          ⟨ho, rfl, ⟨_, ho, rfl⟩, call_meets F.slot_tuple_mul ⟨_, ho, rfl⟩ F.entry_tuple_mul (F.args_tuple_mul_2 _ _) (tuple_mulNone l its.toArray n dd sl k t c0 c1 c2) ⟨ho, ?_⟩⟩)
      refine ⟨.ref s.heap.objs.size, _, I.laid (t' := s.toks) (o := .tup []) (fun b ob q => Heap.get?_push_of_some _ q) (Nat.le_refl _) ?_, rfl, q _ (I.hok.fresh (Nat.le_refl _))⟩
      exact ⟨Nat.zero_le _, [], .nil, IsTup.new _ _⟩
end
section
variable {G : Fix} {P : Program} {w : World} {mg : Str → Option Value} {base : Heap} {k : Nat} {c : SC} {E : EXK} {cal : Cal} {X : Cx}
variable {μ μ1 μ' : List Addr} {H H1 H' : Hp} {st : Sto} {ρ : List EV} {σ : L2.St} {Q : VK}
theorem t_rev (g : Good G P w mg base k c E X) {e : Expr} {m : ES} {j : Nat} {p1 p2 p3 pos : Pos} (he : PE X e (T G E cal m)) : PE X (.Subscript e (.Slice none none (some (.UnaryOp .USub (.Constant (.int 1) j p1) p2)) p3) pos) (T G E cal (c1 pRev m)) :=
  (pe_revA he).impL fun σ H Q h => (T.one h).imp fun x H1 ⟨μ, st, v, s, ra, h⟩ => by
    rw [g.kk]
    cases ra with
    | @t xs p vs hp r =>
      have h : PostE G μ H1 (revK xs (okT st)) Q E := h
      rw [revK_eq] at h
      exact .inr ⟨p, vs, rfl, hp.sq, (PostE.sT h s r.reverse).2.2⟩
    | @l l p hl =>
      have h : PostE G μ H1 (gOL R.no (st.get l) fun xs => revK xs (newL st)) Q E := h
      cases e0 : st.get l with
      | l xs =>
        rw [e0] at h
        obtain ⟨vs, e1, r⟩ := s.lst hl e0
        have h : PostE G μ H1 (revK xs (newL st)) Q E := h
        rw [revK_eq] at h
        exact .inl ⟨p, vs, rfl, SqL.of e1, (PostE.sLn h s r.reverse).2⟩
      | _ => rw [e0] at h; exact h.elim
    | _ => exact h.elim
theorem timesT_ok {n : Int} {l : Nat} (h : timesT n l = true) : -(2 ^ 63) ≤ n ∧ n ≤ 1000 ∧ l ≤ 1000 := by
  have h : ift (small n) (@Int.rec (fun _ => Bool) (fun m => ift (Nat.ble m 1000) (Nat.ble l 1000) false) (fun _ => Nat.ble l 1000) n) false = true := h
  rw [ift_eq] at h
  split at h
  · rename_i sm
    have sm := small_lt sm
    cases n with
    | ofNat m =>
      have h : ift (Nat.ble m 1000) (Nat.ble l 1000) false = true := h
      rw [ift_eq] at h
      split at h
      · rename_i a
        have a := Nat.le_of_ble_eq_true a
        have b := Nat.le_of_ble_eq_true h
        refine ⟨?_, ?_, b⟩
        · show -(2 ^ 63) ≤ (m : Int); omega
        · show (m : Int) ≤ 1000; omega
      · cases h
    | negSucc m => exact ⟨by omega, by omega, Nat.le_of_ble_eq_true h⟩
  · cases h
theorem op2_mul (g : Good G P w mg base k c E X) : Op2 G E X (binaryOp .Mult) pMul := OpR.of fun x y H Q ⟨μ, st, a, b, s, ra, rb, h⟩ => by
  cases ra with
  | i x =>
    cases rb with
    | i y =>
      obtain ⟨e, h⟩ := PostE.ift h
      exact ⟨_, op_mulO, x, y, rfl, rfl, mulOk_ok e, PostE.sI h s⟩
    | _ => exact h.elim
  | @t xs p vs hp r =>
    cases rb with
    | i n =>
      obtain ⟨e, h⟩ := PostE.ift h
      rw [repK_eq] at h
      obtain ⟨h1, h2, h3⟩ := PostE.sT h s (r.rep n.toNat)
      obtain ⟨e1, e2, e3⟩ := timesT_ok e
      rw [lenN_eq] at e3
      have hl := r.length
      refine ⟨_, op_repA, p, n, vs, rfl, rfl, by rw [g.kk]; exact hp.sq, e1, e2, by omega, fun z => h2 p ?_, fun _ _ => h3⟩
      rcases z with z | z
      · subst z
        have e4 : (List.replicate n.toNat ([] : List V)).flatten = [] := by simp
        rw [e4]; exact hp
      · subst z
        simpa using hp
    | _ => exact h.elim
  | @l l p hl =>
    have h : PostE G μ H (gOL R.no (st.get l) fun xs => gI .no b fun n => ift (times n (lenN xs)) (repK xs n.toNat (newL st)) .no) Q E := h
    cases e : st.get l with
    | l xs =>
      rw [e] at h
      obtain ⟨vs, e1, r⟩ := s.lst hl e
      cases rb with
      | i n =>
        obtain ⟨e2, h⟩ := PostE.ift h
        rw [repK_eq] at h
        obtain ⟨h1, h2⟩ := PostE.sLn h s (r.rep n.toNat)
        have e2 := times_ok e2
        rw [lenN_eq] at e2
        refine ⟨_, op_rep, p, n, vs, rfl, rfl, e1, by omega, by omega, ?_, h2⟩
        rw [sizeLine_eq, ← r.length, Nat.mul_comm]
        omega
      | _ => exact h.elim
    | _ => rw [e] at h; exact h.elim
  | _ => exact h.elim
end
end L3

set_option Elab.async false
set_option linter.all false
set_option maxRecDepth 100000
set_option maxHeartbeats 4000000
/-! L3: nodes: a combinator, the check that a text is this, the proof that then the text does it. -/
noncomputable section
namespace L3
open PySem PySem.Spec PyProof.Rows L2

/-! ### tables -/
inductive FTr where
  | e | d (x : Str) (ps : List Str) (l r : FTr)
def FTr.get : FTr → Nat → Option (Str × List Str)
  | .e, _ => none
  | .d x ps _ _, 0 => some (x, ps)
  | .d _ _ l r, n + 1 => if n % 2 = 0 then l.get (n / 2) else r.get (n / 2)
structure TB where
  fn : FTr
  blt : List Str
  gi : List (Str × Int)
  gs : List (Str × List Nat)
  fx : List (Str × String)
structure OkT (tb : TB) (G : Fix) (P : Program) (w : World) (mg : Str → Option Value) (base : Heap) (k : Nat) (cal : Cal) : Prop where
  fn : ∀ f x ps, tb.fn.get f = some (x, ps) → CalOk G P w mg base k cal f ps ∧ mg x = some (.ref (G.fad f))
  blt : ∀ x, tb.blt.contains x = true → mg x = none
  gi : ∀ x i, tb.gi.lookup x = some i → ∃ u, mg x = some u ∧ RelV (.int i) u
  gs : ∀ x s, tb.gs.lookup x = some s → ∃ u, mg x = some u ∧ RelV (.str ⟨s.toArray⟩) u
  fx : ∀ x id, tb.fx.lookup x = some id → mg x = some (.builtin id)
def OkJ {α : Type} (chk : TB → SC → α → Bool) (J : Fix → EXK → Cal → Cx → α → Prop) : Prop :=
  ∀ (tb : TB) (G : Fix) (P : Program) (w : World) (mg : Str → Option Value) (base : Heap) (k : Nat) (cal : Cal) (c : SC) (E : EXK) (X : Cx) (a : α), OkT tb G P w mg base k cal → Good G P w mg base k c E X → chk tb c a = true → J G E cal X a
def OkB {α : Type} (chk : TB → SC → α → Bool) (J : Fix → Cal → Cx → α → Prop) : Prop :=
  ∀ (tb : TB) (G : Fix) (P : Program) (w : World) (mg : Str → Option Value) (base : Heap) (k : Nat) (cal : Cal) (c : SC) (X : Cx) (a : α), OkT tb G P w mg base k cal → Good G P w mg base k c EB X → chk tb c a = true → J G cal X a
structure NE where
  den : ES
  chk : TB → SC → Expr → Bool
  ok : OkJ chk fun G E cal X a => PE X a (T G E cal den)
structure NT where
  den : ES
  chk : TB → SC → Expr → Bool
  ok : OkJ chk fun G E cal X a => PT X a (TT' G E cal den)
structure NP where
  den : ES
  chk : TB → SC → Expr → Bool
  ok : OkJ chk fun G E cal X a => PW X a (TT' G E cal den)
structure NL where
  den : LS
  chk : TB → SC → List Expr → Bool
  ok : OkJ chk fun G E cal X a => PA X a (TL G E cal den) ∧ PA X a (TN G E cal a.length den) ∧ a.all noStar = true
structure NK where
  den : LS
  chk : TB → SC → List Keyword → Bool
  ok : OkJ chk fun G E cal X a => PK X a (TN G E cal a.length den)
structure NG where
  den : GS
  sl : List Nat
  pu : Bool
  hp : pu = true → Pure1 den
  nr : NoRt den
  chk : TB → SC → Expr → Bool
  ok : OkJ chk fun G E cal X a => PG X a (TGd G E cal den sl) ∧ noStar a = true
structure NM where
  den : GLS
  sl : List Nat
  n : Nat
  hp : PureL den n
  chk : TB → SC → List Expr → Bool
  ok : OkJ chk fun G E cal X a => PGs X a (TGl G E cal den sl) ∧ a.all noStar = true ∧ a.length = n
structure NW where
  den : WS
  chk : TB → SC → Expr × Expr → Bool
  ok : OkJ chk fun G E cal X a => PI X a.1 a.2 (TIw G E cal den) ∧ ∀ env x, foldedSetIterable a.2 env x = pure x
structure NQ where
  den : List ES
  le : den.length ≤ 1
  chk : TB → SC → List Expr → Bool
  ok : OkB chk fun G cal X a => PTs X a (TTl G cal den)
structure NS where
  den : SS
  chk : TB → SC → Stmt → Bool
  ok : OkJ chk fun G E cal X a => PS X a (TS' G E cal den)
structure NBk where
  den : SS
  chk : TB → SC → List Stmt → Bool
  ok : OkJ chk fun G E cal X a => PSs X a (TS' G E cal den)
theorem NE.u (x : NE) {tb G P w mg base k cal c E X a} (t : OkT tb G P w mg base k cal) (g : Good G P w mg base k c E X) (h : x.chk tb c a = true) : PE X a (T G E cal x.den) := x.ok _ _ _ _ _ _ _ _ _ _ _ _ t g h
theorem NT.u (x : NT) {tb G P w mg base k cal c E X a} (t : OkT tb G P w mg base k cal) (g : Good G P w mg base k c E X) (h : x.chk tb c a = true) : PT X a (TT' G E cal x.den) := x.ok _ _ _ _ _ _ _ _ _ _ _ _ t g h
theorem NP.u (x : NP) {tb G P w mg base k cal c E X a} (t : OkT tb G P w mg base k cal) (g : Good G P w mg base k c E X) (h : x.chk tb c a = true) : PW X a (TT' G E cal x.den) := x.ok _ _ _ _ _ _ _ _ _ _ _ _ t g h
theorem NL.u (x : NL) {tb G P w mg base k cal c E X a} (t : OkT tb G P w mg base k cal) (g : Good G P w mg base k c E X) (h : x.chk tb c a = true) : PA X a (TL G E cal x.den) ∧ PA X a (TN G E cal a.length x.den) ∧ a.all noStar = true := x.ok _ _ _ _ _ _ _ _ _ _ _ _ t g h
theorem NK.u (x : NK) {tb G P w mg base k cal c E X a} (t : OkT tb G P w mg base k cal) (g : Good G P w mg base k c E X) (h : x.chk tb c a = true) : PK X a (TN G E cal a.length x.den) := x.ok _ _ _ _ _ _ _ _ _ _ _ _ t g h
theorem NG.u (x : NG) {tb G P w mg base k cal c E X a} (t : OkT tb G P w mg base k cal) (g : Good G P w mg base k c E X) (h : x.chk tb c a = true) : PG X a (TGd G E cal x.den x.sl) ∧ noStar a = true := x.ok _ _ _ _ _ _ _ _ _ _ _ _ t g h
theorem NM.u (x : NM) {tb G P w mg base k cal c E X a} (t : OkT tb G P w mg base k cal) (g : Good G P w mg base k c E X) (h : x.chk tb c a = true) : PGs X a (TGl G E cal x.den x.sl) ∧ a.all noStar = true ∧ a.length = x.n := x.ok _ _ _ _ _ _ _ _ _ _ _ _ t g h
theorem NW.u (x : NW) {tb G P w mg base k cal c E X tg a} (t : OkT tb G P w mg base k cal) (g : Good G P w mg base k c E X) (h : x.chk tb c (tg, a) = true) : PI X tg a (TIw G E cal x.den) ∧ ∀ env y, foldedSetIterable a env y = pure y := x.ok _ _ _ _ _ _ _ _ _ _ _ (tg, a) t g h
theorem NQ.u (x : NQ) {tb G P w mg base k cal c X a} (t : OkT tb G P w mg base k cal) (g : Good G P w mg base k c EB X) (h : x.chk tb c a = true) : PTs X a (TTl G cal x.den) := x.ok _ _ _ _ _ _ _ _ _ _ _ t g h
theorem NS.u (x : NS) {tb G P w mg base k cal c E X a} (t : OkT tb G P w mg base k cal) (g : Good G P w mg base k c E X) (h : x.chk tb c a = true) : PS X a (TS' G E cal x.den) := x.ok _ _ _ _ _ _ _ _ _ _ _ _ t g h
theorem NBk.u (x : NBk) {tb G P w mg base k cal c E X a} (t : OkT tb G P w mg base k cal) (g : Good G P w mg base k c E X) (h : x.chk tb c a = true) : PSs X a (TS' G E cal x.den) := x.ok _ _ _ _ _ _ _ _ _ _ _ _ t g h
theorem and2 {a b : Bool} (h : (a && b) = true) : a = true ∧ b = true := Bool.and_eq_true_iff.mp h
theorem dcd {p : Prop} [Decidable p] (h : decide p = true) : p := of_decide_eq_true h

/-! ### expressions -/
def nV (i : Nat) : NE where
  den := cV i
  chk _ c a := match a with
    | .Name x _ => decide (c.N[i]? = some x) && (visB c.sc x && plainN x)
    | _ => false
  ok tb G P w mg base k cal c E X a t g h := by
    dsimp only at h
    split at h
    · obtain ⟨h1, h2⟩ := and2 h
      obtain ⟨h2, h3⟩ := and2 h2
      exact t_v g (dcd h1) h2 h3
    · cases h
def nI (i : Int) : NE where
  den := cK (.i i)
  chk _ c a := match a with
    | .Constant (.int j) _ _ => decide (j = i)
    | _ => false
  ok tb G P w mg base k cal c E X a t g h := by
    dsimp only at h
    split at h
    · cases dcd h
      exact t_k pe_int fun _ _ => .i _
    · cases h
def nBl (b : Bool) : NE where
  den := cK (.b b)
  chk _ c a := match a with
    | .Constant (.bool j) _ _ => j == b
    | _ => false
  ok tb G P w mg base k cal c E X a t g h := by
    dsimp only at h
    split at h
    · cases beq_iff_eq.mp h
      exact t_k pe_bl fun _ _ => .b _
    · cases h
def nN : NE where
  den := cK .n
  chk _ c a := match a with
    | .Constant .none _ _ => true
    | _ => false
  ok tb G P w mg base k cal c E X a t g h := by
    dsimp only at h
    split at h
    · exact t_k pe_non fun _ _ => .n
    · cases h
def nS (s : List Nat) : NE where
  den := cK (.s s)
  chk _ c a := match a with
    | .Constant (.str x) _ _ => decide (x = ⟨s.toArray⟩) && decide (s.length ≤ 16000000)
    | _ => false
  ok tb G P w mg base k cal c E X a t g h := by
    dsimp only at h
    split at h
    · obtain ⟨h1, h2⟩ := and2 h
      cases dcd h1
      exact t_k pe_str fun _ _ => .s s (dcd h2)
    · cases h
def gloB (c : SC) (x : Str) : Bool := decide (c.sc.names.lookup x = some .globalImplicit) && plainN x
def nKi (i : Int) : NE where
  den := cK (.i i)
  chk tb c a := match a with
    | .Name x _ => gloB c x && decide (tb.gi.lookup x = some i)
    | _ => false
  ok tb G P w mg base k cal c E X a t g h := by
    dsimp only at h
    split at h
    · obtain ⟨h1, h2⟩ := and2 h
      obtain ⟨h0, h1⟩ := and2 h1
      obtain ⟨u, e1, e2⟩ := t.gi _ _ (dcd h2)
      exact t_k (pe_glob (gl_of g (dcd h0)) (by rw [g.mm]; exact e1) e2 (plainN_of h1).1) fun _ _ => .i _
    · cases h
def nKs (s : List Nat) : NE where
  den := cK (.s s)
  chk tb c a := match a with
    | .Name x _ => gloB c x && (decide (tb.gs.lookup x = some s) && decide (s.length ≤ 16000000))
    | _ => false
  ok tb G P w mg base k cal c E X a t g h := by
    dsimp only at h
    split at h
    · obtain ⟨h1, h2⟩ := and2 h
      obtain ⟨h0, h1⟩ := and2 h1
      obtain ⟨h2, h3⟩ := and2 h2
      obtain ⟨u, e1, e2⟩ := t.gs _ _ (dcd h2)
      exact t_k (pe_glob (gl_of g (dcd h0)) (by rw [g.mm]; exact e1) e2 (plainN_of h1).1) fun _ _ => .s s (dcd h3)
    · cases h
def tyS : Nat → Str
  | 0 => "int" | 1 => "bool" | 2 => "str" | 3 => "tuple" | 4 => "list" | _ => "dict"
theorem ty_boot {n : Nat} (h : n < 6) : bootBuiltins (tyS n) = some (.type (tyn n)) := by
  match n, h with
  | 0, _ => decide +kernel
  | 1, _ => decide +kernel
  | 2, _ => decide +kernel
  | 3, _ => decide +kernel
  | 4, _ => decide +kernel
  | 5, _ => decide +kernel
def tyChk (n : Nat) (tb : TB) (c : SC) (x : Str) : Bool := decide (n < 6) && (decide (x = tyS n) && (gloB c x && tb.blt.contains x))
theorem ty_pe {n : Nat} {tb G P w mg base k cal c E X x pos} (t : OkT tb G P w mg base k cal) (g : Good G P w mg base k c E X) (h : tyChk n tb c x = true) : PE X (.Name x pos) (tC (.ty (tyn n))) ∧ n < 6 := by
  obtain ⟨h1, h2⟩ := and2 h
  obtain ⟨h2, h3⟩ := and2 h2
  obtain ⟨h3, h5⟩ := and2 h3
  obtain ⟨h3, h4⟩ := and2 h3
  have e := ty_boot (dcd h1)
  rw [← dcd h2] at e
  exact ⟨pe_bltn (gl_of g (dcd h3)) (by rw [g.mm]; exact t.blt _ h5) e rfl (plainN_of h4).2.2 (plainN_of h4).1, dcd h1⟩
def nTy (n : Nat) : NE where
  den := cK (.y n)
  chk tb c a := match a with
    | .Name x _ => tyChk n tb c x
    | _ => false
  ok tb G P w mg base k cal c E X a t g h := by
    dsimp only at h
    split at h
    · exact t_k (ty_pe t g h).1 fun _ _ => .y _
    · cases h
structure B2 where
  op : Operator
  p : P2
  ok : ∀ {G P w mg base k c E X}, Good G P w mg base k c E X → Op2 G E X (binaryOp op) p
def nBin (o : B2) (x y : NE) : NE where
  den := c2 o.p x.den y.den
  chk tb c a := match a with
    | .BinOp l op r _ => decide (op = o.op) && (x.chk tb c l && y.chk tb c r)
    | _ => false
  ok tb G P w mg base k cal c E X a t g h := by
    dsimp only at h
    split at h
    · obtain ⟨h1, h2⟩ := and2 h
      obtain ⟨h2, h3⟩ := and2 h2
      cases dcd h1
      exact t_bin (o.ok g) (x.u t g h2) (y.u t g h3)
    · cases h
def nNeg (x : NE) : NE where
  den := c1 pNeg x.den
  chk tb c a := match a with
    | .UnaryOp .USub l _ => x.chk tb c l
    | _ => false
  ok tb G P w mg base k cal c E X a t g h := by
    dsimp only at h
    split at h
    · exact t_un op1_neg (x.u t g h)
    · cases h
def nNot (x : NE) : NE where
  den := cNot x.den
  chk tb c a := match a with
    | .UnaryOp .Not l _ => x.chk tb c l
    | _ => false
  ok tb G P w mg base k cal c E X a t g h := by
    dsimp only at h
    split at h
    · exact t_not g (x.u t g h)
    · cases h
def nOne (x : NE) : NE where
  den := x.den
  chk tb c a := match a with
    | .BoolOp _ [l] _ => x.chk tb c l
    | _ => false
  ok tb G P w mg base k cal c E X a t g h := by
    dsimp only at h
    split at h
    · exact t_one (x.u t g h)
    · cases h
def nAnd (x y : NE) : NE where
  den := cAnd x.den y.den
  chk tb c a := match a with
    | .BoolOp .And (l :: m :: r) pos => x.chk tb c l && y.chk tb c (.BoolOp .And (m :: r) pos)
    | _ => false
  ok tb G P w mg base k cal c E X a t g h := by
    dsimp only at h
    split at h
    · obtain ⟨h1, h2⟩ := and2 h
      exact t_and g (x.u t g h1) (y.u t g h2)
    · cases h
def nOr (x y : NE) : NE where
  den := cOr x.den y.den
  chk tb c a := match a with
    | .BoolOp .Or (l :: m :: r) pos => x.chk tb c l && y.chk tb c (.BoolOp .Or (m :: r) pos)
    | _ => false
  ok tb G P w mg base k cal c E X a t g h := by
    dsimp only at h
    split at h
    · obtain ⟨h1, h2⟩ := and2 h
      exact t_or g (x.u t g h1) (y.u t g h2)
    · cases h
structure C2 where
  op : CmpOp
  p : P2
  yes : Yes p
  ok : ∀ {G P w mg base k c E X}, Good G P w mg base k c E X → Op2 G E X (compareOp op) p
def nCmp (o : C2) (x y : NE) : NE where
  den := c2 o.p x.den y.den
  chk tb c a := match a with
    | .Compare l [op] [r] _ => decide (op = o.op) && (!(behindInMarks op r) && (x.chk tb c l && y.chk tb c r))
    | _ => false
  ok tb G P w mg base k cal c E X a t g h := by
    dsimp only at h
    split at h
    · obtain ⟨h1, h2⟩ := and2 h
      obtain ⟨h0, h20⟩ := and2 h2
      obtain ⟨h21, h3⟩ := and2 h20
      cases dcd h1
      exact t_cmp (o.ok g) (x.u t g h21) (y.u t g h3) (by simpa using h0)
    · cases h
def nChain (o q : C2) (x y z : NE) : NE where
  den := cChain o.p q.p x.den y.den z.den
  chk tb c a := match a with
    | .Compare l [op, op2] [m, r] _ => (decide (op = o.op) && decide (op2 = q.op)) && (!(lastMarks [op, op2] [m, r]) && (x.chk tb c l && (y.chk tb c m && z.chk tb c r)))
    | _ => false
  ok tb G P w mg base k cal c E X a t g h := by
    dsimp only at h
    split at h
    · obtain ⟨h1, h2⟩ := and2 h
      obtain ⟨e1, e2⟩ := and2 h1
      obtain ⟨h0, h20⟩ := and2 h2
      obtain ⟨h21, h30⟩ := and2 h20
      obtain ⟨h31, h4⟩ := and2 h30
      cases dcd e1
      cases dcd e2
      exact t_chain o.yes (o.ok g) (q.ok g) (x.u t g h21) (y.u t g h31) (z.u t g h4) (by simpa using h0)
    · cases h
def nIs (x : NE) : NE where
  den := c1 pIsN x.den
  chk tb c a := match a with
    | .Compare l [.Is] [.Constant .none _ _] _ => x.chk tb c l
    | _ => false
  ok tb G P w mg base k cal c E X a t g h := by
    dsimp only at h
    split at h
    · exact t_isN (x.u t g h) pe_non rfl
    · cases h
def nIsn (x : NE) : NE where
  den := c1 pIsnN x.den
  chk tb c a := match a with
    | .Compare l [.IsNot] [.Constant .none _ _] _ => x.chk tb c l
    | _ => false
  ok tb G P w mg base k cal c E X a t g h := by
    dsimp only at h
    split at h
    · exact t_isnN (x.u t g h) pe_non rfl
    · cases h
def nIte (q : NT) (x y : NE) : NE where
  den := cIte q.den x.den y.den
  chk tb c a := match a with
    | .IfExp d l r _ => q.chk tb c d && (x.chk tb c l && y.chk tb c r)
    | _ => false
  ok tb G P w mg base k cal c E X a t g h := by
    dsimp only at h
    split at h
    · obtain ⟨h1, h2⟩ := and2 h
      obtain ⟨h2, h3⟩ := and2 h2
      exact t_ite (q.u t g h1) (x.u t g h2) (y.u t g h3)
    · cases h
def nTup (l : NL) : NE where
  den := cTup l.den
  chk tb c a := match a with
    | .Tuple es _ _ => l.chk tb c es
    | _ => false
  ok tb G P w mg base k cal c E X a t g h := by
    dsimp only at h
    split at h
    · exact t_tup (l.u t g h).1
    · cases h
def nLst (l : NL) : NE where
  den := cLst l.den
  chk tb c a := match a with
    | .List es _ => l.chk tb c es
    | _ => false
  ok tb G P w mg base k cal c E X a t g h := by
    dsimp only at h
    split at h
    · exact t_lst (l.u t g h).1
    · cases h
def nDic0 : NE where
  den := cDic0
  chk tb c a := match a with
    | .Dict [] [] _ => true
    | _ => false
  ok tb G P w mg base k cal c E X a t g h := by
    dsimp only at h
    split at h
    · exact t_dic0
    · cases h
def nIx (x y : NE) : NE where
  den := c2 pIx x.den y.den
  chk tb c a := match a with
    | .Subscript o i _ => !(isSlice i) && (x.chk tb c o && y.chk tb c i)
    | _ => false
  ok tb G P w mg base k cal c E X a t g h := by
    dsimp only at h
    split at h
    · obtain ⟨h1, h2⟩ := and2 h
      obtain ⟨h2, h3⟩ := and2 h2
      exact t_ix g (by simpa using h1) (x.u t g h2) (y.u t g h3)
    · cases h
def nSlL (x y : NE) : NE where
  den := c2 pSlL x.den y.den
  chk tb c a := match a with
    | .Subscript o (.Slice (some i) none none _) _ => x.chk tb c o && y.chk tb c i
    | _ => false
  ok tb G P w mg base k cal c E X a t g h := by
    dsimp only at h
    split at h
    · obtain ⟨h2, h3⟩ := and2 h
      exact t_slL g (x.u t g h2) (y.u t g h3)
    · cases h
def nSlH (x y : NE) : NE where
  den := c2 pSlH x.den y.den
  chk tb c a := match a with
    | .Subscript o (.Slice none (some i) none _) _ => x.chk tb c o && y.chk tb c i
    | _ => false
  ok tb G P w mg base k cal c E X a t g h := by
    dsimp only at h
    split at h
    · obtain ⟨h2, h3⟩ := and2 h
      exact t_slH g (x.u t g h2) (y.u t g h3)
    · cases h
def nSlLH (x y z : NE) : NE where
  den := cSlLH x.den y.den z.den
  chk tb c a := match a with
    | .Subscript o (.Slice (some i) (some j) none _) _ => x.chk tb c o && (y.chk tb c i && z.chk tb c j)
    | _ => false
  ok tb G P w mg base k cal c E X a t g h := by
    dsimp only at h
    split at h
    · obtain ⟨h1, h2⟩ := and2 h
      obtain ⟨h2, h3⟩ := and2 h2
      exact t_slLH g (x.u t g h1) (y.u t g h2) (z.u t g h3)
    · cases h
def nRev (x : NE) : NE where
  den := c1 pRev x.den
  chk tb c a := match a with
    | .Subscript o (.Slice none none (some (.UnaryOp .USub (.Constant (.int i) _ _) _)) _) _ => decide (i = 1) && x.chk tb c o
    | _ => false
  ok tb G P w mg base k cal c E X a t g h := by
    dsimp only at h
    split at h
    · obtain ⟨h1, h2⟩ := and2 h
      cases dcd h1
      exact t_rev g (x.u t g h2)
    · cases h
structure F1 where
  x : Str
  f : Value
  p : P1
  hf : (∃ id, f = .builtin id) ∨ ∃ T, f = .type T
  hv : bootBuiltins x = some f
  ok : ∀ {G P w mg base k c E X}, Good G P w mg base k c E X → Cl1 G E X f p
structure F2 where
  x : Str
  f : Value
  p : P2
  hf : (∃ id, f = .builtin id) ∨ ∃ T, f = .type T
  hv : bootBuiltins x = some f
  ok : ∀ {G P w mg base k c E X}, Good G P w mg base k c E X → Cl2 G E X f p
def bltB (tb : TB) (c : SC) (x : Str) : Bool := gloB c x && tb.blt.contains x
theorem bltB_of {tb c x} (h : bltB tb c x = true) : c.sc.names.lookup x = some .globalImplicit ∧ plainN x = true ∧ tb.blt.contains x = true := by
  obtain ⟨h1, h2⟩ := and2 h
  obtain ⟨h0, h1⟩ := and2 h1
  exact ⟨dcd h0, h1, h2⟩
def nF1 (f : F1) (x : NE) : NE where
  den := c1 f.p x.den
  chk tb c a := match a with
    | .Call (.Name y _) [e] [] _ => decide (y = f.x) && (bltB tb c y && (noStar e && x.chk tb c e))
    | _ => false
  ok tb G P w mg base k cal c E X a t g h := by
    dsimp only at h
    split at h
    · obtain ⟨h1, h2⟩ := and2 h
      obtain ⟨h2, h3⟩ := and2 h2
      obtain ⟨h3, h4⟩ := and2 h3
      obtain ⟨b1, b2, b3⟩ := bltB_of h2
      cases dcd h1
      exact t_blt1 g f.hf (f.ok g) b1 b2 (t.blt _ b3) f.hv h3 (x.u t g h4)
    · cases h
def nF2 (f : F2) (x y : NE) : NE where
  den := c2 f.p x.den y.den
  chk tb c a := match a with
    | .Call (.Name z _) [e, d] [] _ => decide (z = f.x) && (bltB tb c z && ((noStar e && noStar d) && (x.chk tb c e && y.chk tb c d)))
    | _ => false
  ok tb G P w mg base k cal c E X a t g h := by
    dsimp only at h
    split at h
    · obtain ⟨h1, h2⟩ := and2 h
      obtain ⟨h2, h3⟩ := and2 h2
      obtain ⟨h3, h4⟩ := and2 h3
      obtain ⟨n1, n2⟩ := and2 h3
      obtain ⟨h4, h5⟩ := and2 h4
      obtain ⟨b1, b2, b3⟩ := bltB_of h2
      cases dcd h1
      exact t_blt2 g f.hf (f.ok g) b1 b2 (t.blt _ b3) f.hv n1 n2 (x.u t g h4) (y.u t g h5)
    · cases h
def nGcd (x y : NE) : NE where
  den := c2 pGcd x.den y.den
  chk tb c a := match a with
    | .Call (.Name z _) [e, d] [] _ => decide (tb.fx.lookup z = some "math.gcd") && (gloB c z && ((noStar e && noStar d) && (x.chk tb c e && y.chk tb c d)))
    | _ => false
  ok tb G P w mg base k cal c E X a t g h := by
    dsimp only at h
    split at h
    · obtain ⟨h1, h2⟩ := and2 h
      obtain ⟨h2, h3⟩ := and2 h2
      obtain ⟨b1, b2⟩ := and2 h2
      obtain ⟨h3, h4⟩ := and2 h3
      obtain ⟨n1, n2⟩ := and2 h3
      obtain ⟨h4, h5⟩ := and2 h4
      exact t_fun2 g cl_gcd (dcd b1) b2 (t.fx _ _ (dcd h1)) n1 n2 (x.u t g h4) (y.u t g h5)
    · cases h
def nIsin2 (m n : Nat) (x : NE) : NE where
  den := c1 (pIsin2 m n) x.den
  chk tb c a := match a with
    | .Call (.Name z _) [e, .Tuple [.Name u p1, .Name v p2] _ _] [] _ => decide (z = "isinstance") && (bltB tb c z && ((tyChk m tb c u && tyChk n tb c v) && (noStar e && x.chk tb c e)))
    | _ => false
  ok tb G P w mg base k cal c E X a t g h := by
    dsimp only at h
    split at h
    · obtain ⟨h1, h2⟩ := and2 h
      obtain ⟨h2, h3⟩ := and2 h2
      obtain ⟨h3, h4⟩ := and2 h3
      obtain ⟨n1, n2⟩ := and2 h3
      obtain ⟨h4, h5⟩ := and2 h4
      obtain ⟨b1, b2, b3⟩ := bltB_of h2
      cases dcd h1
      obtain ⟨e1, l1⟩ := ty_pe (pos := _) t g n1
      obtain ⟨e2, l2⟩ := ty_pe (pos := _) t g n2
      exact t_isin2 g b1 (t.blt _ b3) l1 l2 h4 rfl rfl (x.u t g h5) (tyn_kd l1 ▸ e1) (tyn_kd l2 ▸ e2)
    · cases h
structure M1 where
  nm : Str
  id : String
  p : P2
  slot : Slot "list" nm id
  ty : typeOf (.builtin id) = pure (.type "method_descriptor")
  ok : ∀ {G P w mg base k c E X}, Good G P w mg base k c E X → Ml2 G E X id p
def nMl (m : M1) (x y : NE) : NE where
  den := cML m.p x.den y.den
  chk tb c a := match a with
    | .Call (.Attribute o z q) [e] [] p => decide (z = m.nm) && ((plainBase o && (noStar e && (q.endLine == p.line))) && (x.chk tb c o && y.chk tb c e))
    | _ => false
  ok tb G P w mg base k cal c E X a t g h := by
    dsimp only at h
    split at h
    · obtain ⟨h1, h2⟩ := and2 h
      obtain ⟨h2, h3⟩ := and2 h2
      obtain ⟨h2, h4⟩ := and2 h2
      obtain ⟨h4, h5⟩ := and2 h4
      obtain ⟨h6, h7⟩ := and2 h3
      cases dcd h1
      exact t_ml g m.slot m.ty (m.ok g) (x.u t g h6) (y.u t g h7) h2 h4 h5
    · cases h
def nPop (x : NE) : NE where
  den := c1 pPop x.den
  chk tb c a := match a with
    | .Call (.Attribute o z q) [] [] p => decide (z = "pop") && ((plainBase o && (q.endLine == p.line)) && x.chk tb c o)
    | _ => false
  ok tb G P w mg base k cal c E X a t g h := by
    dsimp only at h
    split at h
    · obtain ⟨h1, h2⟩ := and2 h
      obtain ⟨h2, h3⟩ := and2 h2
      obtain ⟨h2, h4⟩ := and2 h2
      cases dcd h1
      exact t_pop g (x.u t g h3) h2 h4
    · cases h
/-- list(range(b)) and the like -/
def nLr1 (y : NE) : NE where
  den := c2 pListR (cK (.i 0)) y.den
  chk tb c a := match a with
    | .Call (.Name z _) [.Call (.Name u _) [e] [] _] [] _ => (decide (z = "list") && decide (u = "range")) && ((bltB tb c z && bltB tb c u) && (noStar e && y.chk tb c e))
    | _ => false
  ok tb G P w mg base k cal c E X a t g h := by
    dsimp only at h
    split at h
    · obtain ⟨h1, h2⟩ := and2 h
      obtain ⟨e1, e2⟩ := and2 h1
      obtain ⟨h2, h3⟩ := and2 h2
      obtain ⟨q1, q2⟩ := and2 h2
      obtain ⟨h3, h4⟩ := and2 h3
      obtain ⟨b1, b2, b3⟩ := bltB_of q1
      obtain ⟨d1, d2, d3⟩ := bltB_of q2
      cases dcd e1
      cases dcd e2
      exact t_listR1 g b1 (t.blt _ b3) d1 (t.blt _ d3) h3 (y.u t g h4)
    · cases h
def nLr2 (x y : NE) : NE where
  den := c2 pListR x.den y.den
  chk tb c a := match a with
    | .Call (.Name z _) [.Call (.Name u _) [d, e] [] _] [] _ => (decide (z = "list") && decide (u = "range")) && ((bltB tb c z && bltB tb c u) && ((noStar d && noStar e) && (x.chk tb c d && y.chk tb c e)))
    | _ => false
  ok tb G P w mg base k cal c E X a t g h := by
    dsimp only at h
    split at h
    · obtain ⟨h1, h2⟩ := and2 h
      obtain ⟨e1, e2⟩ := and2 h1
      obtain ⟨h2, h3⟩ := and2 h2
      obtain ⟨q1, q2⟩ := and2 h2
      obtain ⟨h3, h4⟩ := and2 h3
      obtain ⟨n1, n2⟩ := and2 h3
      obtain ⟨h4, h5⟩ := and2 h4
      obtain ⟨b1, b2, b3⟩ := bltB_of q1
      obtain ⟨d1, d2, d3⟩ := bltB_of q2
      cases dcd e1
      cases dcd e2
      exact t_listR g b1 (t.blt _ b3) d1 (t.blt _ d3) n1 n2 (x.u t g h4) (y.u t g h5)
    · cases h
def nTr1 (y : NE) : NE where
  den := c2 pTupR (cK (.i 0)) y.den
  chk tb c a := match a with
    | .Call (.Name z _) [.Call (.Name u _) [e] [] _] [] _ => (decide (z = "tuple") && decide (u = "range")) && ((bltB tb c z && bltB tb c u) && (noStar e && y.chk tb c e))
    | _ => false
  ok tb G P w mg base k cal c E X a t g h := by
    dsimp only at h
    split at h
    · obtain ⟨h1, h2⟩ := and2 h
      obtain ⟨e1, e2⟩ := and2 h1
      obtain ⟨h2, h3⟩ := and2 h2
      obtain ⟨q1, q2⟩ := and2 h2
      obtain ⟨h3, h4⟩ := and2 h3
      obtain ⟨b1, b2, b3⟩ := bltB_of q1
      obtain ⟨d1, d2, d3⟩ := bltB_of q2
      cases dcd e1
      cases dcd e2
      exact t_tupR1 g b1 (t.blt _ b3) d1 (t.blt _ d3) h3 (y.u t g h4)
    · cases h
def nTr2 (x y : NE) : NE where
  den := c2 pTupR x.den y.den
  chk tb c a := match a with
    | .Call (.Name z _) [.Call (.Name u _) [d, e] [] _] [] _ => (decide (z = "tuple") && decide (u = "range")) && ((bltB tb c z && bltB tb c u) && ((noStar d && noStar e) && (x.chk tb c d && y.chk tb c e)))
    | _ => false
  ok tb G P w mg base k cal c E X a t g h := by
    dsimp only at h
    split at h
    · obtain ⟨h1, h2⟩ := and2 h
      obtain ⟨e1, e2⟩ := and2 h1
      obtain ⟨h2, h3⟩ := and2 h2
      obtain ⟨q1, q2⟩ := and2 h2
      obtain ⟨h3, h4⟩ := and2 h3
      obtain ⟨n1, n2⟩ := and2 h3
      obtain ⟨h4, h5⟩ := and2 h4
      obtain ⟨b1, b2, b3⟩ := bltB_of q1
      obtain ⟨d1, d2, d3⟩ := bltB_of q2
      cases dcd e1
      cases dcd e2
      exact t_tupR g b1 (t.blt _ b3) d1 (t.blt _ d3) n1 n2 (x.u t g h4) (y.u t g h5)
    · cases h
/-! own calls -/
def nCall0 (f : Nat) : NE where
  den := cCall f lNil
  chk tb c a := match a, tb.fn.get f with
    | .Call (.Name x _) [] [] _, some (y, _) => decide (x = y) && gloB c x
    | _, _ => false
  ok tb G P w mg base k cal c E X a t g h := by
    dsimp only at h
    split at h
    · rename_i hf
      obtain ⟨h1, h2⟩ := and2 h
      obtain ⟨b1, b2⟩ := and2 h2
      cases dcd h1
      obtain ⟨ck, hm⟩ := t.fn _ _ _ hf
      exact t_call0 g ck (dcd b1) b2 hm
    · cases h
def nCall (f : Nat) (l : NL) : NE where
  den := cCall f l.den
  chk tb c a := match a, tb.fn.get f with
    | .Call (.Name x _) (e :: es) [] _, some (y, _) => decide (x = y) && (gloB c x && l.chk tb c (e :: es))
    | _, _ => false
  ok tb G P w mg base k cal c E X a t g h := by
    dsimp only at h
    split at h
    · rename_i hf
      obtain ⟨h1, h2⟩ := and2 h
      obtain ⟨b1, h3⟩ := and2 h2
      obtain ⟨b1, b2⟩ := and2 b1
      cases dcd h1
      obtain ⟨ck, hm⟩ := t.fn _ _ _ hf
      obtain ⟨l1, _, l3⟩ := l.u t g h3
      exact t_call g ck (dcd b1) b2 hm l3 l1
    · cases h
def kwT (ps : List Str) (n : Nat) (kws : List Keyword) (pm : List Nat) : Bool := match kwNames kws with
  | some ks => kwC ps n ks pm
  | none => false
theorem kwT_of {ps n kws pm} (h : kwT ps n kws pm = true) : ∃ ks, kwNames kws = some ks ∧ kwC ps n ks pm = true := by
  unfold kwT at h
  split at h
  · rename_i ks e
    exact ⟨ks, e, h⟩
  · cases h
def nCallK0 (f : Nat) (j : NK) (pm : List Nat) : NE where
  den := cCallK f lNil j.den pm
  chk tb c a := match a, tb.fn.get f with
    | .Call (.Name x _) [] kws _, some (y, ps) => decide (x = y) && (gloB c x && (kwT ps 0 kws pm && j.chk tb c kws))
    | _, _ => false
  ok tb G P w mg base k cal c E X a t g h := by
    dsimp only at h
    split at h
    · rename_i hf
      obtain ⟨h1, h2⟩ := and2 h
      obtain ⟨b1, h3⟩ := and2 h2
      obtain ⟨b1, b2⟩ := and2 b1
      obtain ⟨h3, h4⟩ := and2 h3
      obtain ⟨ks, e, hk⟩ := kwT_of h3
      cases dcd h1
      obtain ⟨ck, hm⟩ := t.fn _ _ _ hf
      exact t_callK0 g ck (dcd b1) b2 hm (j.u t g h4) e hk
    · cases h
def nCallK (f : Nat) (l : NL) (j : NK) (pm : List Nat) : NE where
  den := cCallK f l.den j.den pm
  chk tb c a := match a, tb.fn.get f with
    | .Call (.Name x _) (e :: es) kws _, some (y, ps) => decide (x = y) && (gloB c x && (kwT ps (es.length + 1) kws pm && (l.chk tb c (e :: es) && j.chk tb c kws)))
    | _, _ => false
  ok tb G P w mg base k cal c E X a t g h := by
    dsimp only at h
    split at h
    · rename_i hf
      obtain ⟨h1, h2⟩ := and2 h
      obtain ⟨b1, h3⟩ := and2 h2
      obtain ⟨b1, b2⟩ := and2 b1
      obtain ⟨h3, h4⟩ := and2 h3
      obtain ⟨h4, h5⟩ := and2 h4
      obtain ⟨ks, e, hk⟩ := kwT_of h3
      cases dcd h1
      obtain ⟨ck, hm⟩ := t.fn _ _ _ hf
      obtain ⟨_, l2, l3⟩ := l.u t g h4
      exact t_callK g ck (dcd b1) b2 hm l3 l2 (j.u t g h5) e hk
    · cases h
/-! what is not carried -/
def nNo : NE where
  den := cNo
  chk _ _ _ := true
  ok tb G P w mg base k cal c E X a t g h := ⟨fun pins s σ H Q I ⟨μ, ρ, st, _, _, q⟩ => q.elim⟩
/-! ### lists -/
def lN : NL where
  den := lNil
  chk _ _ a := match a with
    | [] => true
    | _ => false
  ok tb G P w mg base k cal c E X a t g h := by
    dsimp only at h
    split at h
    · exact ⟨tl_nil, pal_nil, rfl⟩
    · cases h
def lC (x : NE) (l : NL) : NL where
  den := lCons x.den l.den
  chk tb c a := match a with
    | e :: es => noStar e && (x.chk tb c e && l.chk tb c es)
    | _ => false
  ok tb G P w mg base k cal c E X a t g h := by
    dsimp only at h
    split at h
    · obtain ⟨h1, h2⟩ := and2 h
      obtain ⟨h2, h3⟩ := and2 h2
      obtain ⟨l1, l2, l3⟩ := l.u t g h3
      refine ⟨tl_cons h1 (x.u t g h2) l1, pal_cons h1 (x.u t g h2) l2, ?_⟩
      rw [List.all_cons, h1, l3]; rfl
    · cases h
def kN : NK where
  den := lNil
  chk _ _ a := match a with
    | [] => true
    | _ => false
  ok tb G P w mg base k cal c E X a t g h := by
    dsimp only at h
    split at h
    · exact pkl_nil
    · cases h
def kC (x : NE) (l : NK) : NK where
  den := lCons x.den l.den
  chk tb c a := match a with
    | ⟨_, e, _⟩ :: es => x.chk tb c e && l.chk tb c es
    | _ => false
  ok tb G P w mg base k cal c E X a t g h := by
    dsimp only at h
    split at h
    · obtain ⟨h2, h3⟩ := and2 h
      exact pkl_cons (x.u t g h2) (l.u t g h3)
    · cases h
/-! ### tests -/
def plainT : Expr → Bool
  | .UnaryOp .Not _ _ => false
  | .BoolOp .. => false
  | .IfExp .. => false
  | .Compare .. => false
  | _ => true
theorem plainT_of {e : Expr} (h : plainT e = true) (env : Env) : ∀ whole, isTrue e env whole = (do let v ← whole; standAt e.pos; holding [v] (truthy v)) := by
  cases e with
  | UnaryOp op a p => cases op <;> first | (intro whole; rfl) | cases h
  | BoolOp => cases h
  | IfExp => cases h
  | Compare => cases h
  | _ => intro whole; rfl
def tOf (x : NE) : NT where
  den := x.den
  chk tb c a := plainT a && x.chk tb c a
  ok tb G P w mg base k cal c E X a t g h := by
    obtain ⟨h1, h2⟩ := and2 h
    exact tt_of g (x.u t g h2) (plainT_of h1 X.env)
def tNot (x : NT) : NT where
  den := cNot x.den
  chk tb c a := match a with
    | .UnaryOp .Not l _ => x.chk tb c l
    | _ => false
  ok tb G P w mg base k cal c E X a t g h := by
    dsimp only at h
    split at h
    · exact tt_not (x.u t g h)
    · cases h
def pOne (x : NT) : NP where
  den := x.den
  chk tb c a := match a with
    | .BoolOp _ [l] _ => x.chk tb c l
    | _ => false
  ok tb G P w mg base k cal c E X a t g h := by
    dsimp only at h
    split at h
    · exact tw_one (x.u t g h)
    · cases h
def pAnd (x : NT) (y : NP) : NP where
  den := cAnd x.den y.den
  chk tb c a := match a with
    | .BoolOp .And (l :: m :: r) pos => x.chk tb c l && y.chk tb c (.BoolOp .And (m :: r) pos)
    | _ => false
  ok tb G P w mg base k cal c E X a t g h := by
    dsimp only at h
    split at h
    · obtain ⟨h1, h2⟩ := and2 h
      exact tw_and (x.u t g h1) (y.u t g h2)
    · cases h
def pOr (x : NT) (y : NP) : NP where
  den := cOr x.den y.den
  chk tb c a := match a with
    | .BoolOp .Or (l :: m :: r) pos => x.chk tb c l && y.chk tb c (.BoolOp .Or (m :: r) pos)
    | _ => false
  ok tb G P w mg base k cal c E X a t g h := by
    dsimp only at h
    split at h
    · obtain ⟨h1, h2⟩ := and2 h
      exact tw_or (x.u t g h1) (y.u t g h2)
    · cases h
def tBl (x : NP) : NT where
  den := x.den
  chk tb c a := x.chk tb c a
  ok tb G P w mg base k cal c E X a t g h := (x.u t g h).pt
def tCmp (o : C2) (x y : NE) : NT where
  den := c2 o.p x.den y.den
  chk tb c a := match a with
    | .Compare l [op] [r] _ => decide (op = o.op) && (!(behindInMarks op r) && (x.chk tb c l && y.chk tb c r))
    | _ => false
  ok tb G P w mg base k cal c E X a t g h := by
    dsimp only at h
    split at h
    · obtain ⟨h1, h2⟩ := and2 h
      obtain ⟨h0, h20⟩ := and2 h2
      obtain ⟨h21, h3⟩ := and2 h20
      cases dcd h1
      exact tt_cmp o.yes (o.ok g) (x.u t g h21) (y.u t g h3) (by simpa using h0)
    · cases h
def tChain (o q : C2) (x y z : NE) : NT where
  den := cChain o.p q.p x.den y.den z.den
  chk tb c a := match a with
    | .Compare l [op, op2] [m, r] _ => (decide (op = o.op) && decide (op2 = q.op)) && (!(lastMarks [op, op2] [m, r]) && (x.chk tb c l && (y.chk tb c m && z.chk tb c r)))
    | _ => false
  ok tb G P w mg base k cal c E X a t g h := by
    dsimp only at h
    split at h
    · obtain ⟨h1, h2⟩ := and2 h
      obtain ⟨e1, e2⟩ := and2 h1
      obtain ⟨h0, h20⟩ := and2 h2
      obtain ⟨h21, h30⟩ := and2 h20
      obtain ⟨h31, h4⟩ := and2 h30
      cases dcd e1
      cases dcd e2
      exact tt_chain o.yes q.yes (o.ok g) (q.ok g) (x.u t g h21) (y.u t g h31) (z.u t g h4) (by simpa using h0)
    · cases h
section
variable {G : Fix} {P : Program} {w : World} {mg : Str → Option Value} {base : Heap} {k : Nat} {c : SC} {E : EXK} {cal : Cal} {X : Cx}
theorem rB_bl {a : ES} {p : P1} {ρ : List EV} {st : Sto} (hp : ∀ v st v' st', p v st = .ok v' st' → ∃ b, v' = .b b) : ∀ v st', c1 p a cal ρ st = .ok v st' → ∃ b, v = .b b := fun v st' h => by
  have h : rB (a cal ρ st) p = .ok v st' := h
  obtain ⟨x, st1, _, e⟩ := rB_ok h
  exact hp _ _ _ _ e
theorem okB_bl {st : Sto} {b : B3} {v : EV} {st' : Sto} (h : okB st b = .ok v st') : ∃ z, v = .b z := by
  cases b with
  | t => injection h with h1 h2; exact ⟨true, h1.symm⟩
  | f => injection h with h1 h2; exact ⟨false, h1.symm⟩
  | x => cases h
theorem tt_isN {a b : Expr} {ma : ES} {pos : Pos} (ha : PE X a (T G E cal ma)) (hb : PE X b (tC .non)) (hm : behindInMarks .Is b = false) : PT X (.Compare a [.Is] [b] pos) (TT' G E cal (c1 pIsN ma)) :=
  (pt_cmpR op_isN ha hb hm).impL fun σ H Q ⟨μ, ρ, st, s, r, h⟩ => by
    have h := PostT.bl h (rB_bl fun v st v' st' e => okB_bl e)
    exact (T.one ⟨μ, ρ, st, s, r, h⟩).imp fun x H1 ⟨μ, st, v, s, r, h⟩ => by
      obtain ⟨z, e, q⟩ := okB_cases (R' := True) h s
      refine ⟨rfl, ?_⟩
      rw [isN_ok (st := st) r e]
      exact q
theorem tt_isnN {a b : Expr} {ma : ES} {pos : Pos} (ha : PE X a (T G E cal ma)) (hb : PE X b (tC .non)) (hm : behindInMarks .IsNot b = false) : PT X (.Compare a [.IsNot] [b] pos) (TT' G E cal (c1 pIsnN ma)) :=
  (pt_cmpR op_notN ha hb hm).impL fun σ H Q ⟨μ, ρ, st, s, r, h⟩ => by
    have h := PostT.bl h (rB_bl fun v st v' st' e => okB_bl e)
    exact (T.one ⟨μ, ρ, st, s, r, h⟩).imp fun x H1 ⟨μ, st, v, s, r, h⟩ => by
      obtain ⟨z, e, q⟩ := okB_cases (R' := True) h s
      refine ⟨rfl, ?_⟩
      have e1 : isN v = .of (!z) := by
        cases hv : isN v with
        | f => rw [hv] at e; rw [← of_inj (a := true) e]; rfl
        | t => rw [hv] at e; rw [← of_inj (a := false) e]; rfl
        | x => rw [hv] at e; cases z <;> cases e
      have e2 := isN_ok (st := st) r e1
      have e3 : (!(decide (x = .non))) = z := by rw [e2]; simp
      have e4 : decide (x ≠ .non) = z := by rw [← e3]; simp
      first | exact e3 ▸ q | exact e4 ▸ q | (rw [e3]; exact q) | (rw [e4]; exact q)
end
def tIs (x : NE) : NT where
  den := c1 pIsN x.den
  chk tb c a := match a with
    | .Compare l [.Is] [.Constant .none _ _] _ => x.chk tb c l
    | _ => false
  ok tb G P w mg base k cal c E X a t g h := by
    dsimp only at h
    split at h
    · exact tt_isN (x.u t g h) pe_non rfl
    · cases h
def tIsn (x : NE) : NT where
  den := c1 pIsnN x.den
  chk tb c a := match a with
    | .Compare l [.IsNot] [.Constant .none _ _] _ => x.chk tb c l
    | _ => false
  ok tb G P w mg base k cal c E X a t g h := by
    dsimp only at h
    split at h
    · exact tt_isnN (x.u t g h) pe_non rfl
    · cases h
def tNo : NT where
  den := cNo
  chk _ _ _ := true
  ok tb G P w mg base k cal c E X a t g h := ⟨fun pins s σ H Q I ⟨μ, ρ, st, _, _, q⟩ => q.elim⟩
def qN : NQ where
  den := []
  le := by decide
  chk _ _ a := match a with
    | [] => true
    | _ => false
  ok tb G P w mg base k cal c X a t g h := by
    dsimp only at h
    split at h
    · exact pts_nil
    · cases h
def qO (x : NT) : NQ where
  den := [x.den]
  le := by simp
  chk tb c a := match a with
    | [e] => x.chk tb c e
    | _ => false
  ok tb G P w mg base k cal c X a t g h := by
    dsimp only at h
    split at h
    · exact pts_one (x.u t g h)
    · cases h
end L3

set_option Elab.async false
set_option linter.all false
set_option maxRecDepth 100000
set_option maxHeartbeats 4000000
/-! L3: nodes: targets, sources of loops, comprehensions, statements, blocks. -/
noncomputable section
namespace L3
open PySem PySem.Spec PyProof.Rows L2

/-! ### targets -/
def locB (c : SC) (x : Str) : Bool := decide (c.sc.names.lookup x = some .local) || decide (c.sc.names.lookup x = some .cell)
theorem locB_of {c : SC} {x : Str} (h : locB c x = true) : Loc c.sc x := by
  rcases Bool.or_eq_true_iff.mp h with h | h
  · exact .inl (dcd h)
  · exact .inr (dcd h)
def fnB (c : SC) (x : Str) : Bool := (match c.blk with
  | none => true
  | some s => s.names.lookup x == some .cell) || decide (c.sc.names.lookup x = some .local)
theorem fnB_of {G P w mg base k c E X} (g : Good G P w mg base k c E X) {x : Str} (h : fnB c x = true) : X.fn x = true ∨ c.sc.names.lookup x = some .local := by
  rcases Bool.or_eq_true_iff.mp h with h | h
  · left; rw [g.fn]; exact h
  · exact .inr (dcd h)
def gVn (i : Nat) : NG where
  den := gV i
  sl := [i]
  pu := true
  hp _ := pureV i
  nr := noRt_of (pureV i)
  chk _ c a := match a with
    | .Name x _ => decide (c.N[i]? = some x) && (locB c x && fnB c x)
    | _ => false
  ok tb G P w mg base k cal c E X a t g h := by
    dsimp only at h
    split at h
    · obtain ⟨h1, h2⟩ := and2 h
      obtain ⟨h2, h3⟩ := and2 h2
      exact ⟨pg_v g (dcd h1) (locB_of h2) (fnB_of g h3), rfl⟩
    · cases h
def gTp (m : NM) : NG where
  den := gTup m.den
  sl := m.sl
  pu := true
  hp _ := pureTup m.hp
  nr := noRt_of (pureTup m.hp)
  chk tb c a := match a with
    | .Tuple es _ _ => m.chk tb c es
    | _ => false
  ok tb G P w mg base k cal c E X a t g h := by
    dsimp only at h
    split at h
    · obtain ⟨h1, h2, h3⟩ := m.u t g h
      exact ⟨pg_t g h2 (by rw [h3]; exact m.hp) h1, rfl⟩
    · cases h
def gSb (x y : NE) : NG where
  den := gSub x.den y.den
  sl := []
  pu := false
  hp e := by cases e
  nr := noRt_sub
  chk tb c a := match a with
    | .Subscript o i _ => !(isSlice i) && (x.chk tb c o && y.chk tb c i)
    | _ => false
  ok tb G P w mg base k cal c E X a t g h := by
    dsimp only at h
    split at h
    · obtain ⟨h1, h2⟩ := and2 h
      obtain ⟨h2, h3⟩ := and2 h2
      exact ⟨pg_ix (set3_ok g) (by simpa using h1) (x.u t g h2) (y.u t g h3), rfl⟩
    · cases h
def gN : NM where
  den := gNil
  sl := []
  n := 0
  hp := pureNil
  chk _ _ a := match a with
    | [] => true
    | _ => false
  ok tb G P w mg base k cal c E X a t g h := by
    dsimp only at h
    split at h
    · exact ⟨pgl_nil, rfl, rfl⟩
    · cases h
def gC (x : NG) (hx : x.pu = true) (m : NM) : NM where
  den := gCons x.den m.den
  sl := x.sl ++ m.sl
  n := m.n + 1
  hp := pureCons (x.hp hx) m.hp
  chk tb c a := match a with
    | e :: es => x.chk tb c e && m.chk tb c es
    | _ => false
  ok tb G P w mg base k cal c E X a t g h := by
    dsimp only at h
    split at h
    · obtain ⟨h1, h2⟩ := and2 h
      obtain ⟨e1, e2⟩ := x.u t g h1
      obtain ⟨l1, l2, l3⟩ := m.u t g h2
      refine ⟨pgl_cons e2 (x.hp hx) e1 l1, ?_, ?_⟩
      · rw [List.all_cons, e2, l2]; rfl
      · rw [List.length_cons, l3]
    · cases h

/-! ### what loops walk -/
def notSet : Expr → Bool
  | .Set .. => false
  | _ => true
theorem notSet_of {e : Expr} (h : notSet e = true) (env : Env) (x : Value) : foldedSetIterable e env x = pure x := by
  cases e with
  | Set => cases h
  | _ => rfl
def wX (x : NE) : NW where
  den := wE x.den
  chk tb c a := notSet a.2 && x.chk tb c a.2
  ok tb G P w mg base k cal c E X a t g h := by
    obtain ⟨h1, h2⟩ := and2 h
    exact ⟨ti_e g (x.u t g h2), notSet_of h1⟩
def wR1 (x : NE) : NW where
  den := wRng (cK (.i 0)) x.den
  chk tb c a := match a.2 with
    | .Call (.Name z _) [e] [] _ => decide (z = "range") && (bltB tb c z && (noStar e && x.chk tb c e))
    | _ => false
  ok tb G P w mg base k cal c E X a t g h := by
    obtain ⟨tg, a⟩ := a
    dsimp only at h ⊢
    split at h
    · obtain ⟨h1, h2⟩ := and2 h
      obtain ⟨h2, h3⟩ := and2 h2
      obtain ⟨h3, h4⟩ := and2 h3
      obtain ⟨b1, b2, b3⟩ := bltB_of h2
      cases dcd h1
      exact ⟨ti_rng1 g b1 (t.blt _ b3) h3 (x.u t g h4), notSet_of rfl⟩
    · cases h
def wR2 (x y : NE) : NW where
  den := wRng x.den y.den
  chk tb c a := match a.2 with
    | .Call (.Name z _) [d, e] [] _ => decide (z = "range") && (bltB tb c z && ((noStar d && noStar e) && (x.chk tb c d && y.chk tb c e)))
    | _ => false
  ok tb G P w mg base k cal c E X a t g h := by
    obtain ⟨tg, a⟩ := a
    dsimp only at h ⊢
    split at h
    · obtain ⟨h1, h2⟩ := and2 h
      obtain ⟨h2, h3⟩ := and2 h2
      obtain ⟨h3, h4⟩ := and2 h3
      obtain ⟨n1, n2⟩ := and2 h3
      obtain ⟨h4, h5⟩ := and2 h4
      obtain ⟨b1, b2, b3⟩ := bltB_of h2
      cases dcd h1
      exact ⟨ti_rng2 g b1 (t.blt _ b3) n1 n2 (x.u t g h4) (y.u t g h5), notSet_of rfl⟩
    · cases h
def wN1 (x : NE) : NW where
  den := wEn x.den (cK (.i 0))
  chk tb c a := match a.1, a.2 with
    | .Tuple _ _ _, .Call (.Name z _) [e] [] _ => decide (z = "enumerate") && (bltB tb c z && (noStar e && x.chk tb c e))
    | _, _ => false
  ok tb G P w mg base k cal c E X a t g h := by
    obtain ⟨tg, a⟩ := a
    dsimp only at h ⊢
    split at h
    · obtain ⟨h1, h2⟩ := and2 h
      obtain ⟨h2, h3⟩ := and2 h2
      obtain ⟨h3, h4⟩ := and2 h3
      obtain ⟨b1, b2, b3⟩ := bltB_of h2
      cases dcd h1
      exact ⟨ti_en1 g b1 (t.blt _ b3) h3 (x.u t g h4), notSet_of rfl⟩
    · cases h
def wN2 (x y : NE) : NW where
  den := wEn x.den y.den
  chk tb c a := match a.1, a.2 with
    | .Tuple _ _ _, .Call (.Name z _) [d, e] [] _ => decide (z = "enumerate") && (bltB tb c z && ((noStar d && noStar e) && (x.chk tb c d && y.chk tb c e)))
    | _, _ => false
  ok tb G P w mg base k cal c E X a t g h := by
    obtain ⟨tg, a⟩ := a
    dsimp only at h ⊢
    split at h
    · obtain ⟨h1, h2⟩ := and2 h
      obtain ⟨h2, h3⟩ := and2 h2
      obtain ⟨h3, h4⟩ := and2 h3
      obtain ⟨n1, n2⟩ := and2 h3
      obtain ⟨h4, h5⟩ := and2 h4
      obtain ⟨b1, b2, b3⟩ := bltB_of h2
      cases dcd h1
      exact ⟨ti_en2 g b1 (t.blt _ b3) n1 n2 (x.u t g h4) (y.u t g h5), notSet_of rfl⟩
    · cases h
def wZ2 (x y : NE) : NW where
  den := wZip (lCons x.den (lCons y.den lNil))
  chk tb c a := match a.1, a.2 with
    | .Tuple _ _ _, .Call (.Name z _) [d, e] [] _ => decide (z = "zip") && (bltB tb c z && ((noStar d && noStar e) && (x.chk tb c d && y.chk tb c e)))
    | _, _ => false
  ok tb G P w mg base k cal c E X a t g h := by
    obtain ⟨tg, a⟩ := a
    dsimp only at h ⊢
    split at h
    · obtain ⟨h1, h2⟩ := and2 h
      obtain ⟨h2, h3⟩ := and2 h2
      obtain ⟨h3, h4⟩ := and2 h3
      obtain ⟨n1, n2⟩ := and2 h3
      obtain ⟨h4, h5⟩ := and2 h4
      obtain ⟨b1, b2, b3⟩ := bltB_of h2
      cases dcd h1
      exact ⟨ti_zip g b1 (t.blt _ b3) n1 n2 (x.u t g h4) (y.u t g h5), notSet_of rfl⟩
    · cases h

/-! ### comprehensions -/
def ownOf (c : SC) (is : List Nat) : List (Str × Nat) := is.map fun i => ((c.N[i]?).getD "", i)
theorem own_map (c : SC) : ∀ is : List Nat, (ownOf c is).map (·.2) = is
  | [] => rfl
  | i :: is => congrArg (i :: ·) (own_map c is)
def blkChk (c : SC) (s : Scope) (is : List Nat) : Bool :=
  decide (s.kind = .function) && ((s.names.all fun y => decide (s.names.lookup y.1 = some y.2)) && ((is.all fun i => decide (i < c.N.length)) &&
    ((s.names.all fun y => !(decide (y.2 = .free)) || (decide (c.sc.names.lookup y.1 = some .cell) || decide (c.sc.names.lookup y.1 = some .free))) &&
      (s.names.all fun y => !(decide (y.2 = .local) || decide (y.2 = .cell)) || (((ownOf c is).map (·.1)).contains y.1 || !(c.N.contains y.1))))))
theorem blk_of {c : SC} {s : Scope} {is : List Nat} (h : blkChk c s is = true) : BlkOk c.N c.sc s (ownOf c is) := by
  obtain ⟨h1, h2⟩ := and2 h
  obtain ⟨h2, h3⟩ := and2 h2
  obtain ⟨h3, h4⟩ := and2 h3
  obtain ⟨h4, h5⟩ := and2 h4
  refine ⟨dcd h1, fun y hy => dcd (List.all_eq_true.mp h2 y hy), fun p hp => ?_, fun y hy e => ?_, fun y hy e => ?_⟩
  · obtain ⟨i, hi, rfl⟩ := List.mem_map.mp hp
    have l : i < c.N.length := dcd (List.all_eq_true.mp h3 i hi)
    show c.N[i]? = some ((c.N[i]?).getD "")
    rw [List.getElem?_eq_getElem l]
    rfl
  · have q := List.all_eq_true.mp h4 y hy
    rw [decide_eq_true e] at q
    rcases Bool.or_eq_true_iff.mp (show (decide (c.sc.names.lookup y.1 = some .cell) || decide (c.sc.names.lookup y.1 = some .free)) = true from q) with q | q
    · exact .inl (dcd q)
    · exact .inr (dcd q)
  · have q := List.all_eq_true.mp h5 y hy
    have z : (decide (y.2 = NameKind.local) || decide (y.2 = NameKind.cell)) = true := by
      rcases e with e | e
      · rw [decide_eq_true e]; rfl
      · rw [decide_eq_true e]; exact Bool.or_true _
    rw [z] at q
    rcases Bool.or_eq_true_iff.mp (show (((ownOf c is).map (·.1)).contains y.1 || !(c.N.contains y.1)) = true from q) with q | q
    · exact .inl (List.contains_iff_mem.mp q)
    · exact .inr fun m => by
        rw [List.contains_iff_mem.mpr m] at q
        cases q
def subB (a b : List Nat) : Bool := a.all fun i => b.contains i
theorem subB_of {a b : List Nat} (h : subB a b = true) : ∀ i ∈ a, i ∈ b := fun i hi => List.contains_iff_mem.mp (List.all_eq_true.mp h i hi)
/-- one clause -/
def lc1 (g : NG) (w : NW) (q : NQ) (e : NE) (is : List Nat) (tb : TB) (c : SC) (elt : Expr) (gs : List Comprehension) (s : Scope) : Bool := match gs with
  | [⟨tg, iter, ifs, as⟩] => (decide (as = 0) && (blkChk c s is && subB g.sl is)) && (w.chk tb c (tg, iter) && (g.chk tb (blkC c s) tg && (q.chk tb (blkC c s) ifs && e.chk tb (blkC c s) elt)))
  | _ => false
/-- two -/
def lc2 (g : NG) (w : NW) (q : NQ) (g1 : NG) (w1 : NW) (q1 : NQ) (e : NE) (is1 is : List Nat) (tb : TB) (c : SC) (elt : Expr) (gs : List Comprehension) (s : Scope) : Bool := match gs with
  | [⟨tg, iter, ifs, as⟩, ⟨tg1, iter1, ifs1, as1⟩] => ((decide (as = 0) && decide (as1 = 0)) && (blkChk c s is && (subB g.sl is && (subB g1.sl is1 && subB is1 is)))) &&
    (w.chk tb c (tg, iter) && (g.chk tb (blkC c s) tg && (q.chk tb (blkC c s) ifs && (w1.chk tb (blkC c s) (tg1, iter1) && (g1.chk tb (blkC c s) tg1 && (q1.chk tb (blkC c s) ifs1 && e.chk tb (blkC c s) elt))))))
  | _ => false
theorem lc1_of {ng : NG} {nw : NW} {nq : NQ} {ne : NE} {is : List Nat} {tb G P w mg base k cal c E X elt gs s} (t : OkT tb G P w mg base k cal) (g : Good G P w mg base k c E X) (h : lc1 ng nw nq ne is tb c elt gs s = true) :
    ∃ tg iter ifs, gs = [⟨tg, iter, ifs, 0⟩] ∧ (∀ i ∈ ng.sl, i ∈ (ownOf c is).map (·.2)) ∧ BlkOk c.N c.sc s (ownOf c is) ∧ PI X tg iter (TIw G E cal nw.den) ∧ Comp1 G P w mg base k c cal X elt tg ifs s ng.den nq.den ne.den ng.sl ∧ ∀ x, foldedSetIterable iter X.env x = pure x := by
  unfold lc1 at h
  split at h
  · obtain ⟨h1, h2⟩ := and2 h
    obtain ⟨h1, h3⟩ := and2 h1
    obtain ⟨h3, h4⟩ := and2 h3
    obtain ⟨a1, h2⟩ := and2 h2
    obtain ⟨a2, h2⟩ := and2 h2
    obtain ⟨a3, a4⟩ := and2 h2
    cases dcd h1
    obtain ⟨w1, w2⟩ := nw.u t g a1
    exact ⟨_, _, _, rfl, by rw [own_map]; exact subB_of h4, blk_of h3, w1, ⟨fun X' g' => (ng.u t g' a2).1, fun X' g' => nq.u t g' a3, fun X' g' => ne.u t g' a4⟩, w2 _⟩
  · cases h
theorem lc2_of {ng : NG} {nw : NW} {nq : NQ} {ng1 : NG} {nw1 : NW} {nq1 : NQ} {ne : NE} {is1 is : List Nat} {tb G P w mg base k cal c E X elt gs s} (t : OkT tb G P w mg base k cal) (g : Good G P w mg base k c E X) (h : lc2 ng nw nq ng1 nw1 nq1 ne is1 is tb c elt gs s = true) :
    ∃ tg iter ifs tg1 iter1 ifs1, gs = [⟨tg, iter, ifs, 0⟩, ⟨tg1, iter1, ifs1, 0⟩] ∧ (∀ i ∈ ng.sl, i ∈ (ownOf c is).map (·.2)) ∧ (∀ i ∈ ng1.sl, i ∈ is1) ∧ (∀ i ∈ is1, i ∈ (ownOf c is).map (·.2)) ∧ BlkOk c.N c.sc s (ownOf c is) ∧ PI X tg iter (TIw G E cal nw.den) ∧
      Comp2 G P w mg base k c cal X elt tg ifs tg1 iter1 ifs1 s ng.den nq.den ng1.den nw1.den nq1.den ne.den ng.sl ng1.sl ∧ (∀ x, foldedSetIterable iter X.env x = pure x) ∧ ∀ env x, foldedSetIterable iter1 env x = pure x := by
  unfold lc2 at h
  split at h
  · obtain ⟨h1, h2⟩ := and2 h
    obtain ⟨h1, h3⟩ := and2 h1
    obtain ⟨e1, e2⟩ := and2 h1
    obtain ⟨h3, h4⟩ := and2 h3
    obtain ⟨h4, h5⟩ := and2 h4
    obtain ⟨h5, h6⟩ := and2 h5
    obtain ⟨a1, h2⟩ := and2 h2
    obtain ⟨a2, h2⟩ := and2 h2
    obtain ⟨a3, h2⟩ := and2 h2
    obtain ⟨a4, h2⟩ := and2 h2
    obtain ⟨a5, h2⟩ := and2 h2
    obtain ⟨a6, a7⟩ := and2 h2
    cases dcd e1
    cases dcd e2
    obtain ⟨w1, w2⟩ := nw.u t g a1
    refine ⟨_, _, _, _, _, _, rfl, by rw [own_map]; exact subB_of h4, subB_of h5, by rw [own_map]; exact subB_of h6, blk_of h3, w1,
      ⟨fun X' g' => (ng.u t g' a2).1, fun X' g' => nq.u t g' a3, fun X' g' => (nw1.u t g' a4).1, fun X' g' => (ng1.u t g' a5).1, fun X' g' => nq1.u t g' a6, fun X' g' => ne.u t g' a7⟩, w2 _, ?_⟩
    exact (nw1.u t (good_blk g s X.s_0 X.H_0 0 [] []) a4).2
  · cases h
def nComp (g : NG) (w : NW) (q : NQ) (e : NE) (is : List Nat) : NE where
  den := cComp g.den w.den q.den (kElt e.den) is
  chk tb c a := match a with
    | .ListComp elt gs s _ => lc1 g w q e is tb c elt gs s
    | _ => false
  ok tb G P w' mg base k cal c E X a t gd h := by
    dsimp only at h
    split at h
    · obtain ⟨tg, iter, ifs, rfl, h1, h2, h3, h4, h5⟩ := lc1_of t gd h
      show PE X _ (T G E cal (cComp g.den w.den q.den (kElt e.den) is))
      rw [← own_map c is]
      exact t_comp1 gd h1 q.le h2 h3 h4 h5
    · cases h
def nComp2 (g : NG) (w : NW) (q : NQ) (g1 : NG) (w1 : NW) (q1 : NQ) (e : NE) (is1 is : List Nat) : NE where
  den := cComp g.den w.den q.den (kFor g1.den w1.den q1.den (kElt e.den) is1) is
  chk tb c a := match a with
    | .ListComp elt gs s _ => lc2 g w q g1 w1 q1 e is1 is tb c elt gs s
    | _ => false
  ok tb G P w' mg base k cal c E X a t gd h := by
    dsimp only at h
    split at h
    · obtain ⟨tg, iter, ifs, tg1, iter1, ifs1, rfl, h1, h2, h3, h4, h5, h6, h7, h8⟩ := lc2_of t gd h
      show PE X _ (T G E cal (cComp g.den w.den q.den (kFor g1.den w1.den q1.den (kElt e.den) is1) is))
      rw [← own_map c is]
      exact t_comp2 gd h1 h2 h3 q.le q1.le h4 h5 h6 h7 h8
    · cases h

/-! ### statements -/
def swChk (c : SC) (tg v : Expr) : Bool := match tg with
  | .Name y py => noComp v || (match v with
    | .ListComp _ _ s p => decide (c.sc.kind = .function) && !(swB c.sc s y (py.line == p.line))
    | _ => false)
  | .Tuple ts _ _ => match v with
    | .Tuple vs _ _ => decide (c.sc.kind = .function) && decide (swp c.sc ts vs = some none)
    | _ => !(isTup v)
  | .Subscript .. => true
  | _ => false
theorem swChk_of {G P w mg base k c E X} (g : Good G P w mg base k c E X) {tg v : Expr} {l : Nat} (h : swChk c tg v = true) : swapsWith v (some tg) l X.env = pure false ∧ swappedStores [tg] v X.env = pure none := by
  unfold swChk at h
  split at h
  · rcases Bool.or_eq_true_iff.mp h with h | h
    · exact ⟨swaps_no h _ _ _, st_name⟩
    · split at h
      · obtain ⟨h1, h2⟩ := and2 h
        rw [sw_comp (by rw [g.sc]; exact dcd h1), g.sc]
        rw [show swB c.sc _ _ _ = false by simpa using h2]
        exact ⟨rfl, st_name⟩
      · cases h
  · split at h
    · obtain ⟨h1, h2⟩ := and2 h
      exact ⟨sw_tup, swp_ok (by rw [g.sc]; exact dcd h1) (by rw [g.sc]; exact dcd h2)⟩
    · exact ⟨sw_tup, st_tup (by simpa using h)⟩
  · exact ⟨sw_sub, st_sub⟩
  · cases h
def sSt (x : NG) (e : NE) : NS where
  den := sSet x.den e.den
  chk tb c a := match a with
    | .Assign [tg] v _ => (x.chk tb c tg && e.chk tb c v) && swChk c tg v
    | _ => false
  ok tb G P w mg base k cal c E X a t g h := by
    dsimp only at h
    split at h
    · obtain ⟨h1, h2⟩ := and2 h
      obtain ⟨h1, h3⟩ := and2 h1
      obtain ⟨e1, e2⟩ := x.u t g h1
      obtain ⟨s1, s2⟩ := swChk_of g h2
      exact ts_set e2 x.nr (e.u t g h3) e1 s1 s2
    · cases h
/-- x = [ .. for .. ] -/
def sLc (i : Nat) (g : NG) (w : NW) (q : NQ) (e : NE) (is : List Nat) : NS where
  den := sSet (gV i) (cComp g.den w.den q.den (kElt e.den) is)
  chk tb c a := match a with
    | .Assign [.Name y py] (.ListComp elt gs s p) _ => ((decide (c.N[i]? = some y) && decide (c.sc.names.lookup y = some .local)) && (decide (c.sc.kind = .function) && swB c.sc s y (py.line == p.line))) && lc1 g w q e is tb c elt gs s
    | _ => false
  ok tb G P w' mg base k cal c E X a t gd h := by
    dsimp only at h
    split at h
    · obtain ⟨h0, h⟩ := and2 h
      obtain ⟨a1, a2⟩ := and2 h0
      obtain ⟨a3, a4⟩ := and2 a1
      obtain ⟨a5, a6⟩ := and2 a2
      obtain ⟨tg, iter, ifs, rfl, h1, h2, h3, h4, h5⟩ := lc1_of t gd h
      show PS X _ (TS' G E cal (sSet (gV i) (cComp g.den w.den q.den (kElt e.den) is)))
      rw [← own_map c is]
      exact ts_comp1 gd h1 q.le h2 (dcd a3) (dcd a4) (dcd a5) a6 h3 h4 h5
    · cases h
def sLc2 (i : Nat) (g : NG) (w : NW) (q : NQ) (g1 : NG) (w1 : NW) (q1 : NQ) (e : NE) (is1 is : List Nat) : NS where
  den := sSet (gV i) (cComp g.den w.den q.den (kFor g1.den w1.den q1.den (kElt e.den) is1) is)
  chk tb c a := match a with
    | .Assign [.Name y py] (.ListComp elt gs s p) _ => ((decide (c.N[i]? = some y) && decide (c.sc.names.lookup y = some .local)) && (decide (c.sc.kind = .function) && swB c.sc s y (py.line == p.line))) && lc2 g w q g1 w1 q1 e is1 is tb c elt gs s
    | _ => false
  ok tb G P w' mg base k cal c E X a t gd h := by
    dsimp only at h
    split at h
    · obtain ⟨h0, h⟩ := and2 h
      obtain ⟨a1, a2⟩ := and2 h0
      obtain ⟨a3, a4⟩ := and2 a1
      obtain ⟨a5, a6⟩ := and2 a2
      obtain ⟨tg, iter, ifs, tg1, iter1, ifs1, rfl, h1, h2, h3, h4, h5, h6, h7, h8⟩ := lc2_of t gd h
      show PS X _ (TS' G E cal (sSet (gV i) (cComp g.den w.den q.den (kFor g1.den w1.den q1.den (kElt e.den) is1) is)))
      rw [← own_map c is]
      exact ts_comp2 gd h1 h2 h3 q.le q1.le h4 (dcd a3) (dcd a4) (dcd a5) a6 h5 h6 h7 h8
    · cases h
def lo (c : SC) (i : Nat) (x : Str) : Bool := decide (c.N[i]? = some x) && decide (c.sc.names.lookup x = some .local)
theorem lo_of {c i x} (h : lo c i x = true) : c.N[i]? = some x ∧ c.sc.names.lookup x = some .local := ⟨dcd (and2 h).1, dcd (and2 h).2⟩
/-- x, y = a, b where the stores are swapped -/
def sP2 (i j : Nat) (x y : NE) : NS where
  den := sSet (gTup (gCons (gV i) (gCons (gV j) gNil))) (cTup (lCons x.den (lCons y.den lNil)))
  chk tb c a := match a with
    | .Assign [.Tuple [.Name n1 p1, .Name n2 p2] _ _] (.Tuple [u, v] _ _) _ => ((lo c i n1 && lo c j n2) && (!(decide (i = j)) && decide (c.sc.kind = .function))) && (decide (swp c.sc [.Name n1 p1, .Name n2 p2] [u, v] = some (some [n1, n2])) && ((noStar u && noStar v) && (x.chk tb c u && y.chk tb c v)))
    | _ => false
  ok tb G P w mg base k cal c E X a t g h := by
    dsimp only at h
    split at h
    · obtain ⟨h1, h2⟩ := and2 h
      obtain ⟨h1, h3⟩ := and2 h1
      obtain ⟨l1, l2⟩ := and2 h1
      obtain ⟨h3, h4⟩ := and2 h3
      obtain ⟨h2, h5⟩ := and2 h2
      obtain ⟨h5, h6⟩ := and2 h5
      obtain ⟨n1, n2⟩ := and2 h5
      obtain ⟨h6, h7⟩ := and2 h6
      exact ts_par2 g (lo_of l1).1 (lo_of l2).1 (by simpa using h3) (lo_of l1).2 (lo_of l2).2 (dcd h4) (dcd h2) n1 n2 (x.u t g h6) (y.u t g h7)
    · cases h
def sP3 (i j l : Nat) (x y z : NE) : NS where
  den := sSet (gTup (gCons (gV i) (gCons (gV j) (gCons (gV l) gNil)))) (cTup (lCons x.den (lCons y.den (lCons z.den lNil))))
  chk tb c a := match a with
    | .Assign [.Tuple [.Name n1 p1, .Name n2 p2, .Name n3 p3] _ _] (.Tuple [u, v, v2] _ _) _ => ((lo c i n1 && (lo c j n2 && lo c l n3)) && ((!(decide (i = j)) && (!(decide (i = l)) && !(decide (j = l)))) && decide (c.sc.kind = .function))) &&
      (decide (swp c.sc [.Name n1 p1, .Name n2 p2, .Name n3 p3] [u, v, v2] = some (some [n1, n2, n3])) && ((noStar u && (noStar v && noStar v2)) && (x.chk tb c u && (y.chk tb c v && z.chk tb c v2))))
    | _ => false
  ok tb G P w mg base k cal c E X a t g h := by
    dsimp only at h
    split at h
    · obtain ⟨h1, h2⟩ := and2 h
      obtain ⟨h1, h3⟩ := and2 h1
      obtain ⟨l1, l2⟩ := and2 h1
      obtain ⟨l2, l3⟩ := and2 l2
      obtain ⟨h3, h4⟩ := and2 h3
      obtain ⟨d1, d2⟩ := and2 h3
      obtain ⟨d2, d3⟩ := and2 d2
      obtain ⟨h2, h5⟩ := and2 h2
      obtain ⟨h5, h6⟩ := and2 h5
      obtain ⟨n1, n2⟩ := and2 h5
      obtain ⟨n2, n3⟩ := and2 n2
      obtain ⟨h6, h7⟩ := and2 h6
      obtain ⟨h7, h8⟩ := and2 h7
      exact ts_par3 g (lo_of l1).1 (lo_of l2).1 (lo_of l3).1 (by simpa using d1) (by simpa using d2) (by simpa using d3) (lo_of l1).2 (lo_of l2).2 (lo_of l3).2 (dcd h4) (dcd h2) n1 n2 n3 (x.u t g h6) (y.u t g h7) (z.u t g h8)
    · cases h
def sSt2 (x y : NG) (e : NE) : NS where
  den := sSet2 x.den y.den e.den
  chk tb c a := match a with
    | .Assign [u, v] d _ => (x.chk tb c u && y.chk tb c v) && e.chk tb c d
    | _ => false
  ok tb G P w mg base k cal c E X a t g h := by
    dsimp only at h
    split at h
    · obtain ⟨h1, h2⟩ := and2 h
      obtain ⟨h1, h3⟩ := and2 h1
      obtain ⟨e1, e2⟩ := x.u t g h1
      obtain ⟨d1, d2⟩ := y.u t g h3
      exact ts_set2 e2 d2 x.nr y.nr (e.u t g h2) e1 d1
    · cases h
structure I2 where
  op : Operator
  p : P2
  ok : ∀ {G P w mg base k c E X}, Good G P w mg base k c E X → Ip2 G E X op p
def sAu (o : I2) (i : Nat) (e : NE) : NS where
  den := sAug o.p i e.den
  chk tb c a := match a with
    | .AugAssign (.Name x _) op d _ => (decide (op = o.op) && decide (c.N[i]? = some x)) && ((locB c x && fnB c x) && e.chk tb c d)
    | _ => false
  ok tb G P w mg base k cal c E X a t g h := by
    dsimp only at h
    split at h
    · obtain ⟨h1, h2⟩ := and2 h
      obtain ⟨e1, h3⟩ := and2 h1
      obtain ⟨h4, h5⟩ := and2 h2
      obtain ⟨h6, h7⟩ := and2 h4
      cases dcd e1
      exact ts_aug g (dcd h3) (locB_of h6) (fnB_of g h7) (o.ok g) (e.u t g h5)
    · cases h
def sAuS (o : I2) (x y e : NE) : NS where
  den := sAugS o.p x.den y.den e.den
  chk tb c a := match a with
    | .AugAssign (.Subscript u v _) op d _ => (decide (op = o.op) && !(isSlice v)) && (x.chk tb c u && (y.chk tb c v && e.chk tb c d))
    | _ => false
  ok tb G P w mg base k cal c E X a t g h := by
    dsimp only at h
    split at h
    · obtain ⟨h1, h2⟩ := and2 h
      obtain ⟨e1, h3⟩ := and2 h1
      obtain ⟨h4, h5⟩ := and2 h2
      obtain ⟨h6, h7⟩ := and2 h5
      cases dcd e1
      exact ts_augS (by simpa using h3) (set3_ok g) (get2_ok g) (o.ok g) (x.u t g h4) (y.u t g h6) (e.u t g h7)
    · cases h
def sRt (e : NE) : NS where
  den := sRet e.den
  chk tb c a := match a with
    | .Return (some d) _ => e.chk tb c d
    | _ => false
  ok tb G P w mg base k cal c E X a t g h := by
    dsimp only at h
    split at h
    · exact ts_ret (e.u t g h)
    · cases h
def sRtN : NS where
  den := sRet (cK .n)
  chk tb c a := match a with
    | .Return none _ => true
    | _ => false
  ok tb G P w mg base k cal c E X a t g h := by
    dsimp only at h
    split at h
    · exact ts_retN
    · cases h
def sPs : NS where
  den := sNil
  chk tb c a := match a with
    | .Pass _ => true
    | _ => false
  ok tb G P w mg base k cal c E X a t g h := by
    dsimp only at h
    split at h
    · exact ts_pass
    · cases h
def sBk : NS where
  den := sBrk
  chk tb c a := match a with
    | .Break _ => true
    | _ => false
  ok tb G P w mg base k cal c E X a t g h := by
    dsimp only at h
    split at h
    · exact ts_brk
    · cases h
def sCt : NS where
  den := sCnt
  chk tb c a := match a with
    | .Continue _ => true
    | _ => false
  ok tb G P w mg base k cal c E X a t g h := by
    dsimp only at h
    split at h
    · exact ts_cnt
    · cases h
def sE (e : NE) : NS where
  den := sEx e.den
  chk tb c a := match a with
    | .Expr d _ => noComp d && e.chk tb c d
    | _ => false
  ok tb G P w mg base k cal c E X a t g h := by
    dsimp only at h
    split at h
    · obtain ⟨h1, h2⟩ := and2 h
      exact ts_ex h1 (e.u t g h2)
    · cases h
def sDoc : NS where
  den := sNil
  chk tb c a := match a with
    | .Expr (.Constant (.str _) _ _) _ => true
    | _ => false
  ok tb G P w mg base k cal c E X a t g h := by
    dsimp only at h
    split at h
    · exact ts_doc
    · cases h
def sIft (e : NT) (x y : NBk) : NS where
  den := sIf e.den x.den y.den
  chk tb c a := match a with
    | .If d u v _ => e.chk tb c d && (x.chk tb c u && y.chk tb c v)
    | _ => false
  ok tb G P w mg base k cal c E X a t g h := by
    dsimp only at h
    split at h
    · obtain ⟨h1, h2⟩ := and2 h
      obtain ⟨h2, h3⟩ := and2 h2
      exact ts_if (e.u t g h1) (x.u t g h2) (y.u t g h3)
    · cases h
def sW (e : NT) (x : NBk) : NS where
  den := sWhl e.den x.den
  chk tb c a := match a with
    | .While d u [] _ => e.chk tb c d && x.chk tb c u
    | _ => false
  ok tb G P w mg base k cal c E X a t g h := by
    dsimp only at h
    split at h
    · obtain ⟨h1, h2⟩ := and2 h
      exact ts_whl g (e.u t g h1) (x.u t g h2)
    · cases h
def sF (x : NG) (w : NW) (b : NBk) : NS where
  den := sFor x.den w.den b.den
  chk tb c a := match a with
    | .For tg iter u [] _ => w.chk tb c (tg, iter) && (x.chk tb c tg && b.chk tb c u)
    | _ => false
  ok tb G P w' mg base k cal c E X a t g h := by
    dsimp only at h
    split at h
    · obtain ⟨h1, h2⟩ := and2 h
      obtain ⟨h2, h3⟩ := and2 h2
      obtain ⟨w1, w2⟩ := w.u t g h1
      exact ts_for g x.nr w1 (x.u t g h2).1 (b.u t g h3) (w2 _)
    · cases h
/-- not carried -/
def sX : NS where
  den := sNo
  chk _ _ _ := true
  ok tb G P w mg base k cal c E X a t g h := ⟨fun pins s σ H D I ⟨μ, ρ, st, _, _, q⟩ => q.elim⟩
/-- the one or the other, with the same combinator -/
def sAlt (x y : NS) (e : y.den = x.den) : NS where
  den := x.den
  chk tb c a := x.chk tb c a || y.chk tb c a
  ok tb G P w mg base k cal c E X a t g h := by
    rcases Bool.or_eq_true_iff.mp h with h | h
    · exact x.u t g h
    · rw [← e]; exact y.u t g h
def bN : NBk where
  den := sNil
  chk _ _ a := match a with
    | [] => true
    | _ => false
  ok tb G P w mg base k cal c E X a t g h := by
    dsimp only at h
    split at h
    · exact ts_nil
    · cases h
def bC (x : NS) (y : NBk) : NBk where
  den := sCons x.den y.den
  chk tb c a := match a with
    | e :: es => x.chk tb c e && y.chk tb c es
    | _ => false
  ok tb G P w mg base k cal c E X a t g h := by
    dsimp only at h
    split at h
    · obtain ⟨h1, h2⟩ := and2 h
      exact ts_cons (x.u t g h1) (y.u t g h2)
    · cases h

/-! ### the tables of primitives -/
def oAdd : B2 := ⟨.Add, pAdd, fun g => op2_add g⟩
def oSub : B2 := ⟨.Sub, pSub, fun _ => op2_sub⟩
def oMul : B2 := ⟨.Mult, pMul, fun g => op2_mul g⟩
def oFdiv : B2 := ⟨.FloorDiv, pFdiv, fun g => op2_fdiv g⟩
def oMod : B2 := ⟨.Mod, pMod, fun _ => op2_mod⟩
theorem yes_okB {p : EV → EV → Sto → B3} : Yes fun a b st => okB st (p a b st) := fun a b st v st' h => okB_bl h
theorem gI_bl {v : EV} {k : Int → R} {r : EV} {st' : Sto} (h : gI .no v k = .ok r st') : ∃ i, k i = .ok r st' := by
  cases v <;> first | exact ⟨_, h⟩ | cases h
theorem yes_gt : Yes pGt := fun a b st v st' h => by
  obtain ⟨x, h⟩ := gI_bl h
  obtain ⟨y, h⟩ := gI_bl h
  exact okB_bl h
theorem yes_le : Yes pLe := fun a b st v st' h => by
  obtain ⟨x, h⟩ := gI_bl h
  obtain ⟨y, h⟩ := gI_bl h
  exact okB_bl h
theorem yes_ge : Yes pGe := fun a b st v st' h => by
  obtain ⟨x, h⟩ := gI_bl h
  obtain ⟨y, h⟩ := gI_bl h
  exact okB_bl h
theorem yes_lt : Yes pLt := fun a b st v st' h => by
  cases a with
  | i x =>
    obtain ⟨y, h⟩ := gI_bl h
    exact okB_bl h
  | t xs => cases b with
    | t ys => exact okB_bl (show okB st (allI xs .x (allI ys .x (ltI xs ys))) = .ok v st' from h)
    | _ => cases h
  | _ => cases h
def oEq : C2 := ⟨.Eq, pEq, yes_okB, fun g => op2_eq g⟩
def oNe : C2 := ⟨.NotEq, pNe, yes_okB, fun g => op2_ne g⟩
def oLt : C2 := ⟨.Lt, pLt, yes_lt, fun g => op2_lt g⟩
def oLe : C2 := ⟨.LtE, pLe, yes_le, fun _ => op2_le⟩
def oGt : C2 := ⟨.Gt, pGt, yes_gt, fun _ => op2_gt⟩
def oGe : C2 := ⟨.GtE, pGe, yes_ge, fun _ => op2_ge⟩
def oIn : C2 := ⟨.In, pIn, yes_okB, fun g => op2_in g⟩
def oNin : C2 := ⟨.NotIn, pNin, yes_okB, fun g => op2_nin g⟩
def iAd : I2 := ⟨.Add, iAdd, fun _ => ip2_add⟩
def iSb : I2 := ⟨.Sub, pSub, fun _ => ip2_sub⟩
def fLen : F1 := ⟨"len", .builtin "len", pLen, .inl ⟨_, rfl⟩, by decide +kernel, fun g => cl_len g⟩
def fAbs : F1 := ⟨"abs", .builtin "abs", pAbs, .inl ⟨_, rfl⟩, by decide +kernel, fun _ => cl_abs⟩
def fMax1 : F1 := ⟨"max", .builtin "max", pMax1, .inl ⟨_, rfl⟩, by decide +kernel, fun g => cl_max1 g⟩
def fMin1 : F1 := ⟨"min", .builtin "min", pMin1, .inl ⟨_, rfl⟩, by decide +kernel, fun g => cl_min1 g⟩
def fSum : F1 := ⟨"sum", .builtin "sum", pSum, .inl ⟨_, rfl⟩, by decide +kernel, fun g => cl_sum g⟩
def fAll : F1 := ⟨"all", .builtin "all", pAll, .inl ⟨_, rfl⟩, by decide +kernel, fun g => cl_all g⟩
def fAny : F1 := ⟨"any", .builtin "any", pAny, .inl ⟨_, rfl⟩, by decide +kernel, fun g => cl_any g⟩
def fTup : F1 := ⟨"tuple", .type "tuple", pTup, .inr ⟨_, rfl⟩, by decide +kernel, fun g => cl_tup g⟩
def fLst : F1 := ⟨"list", .type "list", pList, .inr ⟨_, rfl⟩, by decide +kernel, fun g => cl_list g⟩
def fInt : F1 := ⟨"int", .type "int", pInt, .inr ⟨_, rfl⟩, by decide +kernel, fun _ => cl_int⟩
def fSorted : F1 := ⟨"sorted", .builtin "sorted", pSorted, .inl ⟨_, rfl⟩, by decide +kernel, fun g => cl_sorted g⟩
def fMax2 : F2 := ⟨"max", .builtin "max", pMax2, .inl ⟨_, rfl⟩, by decide +kernel, fun g => cl_max2 g⟩
def fMin2 : F2 := ⟨"min", .builtin "min", pMin2, .inl ⟨_, rfl⟩, by decide +kernel, fun g => cl_min2 g⟩
def fIsin : F2 := ⟨"isinstance", .builtin "isinstance", pIsin, .inl ⟨_, rfl⟩, by decide +kernel, fun g => cl_isin g⟩
def mApp : M1 := ⟨"append", "list.append", pApp, PySem.F.slot_list_append, PySem.F.type_list_append, fun _ => ml_append⟩
def mExt : M1 := ⟨"extend", "list.extend", pExt, PySem.F.slot_list_extend, PySem.F.type_list_extend, fun _ => ml_extend⟩
def mPopAt : M1 := ⟨"pop", "list.pop", pPopAt, PySem.F.slot_list_pop, PySem.F.type_list_pop, fun _ => ml_popAt⟩
end L3

set_option Elab.async false
set_option linter.all false
set_option maxRecDepth 100000
set_option maxHeartbeats 4000000
/-! L3: what a call by names binds, for any def of plain parameters. -/
noncomputable section
namespace L3
open PySem PySem.Spec PyProof.Rows L2

theorem ndB_of : ∀ {xs : List Str}, ndB xs = true → xs.Nodup
  | [], _ => List.nodup_nil
  | x :: r, h => by
    obtain ⟨h1, h2⟩ := and2 (show (!(r.contains x) && ndB r) = true from h)
    refine List.nodup_cons.mpr ⟨fun m => ?_, ndB_of h2⟩
    rw [List.contains_iff_mem.mpr m] at h1
    cases h1
theorem zip_lookup {α : Type} : ∀ {qs : List Str} {vs : List α} {j : Nat} {x : Str}, qs.Nodup → qs[j]? = some x → (qs.zip vs).lookup x = vs[j]?
  | [], _, j, x, _, h => by simp at h
  | q :: qs, [], j, x, _, h => by simp
  | q :: qs, v :: vs, 0, x, _, h => by
    obtain rfl : q = x := by simpa using h
    simp [List.lookup_cons]
  | q :: qs, v :: vs, j + 1, x, nd, h => by
    have h : qs[j]? = some x := by simpa using h
    obtain ⟨n1, n2⟩ := List.nodup_cons.mp nd
    have ne : (x == q) = false := by
      rw [beq_eq_false_iff_ne]
      rintro rfl
      exact n1 (List.mem_of_getElem? h)
    rw [List.zip_cons_cons, List.lookup_cons, ne]
    simpa using zip_lookup n2 h
theorem zip_miss {α : Type} : ∀ {qs : List Str} {vs : List α} {x : Str}, x ∉ qs → (qs.zip vs).lookup x = none
  | [], _, _, _ => rfl
  | q :: qs, [], _, _ => rfl
  | q :: qs, v :: vs, x, h => by
    have ne : (x == q) = false := by
      rw [beq_eq_false_iff_ne]
      rintro rfl
      exact h (List.mem_cons_self ..)
    rw [List.zip_cons_cons, List.lookup_cons, ne]
    exact zip_miss fun m => h (List.mem_cons_of_mem _ m)
theorem perm_binds {α : Type} {qs : List Str} {vs : List α} (nd : qs.Nodup) (hl : vs.length = qs.length) : ∀ {ps : List Str} {pm : List Nat}, kwM qs ps pm = true → (ps.filterMap fun n => ((qs.zip vs).lookup n).map (n, ·)) = ps.zip (permG pm vs)
  | [], [], _ => rfl
  | [], _ :: _, h => by cases h
  | _ :: _, [], h => by cases h
  | p :: ps, i :: pm, h => by
    obtain ⟨h1, h2⟩ := and2 (show (decide (qs[i]? = some p) && kwM qs ps pm) = true from h)
    have h1 := dcd h1
    have hi : i < vs.length := by rw [hl]; exact (List.getElem?_eq_some_iff.mp h1).1
    have e : vs[i]? = some vs[i] := List.getElem?_eq_getElem hi
    rw [List.filterMap_cons, zip_lookup nd h1, e]
    unfold permG
    rw [List.filterMap_cons, e]
    exact congrArg (_ :: ·) (perm_binds nd hl h2)
theorem kwM_mem {qs : List Str} : ∀ {ps : List Str} {pm : List Nat}, kwM qs ps pm = true → ∀ p ∈ ps, p ∈ qs
  | [], [], _, p, hp => by cases hp
  | [], _ :: _, h, _, _ => by cases h
  | _ :: _, [], h, _, _ => by cases h
  | p :: ps, i :: pm, h, x, hx => by
    obtain ⟨h1, h2⟩ := and2 (show (decide (qs[i]? = some p) && kwM qs ps pm) = true from h)
    rcases List.mem_cons.mp hx with rfl | hx
    · exact List.mem_of_getElem? (dcd h1)
    · exact kwM_mem h2 x hx
theorem lookup_miss {l : List (Str × Value)} {x : Str} (h : x ∉ l.map (·.1)) : (l.lookup x).isSome = false := by
  induction l with
  | nil => rfl
  | cons p l ih =>
    obtain ⟨n1, n2⟩ := not_or.mp (fun m => h (List.mem_cons.mpr m))
    have ne : (x == p.1) = false := beq_eq_false_iff_ne.mpr n1
    obtain ⟨a, b⟩ := p
    rw [List.lookup_cons]
    dsimp only at ne
    rw [ne]
    exact ih n2
abbrev SlS := List (Str × Value) × List (Str × Value)
theorem loop_kw (ps : List Str) (f : Str × Value → SlS → Sem (ForInStep SlS)) (hf : ∀ x s, ps.contains x.1 = true → (s.1.lookup x.1).isSome = false → f x s = pure (.yield (s.1 ++ [(x.1, x.2)], s.2))) :
    ∀ (l acc : List (Str × Value)), (∀ x ∈ l, ps.contains x.1 = true) → ((acc ++ l).map (·.1)).Nodup → forIn l (acc, ([] : List (Str × Value))) f = pure (acc ++ l, [])
  | [], acc, _, _ => by rw [List.append_nil]; rfl
  | x :: l, acc, hm, nd => by
    have e : acc ++ x :: l = (acc ++ [x]) ++ l := by simp
    have n1 : x.1 ∉ acc.map (·.1) := by
      rw [List.map_append, List.nodup_append] at nd
      intro m
      exact nd.2.2 _ m _ (by simp) rfl
    rw [List.forIn_cons, hf x _ (hm x (List.mem_cons_self ..)) (lookup_miss n1), pure_bind, e]
    exact loop_kw ps f hf l _ (fun y hy => hm y (List.mem_cons_of_mem _ hy)) (by rw [← e]; exact nd)
theorem zip_tk {α β : Type} : ∀ (ps : List α) (us : List β), ps.zip us = (ps.take us.length).zip us
  | [], _ => by simp
  | _ :: _, [] => by simp
  | p :: ps, u :: us => congrArg ((p, u) :: ·) (zip_tk ps us)
theorem bind_gen {fd : FuncData} {args : List Arg} {kd : List (Option Expr)} {dfl : List Expr} (hp : fd.params = ⟨[], args, none, [], kd, none, dfl⟩) (hd : fd.defaults = .none) {ps : List Str} (ha : args.map (·.arg) = ps) {n : Nat} {ks : List Str} {pm : List Nat} (h : kwC ps n ks pm = true)
    (us ws : List Value) (h1 : us.length = n) (h2 : ws.length = ks.length) : bindArgs fd ⟨us, ks.zip ws⟩ = pure (ps.zip (permG pm (us ++ ws))) := by
  obtain ⟨c1, c2⟩ := and2 h
  obtain ⟨c2, c3⟩ := and2 c2
  obtain ⟨c3, c4⟩ := and2 c3
  have c1 := dcd c1
  have nd := ndB_of c2
  have tl : (ps.take n).length = us.length := by rw [List.length_take, h1]; omega
  have ez : ps.zip us = (ps.take n).zip us := by rw [← h1]; exact zip_tk ps us
  have es : ps.zip us ++ ks.zip ws = (ps.take n ++ ks).zip (us ++ ws) := by rw [ez, List.zip_append tl]
  have em : ((ps.zip us ++ ks.zip ws).map (·.1)) = ps.take n ++ ks := by
    rw [es]
    exact List.map_fst_zip (by simp; omega)
  unfold bindArgs
  simp only [hp, hd, ha, List.map_nil, List.nil_append, List.append_nil]
  rw [loop_kw ps _ (by
    intro x s e1 e2
    simp only [e1, e2, Bool.true_or, if_true]
    rfl) (ks.zip ws) (ps.zip us) (fun x hx => List.all_eq_true.mp c3 _ (List.of_mem_zip hx).1) (by rw [em]; exact nd)]
  rw [pure_bind]
  have e0 : seqItems? Value.none = pure none := rfl
  rw [e0, pure_bind]
  have l1 : decide (us.length > ps.length) = false := decide_eq_false (by omega)
  have ee := perm_binds (vs := us ++ ws) nd (by simp; omega) c4
  rw [← es] at ee
  have hm : List.filter (fun n => (List.lookup n (ps.zip us ++ ks.zip ws)).isNone) ps = [] := by
    rw [List.filter_eq_nil_iff]
    intro x hx
    have : x ∈ (ps.take n ++ ks) := kwM_mem c4 x hx
    obtain ⟨j, hj, e⟩ := List.mem_iff_getElem.mp this
    rw [es, zip_lookup (vs := us ++ ws) nd (by rw [List.getElem?_eq_getElem hj, e]), List.getElem?_eq_getElem (by simp at hj ⊢; omega)]
    simp
  simp only [l1, Bool.false_and]
  simp [hm, ee]
end L3

set_option Elab.async false
set_option linter.all false
set_option maxRecDepth 100000
set_option maxHeartbeats 4000000
/-! L3: the defs of a text, at every depth. -/
noncomputable section
namespace L3
open PySem PySem.Spec PyProof.Rows L2

/-! ### a def's check -/
def argsB (a : Arguments) (ps : List Str) : Bool := match a with
  | ⟨[], args, none, [], _, none, _⟩ => decide (args.map (·.arg) = ps)
  | _ => false
def scB (N ps : List Str) (scope : Scope) : Bool :=
  (decide (scope.kind = .function) && (!scope.isCoroutine && !scope.isGenerator)) && ((ndB N && decide (N.take ps.length = ps)) && ((ps.all fun x => locB ⟨N, scope, none⟩ x) && (scope.names.all fun y => !(decide (y.2 = .free)))))
def fnChk (tb : TB) (nd : NBk) (N ps : List Str) (params : Arguments) (scope : Scope) (body : List Stmt) : Bool :=
  scB N ps scope && (kwC ps ps.length [] (List.range ps.length) && (argsB params ps && nd.chk tb ⟨N, scope, none⟩ body))
theorem scB_of {N ps : List Str} {scope : Scope} (h : scB N ps scope = true) : FnScope N ps scope := by
  obtain ⟨h1, h2⟩ := and2 h
  obtain ⟨h1, h3⟩ := and2 h1
  obtain ⟨h3, h4⟩ := and2 h3
  obtain ⟨h2, h5⟩ := and2 h2
  obtain ⟨h2, h6⟩ := and2 h2
  obtain ⟨h5, h7⟩ := and2 h5
  refine ⟨dcd h1, by simpa using h3, by simpa using h4, ndB_of h2, dcd h6, fun x hx => locB_of (c := ⟨N, scope, none⟩) (List.all_eq_true.mp h5 x hx), fun y hy e => ?_⟩
  have q := List.all_eq_true.mp h7 y hy
  rw [decide_eq_true e] at q
  cases q
theorem permG_range {α : Type} : ∀ us : List α, permG (List.range us.length) us = us
  | [] => rfl
  | u :: us => by
    have e : (fun i => (u :: us)[i]?) ∘ Nat.succ = fun i => us[i]? := by funext i; rfl
    unfold permG
    rw [List.length_cons, List.range_succ_eq_map, List.filterMap_cons]
    show u :: List.filterMap (fun i => (u :: us)[i]?) (List.map Nat.succ (List.range us.length)) = _
    rw [List.filterMap_map, e]
    exact congrArg (u :: ·) (permG_range us)
theorem padU_eq {α : Type} : ∀ (vs : List EV) (n : Nat) (k : List EV → α), padU n vs k = k (vs ++ List.replicate (n - vs.length) .u)
  | [], 0, k => rfl
  | [], n + 1, k => by
    have h : padU (n + 1) [] k = padU n [] (fun r => k (.u :: r)) := rfl
    rw [h, padU_eq [] n]
    simp [List.replicate_succ]
  | x :: r, n, k => by
    have h : padU n (x :: r) k = padU (n - 1) r (fun r => k (x :: r)) := rfl
    rw [h, padU_eq r (n - 1)]
    simp [Nat.sub_sub, Nat.add_comm]
section
variable {G : Fix} {P : Program} {w : World} {mg : Str → Option Value} {base : Heap} {k : Nat} {cal : Cal} {μ : List Addr} {H : Hp}
theorem RR.start {N : List Str} {evs : List EV} {vs : List V} (r : RVs G μ H evs vs) : RR G μ H (evs ++ List.replicate (N.length - evs.length) .u) (L2.start N vs) where
  len := by
    unfold L2.start
    simp [r.length]
  at_ i e h u := by
    by_cases hi : i < evs.length
    · rw [List.getElem?_append_left hi] at h
      obtain ⟨y, h1, h2⟩ := r.get h
      refine ⟨y, ?_, h2⟩
      unfold L2.start
      have : i < vs.length := by rw [← r.length]; exact hi
      rw [List.getElem?_append_left (by simpa using this), List.getElem?_map, h1]
      rfl
    · rw [List.getElem?_append_right (by omega), List.getElem?_replicate] at h
      split at h
      · cases h; cases u
      · cases h
theorem ofBody_h {r : RS} {Q : VK} {E : EXK} (h : PostE G μ H (ofBody r) Q E) : PostS G μ H r { nx := fun _ H' => Q .non H', rt := Q } E := by
  cases r with
  | nx ρ st => exact fun μ' H' σ x s _ => h μ' H' _ x s .n
  | rt v st => exact h
  | bk ρ st => exact h.elim
  | ct ρ st => exact h.elim
  | ex c p st => exact h
  | no => exact h.elim
theorem calF_h {F : FT} {i np nl : Nat} {body : SS} (hF : ∀ (kk : FD → R), FT.get R.no F i kk = kk ⟨np, nl, body⟩) {evs : List EV} {st : Sto} {Q : VK} {E : EXK} (h : PostE G μ H (calF F cal i evs st) Q E) :
    evs.length = np ∧ PostS G μ H (body cal (evs ++ List.replicate (nl - evs.length) .u) st) { nx := fun _ H' => Q .non H', rt := Q } E := by
  unfold calF at h
  rw [hF] at h
  obtain ⟨e, h⟩ := PostE.ift h
  have e : Nat.beq np (lenN evs) = true := e
  have e : np = lenN evs := Nat.eq_of_beq_eq_true e
  rw [lenN_eq] at e
  have h : PostE G μ H (padU nl evs fun ρ => ofBody (body cal ρ st)) Q E := h
  rw [padU_eq] at h
  exact ⟨e.symm, ofBody_h h⟩

/-- a def, one level up -/
theorem fn_up {tb : TB} {F : FT} {i : Nat} {nd : NBk} {N ps : List Str} {x qual : Str} {params : Arguments} {body : List Stmt} {scope : Scope} {fd : FuncData} (t : OkT tb G P w mg base k cal) (D : FunD G.K x qual params body scope [] [] (G.fad i) fd)
    (h : fnChk tb nd N ps params scope body = true) (hF : ∀ (kk : FD → R), FT.get R.no F i kk = kk ⟨ps.length, N.length, nd.den⟩) : FnOk P w G.K mg base (CX P w) (k + 1) (G.fad i) fd ps (spC G (calF F cal) i) := by
  obtain ⟨h1, h2⟩ := and2 h
  obtain ⟨h2, h3⟩ := and2 h2
  obtain ⟨h3, h4⟩ := and2 h3
  have S := scB_of h1
  refine D.ok S (fun vs H Q E ⟨μ, st, evs, s, r, q⟩ => ?_) fun cdv A outer s H vs Q E hr ⟨μ, st, evs, s', r, q⟩ => ?_
  · rw [← r.length]; exact (calF_h hF q).1
  · have q := (calF_h hF q).2
    refine ⟨TS' G (exOf G E) cal nd.den, ?_, μ, _, st, s', RR.start r, q⟩
    exact nd.u (c := ⟨N, scope, none⟩) t ⟨rfl, rfl, rfl, rfl, rfl, rfl, rfl, rfl, S.nd, hr, passes_of rfl, ⟨E, passes_call (takes_of rfl rfl rfl rfl) (fun _ _ _ _ h => h), fun _ _ _ _ _ h => h⟩, rfl⟩ h4
theorem bind_fun {ps : List Str} {x qual : Str} {params : Arguments} {body : List Stmt} {scope : Scope} {fd : FuncData} {f : Addr} {K : PySem.W.Frag} (D : FunD K x qual params body scope [] [] f fd) (h3 : argsB params ps = true) :
    ∀ (n : Nat) (ks : List Str) (pm : List Nat), kwC ps n ks pm = true → ∀ (us ws : List Value), us.length = n → ws.length = ks.length → bindArgs fd ⟨us, ks.zip ws⟩ = pure (ps.zip (permG pm (us ++ ws))) := by
  obtain ⟨oc, od, dV, kV, doc, pm, an, cdv, ct, osl, rfl, lk, hcd, hD, hK⟩ := D.ex
  rcases hD with ⟨_, rfl⟩ | ⟨e, _⟩
  · unfold argsB at h3
    split at h3
    · intro n ks pm hk us ws l1 l2
      exact bind_gen rfl rfl (dcd h3) hk us ws l1 l2
    · cases h3
  · exact absurd rfl e
theorem fn_binds {ps : List Str} {x qual : Str} {params : Arguments} {body : List Stmt} {scope : Scope} {fd : FuncData} {f : Addr} {K : PySem.W.Frag} (D : FunD K x qual params body scope [] [] f fd) (h0 : kwC ps ps.length [] (List.range ps.length) = true) (h3 : argsB params ps = true) :
    Binds K fd ps [] ∧ ∀ (n : Nat) (ks : List Str) (pm : List Nat), kwC ps n ks pm = true → KBn K fd ps n ks (fun us ws => permG pm (us ++ ws)) fun vs zs => permG pm (vs ++ zs) := by
  have B := bind_fun D h3
  refine ⟨.all fun us hl => ?_, fun n ks pm hk => ⟨fun s us ws _ l1 l2 => .of_eq (B n ks pm hk us ws l1 l2), fun h1 h2 => Vals.perm (h1.append h2) pm⟩⟩
  have z := B _ _ _ h0 us [] hl rfl
  rw [List.append_nil, ← hl, permG_range] at z
  exact z

/-! ### the table of defs -/
def FTr.All (p : Nat → Str → List Str → Prop) : FTr → (Nat → Nat) → Prop
  | .e, _ => True
  | .d x ps l r, m => p (m 0) x ps ∧ l.All p (fun n => m (2 * n + 1)) ∧ r.All p fun n => m (2 * n + 2)
theorem FTr.All.at_ {p : Nat → Str → List Str → Prop} : ∀ {t : FTr} {m : Nat → Nat} {i : Nat} {x : Str} {ps : List Str}, t.All p m → t.get i = some (x, ps) → p (m i) x ps
  | .e, m, i, x, ps, _, h => by cases h
  | .d x ps l r, m, 0, _, _, h, hq => by cases hq; exact h.1
  | .d x ps l r, m, n + 1, y, qs, h, hq => by
    have hq : (if n % 2 = 0 then l.get (n / 2) else r.get (n / 2)) = some (y, qs) := hq
    split at hq
    · rename_i z
      have q := h.2.1.at_ hq
      rw [show 2 * (n / 2) + 1 = n + 1 by omega] at q
      exact q
    · rename_i z
      have q := h.2.2.at_ hq
      rw [show 2 * (n / 2) + 2 = n + 1 by omega] at q
      exact q
/-- what is to be shown of each def -/
structure RowOk (tb : TB) (F : FT) (fa : List He.Fa) (fn : List He.DefD) (i : Nat) (x : Str) (ps : List Str) : Prop where
  ex : ∃ (d : He.DefD) (N : List Str) (nd : NBk), fn[i]? = some d ∧ d.at_ = (x, none) ∧ d.dfl = [] ∧ d.kwd = [] ∧ fa[i]? = some (.glo x) ∧ (∀ (kk : FD → R), FT.get R.no F i kk = kk ⟨ps.length, N.length, nd.den⟩) ∧ fnChk tb nd N ps d.params d.scope d.body = true
def fixOf (K : PySem.W.Frag) (tb : TB) : Fix := ⟨K, fun i => match tb.fn.get i with
  | some (x, _) => He.ga K x
  | none => 0, fun _ => 0, fun _ => ""⟩
structure Head (tb : TB) (F : FT) (fa : List He.Fa) (fn : List He.DefD) (K : PySem.W.Frag) (mg : Str → Option Value) : Prop where
  rows : tb.fn.All (RowOk tb F fa fn) fun n => n
  says : He.SaysD fa fn K
  glo : ∀ x, (He.Fa.glo x).ok K = true → mg x = some (.ref (He.ga K x))
  blt : ∀ x, tb.blt.contains x = true → mg x = none
  gi : ∀ x i, tb.gi.lookup x = some i → ∃ u, mg x = some u ∧ RelV (.int i) u
  gs : ∀ x s, tb.gs.lookup x = some s → ∃ u, mg x = some u ∧ RelV (.str ⟨s.toArray⟩) u
  fx : ∀ x id, tb.fx.lookup x = some id → mg x = some (.builtin id)
theorem Head.fnd {tb : TB} {F : FT} {fa : List He.Fa} {fn : List He.DefD} {K : PySem.W.Frag} (hd : Head tb F fa fn K mg) {i : Nat} {x : Str} {ps : List Str} (h : tb.fn.get i = some (x, ps)) :
    ∃ (d : He.DefD) (N : List Str) (nd : NBk) (fd : FuncData), FunD K d.name d.qual d.params d.body d.scope [] [] ((fixOf K tb).fad i) fd ∧ (∀ (kk : FD → R), FT.get R.no F i kk = kk ⟨ps.length, N.length, nd.den⟩) ∧ fnChk tb nd N ps d.params d.scope d.body = true ∧ mg x = some (.ref ((fixOf K tb).fad i)) := by
  obtain ⟨d, N, nd, h1, h2, h3, h4, h5, h6, h7⟩ := (hd.rows.at_ h).ex
  obtain ⟨fd, D⟩ := hd.says.def_ i h1
  have e : (fixOf K tb).fad i = He.ga K x := by
    show (match tb.fn.get i with
      | some (x, _) => He.ga K x
      | none => 0) = _
    rw [h]
  unfold He.DefD.dvs He.DefD.kws at D
  rw [h2, h3, h4] at D
  refine ⟨d, N, nd, fd, ?_, h6, h7, ?_⟩
  · rw [e]; exact D
  · rw [e]; exact hd.glo x (hd.says.fact i h5)
theorem allOk {tb : TB} {F : FT} {fa : List He.Fa} {fn : List He.DefD} {K : PySem.W.Frag} (hd : Head tb F fa fn K mg) : ∀ k : Nat, OkT tb (fixOf K tb) P w mg base k (run F k)
  | 0 => ⟨fun i x ps h => by
      obtain ⟨d, N, nd, fd, D, _, hc, hm⟩ := hd.fnd h
      obtain ⟨_, h2⟩ := and2 hc
      obtain ⟨h2, h3⟩ := and2 h2
      obtain ⟨h3, _⟩ := and2 h3
      obtain ⟨b1, b2⟩ := fn_binds D h2 h3
      exact ⟨⟨⟨fd, ⟨fun vs H Q E ⟨μ, st, evs, s, r, q⟩ => q.elim, fun A outer s H args us vs Q E _ _ _ _ ⟨μ, st, evs, s', r, q⟩ => q.elim⟩, b1, b2⟩, D.kp⟩, hm⟩, hd.blt, hd.gi, hd.gs, hd.fx⟩
  | k + 1 => ⟨fun i x ps h => by
      obtain ⟨d, N, nd, fd, D, hF, hc, hm⟩ := hd.fnd h
      obtain ⟨_, h2⟩ := and2 hc
      obtain ⟨h2, h3⟩ := and2 h2
      obtain ⟨h3, _⟩ := and2 h3
      obtain ⟨b1, b2⟩ := fn_binds D h2 h3
      exact ⟨⟨⟨fd, fn_up (allOk hd k) D hc hF, b1, b2⟩, D.kp⟩, hm⟩, hd.blt, hd.gi, hd.gs, hd.fx⟩
end
end L3

set_option Elab.async false
set_option linter.all false
set_option maxRecDepth 100000
set_option maxHeartbeats 4000000
/-! L3: the laws' def _law_cells, walked; the law's def. -/
noncomputable section
namespace L3
open PySem PySem.Spec PyProof.Rows L2

/-! ### the evaluator over the cells -/
def cSt (m : Int) (es : List EV) : Sto := ⟨.d (.l [.i m]) (.d (.l es) .e .e) .e, 2⟩
def cG : GS := gTup (gCons (gV 3) (gCons (gV 4) gNil))
def cB : SS := sCons (sSet (gV 5) (c2 pMod (c1 pInt (cV 3)) (cV 1))) (sCons (sSet (gSub (cV 2) (cV 5)) (c2 pAdd (c2 pIx (cV 2) (cV 5)) (c2 pMul (cV 4) (c2 pAdd (cV 3) (cK (.i 2)))))) sNil)
theorem small_nat {n : Nat} (h : n < 1000) : (n : Int).natAbs < 1000000000000 := by omega
theorem cells_step (cal : Cal) (m x : Int) (k : Nat) (hk : k < 100) (a3 a4 a5 : EV) (es : List EV) :
    sBd (cG cal (.t [.i k, .i x]) [.u, .i 1, .l 0, a3, a4, a5] (cSt m es)) (fun ρ st => cB cal ρ st) = .nx [.u, .i 1, .l 0, .i k, .i x, .i 0] (cSt (m + x * ((k : Int) + 2)) es) := by
  show cB cal [.u, .i 1, .l 0, .i k, .i x, a5] (cSt m es) = _
  have e1 : c2 pMod (c1 pInt (cV 3)) (cV 1) cal [.u, .i 1, .l 0, .i k, .i x, a5] (cSt m es) = .ok (.i 0) (cSt m es) := by
    show okI (cSt m es) (Int.fmod k 1) = _
    unfold okI
    rw [sI_eq, Int.fmod_one]
  have e2 : c2 pAdd (cV 3) (cK (.i 2)) cal [.u, .i 1, .l 0, .i k, .i x, .i 0] (cSt m es) = .ok (.i ((k : Int) + 2)) (cSt m es) := by
    show okI (cSt m es) ((k : Int) + 2) = _
    unfold okI
    rw [sI_eq]
  have e3 : mulOk x ((k : Int) + 2) = true := by
    unfold mulOk
    have : Nat.blt ((k : Int) + 2).natAbs 1000000000000 = true := by
      rw [blt_dec]; exact decide_eq_true (by omega)
    rw [this]; rfl
  have e4 : c2 pMul (cV 4) (c2 pAdd (cV 3) (cK (.i 2))) cal [.u, .i 1, .l 0, .i k, .i x, .i 0] (cSt m es) = .ok (.i (x * ((k : Int) + 2))) (cSt m es) := by
    show rB (c2 pAdd (cV 3) (cK (.i 2)) cal [.u, .i 1, .l 0, .i k, .i x, .i 0] (cSt m es)) (fun y st => pMul (.i x) y st) = _
    rw [e2]
    show ift (mulOk x ((k : Int) + 2)) (okI (cSt m es) (x * ((k : Int) + 2))) .no = _
    rw [e3]
    show okI (cSt m es) (x * ((k : Int) + 2)) = _
    unfold okI
    rw [sI_eq]
  have e5 : c2 pAdd (c2 pIx (cV 2) (cV 5)) (c2 pMul (cV 4) (c2 pAdd (cV 3) (cK (.i 2)))) cal [.u, .i 1, .l 0, .i k, .i x, .i 0] (cSt m es) = .ok (.i (m + x * ((k : Int) + 2))) (cSt m es) := by
    show rB (c2 pMul (cV 4) (c2 pAdd (cV 3) (cK (.i 2))) cal [.u, .i 1, .l 0, .i k, .i x, .i 0] (cSt m es)) (fun y st => pAdd (.i m) y st) = _
    rw [e4]
    show okI (cSt m es) (m + x * ((k : Int) + 2)) = _
    unfold okI
    rw [sI_eq]
  show sBd (rBs (c2 pMod (c1 pInt (cV 3)) (cV 1) cal [.u, .i 1, .l 0, .i k, .i x, a5] (cSt m es)) fun v st => gV 5 cal v [.u, .i 1, .l 0, .i k, .i x, a5] st) (fun ρ st => sCons (sSet (gSub (cV 2) (cV 5)) (c2 pAdd (c2 pIx (cV 2) (cV 5)) (c2 pMul (cV 4) (c2 pAdd (cV 3) (cK (.i 2)))))) sNil cal ρ st) = _
  rw [e1]
  show sBd (rBs (c2 pAdd (c2 pIx (cV 2) (cV 5)) (c2 pMul (cV 4) (c2 pAdd (cV 3) (cK (.i 2)))) cal [.u, .i 1, .l 0, .i k, .i x, .i 0] (cSt m es)) fun v st => gSub (cV 2) (cV 5) cal v [.u, .i 1, .l 0, .i k, .i x, .i 0] st) (fun ρ st => sNil cal ρ st) = _
  rw [e5]
  rfl
theorem sBd_nx {r : RS} {ρ : List EV} {st : Sto} {f : List EV → Sto → RS} {g : List EV → Sto → RS} (h : sBd r f = .nx ρ st) : sBd r (fun ρ st => @RS.rec (fun _ => RS) g RS.rt RS.nx g RS.ex RS.no (f ρ st)) = g ρ st := by
  cases r with
  | nx ρ1 st1 =>
    show @RS.rec (fun _ => RS) g RS.rt RS.nx g RS.ex RS.no (f ρ1 st1) = _
    rw [show f ρ1 st1 = .nx ρ st from h]
  | _ => cases h
theorem cells_loop (cal : Cal) (es : List EV) : ∀ (rest : List Int) (k n : Nat) (m : Int) (a3 a4 a5 : EV), es.drop k = rest.map EV.i → k + rest.length < 100 → rest.length < n →
    ∃ m' b3 b4 b5, fLoop cal cG cB n (.en k (.ls 1 k)) [.u, .i 1, .l 0, a3, a4, a5] (cSt m es) = .nx [.u, .i 1, .l 0, b3, b4, b5] (cSt m' es)
  | [], k, n, m, a3, a4, a5, hd, hk, hn => by
    obtain ⟨n, rfl⟩ : ∃ j, n = j + 1 := ⟨n - 1, by simp at hn; omega⟩
    have e : es[k]? = none := by
      have : (es.drop k)[0]? = none := by rw [hd]; rfl
      rw [List.getElem?_drop] at this
      simpa using this
    refine ⟨m, a3, a4, a5, ?_⟩
    show nth (RS.nx [.u, .i 1, .l 0, a3, a4, a5] (cSt m es)) es k _ = _
    rw [nth_eq, e]
  | x :: rest, k, n, m, a3, a4, a5, hd, hk, hn => by
    obtain ⟨n, rfl⟩ : ∃ j, n = j + 1 := ⟨n - 1, by simp at hn; omega⟩
    have hk1 : k + (rest.length + 1) < 100 := hk
    have e : es[k]? = some (.i x) := by
      have : (es.drop k)[0]? = some (.i x) := by rw [hd]; rfl
      rw [List.getElem?_drop] at this
      simpa using this
    have hd' : es.drop (k + 1) = rest.map EV.i := by
      have : (es.drop k).drop 1 = rest.map EV.i := by rw [hd]; rfl
      rw [List.drop_drop] at this
      exact this
    obtain ⟨m', b3, b4, b5, ih⟩ := cells_loop cal es rest (k + 1) n (m + x * ((k : Int) + 2)) (.i k) (.i x) (.i 0) hd' (by omega) (by simp at hn; omega)
    refine ⟨m', b3, b4, b5, ?_⟩
    rw [← ih]
    show nth (RS.nx [.u, .i 1, .l 0, a3, a4, a5] (cSt m es)) es k (fun v => sN (k + 1) fun i => sI ((k : Int) + 1) fun i' => sBd (cG cal (.t [.i k, v]) [.u, .i 1, .l 0, a3, a4, a5] (cSt m es)) fun ρ st => @RS.rec (fun _ => RS) (fLoop cal cG cB n (.en i' (.ls 1 i))) RS.rt RS.nx (fLoop cal cG cB n (.en i' (.ls 1 i))) RS.ex RS.no (cB cal ρ st)) = _
    rw [nth_eq, e]
    show sN (k + 1) (fun i => sI ((k : Int) + 1) fun i' => sBd (cG cal (.t [.i k, .i x]) [.u, .i 1, .l 0, a3, a4, a5] (cSt m es)) fun ρ st => @RS.rec (fun _ => RS) (fLoop cal cG cB n (.en i' (.ls 1 i))) RS.rt RS.nx (fLoop cal cG cB n (.en i' (.ls 1 i))) RS.ex RS.no (cB cal ρ st)) = _
    rw [sN_eq, sI_eq, sBd_nx (cells_step cal m x k (by omega) a3 a4 a5 es)]
    rfl

/-! ### the loop's rule, from the evaluator's loop -/
section
variable {G : Fix} {P : Program} {w : World} {mg : Str → Option Value} {base : Heap} {k : Nat} {c : SC} {E : EXK} {cal : Cal} {X : Cx} {μ : List Addr} {H : Hp} {st : Sto} {ρ : List EV} {σ : L2.St}
theorem for_h {gg : GS} {mb : SS} {sl : List Nat} (hnr : NoRt gg) {A : It} {j : J} {D : Ends} (s : RS' G μ H st) (r : RR G μ H ρ σ) (w0 : WJ G μ H A 0 j) (h : PostS G μ H (fLoop cal gg mb TURNS j ρ st) D E) :
    ∃ W : Nat → Nat → L2.St → Hp → Prop, (∃ m, W 0 m σ H) ∧ ∀ i m σ H, W i m σ H →
      (A.stop i H ∧ D.nx σ H) ∨ (A.go i H ∧ ∃ N : L2.St → Hp → Prop, (∀ σ' H', N σ' H' → ∃ m', m' < m ∧ W (i + 1) m' σ' H') ∧ ∀ x H', A.yld i H x H' → TGd G E cal gg sl x σ H' fun σ2 H2 => TS' G E cal mb { D with nx := N, ct := N, bk := D.nx } σ2 H2) := by
  refine ⟨fun i n σ2 H2 => ∃ μ ρ st j, RS' G μ H2 st ∧ RR G μ H2 ρ σ2 ∧ WJ G μ H2 A i j ∧ PostS G μ H2 (fLoop cal gg mb n j ρ st) D E, ⟨TURNS, μ, ρ, st, j, s, r, w0, h⟩, ?_⟩
  clear h w0 r s
  rintro i n σ2 H2 ⟨μ, ρ, st, j, s, r, w1, h⟩
  cases n with
  | zero => exact h.elim
  | succ n =>
    have h : PostS G μ H2 (nxJ RS.no (.nx ρ st) j st fun v j => sBd (gg cal v ρ st) fun ρ st => @RS.rec (fun _ => RS) (fLoop cal gg mb n j) RS.rt RS.nx (fLoop cal gg mb n j) RS.ex RS.no (mb cal ρ st)) D E := h
    rw [nxJ_eq _ _ _ _ _ w1] at h
    have q := WJ.step s w1
    cases e : nxJ NX.bad NX.fin j st NX.it with
    | bad => rw [e] at h; exact h.elim
    | fin => rw [e] at h q; exact .inl ⟨q, h μ H2 σ2 .refl s r⟩
    | it v j1 =>
      rw [e] at h q
      obtain ⟨q1, q2⟩ := q
      refine .inr ⟨q1, fun σ' H' => ∃ μ ρ st j, RS' G μ H' st ∧ RR G μ H' ρ σ' ∧ WJ G μ H' A (i + 1) j ∧ PostS G μ H' (fLoop cal gg mb n j ρ st) D E, fun σ' H' z => ⟨n, Nat.lt_succ_self n, z⟩, fun x H' hy => ?_⟩
      obtain ⟨x1, s1, rv, w2⟩ := q2 x H' hy
      refine ⟨μ, ρ, st, v, s1, r.mono x1 s.notup, rv, ?_⟩
      have h := PostS.mono (r := sBd (gg cal v ρ st) fun ρ st => @RS.rec (fun _ => RS) (fLoop cal gg mb n j1) RS.rt RS.nx (fLoop cal gg mb n j1) RS.ex RS.no (mb cal ρ st)) h x1
      have nr := hnr cal v ρ st
      cases e2 : gg cal v ρ st with
      | rt => rw [e2] at nr; exact False.elim nr
      | bk => rw [e2] at nr; exact False.elim nr
      | ct => rw [e2] at nr; exact False.elim nr
      | ex => rw [e2] at h; exact h
      | no => rw [e2] at h; exact h
      | nx ρ2 st2 =>
        rw [e2] at h
        intro μ3 H3 σ3 x3 s3 r3 _
        refine ⟨μ3, ρ2, st2, s3, r3, ?_⟩
        have w3 := w2.mono x3 s1.notup
        have h := PostS.mono (r := @RS.rec (fun _ => RS) (fLoop cal gg mb n j1) RS.rt RS.nx (fLoop cal gg mb n j1) RS.ex RS.no (mb cal ρ2 st2)) h x3
        cases e3 : mb cal ρ2 st2 with
        | nx ρ4 st4 => rw [e3] at h; exact fun μ4 H4 σ4 x4 s4 r4 => ⟨μ4, ρ4, st4, j1, s4, r4, w3.mono x4 s3.notup, PostS.mono (r := fLoop cal gg mb n j1 ρ4 st4) h x4⟩
        | ct ρ4 st4 => rw [e3] at h; exact fun μ4 H4 σ4 x4 s4 r4 => ⟨μ4, ρ4, st4, j1, s4, r4, w3.mono x4 s3.notup, PostS.mono (r := fLoop cal gg mb n j1 ρ4 st4) h x4⟩
        | bk ρ4 st4 => rw [e3] at h; exact h
        | rt v4 st4 => rw [e3] at h; exact h
        | ex => rw [e3] at h; exact h
        | no => rw [e3] at h; exact h
theorem SqL.keep' {K : PySem.W.Frag} {H H' : Hp} {a : Addr} {xs : List V} (h : SqL K H a xs) (k : ∀ o, H a = some o → H' a = some o) : SqL K H' a xs := by
  rcases h with (h | ⟨o, h⟩) | h
  · exact .inl (.inl (k _ h))
  · exact .inl (.inr ⟨o, k _ h⟩)
  · exact .inr h
theorem RS'.empty : RS' G [] H ⟨.e, 0⟩ := ⟨rfl, .e, List.nodup_nil, fun l a h => by cases h⟩
theorem RS'.single {p : Addr} {xs : List EV} {vs : List V} (h : H p = some (.lst vs)) (r : RVs G [] H xs vs) : RS' G [p] H ⟨.d (.l xs) .e .e, 1⟩ := RS'.empty.adopt h (by simp) r
theorem RVs.ints' : ∀ ns : List Int, RVs G μ H (ns.map EV.i) (ns.map V.int)
  | [] => .nil
  | n :: ns => .cons (.i n) (RVs.ints' ns)
end
end L3

set_option Elab.async false
set_option linter.all false
set_option maxRecDepth 100000
set_option maxHeartbeats 4000000
/-! L3: the laws' def _law_cells keeps its promise; the law's def, whose first row asks it. -/
noncomputable section
namespace L3
open PySem PySem.Spec PyProof.Rows L2

def cN : List Str := ["script", "most_so", "cells_so", "k", "bit_so", "at_so"]
def cP : List Str := ["script", "most_so"]
def cTg : NG := gTp (gC (gVn 3) rfl (gC (gVn 4) rfl gN))
def cBk : NBk := bC (sSt (gVn 5) (nBin oMod (nF1 fInt (nV 3)) (nV 1))) (bC (sSt (gSb (nV 2) (nV 5)) (nBin oAdd (nIx (nV 2) (nV 5)) (nBin oMul (nV 4) (nBin oAdd (nV 3) (nI 2))))) bN)
def cD : NE := nOne (nLst (lC (nI 0) lN))
def cR : NBk := bC (sRt (nV 2)) bN
def cellsB (tb : TB) (c : SC) (body : List Stmt) : Bool := match body with
  | [.Assign [.Name y _] (.BoolOp .Or [.Call (.Name x1 _) [.Subscript (.Name x2 _) (.Slice none (some (.Name x3 _)) none _) _] [] _, d] p7) _,
     .For (.Tuple elts kk tpos) (.Call (.Name x4 _) [.Subscript (.Name x5 _) (.Slice (some (.Name x6 _)) (some (.Constant (.int i) _ _)) none _) _] [] _) fb [] _, ret] =>
    ((decide (y = "cells_so") && (decide (x1 = "list") && (decide (x2 = "script") && decide (x3 = "most_so")))) && (decide (x4 = "enumerate") && (decide (x5 = "script") && (decide (x6 = "most_so") && decide (i = 63))))) &&
    (((bltB tb c x1 && bltB tb c x4) && ((visB c.sc x2 && visB c.sc x3) && decide (c.sc.names.lookup y = some .local))) && (cD.chk tb c (.BoolOp .Or [d] p7) && (cTg.chk tb c (.Tuple elts kk tpos) && (cBk.chk tb c fb && cR.chk tb c [ret]))))
  | _ => false
def cellsChk (tb : TB) (params : Arguments) (scope : Scope) (body : List Stmt) : Bool :=
  scB cN cP scope && ((kwC cP cP.length [] (List.range cP.length) && argsB params cP) && cellsB tb ⟨cN, scope, none⟩ body)
def spCells (K : PySem.W.Frag) : Sp := fun vs H Q _ => ∃ (a : Addr) (ns : List Int), vs = [.ref a, .int 1] ∧ SqL K H a (ns.map V.int) ∧ ns.length ≤ 63 ∧ ∀ (H' : Hp) (p : Addr) (m : Int), H' p = some (.lst [.int m]) → Q (.ref p) H'
section
variable {G : Fix} {P : Program} {w : World} {mg : Str → Option Value} {base : Heap} {k : Nat} {c : SC} {E : EXK} {cal : Cal} {X : Cx} {μ : List Addr} {H : Hp} {st : Sto} {ρ : List EV} {σ : L2.St}
def tcA (K : PySem.W.Frag) (G : Fix) (E : EXK) (cal : Cal) : TE := tOrT K (tCB (fun xs H Q => ∃ p ys, xs = [.ref p] ∧ (SqL K H p ys ∨ SqT K H p ys) ∧ ∀ l, H l = none → Q (.ref l) (upd H l (.lst ys))) (tCons (tSl (rSlL K) (tVar 0) tNoPart (tPart (tVar 1))) tNil)) (T G E cal cD.den)
def tcI (K : PySem.W.Frag) : TI := iEnumB K (tCons (tSl (rSlL K) (tVar 0) (tPart (tVar 1)) (tPart (tC (.int 63)))) tNil)
theorem pss_cells {tb : TB} (t : OkT tb G P w mg base k cal) {scope : Scope} (g : Good G P w mg base k ⟨cN, scope, none⟩ E X) {body : List Stmt} (h : cellsB tb ⟨cN, scope, none⟩ body = true) :
    PSs X body (tSeq (tAsg (tcA X.K G E cal) (gName 2)) (tSeq (tFor (tcI X.K) (TGd G E cal cG cTg.sl) (TS' G E cal cB)) (TS' G E cal cR.den))) := by
  unfold cellsB at h
  split at h
  · obtain ⟨h0, h⟩ := and2 h
    obtain ⟨a0, b0⟩ := and2 h0
    obtain ⟨e1, a0⟩ := and2 a0
    obtain ⟨e2, a0⟩ := and2 a0
    obtain ⟨e3, e4⟩ := and2 a0
    obtain ⟨e5, b0⟩ := and2 b0
    obtain ⟨e6, b0⟩ := and2 b0
    obtain ⟨e7, e8⟩ := and2 b0
    obtain ⟨c0, h⟩ := and2 h
    obtain ⟨c1, c2⟩ := and2 c0
    obtain ⟨c3, c4⟩ := and2 c1
    obtain ⟨c5, c6⟩ := and2 c2
    obtain ⟨c7, c8⟩ := and2 c5
    obtain ⟨n1, h⟩ := and2 h
    obtain ⟨n2, h⟩ := and2 h
    obtain ⟨n3, n4⟩ := and2 h
    cases dcd e1; cases dcd e2; cases dcd e3; cases dcd e4; cases dcd e5; cases dcd e6; cases dcd e7; cases dcd e8
    obtain ⟨l1, l2, l3⟩ := bltB_of c3
    obtain ⟨l4, l5, l6⟩ := bltB_of c4
    have v2 : Vis X.env.scope "script" := by rw [g.sc]; exact vis_of c7
    have v3 : Vis X.env.scope "most_so" := by rw [g.sc]; exact vis_of c8
    have i0 : X.N[0]? = some ("script" : Str) := by rw [g.nn]; rfl
    have i1 : X.N[1]? = some ("most_so" : Str) := by rw [g.nn]; rfl
    have i2 : X.N[2]? = some ("cells_so" : Str) := by rw [g.nn]; rfl
    have lc : X.env.scope.names.lookup ("cells_so" : Str) = some .local := by rw [g.sc]; exact dcd c6
    have mm : X.mg = mg := g.mm
    have kk : X.K = G.K := g.kk
    refine pss_cons (ps_set g.nd i2 (.inl lc) (pe_orT (pe_callTy call_list_of (gl_of g l1) (by rw [mm]; exact t.blt _ l3) (ty_boot (n := 4) (by decide)) (pa_cons (pe_slice sl_list (pe_var i0 v2) po_none (po_some (pe_var i1 v3))) pa_nil)) (cD.u t g n1)) rfl (.inr lc)) ?_
    exact pss_cons (ps_for g.own g.calm (pi_enum1 (gl_of g l4) (by rw [mm]; exact t.blt _ l6) rfl (pa_cons (pe_slice sl_list (pe_var i0 v2) (po_some (pe_var i1 v3)) (po_some pe_int)) pa_nil)) (cTg.u t g n2).1 (cBk.u t g n3) fun x => rfl) (cR.u t g n4)
  · cases h
end
end L3

set_option Elab.async false
set_option linter.all false
set_option maxRecDepth 100000
set_option maxHeartbeats 4000000
/-! L3: _law_cells keeps its promise; the law's def. -/
noncomputable section
namespace L3
open PySem PySem.Spec PyProof.Rows L2
section
variable {G : Fix} {P : Program} {w : World} {mg : Str → Option Value} {base : Heap} {k : Nat} {c : SC} {E : EXK} {cal : Cal} {X : Cx} {μ : List Addr} {H : Hp} {st : Sto} {ρ : List EV} {σ : L2.St}
theorem upd_same {H : Hp} {p : Addr} {u : HO} : (upd H p u) p = some u := by simp [upd]
theorem upd_keep {H : Hp} {p : Addr} {u : HO} (hp : H p = none) : ∀ a o, H a = some o → (upd H p u) a = some o := fun a o e => by
  have : a ≠ p := fun z => by rw [z, hp] at e; cases e
  simp [upd, this, e]
theorem one_int {p : Addr} {m : Int} (s : RS' G μ H st) {a : Nat} (h : μ[a]? = some p) (e : st.get a = .l [.i m]) : H p = some (.lst [.int m]) := by
  obtain ⟨vs, e1, r⟩ := s.lst h e
  cases r with
  | cons h1 r => cases h1; cases r; exact e1
/-- the first row -/
theorem cells_first {a : Addr} {ns : List Int} (hs : SqL G.K H a (ns.map V.int)) {Q : VK} (hσ0 : σ[0]? = some (some (.ref a))) (hσ1 : σ[1]? = some (some (.int 1)))
    (h : ∀ (H' : Hp) (p : Addr) (m : Int), H' p = some (.lst [.int m]) → SqL G.K H' a (ns.map V.int) → Q (.ref p) H') : tcA G.K G E cal σ H Q := by
  refine ⟨.ref a, hσ0, .int 1, hσ1, 1, rfl, a, ns.map V.int, rfl, hs, fun p hp => ?_⟩
  refine ⟨p, _, rfl, .inl (SqL.of upd_same), fun l hl => ?_⟩
  have K1 : ∀ o, H a = some o → upd (upd H p (.lst (cutV (ns.map V.int) none (some 1)))) l (.lst (cutV (ns.map V.int) none (some 1))) a = some o := fun o e => upd_keep hl a o (upd_keep hp a o e)
  cases ns with
  | nil =>
    refine ⟨false, .inl ⟨_, SqL.of upd_same, rfl⟩, ?_⟩
    refine ⟨[], List.replicate σ.length .u, ⟨.e, 0⟩, RS'.empty, ⟨by simp, fun i e h1 h2 => ?_⟩, ?_⟩
    · rw [List.getElem?_replicate] at h1
      split at h1
      · cases h1; cases h2
      · cases h1
    · show PostE G [] _ (.ok (.l 0) ⟨.d (.l [.i 0]) .e .e, 1⟩) _ E
      intro μ' H' w x s r
      cases r with
      | @l _ p' hp' => exact h H' p' 0 (one_int s hp' rfl) (SqL.keep' (SqL.keep' hs K1) fun o e => x.keep _ _ e (by simp))
  | cons n r =>
    have e : cutV ((n :: r).map V.int) none (some 1) = [.int n] := by
      have h0 : HT.sIx ((n :: r).map V.int).length 0 none = 0 := rfl
      have h1 : HT.sIx ((n :: r).map V.int).length ((n :: r).map V.int).length (some 1) = 1 := by
        rw [← bound_eq]
        simp [bound]
        rfl
      unfold cutV
      rw [h0, h1]
      simp
    rw [e] at K1 ⊢
    exact ⟨true, .inl ⟨_, SqL.of upd_same, rfl⟩, h _ l n upd_same (SqL.keep' hs K1)⟩
theorem fnCells {tb : TB} (t : OkT tb G P w mg base k cal) {x qual : Str} {params : Arguments} {body : List Stmt} {scope : Scope} {f : Addr} {fd : FuncData} (D : FunD G.K x qual params body scope [] [] f fd) (h : cellsChk tb params scope body = true) :
    FnOk P w G.K mg base (CX P w) (k + 1) f fd cP (spCells G.K) := by
  obtain ⟨h1, h2⟩ := and2 h
  obtain ⟨h2, h3⟩ := and2 h2
  have S := scB_of h1
  refine D.ok S (fun vs H Q E ⟨a, ns, e, _⟩ => by rw [e]; rfl) fun cdv A outer s H vs Q E hr ⟨a, ns, e, hs, hl, hq⟩ => ?_
  subst e
  have g : Good G P w mg base k ⟨cN, scope, none⟩ (exOf G E) (cxOf (CX P w) P w G.K mg base cN qual scope f cdv A outer s H E) :=
    ⟨rfl, rfl, rfl, rfl, rfl, rfl, rfl, rfl, S.nd, hr, passes_of rfl, ⟨E, passes_call (takes_of rfl rfl rfl rfl) (fun _ _ _ _ h => h), fun _ _ _ _ _ h => h⟩, rfl⟩
  refine ⟨_, pss_cells (E := exOf G E) t g h3, ?_⟩
  refine cells_first (ns := ns) hs rfl rfl fun H1 p m hp hs1 => ?_
  -- the loop
  refine ⟨.ref a, rfl, .int 1, rfl, 1, rfl, 63, rfl, a, ns.map V.int, rfl, hs1, fun p3 hp3 => ?_⟩
  have S1 : RS' G [p] H1 ⟨.d (.l [.i m]) .e .e, 1⟩ := RS'.single hp (.cons (.i m) .nil)
  obtain ⟨es, e1, e2⟩ : ∃ rest : List Int, cutV (ns.map V.int) (some 1) (some 63) = rest.map V.int ∧ rest.length ≤ 63 := by
    refine ⟨(ns.drop (HT.sIx (ns.map V.int).length 0 (some 1))).take (HT.sIx (ns.map V.int).length (ns.map V.int).length (some 63) - HT.sIx (ns.map V.int).length 0 (some 1)), ?_, ?_⟩
    · unfold cutV
      rw [List.map_take, List.map_drop]
    · rw [List.length_take, List.length_drop]; omega
  rw [e1]
  have S2 : RS' G ([p] ++ [p3]) (upd H1 p3 (.lst (es.map V.int))) (cSt m (es.map EV.i)) := S1.new (o := .l (es.map EV.i)) hp3 ⟨_, upd_same, RVs.ints' es⟩
  obtain ⟨q, a', xs, e3, e4, w0⟩ := mkQ_ok (v := .l 1) (j := .ls 1 0) S2 (.l (by rfl)) rfl
  cases e3
  refine ⟨q, p3, xs, 0, .inl ⟨rfl, rfl⟩, ⟨by omega, by omega⟩, e4, ?_⟩
  obtain ⟨m', b3, b4, b5, ee⟩ := cells_loop cal (es.map EV.i) es 0 TURNS m .u .u .u (by simp) (by omega) (by unfold TURNS; omega)
  refine for_h (j := .en (0 : Nat) (.ls 1 0)) (ρ := [.u, .i 1, .l 0, .u, .u, .u]) cTg.nr S2 ⟨rfl, fun i e h1 h2 => ?_⟩ ⟨_, 0, rfl, by simp, w0.1⟩ ?_
  · match i, h1 with
    | 0, h1 => cases h1; cases h2
    | 1, h1 => cases h1; exact ⟨_, rfl, .i 1⟩
    | 2, h1 => cases h1; exact ⟨_, rfl, .l rfl⟩
    | 3, h1 => cases h1; cases h2
    | 4, h1 => cases h1; cases h2
    | 5, h1 => cases h1; cases h2
    | i + 6, h1 => cases h1
  · show PostS G _ _ (fLoop cal cG cB TURNS (.en ((0 : Nat) : Int) (.ls 1 0)) [.u, .i 1, .l 0, .u, .u, .u] (cSt m (es.map EV.i))) _ _
    rw [ee]
    intro μ2 H2 σ2 x2 s2 r2
    refine ⟨μ2, _, _, s2, r2, ?_⟩
    show PostS G μ2 H2 (.rt (.l 0) (cSt m' (es.map EV.i))) _ _
    intro μ3 H3 v x3 s3 rv
    cases rv with
    | @l _ p' hp' => exact hq H3 p' m' (one_int s3 hp' rfl)

/-! ### the law's def -/
/-- a block in parts: each part is run on its own, with an empty store -/
theorem isRt_of {r : RS} (h : isRt r = true) : ∃ st, r = .rt (.b true) st := by
  cases r with
  | rt v st =>
    cases v with
    | b x => cases x with
      | true => exact ⟨st, rfl⟩
      | false => cases h
    | _ => cases h
  | _ => cases h
theorem isNx_of {r : RS} (h : isNx r = true) : ∃ ρ st, r = .nx ρ st ∧ ρ.length = 1 := by
  cases r with
  | nx ρ st =>
    have h : Nat.beq (lenN ρ) 1 = true := h
    rw [lenN_eq] at h
    exact ⟨ρ, st, rfl, Nat.eq_of_beq_eq_true h⟩
  | _ => cases h
def partsC (tb : TB) (c : SC) : List NS → NBk → List Stmt → Bool
  | [], nd, b => nd.chk tb c b
  | n :: r, nd, s :: b => n.chk tb c s && partsC tb c r nd b
  | _ :: _, _, [] => false
def Runs (cal : Cal) : List NS → NBk → Prop
  | [], nd => isRt (nd.den cal [.u] ⟨.e, 0⟩) = true
  | n :: r, nd => isNx (n.den cal [.u] ⟨.e, 0⟩) = true ∧ Runs cal r nd
theorem rr_u {σ : L2.St} {μ : List Addr} (h : σ.length = 1) : RR G μ H [.u] σ := ⟨h.symm, fun i e h1 h2 => by
  match i, h1 with
  | 0, h1 => cases h1; cases h2
  | i + 1, h1 => cases h1⟩
theorem parts_ok {tb : TB} {c : SC} {E : EXK} {X : Cx} (t : OkT tb G P w mg base k cal) (g : Good G P w mg base k c E X) : ∀ (ns : List NS) (nd : NBk) (b : List Stmt), partsC tb c ns nd b = true → Runs cal ns nd →
    PSs X b (fun D σ H => σ.length = 1 ∧ ∀ H', D.rt (.bl true) H')
  | [], nd, b, h, q => ⟨fun pins s σ H D I ⟨l, z⟩ => (nd.u t g h).run pins s σ H D I (by
    obtain ⟨st', e⟩ := isRt_of q
    refine ⟨[], [.u], ⟨.e, 0⟩, RS'.empty, rr_u l, ?_⟩
    rw [e]
    intro μ3 H3 v x3 s3 rv
    cases rv
    exact z H3)⟩
  | n :: r, nd, [], h, _ => by cases h
  | n :: r, nd, s :: b, h, q => by
    obtain ⟨h1, h2⟩ := and2 h
    refine ⟨fun pins s σ H D I ⟨l, z⟩ => (pss_cons (n.u t g h1) (parts_ok t g r nd b h2 q.2)).run pins s σ H D I ?_⟩
    obtain ⟨ρ, st', e, l1⟩ := isNx_of q.1
    refine ⟨[], [.u], ⟨.e, 0⟩, RS'.empty, rr_u l, ?_⟩
    rw [e]
    intro μ3 H3 σ3 x3 s3 rr
    exact ⟨rr.len.symm.trans l1, z⟩
def lawB (tb : TB) (c : SC) (ns : List NS) (nd : NBk) (body : List Stmt) : Bool := match body with
  | .If (.Compare (.Call (.Name x1 _) [.Call (.Name x2 _) [.Name x3 _, .Constant (.int i) _ _] [] _] [] _) [.NotEq] [.Constant (.int j) _ _] _) br [] _ :: rest =>
    ((decide (x1 = "len") && decide (x2 = "_law_cells")) && (decide (x3 = "script") && (decide (i = 1) && decide (j = 1)))) && (((bltB tb c x1 && gloB c x2) && visB c.sc x3) && ((bC (sRt (nBl false)) bN).chk tb c br && partsC tb c ns nd rest))
  | _ => false
def lawChk (tb : TB) (ns : List NS) (nd : NBk) (params : Arguments) (scope : Scope) (body : List Stmt) : Bool :=
  scB ["script"] ["script"] scope && ((kwC ["script"] 1 [] [0] && argsB params ["script"]) && lawB tb ⟨["script"], scope, none⟩ ns nd body)
def spLaw (K : PySem.W.Frag) : Sp := fun vs H Q _ => ∃ (a : Addr) (ns : List Int), vs = [.ref a] ∧ SqL K H a (ns.map V.int) ∧ ns.length ≤ 63 ∧ ∀ H' : Hp, Q (.bl true) H'
theorem fnLaw {tb : TB} (t : OkT tb G P w mg base k cal) {x qual x2 qual2 : Str} {params params2 : Arguments} {body body2 : List Stmt} {scope scope2 : Scope} {f f2 : Addr} {fd fd2 : FuncData} {cal2 : Cal} {j : Nat} (hj : j + 1 ≤ k) (t2 : OkT tb G P w mg base j cal2) {nds : List NS} {nd : NBk}
    (D : FunD G.K x qual params body scope [] [] f fd) (h : lawChk tb nds nd params scope body = true) (D2 : FunD G.K x2 qual2 params2 body2 scope2 [] [] f2 fd2) (h2 : cellsChk tb params2 scope2 body2 = true) (hm : mg "_law_cells" = some (.ref f2))
    (run : Runs cal nds nd) : FnOk P w G.K mg base (CX P w) (k + 1) f fd ["script"] (spLaw G.K) := by
  obtain ⟨h1, h3⟩ := and2 h
  obtain ⟨h3, h4⟩ := and2 h3
  have S := scB_of h1
  have F2 := (fnCells t2 D2 h2).mono hj
  have B2 : Binds G.K fd2 cP [] := by
    obtain ⟨_, z⟩ := and2 h2
    obtain ⟨z, _⟩ := and2 z
    obtain ⟨z1, z2⟩ := and2 z
    exact (fn_binds D2 z1 z2).1
  refine D.ok S (fun vs H Q E ⟨a, ns, e, _⟩ => by rw [e]; rfl) fun cdv A outer s H vs Q E hr ⟨a, ns, e, hs, hl, hq⟩ => ?_
  subst e
  have g : Good G P w mg base k ⟨["script"], scope, none⟩ (exOf G E) (cxOf (CX P w) P w G.K mg base ["script"] qual scope f cdv A outer s H E) :=
    ⟨rfl, rfl, rfl, rfl, rfl, rfl, rfl, rfl, S.nd, hr, passes_of rfl, ⟨E, passes_call (takes_of rfl rfl rfl rfl) (fun _ _ _ _ h => h), fun _ _ _ _ _ h => h⟩, rfl⟩
  unfold lawB at h4
  split at h4
  · obtain ⟨a0, a1⟩ := and2 h4
    obtain ⟨b0, b1⟩ := and2 a0
    obtain ⟨e1, e2⟩ := and2 b0
    obtain ⟨e3, b2⟩ := and2 b1
    obtain ⟨e4, e5⟩ := and2 b2
    obtain ⟨c0, c1⟩ := and2 a1
    obtain ⟨c2, c3⟩ := and2 c0
    obtain ⟨c4, c5⟩ := and2 c2
    obtain ⟨n1, n2⟩ := and2 c1
    cases dcd e1; cases dcd e2; cases dcd e3; cases dcd e4; cases dcd e5
    obtain ⟨l1, l2, l3⟩ := bltB_of c4
    obtain ⟨l4, l5⟩ := and2 c5
    refine ⟨_, pss_cons (ps_if (pt_cmpR op_ne (pe_callB call_len (gl_of g l1) (t.blt _ l3) boot_len (pa_cons (pe_call F2 hr (gl_of g (dcd l4)) hm D2.kp B2 .nil (passes_call (takes_of rfl rfl rfl rfl) (E := E) (fun _ _ _ _ h => h)) (pa_cons (pe_var (i := 0) rfl (vis_of c3)) (pa_cons pe_int pa_nil))) pa_nil)) pe_int rfl) ((bC (sRt (nBl false)) bN).u t g n1) pss_nil) (parts_ok t g nds nd _ n2 run), ?_⟩
    refine ⟨.ref a, rfl, a, ns, rfl, hs, hl, fun H' p m hp => ?_⟩
    refine ⟨.ref p, 1, rfl, .inl ⟨_, SqL.of hp, rfl⟩, rfl, false, ?_, ?_⟩
    · simp
    · exact ⟨rfl, hq⟩
  · cases h4
end
end L3

set_option Elab.async false
set_option linter.all false
set_option maxRecDepth 100000
set_option maxHeartbeats 4000000
/-! L3: sorted of tuples of ints, any number of them, of any lengths but nothing. -/
noncomputable section
namespace L3
open PySem PySem.Spec PyProof.Rows L2

/-! ### in plain Lean -/
section
variable {α β : Type}
def ins (lt : α → α → Bool) (x : α) : List α → List α
  | [] => [x]
  | y :: r => if lt y x = true then y :: ins lt x r else x :: y :: r
def isort (lt : α → α → Bool) : List α → List α
  | [] => []
  | x :: r => ins lt x (isort lt r)
variable {lt : α → α → Bool}
theorem ins_perm (x : α) : ∀ l : List α, (ins lt x l).Perm (x :: l)
  | [] => .refl _
  | y :: r => by
    unfold ins
    split
    · exact ((ins_perm x r).cons y).trans (List.Perm.swap x y r)
    · exact .refl _
theorem ins_srtd (O : SrtO.Swo lt) (x : α) : ∀ {l : List α}, SrtO.Srtd lt l → SrtO.Srtd lt (ins lt x l)
  | [], _ => List.pairwise_singleton _ _
  | y :: r, h => by
    obtain ⟨h1, h2⟩ := List.pairwise_cons.mp h
    unfold ins
    split
    · rename_i e
      refine List.pairwise_cons.mpr ⟨fun z hz => ?_, ins_srtd O x h2⟩
      rcases List.mem_cons.mp ((ins_perm x r).mem_iff.mp hz) with rfl | hz
      · exact O.asym _ _ e
      · exact h1 z hz
    · rename_i e
      have e : lt y x = false := by simpa using e
      refine List.pairwise_cons.mpr ⟨fun z hz => ?_, h⟩
      rcases List.mem_cons.mp hz with rfl | hz
      · exact e
      · exact O.tr _ _ _ e (h1 z hz)
theorem ins_cls (O : SrtO.Swo lt) (x z : α) : ∀ l : List α, (ins lt x l).filter (SrtO.eqv lt z) = (x :: l).filter (SrtO.eqv lt z)
  | [] => rfl
  | y :: r => by
    unfold ins
    split
    · rename_i e
      rw [List.filter_cons, ins_cls O x z r]
      cases hy : SrtO.eqv lt z y with
      | false => simp [List.filter_cons, hy]
      | true =>
        have hx : SrtO.eqv lt z x = false := by
          cases hx : SrtO.eqv lt z x with
          | false => rfl
          | true =>
            have q := SrtO.eqv_trans O hy (v := x)
            rw [hx] at q
            have := (SrtO.eqv_iff.mp q.symm).1
            rw [e] at this; cases this
        simp [List.filter_cons, hy, hx]
    · rfl
theorem isort_srtd (O : SrtO.Swo lt) : ∀ l : List α, SrtO.Srtd lt (isort lt l)
  | [] => List.Pairwise.nil
  | x :: r => ins_srtd O x (isort_srtd O r)
theorem isort_stb (O : SrtO.Swo lt) : ∀ l : List α, SrtO.Stb lt (isort lt l) l
  | [] => .refl _
  | x :: r => by
    have q := isort_stb O r
    refine ⟨(ins_perm x _).trans (q.perm.cons x), fun z => ?_⟩
    show (ins lt x (isort lt r)).filter _ = _
    rw [ins_cls O, List.filter_cons, List.filter_cons, q.cls z]
theorem ins_map {f : α → β} {lt' : β → β → Bool} (x : α) : ∀ l : List α, ins lt' (f x) (l.map f) = (ins (fun a b => lt' (f a) (f b)) x l).map f
  | [] => rfl
  | y :: r => by
    show (if lt' (f y) (f x) = true then f y :: ins lt' (f x) (r.map f) else f x :: f y :: r.map f) = (if lt' (f y) (f x) = true then y :: ins (fun a b => lt' (f a) (f b)) x r else x :: y :: r).map f
    rw [ins_map x r]
    split <;> rfl
theorem isort_map {f : α → β} {lt' : β → β → Bool} : ∀ l : List α, isort lt' (l.map f) = (isort (fun a b => lt' (f a) (f b)) l).map f
  | [] => rfl
  | x :: r => by
    show ins lt' (f x) (isort lt' (r.map f)) = (ins _ x (isort _ r)).map f
    rw [isort_map r, ins_map]
end

/-! ### the model's comparison -/
section
variable {prog : Program} {w : World} {A : Around} {E : Value → Shared → Prop} {s : Shared} {fin : Bool} {Q : Bool → Shared → Prop}
theorem kat_ints : ∀ {us ws : List Value} {ns ms : List Int} (i : Nat), IntsAre us ns → IntsAre ws ms → fin = decide (us.length < ws.length) → Q (HT.lexLt ns ms) s → PySem.W.KatLex prog w A true fin Q (us.zip ws) i s
  | _, _, _, _, i, .nil, .nil, hf, hq => PySem.W.kat_nil (by rw [hf]; exact hq)
  | _, _, _, _, i, .nil, .cons c u hw, hf, hq => PySem.W.kat_nil (by
      have e : fin = true := by rw [hf]; simp
      rw [e]; exact hq)
  | _, _, _, _, i, .cons a t hv, .nil, hf, hq => PySem.W.kat_nil (by
      have e : fin = false := by rw [hf]; simp
      rw [e]; exact hq)
  | _, _, _, _, i, .cons (vs := vs) (ns := ns) a t hv, .cons (vs := ws) (ns := ms) c u hw, hf, hq => by
    rw [List.zip_cons_cons]
    rw [HT.lexLt_cons] at hq
    refine PySem.W.kat_cons (SeqAt.EqAt.int_int a t c u prog w _ _ ?_)
    refine PySem.W.kat_go (fun e1 => ?_) (fun e1 => ?_)
    · have ex : a = c := by simpa using e1
      rw [if_pos ex] at hq
      refine PySem.W.kat_yes (kat_ints (i + 1) hv hw ?_ hq)
      rw [hf]
      simp
    · have ex : ¬ a = c := by simpa using e1
      rw [if_neg ex] at hq
      exact PySem.W.kat_no (TS.oneLt_ints _ hq)
/-- at v: a tuple of these ints -/
def TupAt (h : Heap) (v : Value) (ns : List Int) : Prop := ∃ (a : Addr) (o : Obj) (its : Array Value) (n : Nat), v = .ref a ∧ h.get? a = some o ∧ o.cls = .type "tuple" ∧ o.data = .seq its n ∧ IntsAre its.toList ns
theorem TupAt.keeps {h h' : Heap} {v : Value} {ns : List Int} (p : TupAt h v ns) (k : ∀ b o, h.get? b = some o → o.cls = .type "tuple" → h'.get? b = some o) : TupAt h' v ns := by
  obtain ⟨a, o, its, n, e, ho, hc, hd, hi⟩ := p
  exact ⟨a, o, its, n, e, k _ _ ho hc, hc, hd, hi⟩
theorem tup_cmp {vs : List Value} {k : Value → List Int} (hp : ∀ v ∈ vs, TupAt s.heap v (k v)) : SrtO.Cmp prog w A s (tuples' true) (fun p => p.1 ∈ vs) (SrtO.lt2 fun v u => HT.lexLt (k v) (k u)) := by
  intro p q hm hm'
  obtain ⟨a, o, its, n, e, ho, hc, hd, hi⟩ := hp _ hm
  obtain ⟨a', o', its', n', e', ho', hc', hd', hi'⟩ := hp _ hm'
  show wpAny (model prog w) A (keyLt' (tuples' true) p.1 q.1) (fun r s' => s' = s ∧ r = HT.lexLt (k p.1) (k q.1)) (fun _ _ => False) s
  rw [e] at hi ⊢
  rw [e'] at hi' ⊢
  refine PySem.W.kat_lt ho hd ho' hd' ?_
  exact kat_ints 0 hi hi' (by rw [Array.length_toList, Array.length_toList]) ⟨rfl, rfl⟩
theorem tup_firsts {h : Heap} {k : Value → List Int} : ∀ {vs : List Value}, (∀ v ∈ vs, TupAt h v (k v) ∧ k v ≠ []) → ∃ fs, PySem.W.KatTups h vs fs ∧ fs.length = vs.length ∧ ∀ f ∈ fs, ∃ x t, f = Value.int x t
  | [], _ => ⟨[], .nil, rfl, fun f hf => by cases hf⟩
  | v :: vs, hp => by
    obtain ⟨fs, h1, h2, h3⟩ := tup_firsts (vs := vs) fun u hu => hp u (List.mem_cons_of_mem _ hu)
    obtain ⟨⟨a, o, its, n, e, ho, hc, hd, hi⟩, hne⟩ := hp v (List.mem_cons_self ..)
    have : ∃ x t, its[0]? = some (Value.int x t) := by
      cases hk : k v with
      | nil => exact absurd hk hne
      | cons x r =>
        rw [hk] at hi
        cases hl : its.toList with
        | nil => rw [hl] at hi; cases hi
        | cons y l =>
          rw [hl] at hi
          cases hi with
          | cons _ t _ =>
            refine ⟨x, t, ?_⟩
            rw [← Array.getElem?_toList, hl]; rfl
    obtain ⟨x, t, hx⟩ := this
    rw [e]
    refine ⟨.int x t :: fs, .cons ho hc hd hx h1, congrArg Nat.succ h2, fun f hf => ?_⟩
    rcases List.mem_cons.mp hf with rfl | hf
    · exact ⟨x, t, rfl⟩
    · exact h3 f hf
theorem tups_sortable {a : Addr} {vs : List Value} {k : Value → List Int} (h0 : 0 < vs.length) (hp : ∀ v ∈ vs, TupAt s.heap v (k v) ∧ k v ≠ []) (ha : ∀ o, s.heap.get? a = some o → o.cls ≠ .type "tuple") : SrtO.SortableO prog w A s a vs fun v u => HT.lexLt (k v) (k u) := by
  intro h' keep
  have hp' : ∀ v ∈ vs, TupAt h' v (k v) ∧ k v ≠ [] := fun v hm => ⟨(hp v hm).1.keeps fun b o e c => keep b o (fun z => by subst z; exact ha o e c) e, (hp v hm).2⟩
  obtain ⟨fs, h1, h2, h3⟩ := tup_firsts hp'
  refine ⟨tuples' true, fun Q E hq => ?_, tup_cmp (s := { s with heap := h' }) fun v hm => (hp' v hm).1⟩
  refine PySem.W.kat_kind (T := .type "int") h1 (by omega) (fun f hm => ?_) (by rfl) ?_
  · obtain ⟨x, t, rfl⟩ := h3 f hm
    exact PySem.W.Looks.now
  · have e : (Value.type "int" != Value.type "tuple") = true := by first | decide +kernel | rfl | decide
    rw [e]
    exact hq
end
/-! ### as a rule of the layer -/
def rSortTI (K : PySem.W.Frag) : List V → Hp → VK → Prop := fun vs H Q => ∃ (a : Addr) (xs : List V) (k : V → List Int), vs = [V.ref a] ∧ SqL K H a xs ∧ (∀ x ∈ xs, k x ≠ [] ∧ ∃ t, x = V.ref t ∧ H t = some (.tup ((k x).map V.int))) ∧
  ∀ ys p, SrtO.Srtd (fun x y => HT.lexLt (k x) (k y)) ys → SrtO.Stb (fun x y => HT.lexLt (k x) (k y)) ys xs → H p = none → Q (.ref p) (upd H p (.lst ys))
theorem cr_sortTI {X : Cx} : CallR X (.builtin "sorted") (rSortTI X.K) := by
  intro pins s σ H vs us Q I r h
  obtain ⟨a, xs, k, rfl, hs, hx, q⟩ := h
  obtain ⟨its, rv, hl, hz⟩ := I.list hs
  obtain ⟨u, rfl, ru⟩ := vals1 r
  obtain rfl : u = Value.ref a := ru
  obtain ⟨e1, e2⟩ := refs_back rv fun x m => by
    obtain ⟨_, t, e, _⟩ := hx x m
    exact ⟨t, e⟩
  refine SrtO.sorted_ord (NtL.swo_lexL fun u => k (backV u)) hl.isList (by rw [← rv.length]; exact hz) (fun h2 h₁ a' ha kk => ?_) fun out h1 h2 => ?_
  · refine tups_sortable (s := { s with heap := h₁ }) (by omega) (fun v hv => ?_) fun o e => ?_
    · obtain ⟨t, rfl⟩ := e2 v hv
      have hm : V.ref t ∈ xs := by rw [e1]; exact List.mem_map.mpr ⟨_, hv, rfl⟩
      obtain ⟨hne, t', e, ht⟩ := hx _ hm
      cases e
      obtain ⟨_, its2, r2, o, ho, hc, n, hd⟩ := I.hok _ _ ht
      exact ⟨⟨t, o, its2.toArray, n, rfl, (kk _ _ ho).2, hc, hd, by have z := r2.ints; show IntsAre its2.toArray.toList (k (V.ref t)); simpa using z⟩, hne⟩
    · have e' : some o = some (seqObj "list" its.toArray 0) := e.symm.trans ha
      cases e'
      intro c
      exact absurd (Value.type.inj c) (by decide)
  · have h3 : ∀ u ∈ out, ∃ a, u = Value.ref a := fun u hu => e2 u (h2.perm.mem_iff.mp hu)
    obtain ⟨n, hn⟩ := sortedAll_at s.heap its out.toArray
    have hb : SrtO.Stb (fun x y => HT.lexLt (k x) (k y)) (out.map backV) xs := by
      rw [e1]
      exact SrtO.Stb.map (NtL.swo_lexL k) backV h2
    refine ⟨.ref (s.heap.objs.size + 1), upd H (s.heap.objs.size + 1) (.lst (out.map backV)), I.laid (t' := s.toks) (fun _ _ => sortedAll_old) (Nat.le_succ _) ⟨?_, out, n, vals_back h3, hn⟩, rfl, q _ _ (SrtO.srtd_map h1) hb (I.hok.fresh (Nat.le_succ _))⟩
    rw [hb.len]
    exact hz
/-! ### the evaluator's -/
def ivs : List EV → List Int
  | [] => []
  | .i x :: r => x :: ivs r
  | _ :: r => ivs r
def keyE : EV → List Int
  | .t xs => ivs xs
  | _ => []
def vI : V → Int
  | .int i => i
  | _ => 0
def keyV (H : Hp) : V → List Int
  | .ref t => match H t with
    | some (.tup vs) => vs.map vI
    | _ => []
  | _ => []
def ltE (x y : EV) : Bool := HT.lexLt (keyE x) (keyE y)
theorem ivs_ints : ∀ ns : List Int, ivs (ns.map EV.i) = ns
  | [] => rfl
  | n :: r => congrArg (n :: ·) (ivs_ints r)
def isTI : EV → Prop := fun e => ∃ n ns, e = .t ((n :: ns).map EV.i)
theorem ltI_val : ∀ xs ys : List Int, ltI (xs.map EV.i) (ys.map EV.i) = .of (HT.lexLt xs ys)
  | [], [] => rfl
  | [], _ :: _ => rfl
  | _ :: _, [] => rfl
  | x :: xs, y :: ys => by
    show ift (iEq x y) (ltI (xs.map EV.i) (ys.map EV.i)) (.of (iLt x y)) = _
    rw [ift_eq, iEq_ok, iLt_ok, HT.lexLt_cons]
    by_cases e : x = y
    · rw [if_pos (decide_eq_true e), if_pos e, ltI_val xs ys]
    · rw [if_neg (by simpa using e), if_neg e]
theorem insT_eq {x : EV} (hx : isTI x) : ∀ {xs : List EV} (k : List EV → R), (∀ y ∈ xs, isTI y) → insT x xs k = k (ins ltE x xs)
  | [], k, _ => rfl
  | y :: r, k, h => by
    obtain ⟨n, ns, e⟩ := hx
    obtain ⟨m, ms, e'⟩ := h y (List.mem_cons_self ..)
    have e1 : tLt y x = .of (ltE y x) := by
      rw [e, e']
      show ltI ((m :: ms).map EV.i) ((n :: ns).map EV.i) = .of (HT.lexLt (ivs ((m :: ms).map EV.i)) (ivs ((n :: ns).map EV.i)))
      rw [ltI_val, ivs_ints, ivs_ints]
    show b3 (tLt y x) (k (x :: y :: r)) (insT x r fun r' => k (y :: r')) .no = _
    rw [e1, insT_eq ⟨n, ns, e⟩ _ fun z hz => h z (List.mem_cons_of_mem _ hz)]
    show _ = k (if ltE y x = true then y :: ins ltE x r else x :: y :: r)
    cases ltE y x with
    | true => rfl
    | false => rfl
theorem ins_mem {x z : EV} {l : List EV} (h : z ∈ ins ltE x l) : z = x ∨ z ∈ l := List.mem_cons.mp ((ins_perm x l).mem_iff.mp h)
theorem isort_mem {z : EV} : ∀ {l : List EV}, z ∈ isort ltE l → z ∈ l
  | [], h => h
  | x :: r, h => by
    rcases ins_mem h with rfl | h
    · exact List.mem_cons_self ..
    · exact List.mem_cons_of_mem _ (isort_mem h)
theorem sortT_eq : ∀ {xs : List EV} (k : List EV → R), (∀ y ∈ xs, isTI y) → sortT xs k = k (isort ltE xs)
  | [], k, _ => rfl
  | x :: r, k, h => by
    show sortT r (fun r => insT x r k) = _
    rw [sortT_eq _ fun z hz => h z (List.mem_cons_of_mem _ hz)]
    exact insT_eq (h x (List.mem_cons_self ..)) k fun z hz => h z (List.mem_cons_of_mem _ (isort_mem hz))
section
variable {G : Fix} {P : Program} {w : World} {mg : Str → Option Value} {base : Heap} {k : Nat} {c : SC} {E : EXK} {cal : Cal} {X : Cx} {μ : List Addr} {H : Hp} {st : Sto} {Q : VK}
theorem tupsK_ok : ∀ {xs : List EV} {ws : List V} {kk : R}, RVs G μ H xs ws → PostE G μ H (tupsK xs kk) Q E → (∀ x ∈ xs, isTI x) ∧ PostE G μ H kk Q E
  | _, _, kk, .nil, h => ⟨fun x hx => by simp at hx, h⟩
  | _, _, kk, .cons (x := x) (xs := xs) rv r, h => by
    cases rv with
    | @t es p vs hp rr =>
      have h : PostE G μ H (@List.rec EV (fun _ => R) .no (fun _ _ _ => intsK es (tupsK xs kk)) es) Q E := h
      cases es with
      | nil => exact h.elim
      | cons e0 es =>
        have h : PostE G μ H (intsK (e0 :: es) (tupsK xs kk)) Q E := h
        obtain ⟨ns, e1, e2, h⟩ := intsK_ok rr h
        obtain ⟨h1, h2⟩ := tupsK_ok r h
        refine ⟨fun x hx => ?_, h2⟩
        rcases List.mem_cons.mp hx with rfl | hx
        · cases ns with
          | nil => cases e1
          | cons n ns => exact ⟨n, ns, by rw [e1]⟩
        · exact h1 x hx
    | _ => exact h.elim
theorem zips {xs : List EV} {vs : List V} (r : RVs G μ H xs vs) : (xs.zip vs).map (·.1) = xs ∧ (xs.zip vs).map (·.2) = vs ∧ ∀ p ∈ xs.zip vs, RV G μ H p.1 p.2 := by
  refine ⟨List.map_fst_zip (by rw [r.length]; omega), List.map_snd_zip (by rw [r.length]; omega), ?_⟩
  induction r using RVs.rec (motive_1 := fun _ _ _ => True) with
  | n => trivial
  | b => trivial
  | i => trivial
  | s => trivial
  | t => trivial
  | l => trivial
  | f => trivial
  | y => trivial
  | nil => intro p hp; simp at hp
  | cons h r _ ih =>
    intro p hp
    rw [List.zip_cons_cons] at hp
    rcases List.mem_cons.mp hp with rfl | hp
    · exact h
    · exact ih p hp
theorem RVs.of_zip : ∀ {l : List (EV × V)}, (∀ p ∈ l, RV G μ H p.1 p.2) → RVs G μ H (l.map (·.1)) (l.map (·.2))
  | [], _ => .nil
  | p :: l, h => .cons (h p (List.mem_cons_self ..)) (RVs.of_zip fun q hq => h q (List.mem_cons_of_mem _ hq))
/-- a tuple of ints of the run -/
theorem ti_val {e : EV} {v : V} (r : RV G μ H e v) (h : isTI e) : ∃ t, v = .ref t ∧ H t = some (.tup ((keyE e).map V.int)) ∧ keyE e ≠ [] ∧ keyV H v = keyE e := by
  obtain ⟨n, ns, rfl⟩ := h
  cases r with
  | @t es p vs hp rr =>
    have e1 : keyE (.t ((n :: ns).map EV.i)) = n :: ns := ivs_ints (n :: ns)
    have e2 : vs = (n :: ns).map V.int := by
      clear hp
      generalize (n :: ns) = l at rr
      induction l generalizing vs with
      | nil => cases rr; rfl
      | cons x l ih =>
        cases rr with
        | cons h rr => cases h; rw [List.map_cons, ih rr]
    have e3 : H p = some (.tup vs) := by
      rcases hp with hp | ⟨_, hp⟩
      · exact hp
      · rw [e2] at hp
        obtain ⟨x, hx⟩ := hp (V.int n) (by simp)
        cases hx
    refine ⟨p, rfl, by rw [e1, e3, e2], by rw [e1]; simp, ?_⟩
    show (match H p with
      | some (.tup vs) => vs.map vI
      | _ => []) = _
    rw [e3, e1, e2]
    dsimp only
    rw [List.map_map]
    exact List.map_id _
theorem cl_sortedT (g : Good G P w mg base k c E X) : Cl1 G E X (.builtin "sorted") pSortedT := CallR.of fun xs H Q ⟨x, e, μ, st, a, s, ra, h⟩ => by
  subst e
  obtain ⟨l, p, es, vs, rfl, rfl, hl, e0, e1, r, h⟩ := lsD (no := .no) s ra h
  obtain ⟨hT, h⟩ := tupsK_ok r h
  rw [sortT_eq _ hT] at h
  obtain ⟨z1, z2, z3⟩ := zips r
  refine ⟨_, cr_sortTI, p, vs, keyV H, rfl, SqL.of e1, fun y hy => ?_, fun ys q h1 h2 hq => ?_⟩
  · rw [← z2] at hy
    obtain ⟨⟨e, v⟩, hp, rfl⟩ := List.mem_map.mp hy
    have he : e ∈ es := by rw [← z1]; exact List.mem_map.mpr ⟨_, hp, rfl⟩
    obtain ⟨t, q1, q2, q3, q4⟩ := ti_val (z3 _ hp) (hT e he)
    dsimp only
    rw [q4]
    exact ⟨q3, t, q1, q2⟩
  · -- the same list
    have ez : isort ltE es = (isort (fun a b : EV × V => ltE a.1 b.1) (es.zip vs)).map (·.1) := by
      rw [← isort_map (f := fun p : EV × V => p.1) (lt' := ltE), z1]
    have ew : isort (fun x y => HT.lexLt (keyV H x) (keyV H y)) vs = (isort (fun a b : EV × V => HT.lexLt (keyV H a.2) (keyV H b.2)) (es.zip vs)).map (·.2) := by
      rw [← isort_map (f := fun p : EV × V => p.2) (lt' := fun x y => HT.lexLt (keyV H x) (keyV H y)), z2]
    have same : ∀ (l : List (EV × V)), (∀ p ∈ l, RV G μ H p.1 p.2 ∧ isTI p.1) → isort (fun a b : EV × V => ltE a.1 b.1) l = isort (fun a b : EV × V => HT.lexLt (keyV H a.2) (keyV H b.2)) l := by
      have insS : ∀ (x : EV × V) (l : List (EV × V)), (RV G μ H x.1 x.2 ∧ isTI x.1) → (∀ p ∈ l, RV G μ H p.1 p.2 ∧ isTI p.1) → ins (fun a b : EV × V => ltE a.1 b.1) x l = ins (fun a b : EV × V => HT.lexLt (keyV H a.2) (keyV H b.2)) x l := by
        intro x l hx
        induction l with
        | nil => intro _; rfl
        | cons y l ih =>
          intro hl
          obtain ⟨_, _, _, _, q4⟩ := ti_val hx.1 hx.2
          obtain ⟨_, _, _, _, q5⟩ := ti_val (hl y (List.mem_cons_self ..)).1 (hl y (List.mem_cons_self ..)).2
          unfold ins
          rw [ih fun p hp => hl p (List.mem_cons_of_mem _ hp), q4, q5]
          rfl
      intro l
      induction l with
      | nil => intro _; rfl
      | cons x l ih =>
        intro hl
        have hl' : ∀ p ∈ l, RV G μ H p.1 p.2 ∧ isTI p.1 := fun p hp => hl p (List.mem_cons_of_mem _ hp)
        show ins _ x (isort _ l) = ins _ x (isort _ l)
        rw [ih hl']
        refine insS x _ (hl x (List.mem_cons_self ..)) fun p hp => hl' p ?_
        exact (isort_stb (NtL.swo_lexL fun p : EV × V => keyV H p.2) l).perm.mem_iff.mp hp
    have hz : ∀ p ∈ es.zip vs, RV G μ H p.1 p.2 ∧ isTI p.1 := fun p hp => ⟨z3 p hp, hT _ (by rw [← z1]; exact List.mem_map.mpr ⟨_, hp, rfl⟩)⟩
    have O := NtL.swo_lexL (keyV H)
    have ey : ys = isort (fun x y => HT.lexLt (keyV H x) (keyV H y)) vs := by
      have q2 := isort_stb O vs
      exact SrtO.stb_uniq O h1 (isort_srtd O vs) ⟨h2.perm.trans q2.perm.symm, fun x => (h2.cls x).trans (q2.cls x).symm⟩
    have rr : RVs G μ H (isort ltE es) ys := by
      rw [ey, ew, ez, same _ hz]
      exact RVs.of_zip fun p hp => (hz p ((isort_stb (NtL.swo_lexL fun p : EV × V => keyV H p.2) _).perm.mem_iff.mp hp)).1
    exact (PostE.sLn h s rr).2 q hq
theorem cl_sortedX (g : Good G P w mg base k c E X) : Cl1 G E X (.builtin "sorted") pSortedX := CallR.of fun xs H Q ⟨x, e, μ, st, a, s, ra, h⟩ => by
  have h0 := h
  obtain ⟨l, p, es, vs, rfl, _, hl, e0, e1, r, h⟩ := lsD (no := .no) s ra h
  have old : PostE G μ H (pSorted (.l l) st) Q E → ∃ r' : List V → Hp → VK → Prop, CallR X (.builtin "sorted") r' ∧ r' xs H Q := fun h => ⟨_, cl_sorted g, x, e, μ, st, .l l, s, ra, h⟩
  cases es with
  | nil => exact old h
  | cons y r' =>
    have h : PostE G μ H (gT (pSorted (.l l) st) y fun _ => pSortedT (.l l) st) Q E := h
    cases y with
    | t ys => exact ⟨_, cl_sortedT g, x, e, μ, st, .l l, s, ra, h⟩
    | _ => exact old h
end
def fSortedX : F1 := ⟨"sorted", .builtin "sorted", pSortedX, .inl ⟨_, rfl⟩, by decide +kernel, fun g => cl_sortedX g⟩
end L3

set_option Elab.async false
set_option linter.all false
set_option maxRecDepth 100000
set_option maxHeartbeats 4000000
/-! L3: from the head's facts to the law's walk. -/
noncomputable section
namespace L3
open PySem PySem.Spec PyProof.Rows L2

def faOf (faG : List He.Fa) (tb : TB) : List He.Fa := faG ++ (tb.blt.map He.Fa.free ++ (tb.gi.map (fun p => He.Fa.int p.1 p.2) ++ tb.gs.map (fun p => He.Fa.str p.1 ⟨p.2.toArray⟩)))
def exT (fx : List (Str × String)) (K : PySem.W.Frag) : Bool := fx.all fun p => He.eqO (PySem.W.nsIn K mainGlobals p.1) (some (some (.builtin p.2)))
theorem head_of {tb : TB} {F : FT} {faG : List He.Fa} {fn : List He.DefD} {w : World} {h : Heap} {K : PySem.W.Frag} {mg : Str → Option Value} (X : K.In h) (G : h.Ns mainGlobals mg) (c : He.SaysX (faOf faG tb) fn [] [] (exT tb.fx) w h K)
    (rows : tb.fn.All (RowOk tb F (faOf faG tb) fn) fun n => n) : Head tb F (faOf faG tb) fn K mg where
  rows := rows
  says := c.t.d
  glo x hx := He.glo_ok X G hx
  blt x hx := He.free_ok X G (c.t.d.facts (List.mem_append_right _ (List.mem_append_left _ (List.mem_map.mpr ⟨x, List.contains_iff_mem.mp hx, rfl⟩))))
  gi x i hx := by
    obtain ⟨t, e⟩ := He.int_ok X G (c.t.d.facts (List.mem_append_right _ (List.mem_append_right _ (List.mem_append_left _ (List.mem_map.mpr ⟨(x, i), PySem.mem_of_lookup hx, rfl⟩)))))
    exact ⟨_, e, t, rfl⟩
  gs x s hx := by
    obtain ⟨t, e⟩ := He.str_ok X G (c.t.d.facts (List.mem_append_right _ (List.mem_append_right _ (List.mem_append_right _ (List.mem_map.mpr ⟨(x, s), PySem.mem_of_lookup hx, rfl⟩)))))
    exact ⟨_, e, t, rfl⟩
  fx x id hx := PySem.W.mg_of X G (He.eqO_ok (List.all_eq_true.mp c.more (x, id) (PySem.mem_of_lookup hx)))
def CXA (P : Program) : CXT := fun outer H s E u s' => ∃ w, CX P w outer H s E u s'
theorem FnOk.cxa {P : Program} {w : World} {K : PySem.W.Frag} {mg : Str → Option Value} {base : Heap} {k : Nat} {f : Addr} {fd : FuncData} {ps : List Str} {sp : Sp} (F : FnOk P w K mg base (CX P w) k f fd ps sp) : FnOk P w K mg base (CXA P) k f fd ps sp :=
  ⟨F.len, fun A outer s H args us vs Q E hr he hb hv hs => codeAny_mono (F.run A outer s H args us vs Q E hr he hb hv hs) fun r s' h => by
    cases r with
    | ok f => cases f <;> exact h
    | error e => exact ⟨w, h⟩⟩
structure DefOk (faG : List He.Fa) (fn : List He.DefD) (tb : TB) (i : Nat) (x : Str) (d : He.DefD) : Prop where
  fn : fn[i]? = some d
  at_ : d.at_ = (x, none)
  df : d.dfl = []
  kw : d.kwd = []
  fa : (faOf faG tb)[i]? = some (.glo x)
theorem DefOk.fund {tb : TB} {F : FT} {faG : List He.Fa} {fn : List He.DefD} {K : PySem.W.Frag} {mg : Str → Option Value} (hd : Head tb F (faOf faG tb) fn K mg) {i : Nat} {x : Str} {d : He.DefD} (o : DefOk faG fn tb i x d) :
    ∃ fd, FunD K d.name d.qual d.params d.body d.scope [] [] (He.ga K x) fd ∧ mg x = some (.ref (He.ga K x)) := by
  obtain ⟨fd, D⟩ := hd.says.def_ i o.fn
  unfold He.DefD.dvs He.DefD.kws at D
  rw [o.at_, o.df, o.kw] at D
  exact ⟨fd, D, hd.glo x (hd.says.fact i o.fa)⟩
theorem law_walk {l : PySem.W.OpenLaw} {q : Program} {loose : List Str} {XP : (Str → Option Value) → Heap → Prop} {d : DefRec} {tb : TB} {F : FT} {faG : List He.Fa} {fn : List He.DefD} {k : Nat} {ic il : Nat} {dc dl : He.DefD} {ns : List NS} {nd : NBk}
    (hn : l.most = some 63) (hdf : d.params.defaults = []) (hx : d.name = "law") (hr : Room (k + 2) callerA) (rows : tb.fn.All (RowOk tb F (faOf faG tb) fn) fun n => n)
    (oc : DefOk faG fn tb ic "_law_cells" dc) (ol : DefOk faG fn tb il "law" dl) (hc : cellsChk tb dc.params dc.scope dc.body = true) (hl : lawChk tb ns nd dl.params dl.scope dl.body = true) (run : Runs (run F (k + 1)) ns nd) :
    PySem.W.WalkO q loose XP (He.hookX 2 (faOf faG tb) fn [] [] (exT tb.fx)).says l.row.toRowW d [] fun f vs => PySem.call f vs := by
  refine L2.walk_ofE (l := l) (n := 63) (k := k + 2) (x := "script") (CX := CXA l.prog) hn (by decide) hdf hr ?_ (fun H s e s' ⟨w, a, B, H', cls, dd, _, _, _, _, _, _, _, z⟩ => z)
  intro w mg fa h Y G hmg
  obtain ⟨K, KX, c⟩ := Y
  have hd := head_of KX G c rows
  obtain ⟨fdc, Dc, mc⟩ := oc.fund hd
  obtain ⟨fdl, Dl, ml⟩ := ol.fund hd
  rw [hx] at hmg
  have e := hmg.symm.trans ml
  cases e
  have hb2 : ∀ u : Value, bindArgs fdl ⟨[u], []⟩ = pure [(("script" : Str), u)] := fun u => by
    obtain ⟨_, z⟩ := and2 hl
    obtain ⟨z, _⟩ := and2 z
    obtain ⟨z1, z3⟩ := and2 z
    exact bind_fun Dl z3 1 [] [0] z1 [u] [] rfl rfl
  refine ⟨K, fdl, spLaw K, KX, fun s u => .of_eq (hb2 u), fun H a ns hlen _ hS => ⟨a, ns, rfl, hS, hlen, fun _ => rfl⟩, fun base _ _ => ?_⟩
  have t := allOk (P := l.prog) (w := w) (base := base) hd (k + 1)
  have t2 := allOk (P := l.prog) (w := w) (base := base) hd k
  exact FnOk.cxa (fnLaw (G := fixOf K tb) t (Nat.le_refl (k + 1)) t2 Dl hl Dc hc mc run)
end L3

set_option Elab.async false
set_option linter.all false
set_option maxRecDepth 100000
set_option maxHeartbeats 4000000
/-! L3: zip(*rows), drawn from. -/
noncomputable section
namespace L3
open PySem PySem.Spec PyProof.Rows L2
abbrev IsTupV (h : Heap) (T : Addr) (vs : List Value) : Prop := h.get? T = some { cls := .type "tuple", data := .seq vs.toArray }
/-- tuple or list, where, its items -/
abbrev Row := Bool × Addr × List Value
def itV : Nat → List Row → List Value
  | _, [] => []
  | a, _ :: rs => .ref a :: itV (a + 1) rs
def ItAt (h : Heap) (i : Nat) : Nat → List Row → Prop
  | _, [] => True
  | a, r :: rs => (isIt r.1 h a r.2.1 i ∧ isSq r.1 h r.2.1 r.2.2.toArray) ∧ ItAt h i (a + 1) rs
def Col (i : Nat) : List Row → List Value → Prop
  | [], [] => True
  | r :: rs, y :: ys => r.2.2[i]? = some y ∧ Col i rs ys
  | _, _ => False
theorem Col.length {i : Nat} : ∀ {rs : List Row} {ys : List Value}, Col i rs ys → ys.length = rs.length
  | [], [], _ => rfl
  | [], _ :: _, h => h.elim
  | _ :: _, [], h => h.elim
  | r :: rs, y :: ys, h => congrArg Nat.succ (Col.length h.2)
section
variable {prog : Program} {w : World} {A : Around} {E : Value → Shared → Prop} {s : Shared} {i : Nat} {B : Nat}
theorem row_ne {r : Row} {a : Addr} (h : r.2.1 < B) (hB : B ≤ a) : r.2.1 ≠ a := fun e => by rw [e] at h; exact absurd (Nat.lt_of_lt_of_le h hB) (Nat.lt_irrefl _)
theorem ItAt.keep (prog : Program) (w : World) (hh : A.handled = none) : ∀ {rs : List Row} {a : Nat} {h h' : Heap}, (∀ r ∈ rs, r.2.1 < B) → B ≤ a → ItAt h i a rs → (∀ (b : Nat) o, b < B ∨ (a ≤ b ∧ b < a + rs.length) → h.get? b = some o → h'.get? b = some o) → ItAt h' i a rs
  | [], _, _, _, _, _, _, _ => trivial
  | r :: rs, a, h, h', hl, hB, x, k => by
    have hr := hl r (List.mem_cons_self ..)
    refine ⟨(bDraws (prog := prog) (w := w) (A := A) r.1 hh a r.2.1 (row_ne hr hB) r.2.2.toArray).frame i h h' x.1 fun b hb o e => k b o ?_ e, ItAt.keep prog w hh (fun q hq => hl q (List.mem_cons_of_mem _ hq)) (by omega) x.2 fun b o hb e => k b o ?_ e⟩
    · rcases List.mem_cons.mp hb with rfl | hb
      · right; simp
      · rw [List.mem_singleton.mp hb]; exact .inl hr
    · rcases hb with hb | hb
      · exact .inl hb
      · right; simp only [List.length_cons]; omega
theorem out_of {a n c : Nat} (h : ¬(a ≤ c ∧ c < a + (n + 1))) : c ≠ a := by omega
theorem nin_of {a n b B : Nat} (h : b = a ∨ b < B) (hB : B ≤ a) : ¬(a + 1 ≤ b ∧ b < a + 1 + n) := by omega
theorem ne_of {a n b B : Nat} (h : b < B ∨ (a + 1 ≤ b ∧ b < a + 1 + n)) (hB : B ≤ a) : b ≠ a := by omega
/-- the loop that fills the tuple at TO -/
theorem free_loop {z TO : Nat} (hh : A.handled = none) {body : Value × Nat → Option PySem.Fin × Unit → Sem (ForInStep (Option PySem.Fin × Unit))}
    (hb : ∀ (c : Addr) (k : Nat) (s : Shared) (R : ForInStep (Option PySem.Fin × Unit) → Shared → Prop),
      wpAny (model prog w) A (Builtin.SmallTypes.nextOf (.ref c)) (fun x s1 => ∃ xs, IsTupV s1.heap TO xs ∧ xs.length ≤ sizeLine ∧ ∀ h', IsTupV h' TO (xs.set k x) → Heap.SameBut TO s1.heap h' → R (.yield (none, ())) { s1 with heap := h' }) (fun e s1 => wpAny (model prog w) A (setField (.ref z) 0 .none) (fun _ s2 => E e s2) E s1) s →
      wpAny (model prog w) A (body (.ref c, k) (none, ())) R E s) :
    ∀ (rs : List Row) (a k : Nat) (xs old : List Value) (s : Shared) (R : Option PySem.Fin × Unit → Shared → Prop), ItAt s.heap i a rs → (∀ r ∈ rs, r.2.1 < B ∧ i < r.2.2.length) → B ≤ a → a + rs.length ≤ TO →
      IsTupV s.heap TO (xs ++ old) → xs.length = k → old.length = rs.length → xs.length + rs.length ≤ sizeLine →
      (∀ ys h' tk, Col i rs ys → IsTupV h' TO (xs ++ ys) → ItAt h' (i + 1) a rs → h'.objs.size = s.heap.objs.size → (∀ (c : Nat) o, c ≠ TO → ¬(a ≤ c ∧ c < a + rs.length) → s.heap.get? c = some o → h'.get? c = some o) → R (none, ()) { s with heap := h', toks := tk }) →
      wpAny (model prog w) A (forIn ((itV a rs).zipIdx k) (none, ()) body) R E s
  | [], a, k, xs, old, s, R, _, _, _, _, hT, _, ho, _, h => by
    have e : old = [] := List.length_eq_zero_iff.mp ho
    subst e
    show wpAny _ _ (forIn [] (none, ()) body) _ _ _
    rw [List.forIn_nil]
    exact wpAny_pure (h [] s.heap s.toks trivial hT trivial rfl fun _ _ _ _ e => e)
  | r :: rs, a, k, xs, old, s, R, hi, hl, hB, hTO, hT, hk, ho, hsz, h => by
    obtain ⟨o, old, rfl⟩ : ∃ o old', old = o :: old' := by
      cases old with
      | nil => cases ho
      | cons o old => exact ⟨o, old, rfl⟩
    have hr := hl r (List.mem_cons_self ..)
    simp only [List.length_cons] at hTO
    show wpAny _ _ (forIn ((.ref a, k) :: (itV (a + 1) rs).zipIdx (k + 1)) (none, ()) body) _ _ _
    rw [List.forIn_cons]
    refine wpAny_bind (hb a k s _ ?_)
    refine (bDraws (prog := prog) (w := w) (A := A) r.1 hh a r.2.1 (row_ne hr.1 hB) r.2.2.toArray).item i s _ _ (by simpa using hr.2) hi.1 fun x h1 tk hP st1 sb1 => ?_
    have hTa : TO ≠ a := fun e => by rw [e] at hTO; omega
    simp only [List.length_cons] at hsz ho
    refine ⟨_, sb1.extBut _ _ hTa hT, by simp only [List.length_append, List.length_cons]; omega, fun h2 hT2 sb2 => ?_⟩
    have e2 : (xs ++ o :: old).set k x = (xs ++ [x]) ++ old := by
      subst hk
      simp
    rw [e2] at hT2
    have K1 : ∀ (b : Nat) o, b ≠ a → b ≠ TO → s.heap.get? b = some o → h2.get? b = some o := fun b o n1 n2 e => sb2.extBut _ _ n2 (sb1.extBut _ _ n1 e)
    have hl' : ∀ q ∈ rs, q.2.1 < B ∧ i < q.2.2.length := fun q hq => hl q (List.mem_cons_of_mem _ hq)
    show wpAny (model prog w) A (forIn ((itV (a + 1) rs).zipIdx (k + 1)) (none, ()) body) R E { s with heap := h2, toks := tk }
    refine free_loop hh hb rs (a + 1) (k + 1) (xs ++ [x]) old { s with heap := h2, toks := tk } R (ItAt.keep (B := B) prog w hh (fun q hq => (hl' q hq).1) (by omega) hi.2 fun b o hb e => K1 b o (by omega) (by omega) e) hl' (by omega) (by omega) hT2 (by simp [hk]) (by omega) (by simp only [List.length_append, List.length_cons, List.length_nil]; omega)
      fun ys h3 tk3 hc hT3 hi3 hs3 kp => ?_
    have hx : r.2.2[i]? = some x := by simpa using hP
    have e3 : xs ++ x :: ys = xs ++ [x] ++ ys := by simp
    refine h (x :: ys) h3 tk3 ⟨hx, hc⟩ (by rw [e3]; exact hT3) ⟨(bDraws (prog := prog) (w := w) (A := A) r.1 hh a r.2.1 (row_ne hr.1 hB) r.2.2.toArray).frame (i + 1) h1 h3 st1 fun b hb o e => ?_, hi3⟩ (hs3.trans (sb2.1.trans sb1.1)) fun c o n1 n2 e => ?_
    · have hb2 : (b : Nat) = a ∨ (b : Nat) < B := by
        rcases List.mem_cons.mp hb with e | hb
        · exact .inl e
        · rw [List.mem_singleton.mp hb]; exact .inr hr.1
      have q1 : (b : Nat) ≠ TO := by
        rcases hb2 with e | e
        · rw [e]; exact Nat.ne_of_lt (by omega)
        · exact Nat.ne_of_lt (Nat.lt_of_lt_of_le e (by omega))
      have q2 : ¬(a + 1 ≤ (b : Nat) ∧ (b : Nat) < a + 1 + rs.length) := nin_of hb2 hB
      exact kp b o q1 q2 (sb2.extBut _ _ q1 e)
    · simp only [List.length_cons] at n2
      exact kp c o n1 (by omega) (K1 c o (by omega) n1 e)
/-- the loop that draws beside it -/
theorem held_loop (hh : A.handled = none) {body : Value → Option PySem.Fin × Array Value → Sem (ForInStep (Option PySem.Fin × Array Value))}
    (hb : ∀ (c : Addr) (acc : Array Value) (s : Shared) (R : ForInStep (Option PySem.Fin × Array Value) → Shared → Prop), wpAny (model prog w) A (Builtin.SmallTypes.nextOf (.ref c)) (fun x s1 => R (.yield (none, acc.push x)) s1) E s → wpAny (model prog w) A (body (.ref c) (none, acc)) R E s) :
    ∀ (rs : List Row) (a : Nat) (acc : List Value) (s : Shared) (R : Option PySem.Fin × Array Value → Shared → Prop), ItAt s.heap i a rs → (∀ r ∈ rs, r.2.1 < B ∧ i < r.2.2.length) → B ≤ a →
      (∀ ys h' tk, Col i rs ys → ItAt h' (i + 1) a rs → h'.objs.size = s.heap.objs.size → (∀ (c : Nat) o, ¬(a ≤ c ∧ c < a + rs.length) → s.heap.get? c = some o → h'.get? c = some o) → R (none, (acc ++ ys).toArray) { s with heap := h', toks := tk }) →
      wpAny (model prog w) A (forIn (itV a rs) (none, acc.toArray) body) R E s
  | [], a, acc, s, R, _, _, _, h => by
    show wpAny _ _ (forIn [] (none, acc.toArray) body) _ _ _
    rw [List.forIn_nil]
    have z := h [] s.heap s.toks trivial trivial rfl fun _ _ _ e => e
    rw [List.append_nil] at z
    exact wpAny_pure z
  | r :: rs, a, acc, s, R, hi, hl, hB, h => by
    have hr := hl r (List.mem_cons_self ..)
    show wpAny _ _ (forIn (.ref a :: itV (a + 1) rs) (none, acc.toArray) body) _ _ _
    rw [List.forIn_cons]
    refine wpAny_bind (hb a acc.toArray s _ ?_)
    refine (bDraws (prog := prog) (w := w) (A := A) r.1 hh a r.2.1 (row_ne hr.1 hB) r.2.2.toArray).item i s _ _ (by simpa using hr.2) hi.1 fun x h1 tk hP st1 sb1 => ?_
    have hl' : ∀ q ∈ rs, q.2.1 < B ∧ i < q.2.2.length := fun q hq => hl q (List.mem_cons_of_mem _ hq)
    show wpAny (model prog w) A (forIn (itV (a + 1) rs) (none, acc.toArray.push x) body) R E { s with heap := h1, toks := tk }
    rw [List.push_toArray]
    refine held_loop hh hb rs (a + 1) (acc ++ [x]) { s with heap := h1, toks := tk } R (ItAt.keep (B := B) prog w hh (fun q hq => (hl' q hq).1) (by omega) hi.2 fun b o hb e => sb1.extBut b o (ne_of hb hB) e) hl' (by omega) fun ys h3 tk3 hc hi3 hs3 kp => ?_
    have hx : r.2.2[i]? = some x := by simpa using hP
    have e3 : acc ++ [x] ++ ys = acc ++ x :: ys := by simp
    rw [e3]
    refine h (x :: ys) h3 tk3 ⟨hx, hc⟩ ⟨(bDraws (prog := prog) (w := w) (A := A) r.1 hh a r.2.1 (row_ne hr.1 hB) r.2.2.toArray).frame (i + 1) h1 h3 st1 fun b hb o e => ?_, hi3⟩ (hs3.trans sb1.1) fun c o n2 e => ?_
    · have hb2 : (b : Nat) = a ∨ (b : Nat) < B := by
        rcases List.mem_cons.mp hb with e | hb
        · exact .inl e
        · rw [List.mem_singleton.mp hb]; exact .inr hr.1
      have q2 : ¬(a + 1 ≤ (b : Nat) ∧ (b : Nat) < a + 1 + rs.length) := nin_of hb2 hB
      exact kp b o q2 e
    · simp only [List.length_cons] at n2
      exact kp c o (by omega) (sb1.extBut _ _ (out_of n2) e)
end
end L3

set_option Elab.async false
set_option linter.all false
set_option maxRecDepth 100000
set_option maxHeartbeats 4000000
/-! L3: the next of a zip over any number of rows. -/
noncomputable section
namespace L3
open PySem PySem.Spec PyProof.Rows L2
section
variable {prog : Program} {w : World} {A : Around} {E : Value → Shared → Prop} {s : Shared} {i N : Nat} {rs : List Row} {old : List Value}
theorem itV_length : ∀ (a : Nat) (rs : List Row), (itV a rs).length = rs.length
  | _, [] => rfl
  | a, _ :: rs => congrArg Nat.succ (itV_length (a + 1) rs)
theorem itV_empty {a : Nat} (h : rs ≠ []) : (itV a rs).toArray.isEmpty = false := by
  cases rs with
  | nil => exact absurd rfl h
  | cons r rs => rfl
theorem upd_tup {T : Nat} {xs : List Value} {k : Nat} {x : Value} {Q : Unit → Shared → Prop} (hT : IsTupV s.heap T xs) (hz : xs.length ≤ sizeLine) (h : ∀ h', IsTupV h' T (xs.set k x) → Heap.SameBut T s.heap h' → Q () { s with heap := h' }) :
    wpAny (model prog w) A (updateSeq T (·.setIfInBounds k x)) Q E s := by
  refine wpAny_updateSeq hT rfl (h _ ?_ (Heap.SameBut.update ..)) (by simpa using hz) (by simp; omega)
  show _ = _
  rw [Heap.get?_update_self _ hT rfl]
  simp [Obj.mapSeq]
theorem set_len {xs ys : List Value} {T : Addr} {h : Heap} (a : IsTupV h T xs) (b : IsTupV h T ys) : xs = ys := by
  have e : some ({ cls := .type "tuple", data := .seq xs.toArray } : Obj) = some { cls := .type "tuple", data := .seq ys.toArray } := a.symm.trans b
  injection e with e
  injection e with _ _ e _
  injection e with e _
  simpa using e
/-- what stands at N, N + 1, ..: the iterators, the tuple of them, the tuple that is filled, the zip -/
structure ZAt (h : Heap) (i N : Nat) (rs : List Row) (f0 f1 : Value) : Prop where
  z : h.get? (N + rs.length + 2) = some { cls := .type "zip", dict := none, data := .fields #[f0, f1, .bool false, .ref (N + rs.length), .ref (N + rs.length + 1)], slots := #[] }
  ti : IsTupV h (N + rs.length) (itV N rs)
  to : ∃ old, IsTupV h (N + rs.length + 1) old ∧ old.length = rs.length
  it : ItAt h i N rs
theorem zn_free (hh : A.handled = none) {Q : Value → Shared → Prop} (hs : ZAt s.heap i N rs .none (.bool false)) (hne : rs ≠ []) (hz : rs.length ≤ sizeLine) (hl : ∀ r ∈ rs, r.2.1 < N ∧ i < r.2.2.length)
    (hQ : ∀ ys h' tk, Col i rs ys → ZAt h' (i + 1) N rs (rawInt s.heap.objs.size) (.bool false) → IsTupV h' s.heap.objs.size ys → h'.objs.size = s.heap.objs.size + 1 → (∀ (c : Nat) o, ¬(N ≤ c ∧ c < N + rs.length + 3) → s.heap.get? c = some o → h'.get? c = some o) → Q (.ref s.heap.objs.size) { s with heap := h', toks := tk }) :
    wpAny (model prog w) A (Builtin.«zip.__next__» ⟨[.ref (N + rs.length + 2)], []⟩) (fun fin s' => ∃ v, fin = .done (.ret v) ∧ Q v s') E s := by
  obtain ⟨gz, gt, ⟨old, go, lo⟩, gi⟩ := hs
  obtain ⟨TO, eTO⟩ : ∃ TO : Nat, TO = N + rs.length + 1 := ⟨_, rfl⟩
  obtain ⟨TI, eTI⟩ : ∃ TI : Nat, TI = N + rs.length := ⟨_, rfl⟩
  obtain ⟨z, ez⟩ : ∃ z : Nat, z = N + rs.length + 2 := ⟨_, rfl⟩
  rw [← ez, ← eTO, ← eTI] at gz
  rw [← eTI] at gt
  rw [← eTO] at go
  rw [← ez]
  have zT : TO ≠ z := by omega
  have zI : TI ≠ z := by omega
  have IT : TI ≠ TO := by omega
  show wpAny _ _ (field (.ref z) 2 >>= _) _ _ _
  refine wpAny_bind (wpAny_field gz rfl (x := .bool false) rfl ?_)
  show wpAny _ _ (field (.ref z) 3 >>= _) _ _ _
  refine wpAny_bind (wpAny_field gz rfl (x := .ref TI) rfl ?_)
  refine wpAny_bind (wpAny_seqItems gt rfl ?_)
  dsimp only
  rw [itV_empty hne]
  simp only [Bool.false_eq_true, if_false]
  refine wpAny_bind ?_
  unfold Builtin.SmallTypes.ownedTupleIsFree
  refine wpAny_bind (wpAny_field gz rfl (x := .none) rfl (wpAny_pure ?_))
  simp only [if_true]
  refine wpAny_bind (wpAny_rule (wpAny_bind (wpAny_field gz rfl (x := .ref TO) rfl ?_)))
  refine wpAny_bind (wpAny_setField_rec gz (by simp) fun g0 hz0 hs0 => ?_)
  replace hz0 : IsZip g0 z TI TO .ellipsis := hz0
  refine wpAny_bind ?_
  have K0 : ∀ (c : Nat) o, c ≠ z → s.heap.get? c = some o → g0.get? c = some o := fun c o n e => hs0.extBut _ _ n e
  refine free_loop (B := N) (z := z) (TO := TO) hh (fun c k s1 R hb => ?_) rs N 0 [] old { s with heap := g0 } _ (ItAt.keep (B := N) prog w hh (fun r hr => (hl r hr).1) (Nat.le_refl _) gi fun b o hb e => K0 b o (by omega) e) hl (Nat.le_refl _) (by omega) (K0 _ _ zT go) rfl lo (by simpa using hz)
    fun ys g1 tk hc hT1 hi1 hz1 k1 => ?_
  · refine wpAny_bind (wpAny_onRaise ?_)
    show wpAny _ _ (Builtin.SmallTypes.nextOf (.ref c) >>= _) _ _ _
    refine wpAny_bind (wpAny_mono hb (fun x s2 hx => wpAny_pure ?_) fun _ _ q => q)
    obtain ⟨xs, hT, hxs, hk⟩ := hx
    refine wpAny_bind (wpAny_seqItems hT rfl ?_)
    refine wpAny_bind (upd_tup hT hxs fun h3 hT3 sb3 => wpAny_bind (wpAny_letGo (wpAny_pure (hk h3 hT3 sb3))))
  · have zz : g1.get? z = some { cls := .type "zip", dict := none, data := .fields #[.ellipsis, .bool false, .bool false, .ref TI, .ref TO], slots := #[] } := k1 z _ (Ne.symm zT) (by omega) hz0
    have hT1' : IsTupV g1 TO ys := hT1
    show wpAny _ _ (seqItems? (.ref TO) >>= _) _ _ _
    refine wpAny_bind (wpAny_seqItems (s := { s with heap := g1, toks := tk }) hT1' rfl ?_)
    refine wpAny_bind (wpAny_newTuple ?_ (by simpa [hc.length] using hz))
    have es : g1.objs.size = s.heap.objs.size := hz1.trans hs0.1
    show wpAny _ _ (Builtin.SmallTypes.ownedTupleHandOut (.ref z) (.ref g1.objs.size) >>= _) _ _ { s with heap := g1.push { cls := .type "tuple", data := .seq ys.toArray }, toks := tk }
    refine wpAny_bind ?_
    unfold Builtin.SmallTypes.ownedTupleHandOut
    have zz6 : IsZip (g1.push { cls := .type "tuple", data := .seq ys.toArray }) z TI TO .ellipsis := Heap.get?_push_of_some _ zz
    refine wpAny_bind (wpAny_setField_rec (s := { s with heap := g1.push { cls := .type "tuple", data := .seq ys.toArray }, toks := tk }) zz6 (by simp) fun g7 hz7 hs7 => ?_)
    replace hz7 : IsZip g7 z TI TO (rawInt g1.objs.size) := hz7
    refine wpAny_setField_rec (s := { s with heap := g7, toks := tk }) hz7 (by simp) fun g8 hz8 hs8 => ?_
    replace hz8 : IsZip g8 z TI TO (rawInt g1.objs.size) := hz8
    have K8 : ∀ (c : Nat) o, c ≠ z → g1.get? c = some o → g8.get? c = some o := fun c o n e => hs8.extBut _ _ n (hs7.extBut _ _ n (Heap.get?_push_of_some _ e))
    have zlt : z < g1.objs.size := Heap.lt_size zz
    have nT : g8.get? g1.objs.size = some { cls := .type "tuple", data := .seq ys.toArray } := hs8.extBut _ _ (Nat.ne_of_gt zlt) (hs7.extBut _ _ (Nat.ne_of_gt zlt) (Heap.get?_push_size _ rfl))
    have sz8 : g8.objs.size = g1.objs.size + 1 := by rw [hs8.1, hs7.1]; exact Heap.size_push ..
    rw [es] at hz8 nT sz8
    refine wpAny_pure ⟨_, rfl, ?_⟩
    show Q (.ref g1.objs.size) { s with heap := g8, toks := tk }
    rw [es]
    have KK : ∀ (c : Nat) o, ¬(N ≤ c ∧ c < N + rs.length) → c ≠ z → c ≠ TO → s.heap.get? c = some o → g8.get? c = some o := fun c o n1 n2 n3 e => K8 c o n2 (k1 c o n3 n1 (K0 c o n2 e))
    refine hQ ys g8 tk hc ⟨by rw [← ez, ← eTO, ← eTI]; exact hz8, by rw [← eTI]; exact KK _ _ (by omega) zI IT gt, ⟨ys, by rw [← eTO]; exact K8 _ _ zT hT1', hc.length⟩, ItAt.keep (B := N) prog w hh (fun r hr => (hl r hr).1) (Nat.le_refl _) hi1 fun b o hb e => K8 b o (by omega) e⟩ nT sz8 fun c o n e => KK c o (by omega) (by omega) (by omega) e
end
end L3

set_option Elab.async false
set_option linter.all false
set_option maxRecDepth 100000
set_option maxHeartbeats 4000000
/-! L3: the further turns of a zip over any number of rows; its end. -/
noncomputable section
namespace L3
open PySem PySem.Spec PyProof.Rows L2
section
variable {prog : Program} {w : World} {A : Around} {E : Value → Shared → Prop} {s : Shared} {i N : Nat} {rs : List Row} {old : List Value}
theorem zn_held (hh : A.handled = none) {Q : Value → Shared → Prop} {T : Addr} {oT : Obj} {f : Bool} (hs : ZAt s.heap i N rs (rawInt T) (.bool f)) (hT : s.heap.get? T = some oT) (hne : rs ≠ []) (hz : rs.length ≤ sizeLine) (hl : ∀ r ∈ rs, r.2.1 < N ∧ i < r.2.2.length)
    (hQ : ∀ ys h' tk, Col i rs ys → ZAt h' (i + 1) N rs (rawInt T) (.bool true) → IsTupV h' s.heap.objs.size ys → h'.objs.size = s.heap.objs.size + 1 → (∀ (c : Nat) o, ¬(N ≤ c ∧ c < N + rs.length + 3) → s.heap.get? c = some o → h'.get? c = some o) → Q (.ref s.heap.objs.size) { s with heap := h', toks := tk }) :
    wpAny (model prog w) A (Builtin.«zip.__next__» ⟨[.ref (N + rs.length + 2)], []⟩) (fun fin s' => ∃ v, fin = .done (.ret v) ∧ Q v s') E s := by
  obtain ⟨gz, gt, ⟨old, go, lo⟩, gi⟩ := hs
  obtain ⟨TO, eTO⟩ : ∃ TO : Nat, TO = N + rs.length + 1 := ⟨_, rfl⟩
  obtain ⟨TI, eTI⟩ : ∃ TI : Nat, TI = N + rs.length := ⟨_, rfl⟩
  obtain ⟨z, ez⟩ : ∃ z : Nat, z = N + rs.length + 2 := ⟨_, rfl⟩
  rw [← ez, ← eTO, ← eTI] at gz
  rw [← eTI] at gt
  rw [← eTO] at go
  rw [← ez]
  have zT : TO ≠ z := by omega
  have zI : TI ≠ z := by omega
  show wpAny _ _ (field (.ref z) 2 >>= _) _ _ _
  refine wpAny_bind (wpAny_field gz rfl (x := .bool false) rfl ?_)
  show wpAny _ _ (field (.ref z) 3 >>= _) _ _ _
  refine wpAny_bind (wpAny_field gz rfl (x := .ref TI) rfl ?_)
  refine wpAny_bind (wpAny_seqItems gt rfl ?_)
  dsimp only
  rw [itV_empty hne]
  simp only [Bool.false_eq_true, if_false]
  refine wpAny_bind (wpAny_tupleHeld_zip gz hT fun g0 hz0 hs0 => ?_)
  simp only [Bool.false_eq_true, if_false]
  refine wpAny_bind ?_
  rw [← Array.forIn_toList, List.toList_toArray]
  have K0 : ∀ (c : Nat) o, c ≠ z → s.heap.get? c = some o → g0.get? c = some o := fun c o n e => hs0.extBut _ _ n e
  refine held_loop (B := N) hh (fun c acc s1 R hb => ?_) rs N [] { s with heap := g0 } _ (ItAt.keep (B := N) prog w hh (fun r hr => (hl r hr).1) (Nat.le_refl _) gi fun b o hb e => K0 b o (by omega) e) hl (Nat.le_refl _) fun ys g1 tk hc hi1 hz1 k1 => ?_
  · refine wpAny_bind (wpAny_holding ?_)
    show wpAny _ _ (Builtin.SmallTypes.nextOf (.ref c) >>= _) _ _ _
    exact wpAny_bind (wpAny_mono hb (fun x s2 hx => wpAny_pure (wpAny_pure hx)) fun _ _ q => q)
  · have zz : g1.get? z = some { cls := .type "zip", dict := none, data := .fields #[rawInt T, .bool true, .bool false, .ref TI, .ref TO], slots := #[] } := k1 z _ (by omega) hz0
    show wpAny _ _ (newTuple ys.toArray.toList >>= _) _ _ _
    rw [List.toList_toArray]
    refine wpAny_bind (wpAny_newTuple ?_ (by rw [hc.length]; exact hz))
    have es : g1.objs.size = s.heap.objs.size := hz1.trans hs0.1
    have nT : (g1.push { cls := .type "tuple", data := .seq ys.toArray }).get? g1.objs.size = some { cls := .type "tuple", data := .seq ys.toArray } := Heap.get?_push_size _ rfl
    have sz8 : (g1.push { cls := .type "tuple", data := .seq ys.toArray }).objs.size = g1.objs.size + 1 := Heap.size_push ..
    have KK : ∀ (c : Nat) o, ¬(N ≤ c ∧ c < N + rs.length) → c ≠ z → s.heap.get? c = some o → (g1.push { cls := .type "tuple", data := .seq ys.toArray }).get? c = some o := fun c o n1 n2 e => Heap.get?_push_of_some _ (k1 c o n1 (K0 c o n2 e))
    refine wpAny_pure ⟨_, rfl, ?_⟩
    show Q (.ref g1.objs.size) { s with heap := g1.push { cls := .type "tuple", data := .seq ys.toArray }, toks := tk }
    rw [es] at nT sz8 ⊢
    exact hQ ys _ tk hc ⟨by rw [← ez, ← eTO, ← eTI]; exact Heap.get?_push_of_some _ zz, by rw [← eTI]; exact KK _ _ (by omega) zI gt, ⟨old, by rw [← eTO]; exact KK _ _ (by omega) zT go, lo⟩,
      ItAt.keep (B := N) prog w hh (fun r hr => (hl r hr).1) (Nat.le_refl _) hi1 fun b o hb e => Heap.get?_push_of_some _ e⟩ nT sz8 fun c o n e => KK c o (by omega) (by omega) e
/-- the first row has ended -/
theorem zn_end (hh : A.handled = none) {Q : PySem.Fin → Shared → Prop} {f0 f1 : Value} {r : Row} (hs : ZAt s.heap i N (r :: rs) f0 f1) (hf : (f0 = .none ∧ f1 = .bool false) ∨ ∃ (T : Addr) (oT : Obj) (f : Bool), f0 = rawInt T ∧ f1 = .bool f ∧ s.heap.get? T = some oT) (hr : r.2.1 < N ∧ i = r.2.2.length)
    (hE : ∀ h' tk e, (∀ (c : Nat) o, ¬(N ≤ c ∧ c < N + (r :: rs).length + 3) → s.heap.get? c = some o → h'.get? c = some o) → (∃ o, h'.get? e = some o ∧ o.cls = .type "StopIteration") → E (.ref e) { s with heap := h', toks := tk }) :
    wpAny (model prog w) A (Builtin.«zip.__next__» ⟨[.ref (N + (r :: rs).length + 2)], []⟩) Q E s := by
  obtain ⟨gz, gt, ⟨old, go, lo⟩, gi⟩ := hs
  obtain ⟨n, en⟩ : ∃ n : Nat, n = (r :: rs).length := ⟨_, rfl⟩
  have n0 : 0 < n := by rw [en]; simp
  rw [← en] at gz gt go hE ⊢
  obtain ⟨TO, eTO⟩ : ∃ TO : Nat, TO = N + n + 1 := ⟨_, rfl⟩
  obtain ⟨TI, eTI⟩ : ∃ TI : Nat, TI = N + n := ⟨_, rfl⟩
  obtain ⟨z, ez⟩ : ∃ z : Nat, z = N + n + 2 := ⟨_, rfl⟩
  rw [← ez, ← eTO, ← eTI] at gz
  rw [← eTI] at gt
  rw [← ez]
  have ne : N ≠ z := by omega
  have far : ∀ c : Nat, ¬(N ≤ c ∧ c < N + n + 3) → c ≠ z ∧ c ≠ N := fun c h => ⟨by omega, by omega⟩
  have D := bDraws (prog := prog) (w := w) (A := A) r.1 hh N r.2.1 (row_ne hr.1 (Nat.le_refl N)) r.2.2.toArray
  have stop : ∀ (g0 : Heap) (E' : Value → Shared → Prop) (Q' : Value → Shared → Prop), (∀ (c : Nat) o, c ≠ z → s.heap.get? c = some o → g0.get? c = some o) →
      (∀ q e, Heap.ExtBut N g0 q → (∃ o, q.get? e = some o ∧ o.cls = .type "StopIteration") → E' (.ref e) { s with heap := q }) → wpAny (model prog w) A (Builtin.SmallTypes.nextOf (.ref N)) Q' E' { s with heap := g0 } := fun g0 E' Q' k0 h => by
    refine D.done { s with heap := g0 } Q' E' ?_ fun q e hq he => h q e hq he
    have x : isIt r.1 s.heap N r.2.1 i ∧ isSq r.1 s.heap r.2.1 r.2.2.toArray := gi.1
    rw [hr.2] at x
    have y := D.frame r.2.2.length s.heap g0 x fun b hb o e => k0 b o (by
      rcases List.mem_cons.mp hb with e | hb
      · rw [e]; exact ne
      · rw [List.mem_singleton.mp hb]; exact Nat.ne_of_lt (Nat.lt_of_lt_of_le hr.1 (by omega))) e
    simpa using y
  show wpAny _ _ (field (.ref z) 2 >>= _) _ _ _
  refine wpAny_bind (wpAny_field gz rfl (x := .bool false) rfl ?_)
  show wpAny _ _ (field (.ref z) 3 >>= _) _ _ _
  refine wpAny_bind (wpAny_field gz rfl (x := .ref TI) rfl ?_)
  refine wpAny_bind (wpAny_seqItems gt rfl ?_)
  dsimp only
  rw [itV_empty (a := N) (List.cons_ne_nil r rs)]
  simp only [Bool.false_eq_true, if_false]
  rcases hf with ⟨rfl, rfl⟩ | ⟨T, oT, f, rfl, rfl, hT⟩
  · refine wpAny_bind ?_
    unfold Builtin.SmallTypes.ownedTupleIsFree
    refine wpAny_bind (wpAny_field gz rfl (x := .none) rfl (wpAny_pure ?_))
    simp only [if_true]
    refine wpAny_bind (wpAny_rule (wpAny_bind (wpAny_field gz rfl (x := .ref TO) rfl ?_)))
    refine wpAny_bind (wpAny_setField_rec gz (by simp) fun g0 hz0 hs0 => ?_)
    replace hz0 : IsZip g0 z TI TO .ellipsis := hz0
    refine wpAny_bind ?_
    show wpAny _ _ (forIn ((.ref N, 0) :: (itV (N + 1) rs).zipIdx 1) (none, ()) _) _ _ _
    rw [List.forIn_cons]
    refine wpAny_bind (wpAny_bind (wpAny_onRaise ?_))
    show wpAny _ _ (Builtin.SmallTypes.nextOf (.ref N) >>= _) _ _ _
    refine wpAny_bind (stop g0 _ _ (fun c o n e => hs0.extBut _ _ n e) fun q e hq he => ?_)
    obtain ⟨oe, ho, hc⟩ := he
    have zq : IsZip q z TI TO .ellipsis := hq _ _ (Ne.symm ne) hz0
    have hez : e ≠ z := fun x => by rw [x, zq] at ho; cases ho; simp at hc
    refine wpAny_setField_rec (s := { s with heap := q }) zq (by simp) fun q' _ hq' => ?_
    exact hE q' s.toks e (fun c o n1 x => hq'.extBut _ _ (far c n1).1 (hq _ _ (far c n1).2 (hs0.extBut _ _ (far c n1).1 x))) ⟨oe, hq'.extBut _ _ hez ho, hc⟩
  · refine wpAny_bind (wpAny_tupleHeld_zip gz hT fun g0 hz0 hs0 => ?_)
    simp only [Bool.false_eq_true, if_false]
    refine wpAny_bind ?_
    rw [← Array.forIn_toList, List.toList_toArray]
    show wpAny _ _ (forIn (.ref N :: itV (N + 1) rs) (none, #[]) _) _ _ _
    rw [List.forIn_cons]
    refine wpAny_bind (wpAny_bind (wpAny_holding ?_))
    show wpAny _ _ (Builtin.SmallTypes.nextOf (.ref N) >>= _) _ _ _
    refine wpAny_bind (stop g0 _ _ (fun c o n e => hs0.extBut _ _ n e) fun q e hq he => ?_)
    exact hE q s.toks e (fun c o n1 x => hq _ _ (far c n1).2 (hs0.extBut _ _ (far c n1).1 x)) he
end
end L3

set_option Elab.async false
set_option linter.all false
set_option maxRecDepth 100000
set_option maxHeartbeats 4000000
/-! L3: list over a zip of any number of rows. -/
noncomputable section
namespace L3
open PySem PySem.Spec PyProof.Rows L2
theorem nolen_zip : typeLookup (.type "zip") "__len__" = pure none := am_miss_of_fast (by decide +kernel)
theorem nohint_zip : typeLookup (.type "zip") "__length_hint__" = pure none := am_miss_of_fast (by decide +kernel)
section
variable {prog : Program} {w : World} {A : Around} {E : Value → Shared → Prop} {s : Shared} {i N L : Nat} {rs : List Row}
def ZOk (h : Heap) (i N : Nat) (rs : List Row) (S : Nat) : Prop := ∃ f0 f1, ZAt h i N rs f0 f1 ∧ ((f0 = .none ∧ f1 = .bool false) ∨ ∃ (T : Nat) (oT : Obj) (f : Bool), f0 = rawInt T ∧ f1 = .bool f ∧ N + rs.length + 3 ≤ T ∧ T ≠ S ∧ h.get? T = some oT)
variable {S : Nat}
theorem ZOk.obj {h : Heap} (x : ZOk h i N rs S) : ∃ fs, h.get? (N + rs.length + 2) = some { cls := .type "zip", dict := none, data := .fields fs, slots := #[] } := by
  obtain ⟨f0, f1, a, _⟩ := x
  exact ⟨_, a.z⟩
theorem ZOk.ty (x : ZOk s.heap i N rs S) : s.TypeIs (.ref (N + rs.length + 2)) "zip" := by
  obtain ⟨fs, e⟩ := x.obj
  exact ⟨_, e, rfl⟩
theorem ZOk.lt {h : Heap} (x : ZOk h i N rs S) : N + rs.length + 2 < h.objs.size := by
  obtain ⟨fs, e⟩ := x.obj
  exact Heap.lt_size e
theorem ZOk.keep (prog : Program) (w : World) (hh : A.handled = none) (hl : ∀ r ∈ rs, r.2.1 < N) {h h' : Heap} (hS2 : N + rs.length + 3 ≤ S) (x : ZOk h i N rs S) (k : ∀ (b : Nat) o, b ≠ S → h.get? b = some o → h'.get? b = some o) : ZOk h' i N rs S := by
  obtain ⟨f0, f1, a, d⟩ := x
  obtain ⟨a1, a2, ⟨old, a3, a4⟩, a5⟩ := a
  refine ⟨f0, f1, ⟨k _ _ (by omega) a1, k _ _ (by omega) a2, ⟨old, k _ _ (by omega) a3, a4⟩, ItAt.keep (B := N) prog w hh hl (Nat.le_refl _) a5 fun b o hb e => k b o (by omega) e⟩, ?_⟩
  rcases d with d | ⟨T, oT, f, e1, e2, e3, e4, e5⟩
  · exact .inl d
  · exact .inr ⟨T, oT, f, e1, e2, e3, e4, k _ _ e4 e5⟩
/-- one turn -/
theorem zn_next (hh : A.handled = none) {Q : Option Value → Shared → Prop} (hs : ZOk s.heap i N rs S) (hS : S < s.heap.objs.size) (hne : rs ≠ []) (hz : rs.length ≤ sizeLine) (hl : ∀ r ∈ rs, r.2.1 < N ∧ i < r.2.2.length)
    (hQ : ∀ ys h' tk, Col i rs ys → ZOk h' (i + 1) N rs S → IsTupV h' s.heap.objs.size ys → h'.objs.size = s.heap.objs.size + 1 →
      (∀ (c : Nat) o, ¬(N ≤ c ∧ c < N + rs.length + 3) → s.heap.get? c = some o → h'.get? c = some o) → Q (some (.ref s.heap.objs.size)) { s with heap := h', toks := tk }) :
    wpAny (model prog w) A (pyNext (.ref (N + rs.length + 2))) Q E s := by
  have hT := hs.ty
  have hlt := hs.lt
  have hh1 : A.in1.handled = none := hh
  obtain ⟨f0, f1, a, d⟩ := hs
  unfold pyNext
  refine wpAny_bind (wpAny_attempt (wpAny_callSpecial?_slot (name := Str.ofString "__next__") hT F.slot_zip_next (wpAny_call_entry F.slot_zip_next hT F.entry_zip_next ?_ (F.args_zip_next_1 _))))
  rcases d with ⟨rfl, rfl⟩ | ⟨T, oT, f, rfl, rfl, e3, e4, e5⟩
  · exact zn_free hh1 a hne hz hl fun ys h' tk c1 c2 c3 c4 c5 => wpAny_pure (hQ ys h' tk c1 ⟨_, _, c2, .inr ⟨_, _, _, rfl, rfl, by omega, Nat.ne_of_gt hS, c3⟩⟩ c3 c4 c5)
  · exact zn_held hh1 a e5 hne hz hl fun ys h' tk c1 c2 c3 c4 c5 => wpAny_pure (hQ ys h' tk c1 ⟨_, _, c2, .inr ⟨_, _, _, rfl, rfl, e3, e4, c5 T _ (by omega) e5⟩⟩ c3 c4 c5)
theorem zn_stop (hh : A.handled = none) {Q : Option Value → Shared → Prop} (hs : ZOk s.heap i N rs S) (hne : rs ≠ []) (hl : ∀ r ∈ rs, r.2.1 < N ∧ i = r.2.2.length)
    (hQ : ∀ h' tk, (∀ (c : Nat) o, ¬(N ≤ c ∧ c < N + rs.length + 3) → s.heap.get? c = some o → h'.get? c = some o) → Q none { s with heap := h', toks := tk }) : wpAny (model prog w) A (pyNext (.ref (N + rs.length + 2))) Q E s := by
  have hT := hs.ty
  have hh1 : A.in1.handled = none := hh
  obtain ⟨f0, f1, a, d⟩ := hs
  have hf : (f0 = .none ∧ f1 = .bool false) ∨ ∃ (T : Addr) (oT : Obj) (f : Bool), f0 = rawInt T ∧ f1 = .bool f ∧ s.heap.get? T = some oT := by
    rcases d with d | ⟨T, oT, f, e1, e2, e3, e4, e5⟩
    · exact .inl d
    · exact .inr ⟨T, oT, f, e1, e2, e5⟩
  cases rs with
  | nil => exact absurd rfl hne
  | cons r rs =>
    unfold pyNext
    refine wpAny_bind (wpAny_attempt (wpAny_callSpecial?_slot (name := Str.ofString "__next__") hT F.slot_zip_next (wpAny_call_entry F.slot_zip_next hT F.entry_zip_next (zn_end hh1 a hf (hl r (List.mem_cons_self ..)) fun h' tk e hk he => ?_) (F.args_zip_next_1 _))))
    obtain ⟨o, ho, hc⟩ := he
    exact wpAny_bind (wpAny_isInstance (T := "StopIteration") (b := true) ⟨o, ho, hc⟩ isSubtype_stop (wpAny_pure (hQ _ _ hk)))
/-- the tuples made so far -/
structure Made (h : Heap) (N S : Nat) (rs : List Row) (i : Nat) (Ts : List Nat) : Prop where
  len : Ts.length = i
  up : Ts.Pairwise (· < ·)
  at_ : ∀ (j T : Nat), Ts[j]? = some T → N + rs.length + 3 ≤ T ∧ T ≠ S ∧ ∃ ys, Col j rs ys ∧ IsTupV h T ys
abbrev LstAt (h : Heap) (S : Nat) (vs : List Value) (c : Nat) : Prop := h.get? S = some { cls := .type "list", dict := none, data := .seq vs.toArray c, slots := #[] }
theorem Made.keep {h h' : Heap} {S : Nat} {Ts : List Nat} (x : Made h N S rs i Ts) (k : ∀ (c : Nat) o, ¬(N ≤ c ∧ c < N + rs.length + 3) → c ≠ S → h.get? c = some o → h'.get? c = some o) : Made h' N S rs i Ts :=
  ⟨x.len, x.up, fun j T e => by
    obtain ⟨a, b, ys, c, d⟩ := x.at_ j T e
    exact ⟨a, b, ys, c, k _ _ (by omega) b d⟩⟩
theorem zn_loop (hh : A.handled = none) {res : Value} {R : Result → Shared → Prop} (hne : rs ≠ []) (hz : rs.length ≤ sizeLine) (hL : L ≤ sizeLine) (hl : ∀ r ∈ rs, r.2.1 < N ∧ r.2.2.length = L) (hS2 : N + rs.length + 3 ≤ S) :
    ∀ (k i : Nat) (s : Shared) (Ts : List Nat) (c : Nat), L - i = k → i ≤ L → ZOk s.heap i N rs S → LstAt s.heap S (Ts.map Value.ref) c → Made s.heap N S rs i Ts →
      (∀ (s' : Shared) (Ts' : List Nat) (c' : Nat), s'.gens = s.gens → s'.drawn = s.drawn → s'.os = s.os → (∀ (b : Nat) o, ¬(N ≤ b ∧ b < N + rs.length + 3) → b ≠ S → s.heap.get? b = some o → s'.heap.get? b = some o) → LstAt s'.heap S (Ts'.map Value.ref) c' → Made s'.heap N S rs L Ts' → R (.ok (.ret res)) s') →
      codeAny (model prog w) A (.builtin "list.extend.loop" ⟨[.ref S, .ref (N + rs.length + 2), res], []⟩) R s := by
  have hh1 : A.in1.handled = none := hh
  intro k
  induction k with
  | zero =>
    intro i s Ts c hk hi hs hlst hm hR
    obtain rfl : i = L := by omega
    refine codeAny_builtin F.entry_extend_loop ?_
    rw [Around.under_plainId F.plain_extend_loop _]
    show wpAny _ A.in1 (pyNext (.ref (N + rs.length + 2)) >>= _) _ _ s
    refine wpAny_bind (zn_stop hh1 hs hne (fun r hr => ⟨(hl r hr).1, (hl r hr).2.symm⟩) fun h' tk hk' => wpAny_pure ?_)
    exact hR { s with heap := h', toks := tk } Ts c rfl rfl rfl (fun b o n _ e => hk' b o n e) (hk' S _ (by omega) hlst) (hm.keep fun c o n _ e => hk' c o n e)
  | succ k ih =>
    intro i s Ts c hk hi hs hlst hm hR
    refine codeAny_builtin F.entry_extend_loop ?_
    rw [Around.under_plainId F.plain_extend_loop _]
    show wpAny _ A.in1 (pyNext (.ref (N + rs.length + 2)) >>= _) _ _ s
    have Slt : S < s.heap.objs.size := Heap.lt_size hlst
    have zlt := hs.lt
    refine wpAny_bind (zn_next hh1 hs Slt hne hz (fun r hr => ⟨(hl r hr).1, by rw [(hl r hr).2]; omega⟩) fun ys h1 tk c1 c2 c3 c4 c5 => ?_)
    have hlst1 : LstAt h1 S (Ts.map Value.ref) c := c5 S _ (by omega) hlst
    have lenT : (Ts.map Value.ref).length = i := by rw [List.length_map]; exact hm.len
    have hm1 : Made h1 N S rs (i + 1) (Ts ++ [s.heap.objs.size]) := by
      have hm0 := hm.keep (h' := h1) fun c o n _ e => c5 c o n e
      refine ⟨by simp [hm.len], List.pairwise_append.mpr ⟨hm.up, List.pairwise_singleton _ _, fun a ha b hb => ?_⟩, fun j T e => ?_⟩
      · rw [List.mem_singleton.mp hb]
        obtain ⟨j, hj, e⟩ := List.mem_iff_getElem.mp ha
        obtain ⟨_, _, ys', _, d⟩ := hm.at_ j a (by rw [List.getElem?_eq_getElem hj, e])
        exact Heap.lt_size d
      · by_cases hj : j < Ts.length
        · rw [List.getElem?_append_left hj] at e
          exact hm0.at_ j T e
        · rw [List.getElem?_append_right (by omega)] at e
          have hj0 : j - Ts.length = 0 := by
            cases hz : j - Ts.length with
            | zero => rfl
            | succ m => rw [hz] at e; cases e
          rw [hj0] at e
          cases e
          have ej : j = i := by have := hm.len; omega
          rw [ej]
          exact ⟨by omega, Nat.ne_of_gt Slt, ys, c1, c3⟩
    have elist : Ts.map Value.ref ++ [Value.ref s.heap.objs.size] = (Ts ++ [s.heap.objs.size]).map Value.ref := by simp
    show wpAny _ A.in1 (updateSeq S (·.push (.ref s.heap.objs.size)) >>= _) _ _ _
    refine wpAny_bind ?_
    refine wpAny_updateSeq (s := { s with heap := h1, toks := tk }) hlst1 rfl (wpAny_pure ⟨plainId_quiet F.plain_extend_loop _, ?_⟩) (by rw [List.size_toArray, lenT]; omega) (by rw [Array.size_push, List.size_toArray, lenT]; omega)
    have g2 := Heap.get?_update_self (Obj.mapSeq (·.push (Value.ref s.heap.objs.size))) hlst1 rfl
    have oth : ∀ (b : Nat) o, b ≠ S → h1.get? b = some o → (h1.update S (Obj.mapSeq (·.push (Value.ref s.heap.objs.size)))).get? b = some o := fun b o n e => (Heap.get?_update_other _ _ (Ne.symm n)).trans e
    refine ih (i + 1) { s with heap := h1.update S (Obj.mapSeq (·.push (Value.ref s.heap.objs.size))), toks := tk } (Ts ++ [s.heap.objs.size]) (c + 1) (by omega) (by omega) (ZOk.keep prog w hh (fun r hr => (hl r hr).1) hS2 c2 oth) ?_ (hm1.keep fun c o _ n e => oth c o n e) fun s' Ts' c' e1 e2 e3 e4 e5 e6 => ?_
    · show _ = _
      rw [g2, ← elist]
      simp [Obj.mapSeq]
    · exact hR s' Ts' c' e1 e2 e3 (fun b o n1 n2 e => e4 b o n1 n2 (oth b o n2 (c5 b o n1 e))) e5 e6
end
end L3

set_option Elab.async false
set_option linter.all false
set_option maxRecDepth 100000
set_option maxHeartbeats 4000000
/-! L3: list(z), z a new zip of any number of rows; zip(..) makes it. -/
noncomputable section
namespace L3
open PySem PySem.Spec PyProof.Rows L2
section
variable {prog : Program} {w : World} {A : Around} {E : Value → Shared → Prop} {s : Shared} {N L : Nat} {rs : List Row}
theorem zn_extend (hh : A.handled = none) {S : Nat} {res : Value} {c : Nat} {R : Result → Shared → Prop} (hne : rs ≠ []) (hz : rs.length ≤ sizeLine) (hL : L ≤ sizeLine) (hl : ∀ r ∈ rs, r.2.1 < N ∧ r.2.2.length = L) (hS2 : N + rs.length + 3 ≤ S)
    (hs : ZAt s.heap 0 N rs .none (.bool false)) (hlst : LstAt s.heap S [] c)
    (hR : ∀ (s' : Shared) (Ts' : List Nat) (c' : Nat), s'.gens = s.gens → s'.drawn = s.drawn → s'.os = s.os → (∀ (b : Nat) o, ¬(N ≤ b ∧ b < N + rs.length + 3) → b ≠ S → s.heap.get? b = some o → s'.heap.get? b = some o) → LstAt s'.heap S (Ts'.map Value.ref) c' → Made s'.heap N S rs L Ts' → R (.ok (.ret res)) s') :
    wpAny (model prog w) A.in1 (Builtin.List.listExtendWith (.ref S) (.ref (N + rs.length + 2)) res)
      (fun fin s' => match fin with | .done f => R (.ok f) s' | .again c' => c'.quiet = true ∧ codeAny (model prog w) A c' R s') (fun e s' => R (.error e) s') s := by
  have zo : ZOk s.heap 0 N rs S := ⟨_, _, hs, .inl ⟨rfl, rfl⟩⟩
  have hT := zo.ty
  unfold Builtin.List.listExtendWith
  refine wpAny_bind (wpAny_typeOf hT ?_)
  have ns : Builtin.List.listSameRef (.ref S) (.ref (N + rs.length + 2)) = false := by
    have : S ≠ N + rs.length + 2 := by omega
    simp [Builtin.List.listSameRef, this]
  have n1 : (Value.type "zip" == Value.type "list") = false := by decide
  have n2 : (Value.type "zip" == Value.type "tuple") = false := by decide
  simp only [ns, n1, n2, Bool.or_false, Bool.false_eq_true, if_false]
  have hzip : IsZip s.heap (N + rs.length + 2) (N + rs.length) (N + rs.length + 1) .none := hs.z
  refine wpAny_bind (wpAny_pyIter_zip hzip (wpAny_bind (wpAny_holding ?_)))
  unfold Builtin.List.listLengthHint
  refine wpAny_bind (wpAny_specialOf hT nolen_zip ?_)
  show wpAny _ A.in1 (specialOf (Value.ref (N + rs.length + 2)) (Str.ofString "__length_hint__") >>= _) _ _ _
  refine wpAny_bind (wpAny_specialOf hT nohint_zip (wpAny_pure ?_))
  have Slt : S < s.heap.objs.size := Heap.lt_size hlst
  rw [if_pos (Bool.true_or _)]
  refine wpAny_bind (wpAny_rule (wpAny_bind ?_))
  show wpAny _ A.in1 (updateSeq S (·.push .none) >>= fun _ => updateSeq S (·.pop)) _ _ _
  refine wpAny_bind (wpAny_updateSeq hlst rfl ?_)
  have g1 := Heap.get?_update_self (Obj.mapSeq (·.push Value.none)) hlst rfl
  refine wpAny_updateSeq g1 rfl ?_
  have g2 := Heap.get?_update_self (Obj.mapSeq (·.pop)) g1 rfl
  have oth : ∀ (b : Nat) o, b ≠ S → s.heap.get? b = some o → ((s.heap.update S (Obj.mapSeq (·.push Value.none))).update S (Obj.mapSeq (·.pop))).get? b = some o := fun b o n e =>
    (Heap.get?_update_other _ _ (Ne.symm n)).trans ((Heap.get?_update_other _ _ (Ne.symm n)).trans e)
  refine wpAny_pure ⟨plainId_quiet F.plain_extend_loop _, ?_⟩
  refine zn_loop hh hne hz hL hl hS2 (L - 0) 0 { s with heap := (s.heap.update S (Obj.mapSeq (·.push Value.none))).update S (Obj.mapSeq (·.pop)) } [] (c + 1 + 1) rfl (Nat.zero_le _) (ZOk.keep prog w hh (fun r hr => (hl r hr).1) hS2 zo oth) ?_ ⟨rfl, List.Pairwise.nil, fun j T e => by simp at e⟩ fun s' Ts' c' e1 e2 e3 e4 e5 e6 => hR s' Ts' c' e1 e2 e3 (fun b o n1 n2 e => e4 b o n1 n2 (oth b o n2 e)) e5 e6
  show _ = _
  rw [g2]
  rfl
theorem zn_init (hh : A.handled = none) {S : Nat} {R : Result → Shared → Prop} (hne : rs ≠ []) (hz : rs.length ≤ sizeLine) (hL : L ≤ sizeLine) (hl : ∀ r ∈ rs, r.2.1 < N ∧ r.2.2.length = L) (hS2 : N + rs.length + 3 ≤ S)
    (hs : ZAt s.heap 0 N rs .none (.bool false)) (hlst : LstAt s.heap S [] 0)
    (hR : ∀ (s' : Shared) (Ts' : List Nat) (c' : Nat), s'.gens = s.gens → s'.drawn = s.drawn → s'.os = s.os → (∀ (b : Nat) o, ¬(N ≤ b ∧ b < N + rs.length + 3) → b ≠ S → s.heap.get? b = some o → s'.heap.get? b = some o) → LstAt s'.heap S (Ts'.map Value.ref) c' → Made s'.heap N S rs L Ts' → R (.ok (.ret .none)) s') :
    wpAny (model prog w) A.in1 (Builtin.«list.__init__» ⟨[.ref S, .ref (N + rs.length + 2)], []⟩)
      (fun fin s' => match fin with | .done f => R (.ok f) s' | .again c' => c'.quiet = true ∧ codeAny (model prog w) A c' R s') (fun e s' => R (.error e) s') s := by
  show wpAny _ _ (Builtin.List.listItems (.ref S) >>= fun old => Builtin.List.listUpdate (.ref S) (fun _ => #[]) >>= fun _ => letGo old.toList.reverse >>= fun _ => Builtin.List.listExtendWith (.ref S) (.ref (N + rs.length + 2)) .none) _ _ s
  refine wpAny_bind ?_
  unfold Builtin.List.listItems
  refine wpAny_bind (wpAny_seqItems hlst rfl (wpAny_pure (wpAny_bind ?_)))
  show wpAny _ _ (updateSeq S (fun _ => #[])) _ _ s
  refine wpAny_updateSeq hlst rfl ?_
  have g1 := Heap.get?_update_self (Obj.mapSeq (fun _ => (#[] : Array Value))) hlst rfl
  have oth : ∀ (b : Nat) o, b ≠ S → s.heap.get? b = some o → (s.heap.update S (Obj.mapSeq (fun _ => (#[] : Array Value)))).get? b = some o := fun b o n e => (Heap.get?_update_other _ _ (Ne.symm n)).trans e
  refine wpAny_bind (wpAny_letGo ?_)
  obtain ⟨a1, a2, ⟨old, a3, a4⟩, a5⟩ := hs
  exact zn_extend (s := { s with heap := s.heap.update S (Obj.mapSeq (fun _ => (#[] : Array Value))) }) hh hne hz hL hl hS2 ⟨oth _ _ (by omega) a1, oth _ _ (by omega) a2, ⟨old, oth _ _ (by omega) a3, a4⟩, ItAt.keep (B := N) prog w hh (fun r hr => (hl r hr).1) (Nat.le_refl _) a5 fun b o hb e => oth b o (by omega) e⟩ (c := 0) (g1.trans rfl)
    fun s' Ts' c' e1 e2 e3 e4 e5 e6 => hR s' Ts' c' e1 e2 e3 (fun b o n1 n2 e => e4 b o n1 n2 (oth b o n2 e)) e5 e6
theorem zn_list (hh : A.handled = none) {Q : Value → Shared → Prop} (hne : rs ≠ []) (hz : rs.length ≤ sizeLine) (hL : L ≤ sizeLine) (hl : ∀ r ∈ rs, r.2.1 < N ∧ r.2.2.length = L) (hs : ZAt s.heap 0 N rs .none (.bool false))
    (hQ : ∀ (s' : Shared) (Ts' : List Nat) (c' : Nat), s'.gens = s.gens → s'.drawn = s.drawn → s'.os = s.os → (∀ (b : Nat) o, ¬(N ≤ b ∧ b < N + rs.length + 3) → s.heap.get? b = some o → s'.heap.get? b = some o) → LstAt s'.heap s.heap.objs.size (Ts'.map Value.ref) c' → Made s'.heap N s.heap.objs.size rs L Ts' → Q (.ref s.heap.objs.size) s') :
    wpAny (model prog w) A (call (.type "list") [.ref (N + rs.length + 2)]) Q E s := by
  have zlt : N + rs.length + 2 < s.heap.objs.size := Heap.lt_size hs.z
  have hh1 : A.in1.handled = none := hh
  refine callType_codes (Q₁ := fun obj s₁ => obj = .ref s.heap.objs.size ∧ s₁ = { s with heap := s.heap.push { cls := .type "list", data := .seq #[] } }) PySem.F.called_list (PySem.F.typeCall_list_1 _) PySem.F.entry_list_init (code_list_new _ ⟨rfl, rfl⟩) fun obj s₁ h₁ => ?_
  obtain ⟨rfl, rfl⟩ := h₁
  have gS : (s.heap.push { cls := .type "list", data := .seq #[] }).get? s.heap.objs.size = some { cls := .type "list", data := .seq #[] } := Heap.get?_push_size _ rfl
  obtain ⟨a1, a2, ⟨old, a3, a4⟩, a5⟩ := hs
  have up : ∀ (b : Nat) o, s.heap.get? b = some o → (s.heap.push { cls := .type "list", data := .seq #[] }).get? b = some o := fun b o e => Heap.get?_push_of_some _ e
  refine ⟨⟨_, gS, rfl⟩, PySem.F.args_list_init_2 _ _, zn_init (A := A.in1) (s := { s with heap := s.heap.push { cls := .type "list", data := .seq #[] } }) hh1 hne hz hL hl (by omega) ⟨up _ _ a1, up _ _ a2, ⟨old, up _ _ a3, a4⟩, ItAt.keep (B := N) prog w hh (fun r hr => (hl r hr).1) (Nat.le_refl _) a5 fun b o _ e => up b o e⟩ gS fun s' Ts' c' e1 e2 e3 e4 e5 e6 => ?_⟩
  exact ⟨rfl, hQ s' Ts' c' e1 e2 e3 (fun b o n1 e => e4 b o n1 (Nat.ne_of_lt (Heap.lt_size e)) (up b o e)) e5 e6⟩
end
end L3

set_option Elab.async false
set_option linter.all false
set_option maxRecDepth 100000
set_option maxHeartbeats 4000000
/-! L3: zip(*rows) is made; list(zip(*rows)) as a rule of the layer. -/
noncomputable section
namespace L3
open PySem PySem.Spec PyProof.Rows L2
theorem zip_call (a : Value) (args : List Value) : checkTypeCall "zip" ⟨a :: args, []⟩ = pure () := by kernel_rfl
theorem zip_new (a : Value) (args : List Value) : checkBuiltinCall "zip.__new__" ⟨.type "zip" :: a :: args, []⟩ = pure () := by kernel_rfl
theorem obj_init (o a : Value) (args : List Value) : argsOk "object.__init__" ⟨o :: a :: args, []⟩ := by
  unfold argsOk
  rw [signature?_of (id := "object.__init__") (n := "__tini__".toList) (o := "tcejbo".toList) (by kernel_rfl) F.owner_object]
  kernel_rfl
theorem zip_class (a : Value) (args : List Value) : Builtin.SmallTypes.newClass "zip" ⟨.type "zip" :: a :: args, []⟩ = pure (.type "zip", a :: args) := by
  unfold Builtin.SmallTypes.newClass
  simp only [isType, sub_zip, pure_bind, Bool.not_true, Bool.false_eq_true, if_false]
def refs (rs : List Row) : List Value := rs.map fun r => .ref r.2.1
section
variable {prog : Program} {w : World} {A : Around} {E : Value → Shared → Prop} {s : Shared} {rs : List Row}
theorem iters_loop {body : Value → Array Value → Sem (ForInStep (Array Value))} (hb : ∀ (v : Value) (acc : Array Value) (s : Shared) (R : ForInStep (Array Value) → Shared → Prop), wpAny (model prog w) A (pyIter v) (fun x s1 => R (.yield (acc.push x)) s1) E s → wpAny (model prog w) A (body v acc) R E s) :
    ∀ (rs : List Row) (acc : List Value) (s : Shared) (R : Array Value → Shared → Prop), (∀ r ∈ rs, isSq r.1 s.heap r.2.1 r.2.2.toArray) →
      (∀ h', (∀ b o, s.heap.get? b = some o → h'.get? b = some o) → h'.objs.size = s.heap.objs.size + rs.length → ItAt h' 0 s.heap.objs.size rs → R (acc ++ itV s.heap.objs.size rs).toArray { s with heap := h' }) →
      wpAny (model prog w) A (forIn (refs rs) acc.toArray body) R E s
  | [], acc, s, R, _, h => by
    show wpAny _ _ (forIn [] acc.toArray body) _ _ _
    rw [List.forIn_nil]
    have z := h s.heap (fun _ _ e => e) rfl trivial
    rw [show itV s.heap.objs.size [] = [] from rfl, List.append_nil] at z
    exact wpAny_pure z
  | r :: rs, acc, s, R, hs, h => by
    have hr := hs r (List.mem_cons_self ..)
    show wpAny _ _ (forIn (.ref r.2.1 :: refs rs) acc.toArray body) _ _ _
    rw [List.forIn_cons]
    have B := bBegins r.1 r.2.1 r.2.2.toArray
    refine wpAny_bind (hb _ _ s _ (B.iter prog w A E s _ hr ?_))
    have up : ∀ b o, s.heap.get? b = some o → (s.heap.push (itO r.1 r.2.1)).get? b = some o := fun b o e => Heap.get?_push_of_some _ e
    have g0 : (s.heap.push (itO r.1 r.2.1)).get? s.heap.objs.size = some (itO r.1 r.2.1) := Heap.get?_push_size _ B.free
    have sz : (s.heap.push (itO r.1 r.2.1)).objs.size = s.heap.objs.size + 1 := Heap.size_push ..
    show wpAny (model prog w) A (forIn (refs rs) (acc.toArray.push (.ref s.heap.objs.size)) body) R E { s with heap := s.heap.push (itO r.1 r.2.1) }
    rw [List.push_toArray]
    refine iters_loop hb rs (acc ++ [.ref s.heap.objs.size]) { s with heap := s.heap.push (itO r.1 r.2.1) } R (fun q hq => (bBegins q.1 q.2.1 q.2.2.toArray).keeps _ _ (hs q (List.mem_cons_of_mem _ hq)) up) fun h' k z it => ?_
    dsimp only at k z it
    rw [sz] at z it
    have e : acc ++ [Value.ref s.heap.objs.size] ++ itV (s.heap.objs.size + 1) rs = acc ++ itV s.heap.objs.size (r :: rs) := by simp [itV]
    show R _ { s with heap := h' }
    have q := h h' (fun b o e => k b o (up b o e)) (by rw [List.length_cons]; omega) ⟨⟨isIt.new (k _ _ g0), B.keeps _ _ hr fun b o e => k b o (up b o e)⟩, it⟩
    rw [← e] at q
    rw [show ({ s with heap := s.heap.push (itO r.1 r.2.1) } : Shared).heap.objs.size = s.heap.objs.size + 1 from sz]
    exact q
theorem zn_make {Q : Value → Shared → Prop} (hne : rs ≠ []) (hz : rs.length ≤ sizeLine) (hs : ∀ r ∈ rs, isSq r.1 s.heap r.2.1 r.2.2.toArray)
    (hQ : ∀ h', ZAt h' 0 s.heap.objs.size rs .none (.bool false) → h'.objs.size = s.heap.objs.size + rs.length + 3 → (∀ b o, s.heap.get? b = some o → h'.get? b = some o) → Q (.ref (s.heap.objs.size + rs.length + 2)) { s with heap := h' }) :
    wpAny (model prog w) A (call (.type "zip") (refs rs)) Q E s := by
  obtain ⟨r0, rs0, e0⟩ : ∃ r0 rs0, rs = r0 :: rs0 := by
    cases rs with
    | nil => exact absurd rfl hne
    | cons r rs => exact ⟨r, rs, rfl⟩
  have er : refs rs = .ref r0.2.1 :: refs rs0 := by rw [e0]; rfl
  refine callType_newIn (prog := prog) (w := w) (S := fun A R s => (∀ r ∈ rs, isSq r.1 s.heap r.2.1 r.2.2.toArray) ∧ ∀ h', ZAt h' 0 s.heap.objs.size rs .none (.bool false) → h'.objs.size = s.heap.objs.size + rs.length + 3 → (∀ b o, s.heap.get? b = some o → h'.get? b = some o) → R (.ok (.ret (.ref (s.heap.objs.size + rs.length + 2)))) { s with heap := h' }) F.called_zip (by decide) (by rw [er]; exact zip_call _ _) (by rw [er]; exact zip_new _ _) (fun o => by rw [er]; exact obj_init _ _ _) F.entry_zip_new (.of_wp fun A R s h => ?_) ?_
  · obtain ⟨hs, h⟩ := h
    unfold Builtin.«zip.__new__»
    have ec : Builtin.SmallTypes.newClass "zip" ⟨.type "zip" :: refs rs, []⟩ = pure (.type "zip", refs rs) := by rw [er]; exact zip_class _ _
    refine wpAny_bind (wpAny_of_eq ec ?_)
    dsimp only
    rw [if_neg (by simp)]
    refine wpAny_bind ?_
    unfold Builtin.SmallTypes.iterAll
    refine wpAny_bind (iters_loop (fun v acc s R h => wpAny_bind (wpAny_holding (wpAny_mono h (fun x s1 hx => wpAny_pure hx) fun _ _ z => z))) rs [] s _ hs fun h1 k1 z1 it1 => wpAny_pure ?_)
    rw [List.nil_append, List.toList_toArray]
    have lv : (itV s.heap.objs.size rs).length = rs.length := itV_length _ _
    refine wpAny_bind (wpAny_newTuple (s := { s with heap := h1 }) ?_ (by rw [lv]; exact hz))
    refine wpAny_bind (wpAny_newTuple ?_ (by rw [List.length_map, lv]; exact hz))
    refine wpAny_bind ?_
    unfold Builtin.SmallTypes.newRecord
    dsimp only
    refine wpAny_newObj_type (hd := by first | trivial | (simp [sizeOk, Builtin.SmallTypes.ownedTupleFields]; try decide)) (wpAny_pure ⟨_, rfl, ?_⟩)
    have zA : (h1.push { cls := .type "tuple", data := .seq (itV s.heap.objs.size rs).toArray }).objs.size = s.heap.objs.size + rs.length + 1 := by rw [Heap.size_push, z1]
    have zB : ((h1.push { cls := .type "tuple", data := .seq (itV s.heap.objs.size rs).toArray }).push { cls := .type "tuple", data := .seq (List.map (fun _ => Value.none) (itV s.heap.objs.size rs)).toArray }).objs.size = s.heap.objs.size + rs.length + 2 := by rw [Heap.size_push, zA]
    obtain ⟨hC, eC⟩ : ∃ hC, hC = ((h1.push { cls := .type "tuple", data := .seq (itV s.heap.objs.size rs).toArray }).push { cls := .type "tuple", data := .seq (List.map (fun _ => Value.none) (itV s.heap.objs.size rs)).toArray }).push { cls := .type "zip", data := .fields #[.none, .bool false, .bool false, .ref (s.heap.objs.size + rs.length), .ref (s.heap.objs.size + rs.length + 1)] } := ⟨_, rfl⟩
    have up : ∀ b o, h1.get? b = some o → hC.get? b = some o := fun b o e => by
      rw [eC]; exact Heap.get?_push_of_some _ (Heap.get?_push_of_some _ (Heap.get?_push_of_some _ e))
    have q := h hC ⟨by rw [eC, ← zB]; exact Heap.get?_push_size _ rfl, by rw [eC, ← z1]; exact Heap.get?_push_of_some _ (Heap.get?_push_of_some _ (Heap.get?_push_size _ rfl)), ⟨_, by rw [eC, ← zA]; exact Heap.get?_push_of_some _ (Heap.get?_push_size _ rfl), by rw [List.length_map, lv]⟩, ?_⟩ (by rw [eC, Heap.size_push, zB]) fun b o e => up b o (k1 b o e)
    · rw [eC] at q
      show R (.ok (.ret (.ref _))) { s with heap := _ }
      rw [zB]
      have e5 : (Builtin.SmallTypes.ownedTupleFields ++ [Value.bool false, Value.ref h1.objs.size, Value.ref (h1.push { cls := .type "tuple", data := .seq (itV s.heap.objs.size rs).toArray }).objs.size]).toArray = #[.none, .bool false, .bool false, .ref (s.heap.objs.size + rs.length), .ref (s.heap.objs.size + rs.length + 1)] := by
        rw [zA, z1]; rfl
      rw [e5]
      exact q
    · exact ItAt.keep (A := callerA) (B := s.heap.objs.size) prog w rfl (fun r hr => isSq.lt (hs r hr)) (Nat.le_refl _) it1 fun b o _ e => up b o e
  · exact ⟨hs, fun h' a b k => ⟨⟨_, a.z, rfl⟩, hQ h' a b k⟩⟩
end
end L3

set_option Elab.async false
set_option linter.all false
set_option maxRecDepth 100000
set_option maxHeartbeats 4000000
/-! L3: list(zip(*rows)) as a rule of the layer. -/
noncomputable section
namespace L3
open PySem PySem.Spec PyProof.Rows L2
/-! ### columns -/
def colsOf {α : Type} : List (List α) → List (List α)
  | [] => []
  | [r] => r.map fun x => [x]
  | r :: q :: rs => List.zipWith (· :: ·) r (colsOf (q :: rs))
theorem colsOf_cons {α : Type} (r : List α) {rs : List (List α)} (h : rs ≠ []) : colsOf (r :: rs) = List.zipWith (· :: ·) r (colsOf rs) := by
  cases rs with
  | nil => exact absurd rfl h
  | cons q rs => rfl
theorem colsOf_len {α : Type} {L : Nat} : ∀ {rs : List (List α)}, rs ≠ [] → (∀ r ∈ rs, r.length = L) → (colsOf rs).length = L
  | [], h, _ => absurd rfl h
  | [r], _, h => by
    show (r.map fun x => [x]).length = L
    rw [List.length_map]; exact h r (by simp)
  | r :: q :: rs, _, h => by
    show (List.zipWith (· :: ·) r (colsOf (q :: rs))).length = L
    rw [List.length_zipWith, colsOf_len (List.cons_ne_nil q rs) fun x hx => h x (List.mem_cons_of_mem _ hx), h r (by simp), Nat.min_self]
/-- what stands in column j -/
theorem colsOf_at {j : Nat} : ∀ {rs : List Row} {c : List Value}, rs ≠ [] → (colsOf (rs.map fun r => r.2.2))[j]? = some c → Col j rs c
  | [], _, h, _ => absurd rfl h
  | [r], c, _, h => by
    have h : (r.2.2.map fun x => [x])[j]? = some c := h
    rw [List.getElem?_map] at h
    cases e : r.2.2[j]? with
    | none => rw [e] at h; cases h
    | some x => rw [e] at h; cases h; exact ⟨e, trivial⟩
  | r :: q :: rs, c, _, h => by
    have h : (List.zipWith (· :: ·) r.2.2 (colsOf ((q :: rs).map fun r => r.2.2)))[j]? = some c := h
    rw [List.getElem?_zipWith] at h
    cases e : r.2.2[j]? with
    | none => rw [e] at h; simp at h
    | some x =>
      cases e' : (colsOf ((q :: rs).map fun r => r.2.2))[j]? with
      | none => rw [e, e'] at h; simp at h
      | some c' =>
        rw [e, e'] at h
        cases h
        exact ⟨e, colsOf_at (List.cons_ne_nil q rs) e'⟩
theorem Col.uniq {j : Nat} : ∀ {rs : List Row} {c d : List Value}, Col j rs c → Col j rs d → c = d
  | [], [], [], _, _ => rfl
  | [], [], _ :: _, _, h => h.elim
  | [], _ :: _, _, h, _ => h.elim
  | r :: rs, [], _, h, _ => h.elim
  | r :: rs, _ :: _, [], _, h => h.elim
  | r :: rs, x :: c, y :: d, h, k => by
    have e := h.1.symm.trans k.1
    cases e
    rw [Col.uniq h.2 k.2]
/-! ### several new objects -/
def updL (H : Hp) : List (Addr × HO) → Hp
  | [] => H
  | p :: l => updL (upd H p.1 p.2) l
theorem Inv.many {X : Cx} {pins : List (Addr × Obj)} {σ : L2.St} {hf : Heap} {tk : Nat} : ∀ (l : List (Addr × HO)) {H : Hp} {s : Shared}, L2.Inv X pins σ H s → (∀ b u, s.heap.get? b = some u → hf.get? b = some u) → (l.map (·.1)).Nodup → (∀ p ∈ l, s.heap.get? p.1 = none ∧ H p.1 = none) →
    (∀ p ∈ l, ∀ (H' : Hp) (h' : Heap), h'.get? p.1 = hf.get? p.1 → ObjOk X.prog X.w H' h' p.1 p.2) → L2.Inv X pins σ (updL H l) { s with heap := hf, toks := tk }
  | [], H, s, I, k, _, _, _ => I.kept (t' := tk) k
  | p :: l, H, s, I, k, nd, fr, ok => by
    obtain ⟨n1, n2⟩ := List.nodup_cons.mp (show (p.1 :: l.map (·.1)).Nodup from nd)
    obtain ⟨f1, f2⟩ := fr p (List.mem_cons_self ..)
    obtain ⟨g, g1, g2⟩ := restrict hf fun b => (s.heap.get? b).isSome || decide (b = p.1)
    have k1 : ∀ b u, s.heap.get? b = some u → g.get? b = some u := fun b u e => by
      rw [g1 b (by simp [e])]; exact k b u e
    have k2 : ∀ b u, g.get? b = some u → hf.get? b = some u := fun b u e => by
      cases q : ((s.heap.get? b).isSome || decide (b = p.1)) with
      | true => rw [← g1 b q]; exact e
      | false => rw [g2 b q] at e; cases e
    have I1 := I.laidN (h' := g) (t' := tk) (o := p.2) k1 f1 f2 (ok p (List.mem_cons_self ..) _ g (g1 p.1 (by simp)))
    refine Inv.many l (s := { s with heap := g, toks := tk }) I1 k2 n2 (fun q hq => ?_) fun q hq => ok q (List.mem_cons_of_mem _ hq)
    have ne : q.1 ≠ p.1 := fun e => n1 (by rw [← e]; exact List.mem_map.mpr ⟨q, hq, rfl⟩)
    obtain ⟨f3, f4⟩ := fr q (List.mem_cons_of_mem _ hq)
    exact ⟨g2 q.1 (by simp [f3, ne]), by simp [upd, ne, f4]⟩
end L3

set_option Elab.async false
set_option linter.all false
set_option maxRecDepth 100000
set_option maxHeartbeats 4000000
/-! L3: list(zip(*rows)) as a rule of the layer. -/
noncomputable section
namespace L3
open PySem PySem.Spec PyProof.Rows L2
abbrev RowV := Bool × Addr × List V
inductive All2 {α β : Type} (R : α → β → Prop) : List α → List β → Prop
  | nil : All2 R [] []
  | cons {a : α} {b : β} {as : List α} {bs : List β} (h : R a b) (t : All2 R as bs) : All2 R (a :: as) (b :: bs)
theorem All2.length {α β : Type} {R : α → β → Prop} {as : List α} {bs : List β} (h : All2 R as bs) : as.length = bs.length := by
  induction h with
  | nil => rfl
  | cons _ _ ih => exact congrArg Nat.succ ih
theorem All2.at_ {α β : Type} {R : α → β → Prop} {as : List α} {bs : List β} (h : All2 R as bs) : ∀ {j : Nat} {a : α} {b : β}, as[j]? = some a → bs[j]? = some b → R a b := by
  induction h with
  | nil => intro j a b h1 _; simp at h1
  | cons h _ ih =>
    intro j a b h1 h2
    cases j with
    | zero => simp at h1 h2; subst h1; subst h2; exact h
    | succ j => exact ih (by simpa using h1) (by simpa using h2)
theorem vals_wrap : ∀ {vs : List V} {us : List Value}, Vals vs us → All2 Vals (vs.map fun x => [x]) (us.map fun x => [x])
  | _, _, .nil => .nil
  | _, _, .cons h t => .cons (.cons h .nil) (vals_wrap t)
theorem vals_zip : ∀ {vs : List V} {us : List Value} {cs : List (List V)} {ds : List (List Value)}, Vals vs us → All2 Vals cs ds → All2 Vals (List.zipWith (· :: ·) vs cs) (List.zipWith (· :: ·) us ds)
  | _, _, _, _, .nil, _ => .nil
  | _, _, _, _, .cons _ _, .nil => .nil
  | _, _, _, _, .cons h t, .cons k r => .cons (.cons h k) (vals_zip t r)
theorem cols_vals : ∀ {vs : List (List V)} {us : List (List Value)}, All2 Vals vs us → All2 Vals (colsOf vs) (colsOf us)
  | _, _, .nil => .nil
  | _, _, .cons h .nil => vals_wrap h
  | _, _, .cons h (.cons k t) => vals_zip h (cols_vals (.cons k t))
def tListZ (K : PySem.W.Frag) (te : TE) : TE := fun σ H Q => te σ H fun x H1 => ∃ (q : Bool) (a : Addr) (rss : List RowV) (L : Nat), x = .ref a ∧ bSq q K H1 a (rss.map fun r => .ref r.2.1) ∧ rss ≠ [] ∧ L ≤ sizeLine ∧ (∀ r ∈ rss, bSq r.1 K H1 r.2.1 r.2.2 ∧ r.2.2.length = L) ∧
  ∀ (Ts : List Addr) (p : Addr), Ts.length = L → (Ts ++ [p]).Nodup → (∀ t ∈ Ts ++ [p], H1 t = none) → Q (.ref p) (upd (updL H1 (Ts.zip ((colsOf (rss.map fun r => r.2.2)).map HO.tup))) p (.lst (Ts.map V.ref)))
theorem updL_append (H : Hp) : ∀ (l : List (Addr × HO)) (p : Addr) (u : HO), updL H (l ++ [(p, u)]) = upd (updL H l) p u := by
  intro l
  induction l generalizing H with
  | nil => intro p u; rfl
  | cons q l ih => intro p u; exact ih _ p u
section
variable {X : Cx} {pins : List (Addr × Obj)} {σ : L2.St} {H : Hp} {s : Shared}
/-- the rows as the model has them -/
theorem rows_of (I : L2.Inv X pins σ H s) : ∀ (rss : List RowV), (∀ r ∈ rss, bSq r.1 X.K H r.2.1 r.2.2) → ∃ rs : List Row, All2 (fun (r : RowV) (m : Row) => m.1 = r.1 ∧ m.2.1 = r.2.1 ∧ Vals r.2.2 m.2.2 ∧ isSq m.1 s.heap m.2.1 m.2.2.toArray) rss rs
  | [], _ => ⟨[], .nil⟩
  | r :: rss, h => by
    obtain ⟨rs, hrs⟩ := rows_of I rss fun q hq => h q (List.mem_cons_of_mem _ hq)
    obtain ⟨its, rv, p⟩ := bInv I (h r (List.mem_cons_self ..))
    exact ⟨(r.1, r.2.1, its) :: rs, .cons ⟨rfl, rfl, rv, p⟩ hrs⟩
theorem rows_all2 {h : Heap} {rss : List RowV} {rs : List Row} (x : All2 (fun (r : RowV) (m : Row) => m.1 = r.1 ∧ m.2.1 = r.2.1 ∧ Vals r.2.2 m.2.2 ∧ isSq m.1 h m.2.1 m.2.2.toArray) rss rs) : All2 Vals (rss.map fun r => r.2.2) (rs.map fun r => r.2.2) := by
  induction x with
  | nil => exact .nil
  | cons h _ ih => exact .cons h.2.2.1 ih
theorem vals_refsV : ∀ Ts : List Addr, Vals (Ts.map V.ref) (Ts.map Value.ref)
  | [] => .nil
  | _ :: Ts => .cons rfl (vals_refsV Ts)
theorem refs_vals : ∀ {rss : List RowV} {us : List Value}, Vals (rss.map fun r => V.ref r.2.1) us → us = rss.map fun r => Value.ref r.2.1
  | [], _, .nil => rfl
  | r :: rss, _, .cons h t => by
    cases h
    rw [refs_vals t]; rfl
theorem star_of {M : Model} {A : Around} {E : Value → Shared → Prop} {q : Bool} {a : Addr} {its : List Value} {Q : List Value → Shared → Prop} {prog : Program} {w : World} (p : isSq q s.heap a its.toArray) (hz : its.length ≤ sizeLine) (h : ∀ h', (∀ b o, s.heap.get? b = some o → h'.get? b = some o) → Q its { s with heap := h' }) :
    PySem.W.StarOf (model prog w) A E (.ref a) Q s := by
  unfold PySem.W.StarOf notIterableAtAll
  cases q with
  | false =>
    obtain ⟨o, ho, hc, n, hd⟩ := (p : s.heap.IsList a its.toArray)
    refine wpAny_bind (wpAny_specialOf ⟨o, ho, hc⟩ PySem.F.slot_list_iter.lookup (wpAny_pure ⟨rfl, ?_⟩))
    exact wpAny_collect_seq a (.inl rfl) ho hc hd (fun h' k => by rw [List.toList_toArray]; exact h h' k) (by simpa using hz)
  | true =>
    obtain ⟨o, ho, hc, n, hd⟩ := (p : s.heap.IsTuple a its.toArray)
    refine wpAny_bind (wpAny_specialOf ⟨o, ho, hc⟩ PySem.F.slot_tuple_iter.lookup (wpAny_pure ⟨rfl, ?_⟩))
    exact wpAny_collect_seq a (.inr rfl) ho hc hd (fun h' k => by rw [List.toList_toArray]; exact h h' k) (by simpa using hz)
theorem bSq_len (I : L2.Inv X pins σ H s) {q : Bool} {a : Addr} {xs : List V} (h : bSq q X.K H a xs) : xs.length ≤ sizeLine := by
  cases q with
  | false => obtain ⟨_, _, _, z⟩ := I.list (h : SqL X.K H a xs); exact z
  | true => obtain ⟨_, _, _, z⟩ := I.tuple (h : SqT X.K H a xs); exact z
theorem pe_listZ {e : Expr} {te : TE} {p p2 p3 q pos : Pos} (hc : X.calm = true) (hg : Gl X "list") (hm : X.mg "list" = none) (hg2 : Gl X "zip") (hm2 : X.mg "zip" = none) (ha : PE X e te) :
    PE X (.Call (.Name "list" p) [.Call (.Name "zip" p2) [.Starred e p3] [] q] [] pos) (tListZ X.K te) := by
  refine ⟨fun pins s σ H Q I h => ?_⟩
  refine Call_ (ld_blt I hg hm boot_list ?_)
  refine PyProof.Rows.callWith_type1 (PyProof.Rows.args_cons ?_ rfl) rfl rfl
  refine Call_ (ld_blt I hg2 hm2 boot_zip ?_)
  refine PySem.W.ks_call (P := fun _ => True) (args := backTo q (starEach [.Starred e p3] X.env)) rfl (fun h _ => ⟨.machine, .inr (.inl rfl), PySem.W.Looks.of_pure rfl⟩) (PySem.W.ks_lone (thn (ha.run pins s σ H _ I h) fun v s1 ⟨x, H1, I1, r1, q1⟩ => ?_))
  obtain ⟨qq, a, rss, L, rfl, hq, hne, hL, hr, fin⟩ := q1
  cases r1
  have hzr : rss.length ≤ sizeLine := by have := bSq_len I1 hq; rwa [List.length_map] at this
  obtain ⟨its, rv, p1⟩ := bInv I1 hq
  have ei := refs_vals rv
  refine star_of (M := model X.prog X.w) p1 (by rw [ei, List.length_map]; exact hzr) fun h2 k2 => ⟨trivial, ?_⟩
  have I2 : L2.Inv X pins σ H1 { s1 with heap := h2 } := I1.kept (t' := s1.toks) k2
  obtain ⟨rs, hrs⟩ := rows_of I2 rss fun r m => (hr r m).1
  have lrs : rs.length = rss.length := hrs.length.symm
  have hne2 : rs ≠ [] := fun e => by
    rw [e] at lrs
    exact hne (List.length_eq_zero_iff.mp lrs.symm)
  have hsq : ∀ m ∈ rs, isSq m.1 h2 m.2.1 m.2.2.toArray ∧ m.2.2.length = L := fun m hm => by
    obtain ⟨j, hj, ej⟩ := List.mem_iff_getElem.mp hm
    have hj2 : j < rss.length := by omega
    obtain ⟨_, _, c3, c4⟩ := hrs.at_ (List.getElem?_eq_getElem hj2) (by rw [List.getElem?_eq_getElem hj, ej])
    exact ⟨c4, by rw [← c3.length]; exact (hr _ (List.getElem_mem hj2)).2⟩
  have er : [] ++ its = refs rs := by
    rw [List.nil_append, ei]
    clear hne hr fin hq ei rv p1 hzr lrs hsq hne2
    unfold refs
    induction hrs with
    | nil => rfl
    | cons h _ ih => rw [List.map_cons, List.map_cons, ih, h.2.1]
  rw [er]
  refine zn_make (s := { s1 with heap := h2 }) hne2 (by rw [lrs]; exact hzr) (fun m hm => (hsq m hm).1) fun h3 z3 s3 k3 => ?_
  dsimp only at z3 s3 k3 ⊢
  refine PyProof.Rows.args_nil ?_
  refine zn_list (s := { s1 with heap := h3 }) (L := L) (I1.ok.hd hc) hne2 (by rw [lrs]; exact hzr) hL (fun m hm => ⟨isSq.lt (hsq m hm).1, (hsq m hm).2⟩) z3 fun s4 Ts c4 e1 e2 e3 k4 l4 m4 => ?_
  obtain ⟨h4, g4, d4, tk4, os4⟩ := s4
  dsimp only at e1 e2 e3 k4 l4 m4
  subst e1; subst e2; subst e3
  have cv : All2 Vals (colsOf (rss.map fun r => r.2.2)) (colsOf (rs.map fun r => r.2.2)) := cols_vals (rows_all2 hrs)
  have lT : Ts.length = L := m4.len
  have lc : (colsOf (rss.map fun r => r.2.2)).length = L := colsOf_len (by simpa using hne) fun x hx => by
    obtain ⟨r, m, rfl⟩ := List.mem_map.mp hx
    exact (hr r m).2
  have ge : ∀ t ∈ Ts ++ [h3.objs.size], h2.objs.size ≤ t := fun t ht => by
    rcases List.mem_append.mp ht with ht | ht
    · obtain ⟨j, hj, ej⟩ := List.mem_iff_getElem.mp ht
      have := (m4.at_ j t (by rw [List.getElem?_eq_getElem hj, ej])).1
      exact Nat.le_trans (by omega) this
    · rw [List.mem_singleton.mp ht, s3]; exact Nat.le_trans (Nat.le_add_right _ _) (Nat.le_add_right _ _)
  have nd : (Ts ++ [h3.objs.size]).Nodup := by
    refine List.nodup_append.mpr ⟨m4.up.imp fun h => Nat.ne_of_lt h, List.pairwise_singleton _ _, fun t ht u hu => ?_⟩
    rw [List.mem_singleton.mp hu]
    obtain ⟨j, hj, ej⟩ := List.mem_iff_getElem.mp ht
    exact (m4.at_ j t (by rw [List.getElem?_eq_getElem hj, ej])).2.1
  have J := Inv.many (hf := h4) (tk := tk4) (Ts.zip ((colsOf (rss.map fun r => r.2.2)).map HO.tup) ++ [(h3.objs.size, .lst (Ts.map V.ref))]) I2 (fun b u e => ?_) ?_ (fun p hp => ?_) fun p hp H' h' eh => ?_
  · rw [updL_append] at J
    exact ⟨.ref h3.objs.size, _, J, rfl, fin Ts _ lT nd fun t ht => I2.hok.fresh (ge t ht)⟩
  · refine k4 b u (fun hb => ?_) (k3 b u e)
    exact absurd (Heap.lt_size e) (Nat.not_lt.mpr hb.1)
  · have e : ((Ts.zip ((colsOf (rss.map fun r => r.2.2)).map HO.tup)).map (·.1)) = Ts := List.map_fst_zip (by rw [List.length_map, lT, lc]; exact Nat.le_refl L)
    rw [List.map_append, e]
    exact nd
  · have hp1 : p.1 ∈ Ts ++ [h3.objs.size] := by
      rcases List.mem_append.mp hp with hp | hp
      · exact List.mem_append_left _ (List.of_mem_zip (a := p.1) (b := p.2) hp).1
      · rw [List.mem_singleton.mp hp]; simp
    have g := ge p.1 hp1
    refine ⟨?_, I2.hok.fresh g⟩
    cases e : h2.get? p.1 with
    | none => rfl
    | some o => exact absurd (Heap.lt_size e) (Nat.not_lt.mpr g)
  · rcases List.mem_append.mp hp with hp | hp
    · obtain ⟨j, hj⟩ := List.mem_iff_getElem?.mp hp
      obtain ⟨j1, j2⟩ := List.getElem?_zip_eq_some.mp hj
      rw [List.getElem?_map] at j2
      cases ec : (colsOf (rss.map fun r => r.2.2))[j]? with
      | none => rw [ec] at j2; cases j2
      | some cc =>
        rw [ec] at j2
        have j2 : HO.tup cc = p.2 := by simpa using j2
        obtain ⟨_, _, ys, y1, y2⟩ := m4.at_ j p.1 j1
        have jl : j < (colsOf (rs.map fun r => r.2.2)).length := by rw [← cv.length]; exact (List.getElem?_eq_some_iff.mp ec).1
        have ed := List.getElem?_eq_getElem jl
        have vv := cv.at_ ec ed
        have ey := Col.uniq y1 (colsOf_at hne2 ed)
        rw [← j2]
        refine ⟨?_, ys, by rw [ey]; exact vv, ⟨_, by rw [eh]; exact y2, rfl, 0, rfl⟩⟩
        rw [vv.length, ← ey, y1.length, lrs]; exact hzr
    · rw [List.mem_singleton.mp hp] at eh ⊢
      exact ⟨by rw [List.length_map, lT]; exact hL, Ts.map Value.ref, c4, vals_refsV Ts, by rw [eh]; exact l4⟩
end
end L3

set_option Elab.async false
set_option linter.all false
set_option maxRecDepth 100000
set_option maxHeartbeats 4000000
/-! L3: list(zip(*rows)), rows of one length: the evaluator's, the node. -/
noncomputable section
namespace L3
open PySem PySem.Spec PyProof.Rows L2
theorem wrapT_eq : ∀ (xs : List EV) (k : List EV → R), wrapT xs k = k ((xs.map fun x => [x]).map EV.t)
  | [], _ => rfl
  | x :: xs, k => wrapT_eq xs fun z => k (.t [x] :: z)
theorem zipR_eq : ∀ (xs : List EV) (cs : List (List EV)) (k : List EV → R), zipR xs (cs.map EV.t) k = k ((List.zipWith (· :: ·) xs cs).map EV.t)
  | [], cs, _ => rfl
  | x :: xs, [], _ => rfl
  | x :: xs, c :: cs, k => zipR_eq xs cs fun z => k (.t (x :: c) :: z)
section
variable {G : Fix} {P : Program} {w : World} {mg : Str → Option Value} {base : Heap} {k : Nat} {c : SC} {E : EXK} {cal : Cal} {X : Cx} {μ : List Addr} {H : Hp} {st : Sto} {Q : VK}
theorem gX_sq {α : Type} {no : α} {kk : List EV → α} {p : α → Prop} (s : RS' G μ H st) {a : EV} {x : V} (ra : RV G μ H a x) (h : p (gX no a st kk)) (hn : ¬ p no) : ∃ q ad xs vs, x = .ref ad ∧ bSq q G.K H ad vs ∧ RVs G μ H xs vs ∧ gX no a st kk = kk xs ∧ ∀ {β : Type} (n : β) (f : List EV → β), gX n a st f = f xs := by
  cases ra with
  | @t xs ad vs hp r => exact ⟨true, ad, xs, vs, rfl, hp.sq, r, rfl, fun _ _ => rfl⟩
  | @l l ad hl =>
    have e0 : ∀ {β : Type} (n : β) (f : List EV → β), gX n (.l l) st f = gOL n (st.get l) f := fun _ _ => rfl
    cases e : st.get l with
    | l xs =>
      obtain ⟨vs, e1, r⟩ := s.lst hl e
      exact ⟨false, ad, xs, vs, rfl, SqL.of e1, r, by rw [e0, e]; rfl, fun n f => by rw [e0, e]; rfl⟩
    | _ => rw [e0, e] at h; exact (hn h).elim
  | _ => exact (hn h).elim
/-- the rows -/
theorem rows_ev (s : RS' G μ H st) (n : Nat) : ∀ {rows : List EV} {vs : List V}, RVs G μ H rows vs → eqLens st n rows = true → ∃ (rss : List RowV) (xss : List (List EV)), vs = rss.map (fun r => V.ref r.2.1) ∧
    All2 (fun (r : RowV) (xs : List EV) => bSq r.1 G.K H r.2.1 r.2.2 ∧ r.2.2.length = n ∧ RVs G μ H xs r.2.2) rss xss ∧ (rows ≠ [] → ∀ kk : List EV → R, zipS st rows kk = kk ((colsOf xss).map EV.t))
  | _, _, .nil, _ => ⟨[], [], rfl, .nil, fun h => absurd rfl h⟩
  | _, _, .cons (x := row) (xs := rows) rv r, h => by
    have h : gX false row st (fun xs => ift (Nat.beq (lenN xs) n) (eqLens st n rows) false) = true := h
    obtain ⟨q, ad, xs, vs, e1, e2, e3, e4, e5⟩ := gX_sq (p := fun b => b = true) s rv h (by simp)
    rw [e4] at h
    rw [ift_eq] at h
    split at h
    · rename_i hl
      have hl := Nat.eq_of_beq_eq_true hl
      rw [lenN_eq, e3.length] at hl
      obtain ⟨rss, xss, f1, f2, f3⟩ := rows_ev s n r h
      refine ⟨(q, ad, vs) :: rss, xs :: xss, by rw [e1, f1]; rfl, .cons ⟨e2, hl, e3⟩ f2, fun _ kk => ?_⟩
      show gX .no row st (fun xs => @List.rec EV (fun _ => R) (wrapT xs kk) (fun _ _ _ => zipS st rows fun z => zipR xs z kk) rows) = _
      rw [e5]
      cases rows with
      | nil =>
        have : xss = [] := by
          cases r
          have : rss = [] := by simpa using f1.symm
          rw [this] at f2
          cases f2; rfl
        rw [this]
        exact wrapT_eq xs kk
      | cons r0 rows =>
        show zipS st (r0 :: rows) (fun z => zipR xs z kk) = _
        rw [f3 (List.cons_ne_nil _ _), zipR_eq]
        have : xss ≠ [] := fun e => by
          rw [e] at f2
          cases f2
          cases r; cases f1
        rw [colsOf_cons _ this]
    · cases h
theorem rvs_wrap : ∀ {xs : List EV} {vs : List V}, RVs G μ H xs vs → All2 (RVs G μ H) (xs.map fun x => [x]) (vs.map fun x => [x])
  | _, _, .nil => .nil
  | _, _, .cons h t => .cons (.cons h .nil) (rvs_wrap t)
theorem rvs_zip : ∀ {xs : List EV} {vs : List V} {cs : List (List EV)} {ds : List (List V)}, RVs G μ H xs vs → All2 (RVs G μ H) cs ds → All2 (RVs G μ H) (List.zipWith (· :: ·) xs cs) (List.zipWith (· :: ·) vs ds)
  | _, _, _, _, .nil, _ => .nil
  | _, _, _, _, .cons _ _, .nil => .nil
  | _, _, _, _, .cons h t, .cons k r => .cons (.cons h k) (rvs_zip t r)
theorem cols_rvs : ∀ {rss : List RowV} {xss : List (List EV)} {n : Nat}, All2 (fun (r : RowV) (xs : List EV) => bSq r.1 G.K H r.2.1 r.2.2 ∧ r.2.2.length = n ∧ RVs G μ H xs r.2.2) rss xss → All2 (RVs G μ H) (colsOf xss) (colsOf (rss.map fun r => r.2.2))
  | _, _, _, .nil => .nil
  | _, _, _, .cons h .nil => rvs_wrap h.2.2
  | _, _, _, .cons h (.cons k t) => rvs_zip h.2.2 (cols_rvs (.cons k t))
theorem updL_out : ∀ {l : List (Addr × HO)} {H : Hp} {a : Addr}, a ∉ l.map (·.1) → updL H l a = H a
  | [], _, _, _ => rfl
  | p :: l, H, a, h => by
    have h : a ∉ p.1 :: l.map (·.1) := h
    obtain ⟨n1, n2⟩ := not_or.mp fun z => h (List.mem_cons.mpr z)
    show updL (upd H p.1 p.2) l a = _
    rw [updL_out n2]
    simp [upd, n1]
theorem updL_in : ∀ {l : List (Addr × HO)} {H : Hp} {p : Addr × HO}, (l.map (·.1)).Nodup → p ∈ l → updL H l p.1 = some p.2
  | [], _, _, _, h => by cases h
  | q :: l, H, p, nd, h => by
    obtain ⟨n1, n2⟩ := List.nodup_cons.mp (show (q.1 :: l.map (·.1)).Nodup from nd)
    show updL (upd H q.1 q.2) l p.1 = _
    rcases List.mem_cons.mp h with rfl | h
    · rw [updL_out n1]; simp [upd]
    · exact updL_in n2 h
theorem RS'.tups (l : List (Addr × List V)) : ∀ {H : Hp}, RS' G μ H st → (l.map (·.1)).Nodup → (∀ p ∈ l, H p.1 = none) → RS' G μ (updL H (l.map fun p => (p.1, HO.tup p.2))) st ∧ Ext μ H μ (updL H (l.map fun p => (p.1, HO.tup p.2))) := by
  induction l with
  | nil => intro H s _ _; exact ⟨s, .refl⟩
  | cons p l ih =>
    intro H s nd fr
    obtain ⟨n1, n2⟩ := List.nodup_cons.mp (show (p.1 :: l.map (·.1)).Nodup from nd)
    have f1 := fr p (List.mem_cons_self ..)
    obtain ⟨a, b⟩ := ih (H := upd H p.1 (.tup p.2)) (s.tup f1) n2 fun q hq => by
      have ne : q.1 ≠ p.1 := fun e => n1 (by rw [← e]; exact List.mem_map.mpr ⟨q, hq, rfl⟩)
      simp [upd, ne, fr q (List.mem_cons_of_mem _ hq)]
    refine ⟨a, Ext.trans ⟨⟨[], by simp⟩, fun a o e => ?_, fun a o e _ => upd_keep f1 a o e⟩ b⟩
    exact ⟨o, upd_keep f1 a o e⟩
end
end L3

set_option Elab.async false
set_option linter.all false
set_option maxRecDepth 100000
set_option maxHeartbeats 4000000
/-! L3: list(zip(*rows)): the node. -/
noncomputable section
namespace L3
open PySem PySem.Spec PyProof.Rows L2
section
variable {G : Fix} {P : Program} {w : World} {mg : Str → Option Value} {base : Heap} {k : Nat} {c : SC} {E : EXK} {cal : Cal} {X : Cx} {μ : List Addr} {H : Hp} {st : Sto} {Q : VK}
theorem rvs_tups {H : Hp} : ∀ {xss : List (List EV)} {vss : List (List V)} {Ts : List Addr}, All2 (RVs G μ H) xss vss → Ts.length = vss.length → (∀ (j : Nat) (t : Addr) (vs : List V), Ts[j]? = some t → vss[j]? = some vs → H t = some (.tup vs)) → RVs G μ H (xss.map EV.t) (Ts.map V.ref)
  | _, _, [], .nil, _, _ => .nil
  | _, _, [], .cons _ _, h, _ => by cases h
  | _, _, _ :: _, .nil, h, _ => by cases h
  | _, _, t :: Ts, .cons a r, h, g => .cons (.t (.inl (g 0 t _ rfl rfl)) a) (rvs_tups r (by simpa using h) fun j t vs e1 e2 => g (j + 1) t vs (by simpa using e1) (by simpa using e2))
theorem All2.imp {α β : Type} {R S : α → β → Prop} (i : ∀ a b, R a b → S a b) : ∀ {as : List α} {bs : List β}, All2 R as bs → All2 S as bs
  | _, _, .nil => .nil
  | _, _, .cons h t => .cons (i _ _ h) (All2.imp i t)
theorem listE_h (s : RS' G μ H st) {a : EV} {x : V} (ra : RV G μ H a x) (h : PostE G μ H (pListE a st) Q E) : ∃ (q : Bool) (ad : Addr) (rss : List RowV) (L : Nat), x = .ref ad ∧ bSq q G.K H ad (rss.map fun r => .ref r.2.1) ∧ rss ≠ [] ∧ L ≤ sizeLine ∧ (∀ r ∈ rss, bSq r.1 G.K H r.2.1 r.2.2 ∧ r.2.2.length = L) ∧
    ∀ (Ts : List Addr) (p : Addr), Ts.length = L → (Ts ++ [p]).Nodup → (∀ t ∈ Ts ++ [p], H t = none) → Q (.ref p) (upd (updL H (Ts.zip ((colsOf (rss.map fun r => r.2.2)).map HO.tup))) p (.lst (Ts.map V.ref))) := by
  obtain ⟨q, ad, rows, vs, e1, e2, e3, e4, _⟩ := gX_sq (p := fun r => PostE G μ H r Q E) s ra h (fun z => z)
  have h : PostE G μ H (gX .no a st fun rows => @List.rec EV (fun _ => R) .no (fun r rs _ => gX .no r st fun xs => ift (eqLens st (lenN xs) rs) (zipS st (r :: rs) (newL st)) .no) rows) Q E := h
  rw [e4] at h
  cases rows with
  | nil => exact h.elim
  | cons row rows =>
    have h : PostE G μ H (gX .no row st fun xs => ift (eqLens st (lenN xs) rows) (zipS st (row :: rows) (newL st)) .no) Q E := h
    cases e3 with
    | @cons _ v _ vs0 rv rvs =>
      obtain ⟨q0, ad0, xs0, vs00, d1, d2, d3, d4, d5⟩ := gX_sq (p := fun r => PostE G μ H r Q E) s rv h (fun z => z)
      rw [d4] at h
      obtain ⟨hl, h⟩ := PostE.ift h
      rw [lenN_eq, d3.length] at hl
      have hl2 : eqLens st vs00.length (row :: rows) = true := by
        show gX false row st (fun xs => ift (Nat.beq (lenN xs) vs00.length) (eqLens st vs00.length rows) false) = true
        rw [d5, lenN_eq, d3.length, beq_dec, decide_eq_true rfl]
        exact hl
      obtain ⟨rss, xss, f1, f2, f3⟩ := rows_ev s vs00.length (.cons rv rvs) hl2
      rw [f3 (List.cons_ne_nil _ _)] at h
      have hne : rss ≠ [] := fun e => by rw [e] at f1; cases f1
      have hr : ∀ r ∈ rss, bSq r.1 G.K H r.2.1 r.2.2 ∧ r.2.2.length = vs00.length := fun r hr => by
        obtain ⟨j, hj, ej⟩ := List.mem_iff_getElem.mp hr
        have hj2 : j < xss.length := by rw [← f2.length]; exact hj
        have z := f2.at_ (List.getElem?_eq_getElem hj) (List.getElem?_eq_getElem hj2)
        rw [ej] at z
        exact ⟨z.1, z.2.1⟩
      have cr := cols_rvs f2
      have lc : (colsOf (rss.map fun r => r.2.2)).length = vs00.length := colsOf_len (by simpa using hne) fun x hx => by
        obtain ⟨r, m, rfl⟩ := List.mem_map.mp hx
        exact (hr r m).2
      have hL : vs00.length ≤ 16000000 := by
        have z := (PostE.fits h).1
        rw [lenN_eq, List.length_map, cr.length, lc] at z
        exact z
      refine ⟨q, ad, rss, vs00.length, e1, by rw [← f1]; exact e2, hne, fits_line hL, hr, fun Ts p lT nd fr => ?_⟩
      obtain ⟨nd1, _, nd2⟩ := List.nodup_append.mp nd
      have ez : Ts.zip ((colsOf (rss.map fun r => r.2.2)).map HO.tup) = (Ts.zip (colsOf (rss.map fun r => r.2.2))).map fun p => (p.1, HO.tup p.2) := by
        rw [List.zip_map_right]
        rfl
      have em : (Ts.zip (colsOf (rss.map fun r => r.2.2))).map (·.1) = Ts := List.map_fst_zip (by rw [lT, lc]; exact Nat.le_refl _)
      have em2 : ((Ts.zip (colsOf (rss.map fun r => r.2.2))).map fun p => (p.1, HO.tup p.2)).map (·.1) = Ts := by rw [List.map_map]; exact em
      obtain ⟨s2, x2⟩ := RS'.tups (Ts.zip (colsOf (rss.map fun r => r.2.2))) s (by rw [em]; exact nd1) fun p hp => fr _ (List.mem_append_left _ (List.of_mem_zip (a := p.1) (b := p.2) hp).1)
      rw [ez]
      have hp0 : updL H ((Ts.zip (colsOf (rss.map fun r => r.2.2))).map fun p => (p.1, HO.tup p.2)) p = none := by
        rw [updL_out]
        · exact fr p (by simp)
        · rw [em2]
          exact fun m => nd2 p m p (by simp) rfl
      have cr2 : All2 (RVs G μ (updL H ((Ts.zip (colsOf (rss.map fun r => r.2.2))).map fun p => (p.1, HO.tup p.2)))) (colsOf xss) (colsOf (rss.map fun r => r.2.2)) := All2.imp (fun _ _ z => z.mono x2 s.notup) cr
      refine (PostE.sLn (PostE.mono h x2) s2 (rvs_tups cr2 (by rw [lT, lc]) fun j t vs e1 e2 => ?_)).2 p hp0
      refine updL_in (p := (t, HO.tup vs)) (by rw [em2]; exact nd1) (List.mem_map.mpr ⟨(t, vs), ?_, rfl⟩)
      exact List.mem_of_getElem? (i := j) (List.getElem?_zip_eq_some.mpr ⟨e1, e2⟩)
theorem t_listE (g : Good G P w mg base k c E X) {e : Expr} {m : ES} {p p2 p3 q pos : Pos} (hx : c.sc.names.lookup ("list" : Str) = some .globalImplicit) (hm : mg ("list" : Str) = none) (hx2 : c.sc.names.lookup ("zip" : Str) = some .globalImplicit) (hm2 : mg ("zip" : Str) = none) (he : PE X e (T G E cal m)) :
    PE X (.Call (.Name "list" p) [.Call (.Name "zip" p2) [.Starred e p3] [] q] [] pos) (T G E cal (c1 pListE m)) :=
  (pe_listZ g.calm (gl_of g hx) (by rw [g.mm]; exact hm) (gl_of g hx2) (by rw [g.mm]; exact hm2) he).impL fun σ H Q h => (T.one h).imp fun x H1 ⟨μ, st, v, s, rv, h⟩ => by
    rw [g.kk]
    exact listE_h s rv h
end
def nListZ (x : NE) : NE where
  den := c1 pListE x.den
  chk tb c a := match a with
    | .Call (.Name z _) [.Call (.Name u _) [.Starred e _] [] _] [] _ => (decide (z = "list") && decide (u = "zip")) && ((bltB tb c z && bltB tb c u) && x.chk tb c e)
    | _ => false
  ok tb G P w mg base k cal c E X a t g h := by
    dsimp only at h
    split at h
    · obtain ⟨h1, h2⟩ := and2 h
      obtain ⟨e1, e2⟩ := and2 h1
      obtain ⟨h3, h4⟩ := and2 h2
      obtain ⟨q1, q2⟩ := and2 h3
      obtain ⟨b1, b2, b3⟩ := bltB_of q1
      obtain ⟨d1, d2, d3⟩ := bltB_of q2
      cases dcd e1
      cases dcd e2
      exact t_listE g b1 (t.blt _ b3) d1 (t.blt _ d3) (x.u t g h4)
    · cases h
end L3

set_option Elab.async false
set_option linter.all false
set_option maxRecDepth 100000
set_option maxHeartbeats 4000000
/-! L3: sorted(set(xs)), xs of ints. -/
noncomputable section
namespace L3
open PySem PySem.Spec PyProof.Rows L2
section
variable {P : Program} {w : World} {A : Around} {E : Value → Shared → Prop} {s : Shared}
def newSet (w : World) : Obj := { cls := .type "set", dict := none, data := .set #[] 0 (.fresh 0 0 (!w.params.followText "set-order")) }
def SetDone (w : World) (s : Shared) (ns : List Int) (s2 : Shared) : Prop := ∃ h' tk c, s2 = { s with heap := h', toks := tk } ∧ SetR w h' s.heap.objs.size (fun j => decide (j ∈ ns)) c ∧ c ≤ ns.length ∧ ∀ b o, s.heap.get? b = some o → h'.get? b = some o
/-- the walk that fills a new set by a list -/
theorem fill_set (hh : A.handled = none) {l S : Addr} {its : Array Value} {ns : List Int} {R : Result → Shared → Prop} (hl : s.heap.IsList l its) (hi : IntsAre its.toList ns) (hb : ns.length + 1 < scanBound) (hS : s.heap.get? S = some (newSet w)) (hSl : S ≠ l)
    (hR : ∀ (s' : Shared) (c : Nat), Moved [S, s.heap.objs.size] (fun a b => b = a) { s with heap := s.heap.push { cls := .type "list_iterator", data := .fields #[.ref l, .int 0 0] } } s' → c ≤ ns.length → SetR w s'.heap S (fun j => decide (j ∈ ns)) c → R (.ok (.ret .none)) s') :
    codeAny (model P w) A (.builtin "set.update.loop" ⟨[.ref S, .ref s.heap.objs.size], []⟩) R { s with heap := s.heap.push { cls := .type "list_iterator", data := .fields #[.ref l, .int 0 0] } } := by
  have ln : its.size = ns.length := by
    have q := IntsAre.length hi
    rwa [Array.length_toList] at q
  have ll : l < s.heap.objs.size := by
    obtain ⟨o, e, _⟩ := hl
    exact Heap.lt_size e
  have lS : S < s.heap.objs.size := Heap.lt_size hS
  have hh1 : A.in1.handled = none := hh
  have vals : ∀ (i : Nat) (v : Value), its[i]? = some v → ∃ k t, ns[i]? = some k ∧ v = .int k t := fun i v e => by
    have lt : i < ns.length := by rw [← ln]; exact (Array.getElem?_eq_some_iff.mp e).1
    obtain ⟨t, q⟩ := PyProof.Rows.IntsAre.int_at hi i v (by rw [Array.getElem?_toList]; exact e)
    exact ⟨ns[i], t, List.getElem?_eq_getElem lt, by rw [q, List.getD_eq_getElem?_getD, List.getElem?_eq_getElem lt]; rfl⟩
  refine set_update_ints (Walks.list hh1 s.heap.objs.size l (Nat.ne_of_lt ll) its).toS S ?_ ns ln hb vals (its.size - 0) 0 _ rfl (Nat.zero_le _) ⟨⟨_, Heap.get?_push_size _ rfl, rfl, rfl⟩, hl.push _⟩ ⟨0, Nat.le_refl 0, setR_new_at (Heap.get?_push_of_some _ hS)⟩ fun s' c m hc hs => hR s' c m (by rw [← ln]; exact hc) hs
  simp only [List.mem_cons, List.not_mem_nil, or_false, not_or]
  exact ⟨Nat.ne_of_lt lS, hSl⟩
theorem make_set (hh : A.handled = none) {l : Addr} {its : Array Value} {ns : List Int} {Q : Value → Shared → Prop} (hl : s.heap.IsList l its) (hi : IntsAre its.toList ns) (hb : ns.length + 1 < scanBound)
    (hQ : ∀ s2, SetDone w s ns s2 → Q (.ref s.heap.objs.size) s2) : wpAny (model P w) A (call (.type "set") [.ref l]) Q E s := by
  obtain ⟨cm, tm, fm⟩ := F.called_set.mro
  have fa := F.called_set.made
  have fb := F.called_set.sub
  have fc := F.typeCall_set_1 (.ref l)
  have fd := F.called_set.notType
  have fe := F.called_set.canCreate
  refine wpAny_call (codeAny_of_tree (show wpAny _ _ (callAny (.type "set") _) _ _ _ from wpAny_pure ⟨Code.quiet_builtin _ (by decide +kernel), codeAny_builtin F.entry_type_call ?_⟩))
  rw [Around.under_plain (weight_type_call_type "set" [.ref l] []) rfl]
  repeat (any_goals (first | assumption | wp_step))
  refine codeAny_mono (code_set_led1 (E := E) (.ref l) (Q₁ := fun v s1 => v = .ref s.heap.objs.size ∧ s1 = { s with heap := s.heap.push (newSet w) }) ⟨rfl, rfl⟩) fun r s1 z => ?_
  cases r with
  | error _ => exact z
  | ok fl => cases fl with
    | ret v =>
      obtain ⟨rfl, rfl⟩ := z
      have gS : (s.heap.push (newSet w)).get? s.heap.objs.size = some (newSet w) := Heap.get?_push_size _ rfl
      have tS : Shared.TypeIs { s with heap := s.heap.push (newSet w) } (.ref s.heap.objs.size) "set" := ⟨_, gS, rfl⟩
      have ff := F.called_set.init.lookup
      have fg := F.called_set.init.bind (.ref s.heap.objs.size)
      repeat (any_goals (first | assumption | wp_step))
      refine codeAny_mono (codeAny_call_builtin (R := wants (fun r s2 => r = .none ∧ SetDone w s ns s2) E) F.called_set.init.plain F.entry_set_init (check_set_init_1 tS ?_)) fun r2 s2 z2 => ?_
      · obtain ⟨ol, e1, e2, nl, e3⟩ := hl
        obtain ⟨oc, od, oa, os⟩ := ol
        dsimp only at e2 e3
        subst e2; subst e3
        have l1 : (s.heap.push (newSet w)).get? l = some { cls := .type "list", dict := od, data := .seq its nl, slots := os } := Heap.get?_push_of_some _ e1
        have l2 : (s.heap.push (newSet w)).IsList l its := ⟨_, l1, rfl, nl, rfl⟩
        have x1 := F.sub_list_set
        have x2 := F.sub_list_frozenset
        have x3 : (Value.type "list" == Value.type "dict") = false := by decide
        have ll : l < s.heap.objs.size := Heap.lt_size e1
        unfold Builtin.«set.__init__» noKeywords Builtin.Frozenset.updateFrom
        generalize gp : pyIter = PI
        wp_walk
        subst gp
        refine wpAny_pyIter_list l2 (wpAny_bind (wpAny_runValue ?_))
        refine fill_set (s := { s with heap := s.heap.push (newSet w) }) (by simp [hh]) l2 hi hb gS (Nat.ne_of_gt ll) fun s' c m hc hs => ?_
        refine wpAny_pure (wpAny_pure ⟨rfl, ?_⟩)
        obtain ⟨h', g', d', tk', os'⟩ := s'
        have z1 : g' = s.gens := m.gens
        have z2 : d' = s.drawn := m.drawn
        have z3 : os' = s.os := m.os
        subst z1; subst z2; subst z3
        refine ⟨h', tk', c, rfl, hs, hc, fun b o e => m.heap b o ?_ (Heap.get?_push_of_some _ (Heap.get?_push_of_some _ e))⟩
        have lb : b < s.heap.objs.size := Heap.lt_size e
        have sz : (s.heap.push (newSet w)).objs.size = s.heap.objs.size + 1 := Heap.size_push ..
        simp only [List.mem_cons, List.not_mem_nil, or_false, not_or]
        exact ⟨Nat.ne_of_lt lb, by show b ≠ (s.heap.push (newSet w)).objs.size; rw [sz]; exact Nat.ne_of_lt (Nat.lt_succ_of_lt lb)⟩
      · cases r2 with
        | error _ => exact z2
        | ok fl2 => cases fl2 with
          | ret v2 =>
            obtain ⟨rfl, dn⟩ := z2
            repeat (any_goals (first | assumption | wp_step))
            exact hQ _ dn
          | _ => exact z2.elim
    | _ => exact z.elim
end
end L3

set_option Elab.async false
set_option linter.all false
set_option maxRecDepth 100000
set_option maxHeartbeats 4000000
/-! L3: sorted(set(xs)), xs of ints: the node. -/
noncomputable section
namespace L3
open PySem PySem.Spec PyProof.Rows L2
/-! ### the rule of set(xs) -/
def rSetI (K : PySem.W.Frag) (w : World) : List V → Hp → VK → Prop := fun xs H Q => ∃ (q : Bool) (a : Addr) (ns : List Int), xs = [.ref a] ∧ bSq q K H a (ns.map V.int) ∧ ns.length + 1 < scanBound ∧
  ∀ (b : Addr) (c : Nat), H b = none → c ≤ ns.length → Q (.ref b) (upd H b (SetO w b (fun j => decide (j ∈ ns)) c))
theorem cr_setI {X : Cx} (hc : X.calm = true) : CallR X (.type "set") (rSetI X.K X.w) := by
  intro pins s σ H xs us Q I r h
  obtain ⟨q, a, ns, rfl, hq, hb, h⟩ := h
  obtain ⟨u, rfl, ru⟩ := vals1 r
  obtain rfl : u = Value.ref a := ru
  obtain ⟨its, rv, p⟩ := bInv I hq
  have hi : IntsAre its.toArray.toList ns := by simpa using rv.ints
  have hn : H s.heap.objs.size = none := I.hok.fresh (Nat.le_refl _)
  have fin : ∀ (h' : Heap) (tk c : Nat), SetR X.w h' s.heap.objs.size (fun j => decide (j ∈ ns)) c → c ≤ ns.length → (∀ b o, s.heap.get? b = some o → h'.get? b = some o) → EP X pins σ Q (.ref s.heap.objs.size) { s with heap := h', toks := tk } := fun h' tk c r1 r2 k =>
    ⟨.ref s.heap.objs.size, _, I.laid (t' := tk) k (Nat.le_refl _) (setO_new r1), rfl, h _ c hn r2⟩
  cases q with
  | false => exact make_set (I.ok.hd hc) p hi hb fun s2 ⟨h', tk, c, e, r1, r2, k⟩ => by rw [e]; exact fin h' tk c r1 r2 k
  | true => exact call_set_tupI ns (I.ok.hd hc) p hi hb fun h' tk c r1 r2 k => fin h' tk c r1 r2 k
/-! ### ints, each once, ascending -/
def insU1 (a : Int) : List Int → List Int
  | [] => [a]
  | b :: r => if b < a then b :: insU1 a r else if a < b then a :: b :: r else b :: r
def srtU : List Int → List Int
  | [] => []
  | a :: r => insU1 a (srtU r)
theorem insU1_mem (a k : Int) : ∀ l : List Int, k ∈ insU1 a l ↔ k = a ∨ k ∈ l
  | [] => by simp [insU1]
  | b :: r => by
    unfold insU1
    split
    · simp only [List.mem_cons, insU1_mem a k r]
      constructor
      · rintro (h | h | h) <;> simp [h]
      · rintro (h | h | h) <;> simp [h]
    · split
      · simp
      · have : a = b := by omega
        subst this
        simp
theorem insU1_up (a : Int) : ∀ {l : List Int}, l.Pairwise (· < ·) → (insU1 a l).Pairwise (· < ·)
  | [], _ => List.pairwise_singleton _ _
  | b :: r, h => by
    obtain ⟨h1, h2⟩ := List.pairwise_cons.mp h
    unfold insU1
    split
    · refine List.pairwise_cons.mpr ⟨fun k hk => ?_, insU1_up a h2⟩
      rcases (insU1_mem a k r).mp hk with rfl | hk
      · assumption
      · exact h1 k hk
    · split
      · refine List.pairwise_cons.mpr ⟨fun k hk => ?_, h⟩
        rcases List.mem_cons.mp hk with rfl | hk
        · assumption
        · have := h1 k hk; omega
      · exact h
theorem srtU_mem (k : Int) : ∀ l : List Int, k ∈ srtU l ↔ k ∈ l
  | [] => by simp [srtU]
  | a :: r => by
    show k ∈ insU1 a (srtU r) ↔ _
    rw [insU1_mem, srtU_mem k r, List.mem_cons]
theorem srtU_up : ∀ l : List Int, (srtU l).Pairwise (· < ·)
  | [] => List.Pairwise.nil
  | a :: r => insU1_up a (srtU_up r)
theorem up_uniq : ∀ {xs ys : List Int}, xs.Pairwise (· < ·) → ys.Pairwise (· < ·) → (∀ k, k ∈ xs ↔ k ∈ ys) → xs = ys
  | [], [], _, _, _ => rfl
  | [], y :: ys, _, _, h => absurd ((h y).mpr (List.mem_cons_self ..)) (by simp)
  | x :: xs, [], _, _, h => absurd ((h x).mp (List.mem_cons_self ..)) (by simp)
  | x :: xs, y :: ys, hx, hy, h => by
    obtain ⟨x1, x2⟩ := List.pairwise_cons.mp hx
    obtain ⟨y1, y2⟩ := List.pairwise_cons.mp hy
    have e : x = y := by
      rcases List.mem_cons.mp ((h x).mp (List.mem_cons_self ..)) with e | m
      · exact e
      · rcases List.mem_cons.mp ((h y).mpr (List.mem_cons_self ..)) with e | m2
        · exact e.symm
        · have := y1 x m
          have := x1 y m2
          omega
    subst e
    congr 1
    refine up_uniq x2 y2 fun k => ⟨fun m => ?_, fun m => ?_⟩
    · rcases List.mem_cons.mp ((h k).mp (List.mem_cons_of_mem _ m)) with e | m2
      · have := x1 k m; omega
      · exact m2
    · rcases List.mem_cons.mp ((h k).mpr (List.mem_cons_of_mem _ m)) with e | m2
      · have := y1 k m; omega
      · exact m2
/-! ### the evaluator's -/
theorem insIU_eq (a : Int) : ∀ (ns : List Int) (k : List EV → R), insIU (.i a) a (ns.map EV.i) k = k ((insU1 a ns).map EV.i)
  | [], _ => rfl
  | b :: r, k => by
    show ift (iLt b a) (insIU (.i a) a (r.map EV.i) fun r' => k (.i b :: r')) (ift (iLt a b) (k (.i a :: .i b :: r.map EV.i)) (k (.i b :: r.map EV.i))) = _
    rw [insIU_eq a r, ift_eq, ift_eq, iLt_ok, iLt_ok]
    show _ = k ((if b < a then b :: insU1 a r else if a < b then a :: b :: r else b :: r).map EV.i)
    by_cases h1 : b < a
    · rw [if_pos (decide_eq_true h1), if_pos h1]; rfl
    · rw [if_neg (by simpa using h1), if_neg h1]
      by_cases h2 : a < b
      · rw [if_pos (decide_eq_true h2), if_pos h2]; rfl
      · rw [if_neg (by simpa using h2), if_neg h2]; rfl
theorem sortIU_eq : ∀ (ns : List Int) (k : List EV → R), sortIU (ns.map EV.i) k = k ((srtU ns).map EV.i)
  | [], _ => rfl
  | a :: r, k => by
    show sortIU (r.map EV.i) (fun r => insIU (.i a) a r k) = _
    rw [sortIU_eq r, insIU_eq]
    rfl
section
variable {G : Fix} {P : Program} {w : World} {mg : Str → Option Value} {base : Heap} {k : Nat} {c : SC} {E : EXK} {cal : Cal} {X : Cx} {μ : List Addr} {H : Hp} {st : Sto} {Q : VK}
theorem t_setSort (g : Good G P w mg base k c E X) {e : Expr} {m : ES} {p p2 q pos : Pos} (hn : noStar e = true) (hx : c.sc.names.lookup ("sorted" : Str) = some .globalImplicit) (hm : mg ("sorted" : Str) = none) (hx2 : c.sc.names.lookup ("set" : Str) = some .globalImplicit) (hm2 : mg ("set" : Str) = none) (he : PE X e (T G E cal m)) :
    PE X (.Call (.Name "sorted" p) [.Call (.Name "set" p2) [e] [] q] [] pos) (T G E cal (c1 pSetSort m)) :=
  (pe_callB (cr_sortedSet g.calm) (gl_of g hx) (by rw [g.mm]; exact hm) (by decide +kernel) (pa_cons (pe_callTy (cr_setI g.calm) (gl_of g hx2) (by rw [g.mm]; exact hm2) (by decide +kernel) (pa_cons he pa_nil (starEach_cons hn [] X.env)) (by decide) (by decide) (starEach_cons hn [] X.env) rfl) pa_nil)).impL fun σ H Q h => (T.one h).imp fun x H1 ⟨μ, st, v, s, rv, h⟩ => by
    obtain ⟨qq, ad, xs, vs, e1, e2, e3, e4, _⟩ := gX_sq (p := fun r => PostE G μ H1 r Q E) s rv h (fun z => z)
    have h : PostE G μ H1 (gX .no v st fun xs => ift (Nat.blt (lenN xs) 64) (intsK xs (sortIU xs (newL st))) .no) Q E := h
    rw [e4] at h
    obtain ⟨hl, h⟩ := PostE.ift h
    rw [blt_dec, lenN_eq] at hl
    have hl := dcd hl
    obtain ⟨ns, i1, i2, h⟩ := intsK_ok e3 h
    rw [i1, sortIU_eq] at h
    have ln : ns.length < 64 := by rw [i1, List.length_map] at hl; exact hl
    have hb : ns.length + 1 < scanBound := by unfold scanBound; omega
    refine ⟨qq, ad, ns, by rw [e1], by rw [g.kk, ← i2]; exact e2, hb, fun b cc hbn hcc => ?_⟩
    refine ⟨b, _, cc, rfl, upd_same, by omega, fun ms pp u1 u2 u3 hp => ?_⟩
    have em : ms = srtU ns := up_uniq u1 (srtU_up ns) fun k => by rw [u2, srtU_mem]; simp
    rw [em]
    exact (PostE.sLn (PostE.mono h (Ext.tup hbn)) (s.tup hbn) (RVs.ints' _)).2 pp hp
end
def nSortSet (x : NE) : NE where
  den := c1 pSetSort x.den
  chk tb c a := match a with
    | .Call (.Name z _) [.Call (.Name u _) [e] [] _] [] _ => (decide (z = "sorted") && decide (u = "set")) && ((bltB tb c z && bltB tb c u) && (noStar e && x.chk tb c e))
    | _ => false
  ok tb G P w mg base k cal c E X a t g h := by
    dsimp only at h
    split at h
    · obtain ⟨h1, h2⟩ := and2 h
      obtain ⟨e1, e2⟩ := and2 h1
      obtain ⟨h3, h4⟩ := and2 h2
      obtain ⟨h5, h6⟩ := and2 h4
      obtain ⟨q1, q2⟩ := and2 h3
      obtain ⟨b1, b2, b3⟩ := bltB_of q1
      obtain ⟨d1, d2, d3⟩ := bltB_of q2
      cases dcd e1
      cases dcd e2
      exact t_setSort g h5 b1 (t.blt _ b3) d1 (t.blt _ d3) (x.u t g h6)
    · cases h
end L3

set_option Elab.async false
set_option linter.all false
set_option maxRecDepth 100000
set_option maxHeartbeats 4000000
/-! L3: a dict of one pair; d.get. -/
noncomputable section
namespace L3
open PySem PySem.Spec PyProof.Rows L2
section
variable {G : Fix} {P : Program} {w : World} {mg : Str → Option Value} {base : Heap} {k : Nat} {c : SC} {E : EXK} {cal : Cal} {X : Cx} {μ μ1 μ' : List Addr} {H H1 H' : Hp} {st : Sto} {ρ : List EV} {σ : L2.St} {Q : VK}
/-- a dict that is not yet the store's changes -/
theorem Kp.offD {D : Addr} {q : List (Key × V)} {u : HO} (hD : H D = some (.dK q)) : Kp G μ H μ (upd H D u) := by
  have ne : ∀ a o, H a = some o → (∀ ys, o ≠ .dK ys) → a ≠ D := fun a o e n z => by
    rw [z, hD] at e
    cases e
    exact n _ rfl
  refine ⟨fun _ _ h => h, fun a vs h => ?_, fun a vs h => ?_⟩
  · rcases h with (h | ⟨o, h⟩) | h
    · refine .inl (.inl ?_)
      rw [upd_ne (ne _ _ h fun _ z => nomatch z)]
      exact h
    · refine .inl (.inr ⟨o, ?_⟩)
      rw [upd_ne (ne _ _ h fun _ z => nomatch z)]
      exact h
    · exact .inr h
  · rcases h with h | h
    · refine .inl ?_
      rw [upd_ne (ne _ _ h fun _ z => nomatch z)]
      exact h
    · exact .inr h
theorem RS'.offD {D : Addr} {q : List (Key × V)} {u : HO} (r : RS' G μ H st) (hD : H D = some (.dK q)) (hn : D ∉ μ) : RS' G μ (upd H D u) st :=
  ⟨r.n, r.full, r.nd, fun l a h => (r.at_ l a h).kp (Kp.offD hD) (upd_ne fun z => hn (z ▸ List.mem_of_getElem? h))⟩
theorem RS'.adoptO {D : Addr} {o : O} (r : RS' G μ H st) (hn : D ∉ μ) (ho : RO G (μ ++ [D]) H D o) : RS' G (μ ++ [D]) H ⟨st.tr.set o st.n, st.n + 1⟩ := by
  have hlen : μ.length = st.n := r.n
  refine ⟨by simp [r.n], r.full.new, ?_, fun l a h => ?_⟩
  · refine List.nodup_append.mpr ⟨r.nd, by simp, fun a ha b hb e => ?_⟩
    exact hn ((List.mem_singleton.mp hb) ▸ e ▸ ha)
  · have e0 : (st.tr.set o st.n).get l = if l = st.n then o else st.tr.get l := r.full.get_set (Nat.le_refl _)
    show RO G _ _ a ((st.tr.set o st.n).get l)
    rw [e0]
    split
    · rename_i hl
      rw [hl, ← hlen] at h
      have e : D = a := by simpa using h
      rw [← e]
      exact ho
    · rename_i hl
      have h2 : l < (μ ++ [D]).length := (List.getElem?_eq_some_iff.mp h).1
      rw [List.length_append, List.length_singleton] at h2
      have hlt : l < μ.length := by omega
      rw [List.getElem?_append_left hlt] at h
      exact (r.at_ l a h).kp (Kp.app μ [D]) rfl
theorem not_in_sto (s : RS' G μ H st) {p : Addr} (hp : H p = none) : p ∉ μ := fun z => by
  obtain ⟨l, hl, e⟩ := List.getElem_of_mem z
  have q := s.at_ l p (by rw [List.getElem?_eq_getElem hl, e])
  cases o : st.tr.get l with
  | l xs => rw [o] at q; obtain ⟨vs, h, _⟩ := q; rw [hp] at h; cases h
  | d kvs =>
    rw [o] at q
    rcases q with ⟨q, h, _⟩ | ⟨q, h, _⟩ <;> (rw [hp] at h; cases h)
  | z => rw [o] at q; exact q.elim
  | o c fs => rw [o] at q; exact q.elim
theorem t_dic1 {e f : Expr} {m n : ES} {pos : Pos} (he : PE X e (T G E cal m)) (hf : PE X f (T G E cal n)) : PE X (.Dict [some e] [f] pos) (T G E cal (c2 pDic1 m n)) :=
  (pe_disp (pps_cons he hf pps_nil) rfl rfl (by simp) (by simp)).impL fun σ H Q ⟨μ, ρ, st, s, r, h⟩ p hp => by
    have x0 : Ext μ H μ (upd H p (.dK [])) := Ext.tup hp
    have hn := not_in_sto s hp
    refine ⟨μ, ρ, st, s.tup hp, r.mono x0 s.notup, ?_⟩
    have h : PostE G μ H (rB (m cal ρ st) fun a st => rB (n cal ρ st) fun b st => pDic1 a b st) Q E := h
    cases e1 : m cal ρ st with
    | no => rw [e1] at h; exact h
    | ex c p' st1 => rw [e1] at h; exact fun μ' H' x => h μ' H' (x0.trans x)
    | ok a st1 =>
      rw [e1] at h
      have h : PostE G μ H (rB (n cal ρ st1) fun b st => pDic1 a b st) Q E := h
      intro μ1 H1 x x1 s1 rx
      refine ⟨μ1, ρ, st1, s1, r.mono (x0.trans x1) s.notup, ?_⟩
      cases e2 : n cal ρ st1 with
      | no => rw [e2] at h; exact h
      | ex c p' st2 => rw [e2] at h; exact fun μ' H' x => h μ' H' ((x0.trans x1).trans x)
      | ok b st2 =>
        rw [e2] at h
        have h : PostE G μ H (ift (Nat.beq (kk a) 1) (newD st2 [(a, b)]) .no) Q E := h
        intro μ2 H2 y x2 s2 ry
        obtain ⟨hk, h⟩ := PostE.ift h
        obtain ⟨k, ek, rk⟩ := kk_one rx (Nat.eq_of_beq_eq_true hk)
        have xx := x1.trans x2
        obtain ⟨hn2, hD⟩ := xx.notin hn upd_same
        refine ⟨hD, [(k, y)], by rw [ek]; rfl, by simp, ?_⟩
        obtain ⟨_, h⟩ := PostE.fits h
        rw [Sto.new_eq] at h
        have em : mergeK [] [(k, y)] = [(k, y)] := rfl
        rw [em]
        have kp : Kp G μ2 H2 (μ2 ++ [p]) (upd H2 p (.dK [(k, y)])) := ⟨fun l a h => (Kp.app (G := G) (H := H2) μ2 [p]).ix l a h, (Kp.offD (μ := μ2) hD).sq, (Kp.offD (μ := μ2) hD).tq⟩
        refine h (μ2 ++ [p]) _ _ (((x0.trans xx).off hp).adopt hp) ((s2.offD hD hn2).adoptO hn2 (.inl ⟨[(k, y)], upd_same, .cons rk (ry.kp kp) .nil⟩)) (.l ?_)
        rw [← s2.n]
        simp
end
def nDic1 (x y : NE) : NE where
  den := c2 pDic1 x.den y.den
  chk tb c a := match a with
    | .Dict [some e] [f] _ => x.chk tb c e && y.chk tb c f
    | _ => false
  ok tb G P w mg base k cal c E X a t g h := by
    dsimp only at h
    split at h
    · obtain ⟨h1, h2⟩ := and2 h
      exact t_dic1 (x.u t g h1) (y.u t g h2)
    · cases h
end L3

set_option Elab.async false
set_option linter.all false
set_option maxRecDepth 100000
set_option maxHeartbeats 4000000
/-! L3: set(xs), xs a tuple of tuples of ints. -/
noncomputable section
namespace L3
open PySem PySem.Spec PyProof.Rows L2
section
variable {P : Program} {w : World} {A : Around} {E : Value → Shared → Prop} {s : Shared}
def SetDoneT (P : Program) (w : World) (s : Shared) (ks : List (Addr × List Int)) (s2 : Shared) : Prop :=
  ∃ h' tk L es ep t, s2 = { s with heap := h', toks := tk } ∧ SetTR P w h' s.heap.objs.size L es ep t ∧ Got ks ks.length L ∧ ∀ b o, s.heap.get? b = some o → h'.get? b = some o
/-- the walk that fills a new set by a tuple -/
theorem fill_setT (hh : A.handled = none) {l S : Addr} {its : Array Value} {ks : List (Addr × List Int)} {h0 : Heap} {R : Result → Shared → Prop} (hl : s.heap.IsTuple l its) (hi : its.toList = ks.map fun p => Value.ref p.1) (h64 : ks.length < 64) (hu : A.in1.units < cLine)
    (hk : ∀ p ∈ ks, IsT P w h0 p.2 p.1) (hS : s.heap.get? S = some (newSet w)) (hSl : S ≠ l) (hS0 : h0.get? S = none) (hI0 : h0.get? s.heap.objs.size = none) (h0s : ∀ b o, h0.get? b = some o → s.heap.get? b = some o)
    (hR : ∀ (s' : Shared) L es ep t, Moved [S, s.heap.objs.size] (fun a b => b = a) { s with heap := s.heap.push { cls := .type "tuple_iterator", data := .fields #[.ref l, .int 0 0] } } s' → SetTR P w s'.heap S L es ep t → Got ks ks.length L → (∀ b o, h0.get? b = some o → s'.heap.get? b = some o) → R (.ok (.ret .none)) s') :
    codeAny (model P w) A (.builtin "set.update.loop" ⟨[.ref S, .ref s.heap.objs.size], []⟩) R { s with heap := s.heap.push { cls := .type "tuple_iterator", data := .fields #[.ref l, .int 0 0] } } := by
  have ln : its.size = ks.length := by
    have q := congrArg List.length hi
    rwa [Array.length_toList, List.length_map] at q
  have ll : l < s.heap.objs.size := by
    obtain ⟨o, e, _⟩ := hl
    exact Heap.lt_size e
  have lS : S < s.heap.objs.size := Heap.lt_size hS
  have hh1 : A.in1.handled = none := hh
  have vals : ∀ (i : Nat) (v : Value), its[i]? = some v → ∃ p, ks[i]? = some p ∧ v = .ref p.1 := fun i v e => by
    have e : its.toList[i]? = some v := (Array.getElem?_toList ..).trans e
    rw [hi, List.getElem?_map] at e
    obtain ⟨p, e1, e2⟩ := Option.map_eq_some_iff.mp e
    exact ⟨p, e1, e2.symm⟩
  refine set_update_tups (Walks.tuple hh1 s.heap.objs.size l (Nat.ne_of_lt ll) its).toS S ?_ ks ln h64 vals h0 hk hS0 (fun b hb => ?_) hu (its.size - 0) 0 _ rfl (Nat.zero_le _) ⟨⟨_, Heap.get?_push_size _ rfl, rfl, rfl⟩, hl.push _⟩ (fun b o e => Heap.get?_push_of_some _ (h0s b o e))
    ⟨[], #[], 0, _, setTR_fresh (Heap.get?_push_of_some _ hS), Got.zero ks⟩ fun s' L es ep t m r g kp => hR s' L es ep t m r (by rw [← ln]; exact g) kp
  · simp only [List.mem_cons, List.not_mem_nil, or_false, not_or]
    exact ⟨Nat.ne_of_lt lS, hSl⟩
  · rw [List.mem_singleton.mp hb]; exact hI0
theorem make_setT (hh : A.handled = none) {l : Addr} {its : Array Value} {ks : List (Addr × List Int)} {Q : Value → Shared → Prop} (hl : s.heap.IsTuple l its) (hi : its.toList = ks.map fun p => Value.ref p.1) (h64 : ks.length < 64) (hu : A.units + 3 < cLine) (hk : ∀ p ∈ ks, IsT P w s.heap p.2 p.1)
    (hQ : ∀ s2, SetDoneT P w s ks s2 → Q (.ref s.heap.objs.size) s2) : wpAny (model P w) A (call (.type "set") [.ref l]) Q E s := by
  obtain ⟨cm, tm, fm⟩ := F.called_set.mro
  have fa := F.called_set.made
  have fb := F.called_set.sub
  have fc := F.typeCall_set_1 (.ref l)
  have fd := F.called_set.notType
  have fe := F.called_set.canCreate
  refine wpAny_call (codeAny_of_tree (show wpAny _ _ (callAny (.type "set") _) _ _ _ from wpAny_pure ⟨Code.quiet_builtin _ (by decide +kernel), codeAny_builtin F.entry_type_call ?_⟩))
  rw [Around.under_plain (weight_type_call_type "set" [.ref l] []) rfl]
  repeat (any_goals (first | assumption | wp_step))
  refine codeAny_mono (code_set_led1 (E := E) (.ref l) (Q₁ := fun v s1 => v = .ref s.heap.objs.size ∧ s1 = { s with heap := s.heap.push (newSet w) }) ⟨rfl, rfl⟩) fun r s1 z => ?_
  cases r with
  | error _ => exact z
  | ok fl => cases fl with
    | ret v =>
      obtain ⟨rfl, rfl⟩ := z
      have gS : (s.heap.push (newSet w)).get? s.heap.objs.size = some (newSet w) := Heap.get?_push_size _ rfl
      have tS : Shared.TypeIs { s with heap := s.heap.push (newSet w) } (.ref s.heap.objs.size) "set" := ⟨_, gS, rfl⟩
      have ff := F.called_set.init.lookup
      have fg := F.called_set.init.bind (.ref s.heap.objs.size)
      repeat (any_goals (first | assumption | wp_step))
      refine codeAny_mono (codeAny_call_builtin (R := wants (fun r s2 => r = .none ∧ SetDoneT P w s ks s2) E) F.called_set.init.plain F.entry_set_init (check_set_init_1 tS ?_)) fun r2 s2 z2 => ?_
      · obtain ⟨ol, e1, e2, nl, e3⟩ := hl
        obtain ⟨oc, od, oa, os⟩ := ol
        dsimp only at e2 e3
        subst e2; subst e3
        have l1 : (s.heap.push (newSet w)).get? l = some { cls := .type "tuple", dict := od, data := .seq its nl, slots := os } := Heap.get?_push_of_some _ e1
        have l2 : (s.heap.push (newSet w)).IsTuple l its := ⟨_, l1, rfl, nl, rfl⟩
        have x1 := F.sub_tuple_set
        have x2 := F.sub_tuple_frozenset
        have x3 : (Value.type "tuple" == Value.type "dict") = false := by decide
        have ll : l < s.heap.objs.size := Heap.lt_size e1
        have sz : (s.heap.push (newSet w)).objs.size = s.heap.objs.size + 1 := Heap.size_push ..
        have far : ∀ b, s.heap.objs.size ≤ b → s.heap.get? b = none := fun b hb => by
          cases q : s.heap.get? b with
          | none => rfl
          | some o => exact absurd (Nat.lt_of_lt_of_le (Heap.lt_size q) hb) (Nat.lt_irrefl _)
        unfold Builtin.«set.__init__» noKeywords Builtin.Frozenset.updateFrom
        generalize gp : pyIter = PI
        wp_walk
        subst gp
        refine wpAny_pyIter_tuple l2 (wpAny_bind (wpAny_runValue ?_))
        refine fill_setT (s := { s with heap := s.heap.push (newSet w) }) (h0 := s.heap) (by simp [hh]) l2 hi h64 hu hk gS (Nat.ne_of_gt ll) (far _ (Nat.le_refl _)) (far _ (by show _ ≤ (s.heap.push (newSet w)).objs.size; rw [sz]; exact Nat.le_succ _)) (fun b o e => Heap.get?_push_of_some _ e) fun s' L es ep t m r g kp => ?_
        refine wpAny_pure (wpAny_pure ⟨rfl, ?_⟩)
        obtain ⟨h', g', d', tk', os'⟩ := s'
        have z1 : g' = s.gens := m.gens
        have z2 : d' = s.drawn := m.drawn
        have z3 : os' = s.os := m.os
        subst z1; subst z2; subst z3
        exact ⟨h', tk', L, es, ep, t, rfl, r, g, kp⟩
      · cases r2 with
        | error _ => exact z2
        | ok fl2 => cases fl2 with
          | ret v2 =>
            obtain ⟨rfl, dn⟩ := z2
            repeat (any_goals (first | assumption | wp_step))
            exact hQ _ dn
          | _ => exact z2.elim
    | _ => exact z.elim
end
/-! ### the rule of set(xs) -/
def rSetT (K : PySem.W.Frag) (P : Program) (w : World) : List V → Hp → VK → Prop := fun xs H Q => ∃ (q : Bool) (l : Addr) (ks : List (Addr × List Int)), xs = [.ref l] ∧ bSq q K H l (ks.map fun p => V.ref p.1) ∧ (∀ p ∈ ks, SqT K H p.1 (p.2.map V.int)) ∧ ks.length < 64 ∧
  ∀ a L, H a = none → (∀ p ∈ L, p ∈ ks) → (∀ p ∈ ks, p.2 ∈ L.map (·.2)) → Q (.ref a) (upd H a (SetTO P w a L))
theorem cr_setT {X : Cx} (hc : X.calm = true) (hu : X.A.units + 64 < cLine) : CallR X (.type "set") (rSetT X.K X.prog X.w) := by
  intro pins s σ H xs us Q I r h
  obtain ⟨q, l, ks, rfl, hq, hk, hf, h⟩ := h
  cases q with
  | false => exact cr_setOfT hc hu pins s σ H _ us Q I r ⟨l, ks, rfl, hq, hk, hf, h⟩
  | true =>
    obtain ⟨u, rfl, ru⟩ := vals1 r
    obtain rfl : u = Value.ref l := ru
    obtain ⟨its, rv, p⟩ := bInv I hq
    have hn : H s.heap.objs.size = none := I.hok.fresh (Nat.le_refl _)
    refine make_setT (I.ok.hd hc) p (by simpa using refs_of_vals rv) hf (by omega) (fun p hp => I.isT (hk p hp)) fun s2 ⟨h', tk, L, es, ep, t, e, R, g, kp⟩ => ?_
    rw [e]
    refine ⟨.ref s.heap.objs.size, upd H s.heap.objs.size (SetTO X.prog X.w s.heap.objs.size L), I.laid (t' := tk) kp (Nat.le_refl _) (setTO_new R.t0), rfl, h _ L hn (fun p hp => ?_) fun p hp => ?_⟩
    · exact List.mem_of_mem_take (g.sub p hp)
    · exact g.all p (by rw [List.take_length]; exact hp)
end L3

set_option Elab.async false
set_option linter.all false
set_option maxRecDepth 100000
set_option maxHeartbeats 4000000
/-! L3: sorted(set(xs)), xs of tuples of ints: the plain law, the node. -/
noncomputable section
namespace L3
open PySem PySem.Spec PyProof.Rows L2
/-! ### lists of ints in their order, each once -/
theorem lex_same : ∀ {a b : List Int}, HT.lexLt a b = false → HT.lexLt b a = false → a = b
  | [], [], _, _ => rfl
  | [], _ :: _, h, _ => by cases h
  | _ :: _, [], _, h => by cases h
  | x :: a, y :: b, h, h' => by
    rw [HT.lexLt_cons] at h h'
    by_cases e : x = y
    · rw [if_pos e] at h
      rw [if_pos e.symm] at h'
      rw [e, lex_same h h']
    · rw [if_neg e] at h
      rw [if_neg fun z => e z.symm] at h'
      have h1 := of_decide_eq_false h
      have h2 := of_decide_eq_false h'
      omega
theorem lex_no {a b : List Int} (h : HT.lexLt a b = true) : HT.lexLt b a = false := by
  have O := NtL.swo_lexL (fun x : List Int => x)
  exact O.asym _ _ h
theorem lex_go {a b c : List Int} (h1 : HT.lexLt a b = true) (h2 : HT.lexLt b c = true) : HT.lexLt a c = true := by
  have O := NtL.swo_lexL (fun x : List Int => x)
  cases q : HT.lexLt a c with
  | true => rfl
  | false =>
    have := O.tr b c a (O.asym _ _ h2) q
    rw [h1] at this
    cases this
def insL (a : List Int) : List (List Int) → List (List Int)
  | [] => [a]
  | b :: r => if HT.lexLt b a = true then b :: insL a r else if HT.lexLt a b = true then a :: b :: r else b :: r
def srtL : List (List Int) → List (List Int)
  | [] => []
  | a :: r => insL a (srtL r)
theorem insL_mem (a k : List Int) : ∀ l : List (List Int), k ∈ insL a l ↔ k = a ∨ k ∈ l
  | [] => by simp [insL]
  | b :: r => by
    unfold insL
    split
    · rw [List.mem_cons, insL_mem a k r, List.mem_cons]
      constructor
      · rintro (h | h | h)
        · exact .inr (.inl h)
        · exact .inl h
        · exact .inr (.inr h)
      · rintro (h | h | h)
        · exact .inr (.inl h)
        · exact .inl h
        · exact .inr (.inr h)
    · split
      · rw [List.mem_cons]
      · rename_i h1 h2
        have e : b = a := lex_same (by simpa using h1) (by simpa using h2)
        rw [List.mem_cons, e]
        constructor
        · exact .inr
        · rintro (h | h)
          · exact .inl h
          · exact h
theorem insL_up (a : List Int) : ∀ {l : List (List Int)}, l.Pairwise (fun x y => HT.lexLt x y = true) → (insL a l).Pairwise fun x y => HT.lexLt x y = true
  | [], _ => List.pairwise_singleton _ _
  | b :: r, h => by
    obtain ⟨h1, h2⟩ := List.pairwise_cons.mp h
    unfold insL
    split
    · rename_i e
      refine List.pairwise_cons.mpr ⟨fun z hz => ?_, insL_up a h2⟩
      rcases (insL_mem a z r).mp hz with rfl | hz
      · exact e
      · exact h1 z hz
    · split
      · rename_i e
        refine List.pairwise_cons.mpr ⟨fun z hz => ?_, h⟩
        rcases List.mem_cons.mp hz with rfl | hz
        · exact e
        · exact lex_go e (h1 z hz)
      · exact h
theorem srtL_mem (k : List Int) : ∀ l : List (List Int), k ∈ srtL l ↔ k ∈ l
  | [] => by simp [srtL]
  | a :: r => by
    show k ∈ insL a (srtL r) ↔ _
    rw [insL_mem, srtL_mem k r, List.mem_cons]
theorem srtL_up : ∀ l : List (List Int), (srtL l).Pairwise fun x y => HT.lexLt x y = true
  | [] => List.Pairwise.nil
  | a :: r => insL_up a (srtL_up r)
theorem upL_uniq : ∀ {xs ys : List (List Int)}, xs.Pairwise (fun x y => HT.lexLt x y = true) → ys.Pairwise (fun x y => HT.lexLt x y = true) → (∀ k, k ∈ xs ↔ k ∈ ys) → xs = ys
  | [], [], _, _, _ => rfl
  | [], y :: ys, _, _, h => absurd ((h y).mpr (List.mem_cons_self ..)) (by simp)
  | x :: xs, [], _, _, h => absurd ((h x).mp (List.mem_cons_self ..)) (by simp)
  | x :: xs, y :: ys, hx, hy, h => by
    obtain ⟨x1, x2⟩ := List.pairwise_cons.mp hx
    obtain ⟨y1, y2⟩ := List.pairwise_cons.mp hy
    have irr : ∀ z : List Int, HT.lexLt z z = true → False := fun z q => by
      have := lex_no q
      rw [q] at this; cases this
    have e : x = y := by
      rcases List.mem_cons.mp ((h x).mp (List.mem_cons_self ..)) with e | m
      · exact e
      · rcases List.mem_cons.mp ((h y).mpr (List.mem_cons_self ..)) with e | m2
        · exact e.symm
        · exact absurd (lex_go (y1 x m) (x1 y m2)) (fun q => irr _ q)
    subst e
    congr 1
    refine upL_uniq x2 y2 fun k => ⟨fun m => ?_, fun m => ?_⟩
    · rcases List.mem_cons.mp ((h k).mp (List.mem_cons_of_mem _ m)) with e | m2
      · rw [e] at m; exact absurd (x1 _ m) (irr _)
      · exact m2
    · rcases List.mem_cons.mp ((h k).mpr (List.mem_cons_of_mem _ m)) with e | m2
      · rw [e] at m; exact absurd (y1 _ m) (irr _)
      · exact m2
theorem code_of_lex {B : Int} : ∀ {a b : List Int}, a.length = b.length → TS.Bd B a → TS.Bd B b → HT.lexLt a b = true → TS.code B a < TS.code B b
  | [], [], _, _, _, h => by cases h
  | [], _ :: _, l, _, _, _ => by cases l
  | _ :: _, [], l, _, _, _ => by cases l
  | x :: a, y :: b, l, h1, h2, h => by
    have l' : a.length = b.length := Nat.succ.inj l
    rw [HT.lexLt_cons] at h
    by_cases e : x = y
    · rw [if_pos e] at h
      subst e
      exact (TS.code_same l').mpr (code_of_lex l' h1.tail h2.tail h)
    · rw [if_neg e] at h
      exact TS.code_lt l' h1.tail h2.tail (of_decide_eq_true h)
theorem lex_of_code {B : Int} {a b : List Int} (l : a.length = b.length) (h1 : TS.Bd B a) (h2 : TS.Bd B b) (hc : TS.code B a ≤ TS.code B b) (ne : a ≠ b) : HT.lexLt a b = true := by
  cases q : HT.lexLt a b with
  | true => rfl
  | false =>
    cases q2 : HT.lexLt b a with
    | false => exact absurd (lex_same q q2) ne
    | true =>
      have := code_of_lex l.symm h2 h1 q2
      omega
/-! ### the evaluator's -/
def tI (ns : List Int) : EV := .t (ns.map EV.i)
theorem tLt_tI (a b : List Int) : tLt (tI a) (tI b) = .of (HT.lexLt a b) := ltI_val a b
theorem insTU_eq (a : List Int) : ∀ (l : List (List Int)) (k : List EV → R), insTU (tI a) (l.map tI) k = k ((insL a l).map tI)
  | [], _ => rfl
  | b :: r, k => by
    show b3 (tLt (tI b) (tI a)) (b3 (tLt (tI a) (tI b)) (k (tI b :: r.map tI)) (k (tI a :: tI b :: r.map tI)) .no) (insTU (tI a) (r.map tI) fun r' => k (tI b :: r')) .no = _
    rw [insTU_eq a r, tLt_tI, tLt_tI]
    show _ = k ((if HT.lexLt b a = true then b :: insL a r else if HT.lexLt a b = true then a :: b :: r else b :: r).map tI)
    cases HT.lexLt b a with
    | true => rfl
    | false => cases HT.lexLt a b <;> rfl
theorem sortTU_eq : ∀ (l : List (List Int)) (k : List EV → R), sortTU (l.map tI) k = k ((srtL l).map tI)
  | [], _ => rfl
  | a :: r, k => by
    show sortTU (r.map tI) (fun r => insTU (tI a) r k) = _
    rw [sortTU_eq r, insTU_eq]
    rfl
section
variable {G : Fix} {P : Program} {w : World} {mg : Str → Option Value} {base : Heap} {k : Nat} {c : SC} {E : EXK} {cal : Cal} {X : Cx} {μ : List Addr} {H : Hp} {st : Sto} {Q : VK}
theorem natsK_ok : ∀ {xs : List EV} {ws : List V} {kk : R}, RVs G μ H xs ws → PostE G μ H (natsK xs kk) Q E → ∃ ns : List Int, xs = ns.map EV.i ∧ ws = ns.map V.int ∧ (∀ n ∈ ns, 0 ≤ n) ∧ PostE G μ H kk Q E
  | [], _, kk, .nil, h => ⟨[], rfl, rfl, fun n hn => by simp at hn, h⟩
  | x :: xs, _, kk, .cons rx r, h => by
    cases rx with
    | i y =>
      have h : PostE G μ H (ift (iLt y 0) .no (natsK xs kk)) Q E := h
      rw [ift_eq] at h
      split at h
      · exact h.elim
      · rename_i hy
        rw [iLt_ok] at hy
        obtain ⟨ns, e1, e2, e3, h⟩ := natsK_ok r h
        refine ⟨y :: ns, by rw [e1]; rfl, by rw [e2]; rfl, fun n hn => ?_, h⟩
        rcases List.mem_cons.mp hn with rfl | hn
        · simpa using hy
        · exact e3 n hn
    | _ => exact h.elim
/-- a tuple of ints, as the run has it -/
def TiAt (H : Hp) (p : Addr × List Int) : Prop := H p.1 = some (.tup (p.2.map V.int))
theorem posK_ok {d : Nat} : ∀ {xs : List EV} {ws : List V} {kk : R}, RVs G μ H xs ws → PostE G μ H (posK (d + 1) xs kk) Q E →
    ∃ ks : List (Addr × List Int), xs = (ks.map (·.2)).map tI ∧ ws = (ks.map fun p => V.ref p.1) ∧ (∀ p ∈ ks, TiAt H p ∧ p.2.length = d + 1 ∧ ∀ n ∈ p.2, 0 ≤ n) ∧ PostE G μ H kk Q E
  | [], _, kk, .nil, h => ⟨[], rfl, rfl, fun n hn => by simp at hn, h⟩
  | x :: xs, _, kk, .cons rx r, h => by
    cases rx with
    | @t es p vs hp rr =>
      have h : PostE G μ H (ift (Nat.beq (lenN es) (d + 1)) (natsK es (posK (d + 1) xs kk)) .no) Q E := h
      obtain ⟨hl, h⟩ := PostE.ift h
      have hl := Nat.eq_of_beq_eq_true hl
      rw [lenN_eq] at hl
      obtain ⟨ns, e1, e2, e3, h⟩ := natsK_ok rr h
      obtain ⟨ks, f1, f2, f3, h⟩ := posK_ok r h
      have ln : ns.length = d + 1 := by rw [e1, List.length_map] at hl; exact hl
      refine ⟨(p, ns) :: ks, by rw [f1, e1]; rfl, by rw [f2]; rfl, fun q hq => ?_, h⟩
      rcases List.mem_cons.mp hq with rfl | hq
      · refine ⟨?_, ln, e3⟩
        rcases hp with hp | ⟨_, hp⟩
        · show H p = _
          rw [hp, e2]
        · cases ns with
          | nil => cases ln
          | cons n ns =>
            obtain ⟨x, hx⟩ := hp (V.int n) (by rw [e2]; exact List.mem_cons_self)
            cases hx
      · exact f3 q hq
    | _ => exact h.elim
theorem bd_all : ∀ ks : List (Addr × List Int), (∀ p ∈ ks, ∀ n ∈ p.2, 0 ≤ n) → ∃ B : Int, ∀ p ∈ ks, TS.Bd B p.2 := by
  have one : ∀ ns : List Int, ∃ B : Int, ∀ n ∈ ns, n < B := by
    intro ns
    induction ns with
    | nil => exact ⟨0, fun n hn => by simp at hn⟩
    | cons n ns ih =>
      obtain ⟨B, hB⟩ := ih
      refine ⟨max (n + 1) B, fun m hm => ?_⟩
      rcases List.mem_cons.mp hm with rfl | hm
      · have := Int.le_max_left (m + 1) B; omega
      · have := hB m hm; have := Int.le_max_right (n + 1) B; omega
  intro ks
  induction ks with
  | nil => exact fun _ => ⟨0, fun p hp => by simp at hp⟩
  | cons p ks ih =>
    intro h
    obtain ⟨B, hB⟩ := ih fun q hq => h q (List.mem_cons_of_mem _ hq)
    obtain ⟨C, hC⟩ := one p.2
    refine ⟨max C B, fun q hq n hn => ⟨h q hq n hn, ?_⟩⟩
    rcases List.mem_cons.mp hq with rfl | hq
    · have := hC n hn; have := Int.le_max_left C B; omega
    · have := (hB q hq n hn).2; have := Int.le_max_right C B; omega
def rOr (r1 r2 : List V → Hp → VK → Prop) : List V → Hp → VK → Prop := fun xs H Q => r1 xs H Q ∨ r2 xs H Q
theorem cr_or {f : Value} {r1 r2 : List V → Hp → VK → Prop} (h1 : CallR X f r1) (h2 : CallR X f r2) : CallR X f (rOr r1 r2) := CallR.of fun xs H Q h => by
  rcases h with h | h
  · exact ⟨r1, h1, h⟩
  · exact ⟨r2, h2, h⟩
theorem units64 (g : Good G P w mg base k c E X) : X.A.units + 64 < cLine := by have := units65 g; omega
theorem setSortI_h (g : Good G P w mg base k c E X) {x : V} {H1 : Hp} {v : EV} (s : RS' G μ H1 st) (rv : RV G μ H1 v x) (h : PostE G μ H1 (pSetSort v st) Q E) : rSetI X.K X.w [x] H1 fun y H2 => rSortedSet X.w [y] H2 Q := by
  obtain ⟨qq, ad, xs, vs, e1, e2, e3, e4, _⟩ := gX_sq (p := fun r => PostE G μ H1 r Q E) s rv h (fun z => z)
  have h : PostE G μ H1 (gX .no v st fun xs => ift (Nat.blt (lenN xs) 64) (intsK xs (sortIU xs (newL st))) .no) Q E := h
  rw [e4] at h
  obtain ⟨hl, h⟩ := PostE.ift h
  rw [blt_dec, lenN_eq] at hl
  have hl := dcd hl
  obtain ⟨ns, i1, i2, h⟩ := intsK_ok e3 h
  rw [i1, sortIU_eq] at h
  have ln : ns.length < 64 := by rw [i1, List.length_map] at hl; exact hl
  have hb : ns.length + 1 < scanBound := by unfold scanBound; omega
  refine ⟨qq, ad, ns, by rw [e1], by rw [g.kk, ← i2]; exact e2, hb, fun b cc hbn hcc => ?_⟩
  refine ⟨b, _, cc, rfl, upd_same, by omega, fun ms pp u1 u2 u3 hp => ?_⟩
  have em : ms = srtU ns := up_uniq u1 (srtU_up ns) fun k => by rw [u2, srtU_mem]; simp
  rw [em]
  exact (PostE.sLn (PostE.mono h (Ext.tup hbn)) (s.tup hbn) (RVs.ints' _)).2 pp hp
theorem RVs.tIs {H : Hp} : ∀ {L : List (Addr × List Int)}, (∀ p ∈ L, TiAt H p) → RVs G μ H ((L.map (·.2)).map tI) (L.map fun p => V.ref p.1)
  | [], _ => .nil
  | p :: L, h => .cons (.t (.inl (h p (List.mem_cons_self ..))) (RVs.ints' p.2)) (RVs.tIs fun q hq => h q (List.mem_cons_of_mem _ hq))
theorem setSortT_h (g : Good G P w mg base k c E X) {x : V} {H1 : Hp} {v : EV} (s : RS' G μ H1 st) (rv : RV G μ H1 v x) (h : PostE G μ H1 (pSetSortT v st) Q E) : rSetT X.K X.prog X.w [x] H1 fun y H2 => rSortedT X.K X.prog X.w [y] H2 Q := by
  obtain ⟨qq, ad, xs, vs, e1, e2, e3, e4, _⟩ := gX_sq (p := fun r => PostE G μ H1 r Q E) s rv h (fun z => z)
  have h : PostE G μ H1 (gX .no v st fun xs => ift (Nat.blt (lenN xs) 64) (@List.rec EV (fun _ => R) .no (fun x _ _ => gT .no x fun a => @Nat.rec (fun _ => R) .no (fun d _ => posK (d + 1) xs (sortTU xs (newL st))) (lenN a)) xs) .no) Q E := h
  rw [e4] at h
  obtain ⟨hl, h⟩ := PostE.ift h
  rw [blt_dec, lenN_eq] at hl
  have hl := dcd hl
  have : ∃ d, PostE G μ H1 (posK (d + 1) xs (sortTU xs (newL st))) Q E := by
    cases xs with
    | nil => exact h.elim
    | cons y ys =>
      have h : PostE G μ H1 (gT .no y fun a => @Nat.rec (fun _ => R) .no (fun d _ => posK (d + 1) (y :: ys) (sortTU (y :: ys) (newL st))) (lenN a)) Q E := h
      cases y with
      | t a =>
        have h : PostE G μ H1 (@Nat.rec (fun _ => R) .no (fun d _ => posK (d + 1) (.t a :: ys) (sortTU (.t a :: ys) (newL st))) (lenN a)) Q E := h
        cases q : lenN a with
        | zero => rw [q] at h; exact h.elim
        | succ d => rw [q] at h; exact ⟨d, h⟩
      | _ => exact h.elim
  obtain ⟨d, h⟩ := this
  obtain ⟨ks, i1, i2, i3, h⟩ := posK_ok e3 h
  have l64 : ks.length < 64 := by rw [i1, List.length_map, List.length_map] at hl; exact hl
  rw [i1, sortTU_eq] at h
  refine ⟨qq, ad, ks, by rw [e1], by rw [g.kk, ← i2]; exact e2, fun p hp => .inl (.inl (i3 p hp).1), l64, fun a L ha hL1 hL2 => ?_⟩
  obtain ⟨B, hB⟩ := bd_all ks fun p hp => (i3 p hp).2.2
  have keep : ∀ p ∈ ks, TiAt (upd H1 a (SetTO X.prog X.w a L)) p := fun p hp => by
    show upd H1 a _ p.1 = _
    rw [upd_ne fun z => by have q := (i3 p hp).1; unfold TiAt at q; rw [z, ha] at q; cases q]
    exact (i3 p hp).1
  refine ⟨a, L, d + 1, B, rfl, upd_same, fun p hp => .inl (.inl (keep p (hL1 p hp))), by omega, fun p hp => ⟨(i3 p (hL1 p hp)).2.1, hB p (hL1 p hp)⟩, fun L' pp pm nd _ pw hp => ?_⟩
  have sub : ∀ q ∈ L', q ∈ ks := fun q hq => hL1 q (pm.mem_iff.mp hq)
  have up : (L'.map (·.2)).Pairwise fun x y => HT.lexLt x y = true := by
    rw [List.pairwise_map]
    have nd2 := List.pairwise_map.mp (show (L'.map (·.2)).Pairwise (· ≠ ·) from nd)
    refine List.Pairwise.imp_of_mem (fun {q r} hq hr z => ?_) (pw.and nd2)
    exact lex_of_code ((i3 q (sub q hq)).2.1.trans (i3 r (sub r hr)).2.1.symm) (hB q (sub q hq)) (hB r (sub r hr)) z.1 z.2
  have em : L'.map (·.2) = srtL (ks.map (·.2)) := upL_uniq up (srtL_up _) fun k => by
    rw [srtL_mem]
    constructor
    · intro hk
      obtain ⟨q, hq, e⟩ := List.mem_map.mp hk
      exact List.mem_map.mpr ⟨q, sub q hq, e⟩
    · intro hk
      obtain ⟨q, hq, e⟩ := List.mem_map.mp hk
      have q2 := hL2 q hq
      rw [e] at q2
      exact (pm.map (·.2)).mem_iff.mpr q2
  rw [← em] at h
  exact (PostE.sLn (PostE.mono h (Ext.tup ha)) (s.tup ha) (RVs.tIs fun p hp => keep p (sub p hp))).2 pp hp
theorem t_setSortX (g : Good G P w mg base k c E X) {e : Expr} {m : ES} {p p2 q pos : Pos} (hn : noStar e = true) (hx : c.sc.names.lookup ("sorted" : Str) = some .globalImplicit) (hm : mg ("sorted" : Str) = none) (hx2 : c.sc.names.lookup ("set" : Str) = some .globalImplicit) (hm2 : mg ("set" : Str) = none) (he : PE X e (T G E cal m)) :
    PE X (.Call (.Name "sorted" p) [.Call (.Name "set" p2) [e] [] q] [] pos) (T G E cal (c1 pSetSortX m)) :=
  (pe_callB (cr_or (cr_sortedSet g.calm) (cr_sortedT g.calm)) (gl_of g hx) (by rw [g.mm]; exact hm) (by decide +kernel) (pa_cons (pe_callTy (cr_or (cr_setI g.calm) (cr_setT g.calm (units64 g))) (gl_of g hx2) (by rw [g.mm]; exact hm2) (by decide +kernel) (pa_cons he pa_nil (starEach_cons hn [] X.env)) (by decide) (by decide) (starEach_cons hn [] X.env) rfl) pa_nil)).impL fun σ H Q h => (T.one h).imp fun x H1 ⟨μ, st, v, s, rv, h⟩ => by
    have oldI : PostE G μ H1 (pSetSort v st) Q E → rSetI X.K X.w [x] H1 (fun y H2 => rOr (rSortedSet X.w) (rSortedT X.K X.prog X.w) [y] H2 Q) := fun h => by
      obtain ⟨z1, z2, z3, z4, z5, z6, z7⟩ := setSortI_h g s rv h
      exact ⟨z1, z2, z3, z4, z5, z6, fun b c a1 a2 => .inl (z7 b c a1 a2)⟩
    obtain ⟨qq, ad, xs, vs, e1, e2, e3, e4, _⟩ := gX_sq (p := fun r => PostE G μ H1 r Q E) s rv h (fun z => z)
    have h : PostE G μ H1 (gX .no v st fun xs => @List.rec EV (fun _ => R) (pSetSort v st) (fun x _ _ => gT (pSetSort v st) x fun _ => pSetSortT v st) xs) Q E := h
    rw [e4] at h
    cases xs with
    | nil => exact .inl (oldI h)
    | cons y ys =>
      have h : PostE G μ H1 (gT (pSetSort v st) y fun _ => pSetSortT v st) Q E := h
      cases y with
      | t a =>
        obtain ⟨z1, z2, z3, z4, z5, z6, z7, z8⟩ := setSortT_h g s rv h
        exact .inr ⟨z1, z2, z3, z4, z5, z6, z7, fun a L a1 a2 a3 => .inr (z8 a L a1 a2 a3)⟩
      | _ => exact .inl (oldI h)
end
def nSortSetX (x : NE) : NE where
  den := c1 pSetSortX x.den
  chk tb c a := match a with
    | .Call (.Name z _) [.Call (.Name u _) [e] [] _] [] _ => (decide (z = "sorted") && decide (u = "set")) && ((bltB tb c z && bltB tb c u) && (noStar e && x.chk tb c e))
    | _ => false
  ok tb G P w mg base k cal c E X a t g h := by
    dsimp only at h
    split at h
    · obtain ⟨h1, h2⟩ := and2 h
      obtain ⟨e1, e2⟩ := and2 h1
      obtain ⟨h3, h4⟩ := and2 h2
      obtain ⟨b1, b2⟩ := and2 h3
      obtain ⟨n1, n2⟩ := and2 h4
      cases dcd e1; cases dcd e2
      obtain ⟨l1, l2, l3⟩ := bltB_of b1
      obtain ⟨m1, m2, m3⟩ := bltB_of b2
      exact t_setSortX g n1 l1 (t.blt _ l3) m1 (t.blt _ m3) (x.u t g n2)
    · cases h
end L3

set_option Elab.async false
set_option linter.all false
set_option maxRecDepth 100000
set_option maxHeartbeats 4000000
/-! L3: sorted of data: what can be put in order, lists and tuples. -/
noncomputable section
namespace L3
open PySem PySem.Spec PyProof.Rows L2

section
variable {P : Program} {w : World} {A : Around} {E : Value → Shared → Prop} {s : Shared}
/-- the items of a tuple, collected -/
theorem collect_tup {l : Addr} {vs : List Value} {Q : List Value → Shared → Prop} (hl : s.heap.IsTuple l vs.toArray) (hz : vs.length ≤ sizeLine)
    (h : Q vs { s with heap := (s.heap.push (seqObj "list" #[] 0)).update s.heap.objs.size (Obj.mapSeq (· ++ vs.toArray)) }) : wpAny (model P w) A (PySem.collect (.ref l)) Q E s := by
  obtain ⟨o, ho, hc, n, hd⟩ := id hl
  unfold PySem.collect
  refine wpAny_bind (wpAny_runValue (codeAny_builtin PyProof.Rows.entry_proto_collect' ?_))
  show wpAny _ _ (do PySem.again (.builtin "list.__iadd__" ⟨[← PySem.newList [], .ref l], []⟩)) _ _ s
  refine wpAny_bind (wpAny_newList (wpAny_pure ⟨Code.quiet_builtin _ (by decide +kernel), codeAny_builtin PyProof.Rows.entry_list_iadd' ?_⟩))
  show wpAny _ _ (Builtin.List.listExtendWith (.ref s.heap.objs.size) (.ref l) (.ref s.heap.objs.size)) _ _ { s with heap := s.heap.push (seqObj "list" #[] 0) }
  have g0 : (s.heap.push (seqObj "list" #[] 0)).get? s.heap.objs.size = some (seqObj "list" #[] 0) := Heap.get?_push_size _ rfl
  have g1 : (s.heap.push (seqObj "list" #[] 0)).get? l = some o := Heap.get?_push_of_some _ ho
  unfold Builtin.List.listExtendWith
  refine wpAny_bind (wpAny_typeOf (T := "tuple") ⟨o, g1, hc⟩ ?_)
  have ht : (Value.type "tuple" == Value.type "tuple") = true := by rfl
  rw [if_pos (by rw [ht]; simp)]
  refine wpAny_bind (listItems_at g1 hd (wpAny_bind (listItems_at g0 rfl ?_)))
  rw [if_neg (by simp)]
  have hz2 : (#[] ++ vs.toArray : Array Value).size ≤ sizeLine + 1 := by
    simp only [Array.size_append, List.size_toArray, List.length_nil]
    omega
  refine wpAny_bind (listUpdate_at g0 rfl (wpAny_pure ?_) (Nat.zero_le _) hz2)
  refine wpAny_bind (wpAny_load (get?_update_seq g0 _) ?_)
  show wpAny _ _ (pure ((#[] : Array Value) ++ vs.toArray).toList) Q E _
  have ev : ((#[] : Array Value) ++ vs.toArray).toList = vs := by simp
  rw [ev]
  exact wpAny_pure h
/-- sorted(t), t a tuple -/
theorem sorted_tup {l : Addr} {vs : List Value} {ltv : Value → Value → Bool} {Q : Value → Shared → Prop} (O : SrtO.Swo ltv) (hl : s.heap.IsTuple l vs.toArray) (hz : vs.length ≤ sizeLine)
    (hS : 2 ≤ vs.length → ∀ (h₁ : Heap) (a : Addr), h₁.get? a = some (seqObj "list" vs.toArray 0) → (∀ b o, s.heap.get? b = some o → b ≠ a ∧ h₁.get? b = some o) → SrtO.SortableO P w A.in1.in1 { s with heap := h₁ } a vs ltv)
    (h : ∀ out : List Value, SrtO.Srtd ltv out → SrtO.Stb ltv out vs → Q (.ref (s.heap.objs.size + 1)) { s with heap := sortedAll s.heap vs out.toArray }) : wpAny (model P w) A (call (.builtin "sorted") [.ref l]) Q E s := by
  refine Calls.call_function_entry PyProof.Rows.kind_sorted PyProof.Rows.plain_sorted PyProof.Rows.entry_sorted (PyProof.Rows.args_sorted1 _) ?_
  unfold Builtin.«sorted»
  refine wpAny_bind (m := checkCount "sorted" 1 1 _) (wpAny_pure (wpAny_bind (collect_tup hl hz (wpAny_bind (wpAny_newList ?_ hz)))))
  have sz : ((s.heap.push (seqObj "list" #[] 0)).update s.heap.objs.size (Obj.mapSeq (· ++ vs.toArray))).objs.size = s.heap.objs.size + 1 := (Heap.size_update ..).trans (Heap.size_push ..)
  have gL : (((s.heap.push (seqObj "list" #[] 0)).update s.heap.objs.size (Obj.mapSeq (· ++ vs.toArray))).push (seqObj "list" vs.toArray 0)).get? (s.heap.objs.size + 1) = some (seqObj "list" vs.toArray 0) := by
    rw [← sz]
    exact Heap.get?_push_size _ rfl
  have kp : ∀ b o, s.heap.get? b = some o → b ≠ s.heap.objs.size + 1 ∧ (((s.heap.push (seqObj "list" #[] 0)).update s.heap.objs.size (Obj.mapSeq (· ++ vs.toArray))).push (seqObj "list" vs.toArray 0)).get? b = some o := fun b o q => by
    have lb : b < s.heap.objs.size := Heap.lt_size q
    have q1 : ((s.heap.push (seqObj "list" #[] 0)).update s.heap.objs.size (Obj.mapSeq (· ++ vs.toArray))).get? b = some o := by
      rw [Heap.get?_update_ne _ _ _ _ (Nat.ne_of_lt lb)]
      exact Heap.get?_push_of_some _ q
    exact ⟨Nat.ne_of_lt (Nat.lt_succ_of_lt lb), Heap.get?_push_of_some _ q1⟩
  show wpAny _ _ _ _ _ { s with heap := ((s.heap.push (seqObj "list" #[] 0)).update s.heap.objs.size (Obj.mapSeq (· ++ vs.toArray))).push (seqObj "list" vs.toArray 0) }
  rw [sz]
  exact wpAny_bind (wpAny_holding (wpAny_call_entry PyProof.Rows.slot_list_sort ⟨_, gL, rfl⟩ PyProof.Rows.entry_list_sort (SrtO.list_sort_ord O gL hz (fun h2 => hS h2 _ _ gL kp) fun out a1 a2 => ⟨_, rfl, wpAny_pure ⟨_, rfl, h out a1 a2⟩⟩) (PyProof.Rows.args_list_sort _)))
end

/-! ### data can be put in order -/
mutual
theorem reads_in {h : Heap} : ∀ (d : PyData) (v : Value) (as : List Addr), PySem.W.alike d d = true → Reads h v d as → ∀ b ∈ as, ∃ o, h.get? b = some o
  | .none, _, _, _, r, b, hb => by cases r; simp at hb
  | .bool _, _, _, _, r, b, hb => by cases r; simp at hb
  | .int _, _, _, _, r, b, hb => by cases r; simp at hb
  | .str _, _, _, _, r, b, hb => by cases r; simp at hb
  | .list xs, _, _, hal, r, b, hb => by
    cases r with
    | list h1 h2 h3 h4 =>
      rcases List.mem_cons.mp hb with rfl | hb
      · exact ⟨_, h1⟩
      · exact reads_in_all xs _ _ (by simpa [PySem.W.alike] using hal) h4 b hb
  | .tuple xs, _, _, hal, r, b, hb => by
    cases r with
    | tuple h1 h2 h3 h4 => exact reads_in_all xs _ _ (by simpa [PySem.W.alike] using hal) h4 b hb
  | .dict _, _, _, hal, _, _, _ => absurd hal (by simp [PySem.W.alike])
theorem reads_in_all {h : Heap} : ∀ (ds : List PyData) (vs : List Value) (as : List Addr), PySem.W.alikeAll ds ds = true → ReadsAll h vs ds as → ∀ b ∈ as, ∃ o, h.get? b = some o
  | [], _, _, _, r, b, hb => by cases r; simp at hb
  | d :: ds, _, _, hal, r, b, hb => by
    cases r with
    | cons h1 h2 =>
      rcases List.mem_append.mp hb with hb | hb
      · exact reads_in d _ _ (PySem.W.alike_all_cons hal).1 h1 b hb
      · exact reads_in_all ds _ _ (PySem.W.alike_all_cons hal).2 h2 b hb
end
abbrev Toks := List (Int ⊕ List Nat)
def ltK {α : Type} (k : α → Toks) (x y : α) : Bool := PyProof.Rows.lexLt PyProof.Rows.itemOrd (k x) (k y)
theorem swo_ltK {α : Type} (k : α → Toks) : SrtO.Swo (ltK k) := by
  have tr := (PyProof.Rows.listOrd PyProof.Rows.itemOrd).trans
  have ir := (PyProof.Rows.listOrd PyProof.Rows.itemOrd).irrefl
  have nt := (PyProof.Rows.listOrd PyProof.Rows.itemOrd).negTrans
  refine ⟨fun x y h => ?_, fun x y z h1 h2 => ?_⟩
  · cases q : ltK k y x with
    | false => rfl
    | true =>
      have z := tr (k x) (k y) (k x) h q
      have z2 := ir (k x)
      rw [z] at z2
      cases z2
  · cases q : ltK k z x with
    | false => rfl
    | true =>
      rcases nt (k z) (k y) (k x) q with e | e
      · exact e.symm.trans h2
      · exact e.symm.trans h1
section
variable {P : Program} {w : World} {A : Around} {s : Shared}
theorem data_sortable {a : Addr} {vs : List Value} {ds : List PyData} {kt : Value → Toks} (h2 : 2 ≤ vs.length) (e : PySem.W.EachIs (fun v d => (∃ as, Reads s.heap v d as ∧ a ∉ as) ∧ kt v = PySem.W.keyToks d) vs ds) (hal : PySem.W.AllAlike ds) (hk : PySem.W.Sortable ds)
    (hu : ∀ d, d ∈ ds → A.units + d.depth < cLine) (ha : ∀ o, s.heap.get? a = some o → o.cls = .type "list") : SrtO.SortableO P w A s a vs (ltK kt) := by
  intro h' keep
  have e' : PySem.W.EachIs (fun v d => ∃ as, Reads h' v d as) vs ds := by
    have dn : ∀ (vs : List Value) (ds : List PyData), (∀ d ∈ ds, PySem.W.alike d d = true) → PySem.W.EachIs (fun v d => (∃ as, Reads s.heap v d as ∧ a ∉ as) ∧ kt v = PySem.W.keyToks d) vs ds → PySem.W.EachIs (fun v d => ∃ as, Reads h' v d as) vs ds := by
      intro vs ds hd e
      induction e with
      | nil => exact .nil
      | cons h t ih =>
        obtain ⟨⟨as, r, n⟩, _⟩ := h
        exact .cons ⟨as, PySem.W.Reads.keepBut keep ha _ _ _ (hd _ (List.mem_cons_self ..)) r n⟩ (ih fun d m => hd d (List.mem_cons_of_mem _ m))
    exact dn vs ds (fun d hd => hal d hd d hd) e
  obtain ⟨_, kd, hlt, hkd⟩ := PySem.W.SortsAt.data (prog := P) (w := w) (A := A) (s := { s with heap := h' }) e' hal hk hu
  refine ⟨kd, fun Q E hq => hkd h2 E hq, fun p q hp hq => ?_⟩
  have both : PySem.W.EachIs (fun v d => (PySem.W.dataKind h' ds).keyOf v = some (PySem.W.keyToks d) ∧ kt v = PySem.W.keyToks d) vs ds := by
    have dn : ∀ (vs : List Value) (es : List PyData), (∀ d ∈ es, d ∈ ds) → PySem.W.EachIs (fun v d => (∃ as, Reads s.heap v d as ∧ a ∉ as) ∧ kt v = PySem.W.keyToks d) vs es → PySem.W.EachIs (fun v d => ∃ as, Reads h' v d as) vs es → PySem.W.EachIs (fun v d => (PySem.W.dataKind h' ds).keyOf v = some (PySem.W.keyToks d) ∧ kt v = PySem.W.keyToks d) vs es := by
      intro vs es hd e e2
      induction e with
      | nil => exact .nil
      | cons h t ih =>
        cases e2 with
        | cons r2 t2 =>
          obtain ⟨as, r⟩ := r2
          exact .cons ⟨PySem.W.dataKind_some hal (hd _ (List.mem_cons_self ..)) r, h.2⟩ (ih (fun d m => hd d (List.mem_cons_of_mem _ m)) t2)
    exact dn vs ds (fun _ m => m) e e'
  obtain ⟨d, _, k1, k2⟩ := both.left p.1 hp
  obtain ⟨d', _, k3, k4⟩ := both.left q.1 hq
  refine hlt _ _ _ _ _ k1 k3 ⟨rfl, ?_⟩
  show _ = ltK kt p.1 q.1
  unfold ltK
  rw [k2, k4]
  rfl
end

/-! ### as a rule of the layer -/
def bk : Value → V
  | .int i _ => .int i
  | .str x _ => .str x
  | .bool b => .bl b
  | .none => .non
  | .ref a => .ref a
  | _ => .non
theorem bk_of {K : PySem.W.Frag} {H : Hp} {x : V} {d : PyData} {u : Value} (h : Dp K H x d) (r : RelV x u) : bk u = x ∧ RelV (bk u) u := by
  have e : bk u = x := by
    cases h with
    | non => cases (show u = .none from r); rfl
    | bl y => cases (show u = .bool y from r); rfl
    | int y => obtain ⟨t, e⟩ := (show ∃ t, u = .int y t from r); rw [e]; rfl
    | str y => obtain ⟨t, e⟩ := (show ∃ t, u = .str y t from r); rw [e]; rfl
    | lst h1 h2 => cases (show u = .ref _ from r); rfl
    | tup h1 h2 => cases (show u = .ref _ from r); rfl
  exact ⟨e, by rw [e]; exact r⟩
theorem bk_all {K : PySem.W.Frag} {H : Hp} : ∀ {xs : List V} {ds : List PyData} {us : List Value}, DpAll K H xs ds → Vals xs us → us.map bk = xs ∧ ∀ u ∈ us, RelV (bk u) u
  | _, _, _, .nil, r => by cases r; exact ⟨rfl, fun u hu => by simp at hu⟩
  | _, _, _, .cons h t, r => by
    cases r with
    | cons r1 r2 =>
      obtain ⟨e1, e2⟩ := bk_of h r1
      obtain ⟨f1, f2⟩ := bk_all t r2
      refine ⟨by rw [List.map_cons, e1, f1], fun u hu => ?_⟩
      rcases List.mem_cons.mp hu with rfl | hu
      · exact e2
      · exact f2 u hu
theorem vals_bk : ∀ {us : List Value}, (∀ u ∈ us, RelV (bk u) u) → Vals (us.map bk) us
  | [], _ => .nil
  | u :: us, h => .cons (h u (List.mem_cons_self ..)) (vals_bk fun v hv => h v (List.mem_cons_of_mem _ hv))
theorem ins_congr {α : Type} {lt lt' : α → α → Bool} (x : α) : ∀ {l : List α}, (∀ y ∈ l, lt y x = lt' y x) → ins lt x l = ins lt' x l
  | [], _ => rfl
  | y :: r, h => by
    unfold ins
    rw [h y (List.mem_cons_self ..), ins_congr x fun z hz => h z (List.mem_cons_of_mem _ hz)]
theorem isort_mem' {α : Type} {lt : α → α → Bool} {z : α} : ∀ {l : List α}, z ∈ isort lt l → z ∈ l
  | [], h => h
  | x :: r, h => by
    rcases List.mem_cons.mp ((ins_perm x _).mem_iff.mp h) with e | h
    · rw [e]; exact List.mem_cons_self ..
    · exact List.mem_cons_of_mem _ (isort_mem' h)
theorem isort_congr {α : Type} {lt lt' : α → α → Bool} : ∀ {l : List α}, (∀ x ∈ l, ∀ y ∈ l, lt x y = lt' x y) → isort lt l = isort lt' l
  | [], _ => rfl
  | x :: r, h => by
    show ins lt x (isort lt r) = ins lt' x (isort lt' r)
    rw [isort_congr fun a ha b hb => h a (List.mem_cons_of_mem _ ha) b (List.mem_cons_of_mem _ hb)]
    exact ins_congr x fun y hy => h y (List.mem_cons_of_mem _ (isort_mem' hy)) x (List.mem_cons_self ..)
def ltP2 {α : Type} (a b : α × PyData) : Bool := PySem.W.dataLt a.2 b.2
def rSortD (K : PySem.W.Frag) : List V → Hp → VK → Prop := fun vs H Q => ∃ (q : Bool) (a : Addr) (xs : List V) (ds : List PyData), vs = [V.ref a] ∧ bSq q K H a xs ∧ DpAll K H xs ds ∧ PySem.W.AllAlike ds ∧ PySem.W.Sortable ds ∧ (∀ d ∈ ds, d.depth ≤ 60) ∧
  ∀ p, H p = none → Q (.ref p) (upd H p (.lst ((isort ltP2 (xs.zip ds)).map (·.1))))
theorem zip_bk : ∀ (us : List Value) (ds : List PyData), (us.map bk).zip ds = (us.zip ds).map fun p => (bk p.1, p.2)
  | [], _ => rfl
  | _ :: _, [] => rfl
  | u :: us, d :: ds => congrArg ((bk u, d) :: ·) (zip_bk us ds)
theorem DpAll.length {K : PySem.W.Frag} {H : Hp} : ∀ {xs : List V} {ds : List PyData}, DpAll K H xs ds → xs.length = ds.length
  | _, _, .nil => rfl
  | _, _, .cons _ t => congrArg Nat.succ (DpAll.length t)
theorem cr_sortD {X : Cx} (hu : X.A.units + 65 < cLine) : CallR X (.builtin "sorted") (rSortD X.K) := by
  intro pins s σ H vs us Q I r h
  obtain ⟨q, a, xs, ds, rfl, hq, hd, hal, hs, hdp, h⟩ := h
  obtain ⟨u, rfl, ru⟩ := vals1 r
  obtain rfl : u = Value.ref a := ru
  obtain ⟨its, rv, p⟩ := bInv I hq
  obtain ⟨b1, b2⟩ := bk_all hd rv
  have hz : its.length ≤ sizeLine := by
    cases q with
    | false =>
      obtain ⟨its', rv', _, hz⟩ := I.list hq
      rw [← rv.length]; exact hz
    | true =>
      obtain ⟨its', rv', _, hz⟩ := I.tuple hq
      rw [← rv.length]; exact hz
  let kt : Value → Toks := fun v => ((PySem.W.dataKind s.heap ds).keyOf v).getD []
  have O : SrtO.Swo (ltK kt) := swo_ltK _
  have rd0 : PySem.W.EachIs (fun v d => (∃ as, Reads s.heap v d as) ∧ kt v = PySem.W.keyToks d) its ds := by
    have go : ∀ (xs : List V) (es : List PyData) (us : List Value), (∀ d ∈ es, d ∈ ds) → DpAll X.K H xs es → Vals xs us → PySem.W.EachIs (fun v d => (∃ as, Reads s.heap v d as) ∧ kt v = PySem.W.keyToks d) us es := by
      intro xs es us hm hd
      induction xs generalizing es us with
      | nil => intro r; cases hd; cases r; exact .nil
      | cons x xs ih =>
        intro r
        cases hd with
        | cons d1 d2 =>
          cases r with
          | cons r1 r2 =>
            obtain ⟨as, rr⟩ := Dp.reads I _ _ _ d1 r1
            refine .cons ⟨⟨as, rr⟩, ?_⟩ (ih _ _ (fun d m => hm d (List.mem_cons_of_mem _ m)) d2 r2)
            show ((PySem.W.dataKind s.heap ds).keyOf _).getD [] = _
            rw [PySem.W.dataKind_some hal (hm _ (List.mem_cons_self ..)) rr]
            rfl
    exact go xs ds its (fun d m => m) hd rv
  have srt : 2 ≤ its.length → ∀ (h₁ : Heap) (a' : Addr), h₁.get? a' = some (seqObj "list" its.toArray 0) → (∀ b o, s.heap.get? b = some o → b ≠ a' ∧ h₁.get? b = some o) → SrtO.SortableO X.prog X.w X.A.in1.in1 { s with heap := h₁ } a' its (ltK kt) := by
    intro h2 h₁ a' ha kp
    have rd : PySem.W.EachIs (fun v d => (∃ as, Reads h₁ v d as ∧ a' ∉ as) ∧ kt v = PySem.W.keyToks d) its ds := by
      have go : ∀ (us : List Value) (es : List PyData), (∀ d ∈ es, PySem.W.alike d d = true) → PySem.W.EachIs (fun v d => (∃ as, Reads s.heap v d as) ∧ kt v = PySem.W.keyToks d) us es → PySem.W.EachIs (fun v d => (∃ as, Reads h₁ v d as ∧ a' ∉ as) ∧ kt v = PySem.W.keyToks d) us es := by
        intro us es hal e
        induction e with
        | nil => exact .nil
        | cons r _ ih =>
          obtain ⟨⟨as, rr⟩, k1⟩ := r
          refine .cons ⟨⟨as, PyProof.Rows.Reads.keeps (fun b o e => (kp b o e).2) rr, fun m => ?_⟩, k1⟩ (ih fun d m => hal d (List.mem_cons_of_mem _ m))
          obtain ⟨o, ho⟩ := reads_in _ _ _ (hal _ (List.mem_cons_self ..)) rr a' m
          exact (kp a' o ho).1 rfl
      exact go its ds (fun d m => hal d m d m) rd0
    refine data_sortable (s := { s with heap := h₁ }) h2 rd hal hs (fun d m => ?_) fun o e => ?_
    · have := hdp d m
      show X.A.units + 1 + 1 + _ < cLine
      omega
    · have e' : some o = some (seqObj "list" its.toArray 0) := e.symm.trans ha
      cases e'; rfl
  have ln : its.length = ds.length := rv.length.symm.trans (DpAll.length hd)
  have same : (isort (ltK kt) its).map bk = (isort ltP2 (xs.zip ds)).map (·.1) := by
    have z1 : (its.zip ds).map (·.1) = its := List.map_fst_zip (by omega)
    have z2 : xs.zip ds = (its.zip ds).map fun p => (bk p.1, p.2) := by
      rw [← b1]
      exact zip_bk its ds
    have e1 : isort (ltK kt) its = (isort (fun a b : Value × PyData => ltK kt a.1 b.1) (its.zip ds)).map (·.1) := by
      rw [← isort_map (f := fun p : Value × PyData => p.1) (lt' := ltK kt), z1]
    have e2 : isort (fun a b : Value × PyData => ltK kt a.1 b.1) (its.zip ds) = isort (fun a b : Value × PyData => ltP2 (α := Value) a b) (its.zip ds) := isort_congr fun x hx y hy => by
      have k1 := (rd0.zip x hx).2
      have k2 := (rd0.zip y hy).2
      unfold ltK ltP2 PySem.W.dataLt
      rw [k1, k2]
    have e3 : isort ltP2 ((its.zip ds).map fun p => (bk p.1, p.2)) = (isort (fun a b : Value × PyData => ltP2 (α := V) (bk a.1, a.2) (bk b.1, b.2)) (its.zip ds)).map fun p => (bk p.1, p.2) := isort_map _
    rw [e1, e2, z2, e3, List.map_map, List.map_map]
    rfl
  have fin : ∀ out : List Value, SrtO.Srtd (ltK kt) out → SrtO.Stb (ltK kt) out its → EP X pins σ Q (.ref (s.heap.objs.size + 1)) { s with heap := sortedAll s.heap its out.toArray } := fun out h1 h2 => by
    have h3 : ∀ u ∈ out, RelV (bk u) u := fun u hu => b2 u (h2.perm.mem_iff.mp hu)
    obtain ⟨n, hn⟩ := sortedAll_at s.heap its out.toArray
    have q2 := isort_stb O its
    have eo : out = isort (ltK kt) its := SrtO.stb_uniq O h1 (isort_srtd O its) ⟨h2.perm.trans q2.perm.symm, fun x => (h2.cls x).trans (q2.cls x).symm⟩
    have eb : out.map bk = (isort ltP2 (xs.zip ds)).map (·.1) := by rw [eo, same]
    refine ⟨.ref (s.heap.objs.size + 1), upd H (s.heap.objs.size + 1) (.lst ((isort ltP2 (xs.zip ds)).map (·.1))), I.laid (t' := s.toks) (fun _ _ => sortedAll_old) (Nat.le_succ _) ⟨?_, out, n, ?_, hn⟩, rfl, h _ (I.hok.fresh (Nat.le_succ _))⟩
    · rw [← eb, List.length_map, h2.len]
      exact hz
    · rw [← eb]; exact vals_bk h3
  cases q with
  | false => exact SrtO.sorted_ord O p hz srt fin
  | true => exact sorted_tup O p hz srt fin
end L3

set_option Elab.async false
set_option linter.all false
set_option maxRecDepth 100000
set_option maxHeartbeats 4000000
/-! L3: sorted of data: the evaluator's. -/
noncomputable section
namespace L3
open PySem PySem.Spec PyProof.Rows L2
/-! ### what can be put in order -/
theorem gI_of {v : EV} {k : Int → Bool} (h : gI false v k = true) : ∃ i, v = .i i ∧ k i = true := by
  cases v with
  | i x => exact ⟨x, rfl, h⟩
  | _ => cases h
theorem gT_of {v : EV} {k : List EV → Bool} (h : gT false v k = true) : ∃ xs, v = .t xs ∧ k xs = true := by
  cases v with
  | t x => exact ⟨x, rfl, h⟩
  | _ => cases h
theorem gS_of {v : EV} {k : List Nat → Bool} (h : gS false v k = true) : ∃ xs, v = .s xs ∧ k xs = true := by
  cases v with
  | s x => exact ⟨x, rfl, h⟩
  | _ => cases h
theorem intsB_of : ∀ {xs : List EV}, intsB xs = true → ∃ ns : List Int, xs = ns.map EV.i
  | [], _ => ⟨[], rfl⟩
  | x :: xs, h => by
    have h : gI false x (fun _ => intsB xs) = true := h
    obtain ⟨i, e, h⟩ := gI_of h
    obtain ⟨ns, e2⟩ := intsB_of h
    exact ⟨i :: ns, by rw [e, e2]; rfl⟩
theorem ift_and {a b : Bool} (h : ift a b false = true) : a = true ∧ b = true := by
  cases a with
  | true => exact ⟨rfl, h⟩
  | false => cases h
/-- the classes -/
inductive Cls : Nat → PyData → Prop where
  | i (x : Int) : Cls 0 (.int x)
  | ti (ns : List Int) : Cls 1 (.tuple (ns.map PyData.int))
  | it (x : Int) (ns : List Int) : Cls 2 (.tuple [.int x, .tuple (ns.map PyData.int)])
  | tt (nss : List (List Int)) : Cls 3 (.tuple (nss.map fun ns => .tuple (ns.map PyData.int)))
  | is (x : Int) (s : Str) : Cls 4 (.tuple [.int x, .str s])
theorem alike_tups : ∀ a b : List (List Int), PySem.W.alikeAll (a.map fun ns => .tuple (ns.map PyData.int)) (b.map fun ns => .tuple (ns.map PyData.int)) = true
  | [], _ => by simp [PySem.W.alikeAll]
  | _ :: _, [] => by simp [PySem.W.alikeAll]
  | x :: a, y :: b => by
    rw [List.map_cons, List.map_cons, PySem.W.alikeAll, alike_tups a b, PySem.W.alike, PySem.W.alike_ints]
    rfl
theorem Cls.alike {k : Nat} {d d' : PyData} (h : Cls k d) (h' : Cls k d') : PySem.W.alike d d' = true := by
  cases h with
  | i => cases h'; rfl
  | ti ns =>
    cases h' with
    | ti ms => rw [PySem.W.alike, PySem.W.alike_ints]
  | it x ns =>
    cases h' with
    | it y ms => simp [PySem.W.alike, PySem.W.alikeAll, PySem.W.alike_ints]
  | tt ns =>
    cases h' with
    | tt ms => rw [PySem.W.alike, alike_tups]
  | is x s =>
    cases h' with
    | is y r => simp [PySem.W.alike, PySem.W.alikeAll]
section
variable {st : Sto}
theorem cls_I {v : EV} {n : Nat} (h : isIB v = true) : Cls 0 (toD st (n + 1) v) := by
  obtain ⟨i, rfl, _⟩ := gI_of h
  exact .i i
theorem toD_ints (n : Nat) (ns : List Int) : (ns.map EV.i).map (toD st (n + 1)) = ns.map PyData.int := by
  rw [List.map_map]; rfl
theorem tI_of {v : EV} {n : Nat} (h : isTIB v = true) : ∃ ns : List Int, toD st (n + 2) v = .tuple (ns.map PyData.int) := by
  obtain ⟨xs, rfl, h⟩ := gT_of h
  obtain ⟨ns, rfl⟩ := intsB_of h
  refine ⟨ns, ?_⟩
  show PyData.tuple ((ns.map EV.i).map (toD st (n + 1))) = _
  rw [toD_ints]
theorem tIs_of {n : Nat} : ∀ {xs : List EV}, (∀ x ∈ xs, isTIB x = true) → ∃ nss : List (List Int), xs.map (toD st (n + 2)) = nss.map fun ns => .tuple (ns.map PyData.int)
  | [], _ => ⟨[], rfl⟩
  | x :: xs, h => by
    obtain ⟨ns, e⟩ := tI_of (st := st) (n := n) (h x List.mem_cons_self)
    obtain ⟨nss, e2⟩ := tIs_of (n := n) (xs := xs) fun y hy => h y (List.mem_cons_of_mem _ hy)
    exact ⟨ns :: nss, by rw [List.map_cons, List.map_cons, e, e2]⟩
theorem cls_TI {v : EV} {n : Nat} (h : isTIB v = true) : Cls 1 (toD st (n + 2) v) := by
  obtain ⟨ns, e⟩ := tI_of (st := st) (n := n) h
  rw [e]; exact .ti ns
theorem cls_IT {v : EV} {n : Nat} (h : isITB v = true) : Cls 2 (toD st (n + 3) v) := by
  obtain ⟨xs, rfl, h⟩ := gT_of h
  match xs, h with
  | [a, b], h =>
    have h : ift (isIB a) (isTIB b) false = true := h
    obtain ⟨h1, h2⟩ := ift_and h
    obtain ⟨i, rfl, _⟩ := gI_of h1
    obtain ⟨ns, e⟩ := tI_of (st := st) (n := n) h2
    show Cls 2 (.tuple [.int i, toD st (n + 2) b])
    rw [e]; exact .it i ns
theorem cls_IS {v : EV} {n : Nat} (h : isISB v = true) : Cls 4 (toD st (n + 2) v) := by
  obtain ⟨xs, rfl, h⟩ := gT_of h
  match xs, h with
  | [a, b], h =>
    have h : ift (isIB a) (gS false b fun _ => true) false = true := h
    obtain ⟨h1, h2⟩ := ift_and h
    obtain ⟨i, rfl, _⟩ := gI_of h1
    obtain ⟨c, rfl, _⟩ := gS_of h2
    exact .is i ⟨c.toArray⟩
theorem cls_TT {v : EV} {n : Nat} (h : isTTB v = true) : Cls 3 (toD st (n + 3) v) := by
  obtain ⟨xs, rfl, h⟩ := gT_of h
  obtain ⟨nss, e⟩ := tIs_of (st := st) (n := n) (allB1_ok (xs := xs) h)
  show Cls 3 (.tuple (xs.map (toD st (n + 2))))
  rw [e]; exact .tt nss
theorem neT_of {v : EV} {n : Nat} (h : neB v = true) : ∃ x r, toD st (n + 1) v = .tuple (x :: r) := by
  obtain ⟨xs, rfl, h⟩ := gT_of h
  cases xs with
  | nil => cases h
  | cons x xs => exact ⟨_, _, rfl⟩
theorem sortable_ok {xs : List EV} (h : sortable xs = true) : PySem.W.AllAlike (xs.map (toD st 5)) ∧ PySem.W.Sortable (xs.map (toD st 5)) := by
  have al : ∀ {k : Nat}, (∀ x ∈ xs, Cls k (toD st 5 x)) → PySem.W.AllAlike (xs.map (toD st 5)) := fun hc d hd d' hd' => by
    obtain ⟨x, hx, rfl⟩ := List.mem_map.mp hd
    obtain ⟨y, hy, rfl⟩ := List.mem_map.mp hd'
    exact (hc x hx).alike (hc y hy)
  have h : ift (allB1 isIB xs) true (ift (allB1 neB xs) (ift (allB1 isTIB xs) true (ift (allB1 isITB xs) true (ift (allB1 isTTB xs) true (allB1 isISB xs)))) false) = true := h
  cases h1 : allB1 isIB xs with
  | true =>
    have q := allB1_ok h1
    refine ⟨al fun x hx => cls_I (q x hx), .inr fun d hd => ?_⟩
    obtain ⟨x, hx, rfl⟩ := List.mem_map.mp hd
    obtain ⟨i, rfl, _⟩ := gI_of (q x hx)
    exact ⟨fun e => (nomatch e), fun _ e => (nomatch e)⟩
  | false =>
    rw [h1] at h
    obtain ⟨h2, h⟩ := ift_and h
    refine ⟨?_, .inl fun d hd => ?_⟩
    · cases h3 : allB1 isTIB xs with
      | true => exact al fun x hx => cls_TI (allB1_ok h3 x hx)
      | false =>
        rw [h3] at h
        have h : ift (allB1 isITB xs) true (ift (allB1 isTTB xs) true (allB1 isISB xs)) = true := h
        cases h4 : allB1 isITB xs with
        | true => exact al fun x hx => cls_IT (allB1_ok h4 x hx)
        | false =>
          rw [h4] at h
          have h : ift (allB1 isTTB xs) true (allB1 isISB xs) = true := h
          cases h5 : allB1 isTTB xs with
          | true => exact al fun x hx => cls_TT (allB1_ok h5 x hx)
          | false =>
            rw [h5] at h
            exact al fun x hx => cls_IS (allB1_ok h x hx)
    · obtain ⟨x, hx, rfl⟩ := List.mem_map.mp hd
      exact neT_of (allB1_ok h2 x hx)
/-! ### the order -/
theorem cLt_ok : ∀ a b : List Nat, cLt a b = decide (a < b)
  | [], [] => rfl
  | [], y :: b => by
    show true = _
    rw [eq_comm, decide_eq_true_eq]
    exact List.nil_lt_cons ..
  | x :: a, [] => by
    show false = _
    rw [eq_comm, decide_eq_false_iff_not]
    exact List.not_lt_nil _
  | x :: a, y :: b => by
    show ift (Nat.beq x y) (cLt a b) (Nat.blt x y) = _
    rw [ift_eq, beq_dec, cLt_ok a b]
    by_cases e : x = y
    · subst e
      rw [if_pos (by simp)]
      apply decide_eq_decide.mpr
      rw [List.cons_lt_cons_iff]
      constructor
      · exact fun h => .inr ⟨rfl, h⟩
      · rintro (h | ⟨_, h⟩)
        · exact absurd h (Nat.lt_irrefl _)
        · exact h
    · rw [if_neg (by simpa using e), blt_dec]
      apply decide_eq_decide.mpr
      rw [List.cons_lt_cons_iff]
      constructor
      · exact .inl
      · rintro (h | ⟨h, _⟩)
        · exact h
        · exact absurd h e
theorem ltL_ok {n : Nat} {r : EV → EV → B3} (ih : ∀ a b z, r a b = .of z → dD st n a = true → dD st n b = true → PySem.W.alike (toD st n a) (toD st n b) = true → PySem.W.dataLt (toD st n a) (toD st n b) = z) :
    ∀ (xs ys : List EV) (z : Bool), ltL (eqD st n) r xs ys = .of z → (∀ x ∈ xs, dD st n x = true) → (∀ x ∈ ys, dD st n x = true) → PySem.W.alikeAll (xs.map (toD st n)) (ys.map (toD st n)) = true →
      PyProof.Rows.lexLt PyProof.Rows.itemOrd (PySem.W.keyToksAll (xs.map (toD st n))) (PySem.W.keyToksAll (ys.map (toD st n))) = z
  | [], [], z, h, _, _, _ => by
    rw [← of_inj (a := false) h]
    rfl
  | [], y :: ys, z, h, _, _, _ => by
    rw [← of_inj (a := true) h]
    show PyProof.Rows.lexLt PyProof.Rows.itemOrd (PySem.W.keyToksAll []) (PySem.W.keyToksAll (toD st n y :: ys.map (toD st n))) = _
    rw [PySem.W.toks_all_cons]
    rfl
  | x :: xs, [], z, h, _, _, _ => by
    rw [← of_inj (a := false) h]
    show PyProof.Rows.lexLt PyProof.Rows.itemOrd (PySem.W.keyToksAll (toD st n x :: xs.map (toD st n))) (PySem.W.keyToksAll []) = _
    rw [PySem.W.toks_all_cons]
    rfl
  | x :: xs, y :: ys, z, h, hx, hy, hal => by
    have h : b3 (eqD st n x y) (r x y) (ltL (eqD st n) r xs ys) B3.x = .of z := h
    have hal : PySem.W.alikeAll (toD st n x :: xs.map (toD st n)) (toD st n y :: ys.map (toD st n)) = true := hal
    obtain ⟨a1, a2⟩ := PySem.W.alike_all_cons hal
    have dx := hx x List.mem_cons_self
    have dy := hy y List.mem_cons_self
    rw [List.map_cons, List.map_cons, PySem.W.dataLt_cons a1]
    cases e : eqD st n x y with
    | x => rw [e] at h; exact no_x h
    | f =>
      rw [e] at h
      rw [eqD_ok n x y false e dx dy, if_neg (by simp)]
      exact ih x y z h dx dy a1
    | t =>
      rw [e] at h
      rw [eqD_ok n x y true e dx dy, if_pos rfl]
      exact ltL_ok ih xs ys z h (fun v hv => hx v (List.mem_cons_of_mem _ hv)) (fun v hv => hy v (List.mem_cons_of_mem _ hv)) a2
theorem ltD_ok : ∀ (n : Nat) (a b : EV) (z : Bool), ltD st n a b = .of z → dD st n a = true → dD st n b = true → PySem.W.alike (toD st n a) (toD st n b) = true → PySem.W.dataLt (toD st n a) (toD st n b) = z
  | 0, _, _, z, h, _, _, _ => no_x h
  | n + 1, a, b, z, h, ha, hb, hal => by
    have ih := ltD_ok n
    have h : ltStep (eqD st n) (ltD st n) a b = .of z := h
    cases a with
    | i x =>
      cases b with
      | i y =>
        rw [← of_inj (show B3.of (iLt x y) = .of z from h), iLt_ok]
        exact PySem.W.dataLt_int x y
      | _ => exact no_x h
    | s x =>
      cases b with
      | s y =>
        rw [← of_inj (show B3.of (cLt x y) = .of z from h), cLt_ok]
        show PySem.W.dataLt (.str ⟨x.toArray⟩) (.str ⟨y.toArray⟩) = _
        rw [PySem.W.dataLt_str]
      | _ => exact no_x h
    | t xs =>
      cases b with
      | t ys =>
        have hal : PySem.W.alike (.tuple (xs.map (toD st n))) (.tuple (ys.map (toD st n))) = true := hal
        rw [PySem.W.alike] at hal
        show PySem.W.dataLt (.tuple (xs.map (toD st n))) (.tuple (ys.map (toD st n))) = z
        rw [PySem.W.dataLt_tuple]
        exact ltL_ok ih xs ys z h (allB1_ok (xs := xs) ha) (allB1_ok (xs := ys) hb) hal
      | _ => exact no_x h
    | _ => exact no_x h
theorem insS_ok {p : R → Prop} (hb : ¬ p .no) {lt : EV → EV → B3} {L : EV → EV → Bool} {x : EV} : ∀ {xs : List EV} {k : List EV → R}, (∀ y ∈ xs, ∀ z, lt y x = .of z → L y x = z) → p (insS lt x xs k) → p (k (ins L x xs))
  | [], k, _, h => h
  | y :: r, k, hl, h => by
    have h : p (b3 (lt y x) (k (x :: y :: r)) (insS lt x r fun r' => k (y :: r')) .no) := h
    show p (k (if L y x = true then y :: ins L x r else x :: y :: r))
    cases e : lt y x with
    | x => rw [e] at h; exact absurd h hb
    | f =>
      rw [e] at h
      rw [hl y List.mem_cons_self false e, if_neg (by simp)]
      exact h
    | t =>
      rw [e] at h
      rw [hl y List.mem_cons_self true e, if_pos rfl]
      exact insS_ok (k := fun r' => k (y :: r')) hb (fun z hz => hl z (List.mem_cons_of_mem _ hz)) h
theorem sortV_ok {p : R → Prop} (hb : ¬ p .no) {lt : EV → EV → B3} {L : EV → EV → Bool} : ∀ {xs : List EV} {k : List EV → R}, (∀ x ∈ xs, ∀ y ∈ xs, ∀ z, lt x y = .of z → L x y = z) → p (sortV lt xs k) → p (k (isort L xs))
  | [], k, _, h => h
  | x :: r, k, hl, h => by
    have h : p (sortV lt r fun r => insS lt x r k) := h
    have h := sortV_ok hb (fun a ha b hb => hl a (List.mem_cons_of_mem _ ha) b (List.mem_cons_of_mem _ hb)) h
    exact insS_ok hb (fun y hy => hl y (List.mem_cons_of_mem _ (isort_mem' hy)) x List.mem_cons_self) h
end
section
variable {G : Fix} {P : Program} {w : World} {mg : Str → Option Value} {base : Heap} {k : Nat} {c : SC} {E : EXK} {cal : Cal} {X : Cx} {μ : List Addr} {H : Hp} {st : Sto} {Q : VK}
theorem zip_toD : ∀ (es : List EV) (vs : List V), vs.zip (es.map (toD st 5)) = (es.zip vs).map fun p => (p.2, toD st 5 p.1)
  | [], [] => rfl
  | [], _ :: _ => rfl
  | _ :: _, [] => rfl
  | e :: es, v :: vs => congrArg ((v, toD st 5 e) :: ·) (zip_toD es vs)
theorem cl_sortedO (g : Good G P w mg base k c E X) : Cl1 G E X (.builtin "sorted") pSortedO := CallR.of fun xs H Q ⟨x, e, μ, st, v, s, rv, h⟩ => by
  subst e
  obtain ⟨qq, ad, es, vs, e1, e2, e3, e4, _⟩ := gX_sq (p := fun r => PostE G μ H r Q E) s rv h (fun z => z)
  have h : PostE G μ H (gX .no v st fun xs => ift (allB1 (dD st 5) xs) (ift (sortable xs) (sortV (ltD st 5) xs (newL st)) .no) .no) Q E := h
  rw [e4] at h
  obtain ⟨hd, h⟩ := PostE.ift h
  obtain ⟨hs, h⟩ := PostE.ift h
  have hd := allB1_ok hd
  obtain ⟨a1, a2⟩ := sortable_ok (st := st) hs
  obtain ⟨d1, _, _⟩ := dpAll_of (dp_of s 5) e3 hd
  obtain ⟨z1, z2, z3⟩ := zips e3
  have dep : ∀ d ∈ es.map (toD st 5), d.depth ≤ 60 := fun d hm => by
    obtain ⟨e, he, rfl⟩ := List.mem_map.mp hm
    rw [← z1] at he
    obtain ⟨p, hp, rfl⟩ := List.mem_map.mp he
    have := (dp_of s 5 p.1 p.2 (z3 p hp) (hd _ (by rw [← z1]; exact List.mem_map.mpr ⟨p, hp, rfl⟩))).2.2
    omega
  have h := sortV_ok (p := fun r => PostE G μ H r Q E) (L := fun a b => PySem.W.dataLt (toD st 5 a) (toD st 5 b)) (fun z => z) (fun x hx y hy z hz => ltD_ok 5 x y z hz (hd x hx) (hd y hy) (a1 _ (List.mem_map.mpr ⟨x, hx, rfl⟩) _ (List.mem_map.mpr ⟨y, hy, rfl⟩))) h
  refine ⟨_, cr_sortD (units65 g), qq, ad, vs, es.map (toD st 5), by rw [e1], by rw [g.kk]; exact e2, by rw [g.kk]; exact d1, a1, a2, dep, fun p hp => ?_⟩
  have f1 : isort (fun a b => PySem.W.dataLt (toD st 5 a) (toD st 5 b)) es = (isort (fun a b : EV × V => PySem.W.dataLt (toD st 5 a.1) (toD st 5 b.1)) (es.zip vs)).map (·.1) := by
    rw [← isort_map (f := fun p : EV × V => p.1) (lt' := fun a b => PySem.W.dataLt (toD st 5 a) (toD st 5 b)), z1]
  have f2 : (isort ltP2 (vs.zip (es.map (toD st 5)))).map (·.1) = (isort (fun a b : EV × V => PySem.W.dataLt (toD st 5 a.1) (toD st 5 b.1)) (es.zip vs)).map (·.2) := by
    rw [zip_toD, isort_map (f := fun p : EV × V => (p.2, toD st 5 p.1)) (lt' := ltP2), List.map_map]
    rfl
  rw [f1] at h
  rw [f2]
  exact (PostE.sLn h s (RVs.of_zip fun p hp => z3 p (isort_mem' hp))).2 p hp
theorem cl_sortedY (g : Good G P w mg base k c E X) : Cl1 G E X (.builtin "sorted") pSortedY := CallR.of fun xs H Q ⟨x, e, μ, st, v, s, rv, h⟩ => by
  have newO : PostE G μ H (pSortedO v st) Q E → ∃ r' : List V → Hp → VK → Prop, CallR X (.builtin "sorted") r' ∧ r' xs H Q := fun h => ⟨_, cl_sortedO g, x, e, μ, st, v, s, rv, h⟩
  obtain ⟨qq, ad, es, vs, e1, e2, e3, e4, _⟩ := gX_sq (p := fun r => PostE G μ H r Q E) s rv h (fun z => z)
  have h : PostE G μ H (gX .no v st fun xs => @List.rec EV (fun _ => R) (pSortedO v st) (fun x _ _ => gI (pSortedO v st) x fun _ => sel v (fun _ => .no) (fun _ => .no) (fun _ => pSortedO v st) (fun _ => pSorted v st) .no) xs) Q E := h
  rw [e4] at h
  cases es with
  | nil => exact newO h
  | cons y ys =>
    have h : PostE G μ H (gI (pSortedO v st) y fun _ => sel v (fun _ => .no) (fun _ => .no) (fun _ => pSortedO v st) (fun _ => pSorted v st) .no) Q E := h
    cases y with
    | i n =>
      cases v with
      | t => exact newO h
      | l a => exact ⟨_, cl_sorted g, x, e, μ, st, .l a, s, rv, h⟩
      | _ => exact h.elim
    | _ => exact newO h
end
def fSortedY : F1 := ⟨"sorted", .builtin "sorted", pSortedY, .inl ⟨_, rfl⟩, by decide +kernel, fun g => cl_sortedY g⟩
end L3

set_option Elab.async false
set_option linter.all false
set_option maxRecDepth 100000
set_option maxHeartbeats 4000000
/-! L3: min and max of data. -/
noncomputable section
namespace L3
open PySem PySem.Spec PyProof.Rows L2
def btMin (ds : List PyData) (i j : Nat) : Bool := PySem.W.dataLt (ds.getD i .none) (ds.getD j .none)
def btMax (ds : List PyData) (i j : Nat) : Bool := PySem.W.dataLt (ds.getD j .none) (ds.getD i .none)
section
variable {P : Program} {w : World} {A : Around} {E : Value → Shared → Prop} {s : Shared}
theorem min_at {q : Bool} {l : Addr} {vs : Array Value} {ds : List PyData} {as : List Addr} {Q : Value → Shared → Prop} (hh : A.handled = none) (hl : isSq q s.heap l vs) (hr : ReadsAll s.heap vs.toList ds as) (ha : PySem.W.AlikeAll ds) (hu : A.units + 1 + PyData.depthAll ds < cLine) (h0 : 0 < vs.size)
    (h : ∀ v h' tk, vs[argBest (btMin ds) (vs.size - 1)]? = some v → (∀ b o, s.heap.get? b = some o → h'.get? b = some o) → Q v { s with heap := h', toks := tk }) : wpAny (model P w) A (call (.builtin "min") [.ref l]) Q E s := by
  have cmp := PySem.W.cmpIn_lt (prog := P) (w := w) (A := A.in1) hr ha (show A.units + 1 + _ < _ from hu)
  cases q with
  | false => exact PySem.call_min_walkH (PySem.W.iter_listW (A := A.in1) hh hl fun s₂ e W z1 z2 z3 z4 => ⟨s.heap.objs.size, _, _, _, vs.size, _, _, s.heap, btMin ds, rfl, W, z1, z2, h0, z3, z4, cmp, fun v s' hP m => by
      obtain ⟨h', tk, rfl, hk⟩ := PySem.W.moved_old e rfl m
      exact h v h' tk hP hk⟩)
  | true => exact PySem.call_min_walkH (PySem.W.iter_tupleW (A := A.in1) hh hl fun s₂ e W z1 z2 z3 z4 => ⟨s.heap.objs.size, _, _, _, vs.size, _, _, s.heap, btMin ds, rfl, W, z1, z2, h0, z3, z4, cmp, fun v s' hP m => by
      obtain ⟨h', tk, rfl, hk⟩ := PySem.W.moved_old e rfl m
      exact h v h' tk hP hk⟩)
theorem max_at {q : Bool} {l : Addr} {vs : Array Value} {ds : List PyData} {as : List Addr} {Q : Value → Shared → Prop} (hh : A.handled = none) (hl : isSq q s.heap l vs) (hr : ReadsAll s.heap vs.toList ds as) (ha : PySem.W.AlikeAll ds) (hu : A.units + 1 + PyData.depthAll ds < cLine) (h0 : 0 < vs.size)
    (h : ∀ v h' tk, vs[argBest (btMax ds) (vs.size - 1)]? = some v → (∀ b o, s.heap.get? b = some o → h'.get? b = some o) → Q v { s with heap := h', toks := tk }) : wpAny (model P w) A (call (.builtin "max") [.ref l]) Q E s := by
  have cmp := PySem.W.cmpIn_gt (prog := P) (w := w) (A := A.in1) hr ha (show A.units + 1 + _ < _ from hu)
  cases q with
  | false => exact PySem.call_max_walkH (PySem.W.iter_listW (A := A.in1) hh hl fun s₂ e W z1 z2 z3 z4 => ⟨s.heap.objs.size, _, _, _, vs.size, _, _, s.heap, btMax ds, rfl, W, z1, z2, h0, z3, z4, cmp, fun v s' hP m => by
      obtain ⟨h', tk, rfl, hk⟩ := PySem.W.moved_old e rfl m
      exact h v h' tk hP hk⟩)
  | true => exact PySem.call_max_walkH (PySem.W.iter_tupleW (A := A.in1) hh hl fun s₂ e W z1 z2 z3 z4 => ⟨s.heap.objs.size, _, _, _, vs.size, _, _, s.heap, btMax ds, rfl, W, z1, z2, h0, z3, z4, cmp, fun v s' hP m => by
      obtain ⟨h', tk, rfl, hk⟩ := PySem.W.moved_old e rfl m
      exact h v h' tk hP hk⟩)
end
/-! ### as rules of the layer -/
def rBestD (bt : List PyData → Nat → Nat → Bool) (K : PySem.W.Frag) : List V → Hp → VK → Prop := fun vs H Q => ∃ (q : Bool) (a : Addr) (xs : List V) (ds : List PyData), vs = [V.ref a] ∧ bSq q K H a xs ∧ DpAll K H xs ds ∧ PySem.W.AlikeAll ds ∧ PyData.depthAll ds ≤ 60 ∧ xs ≠ [] ∧
  ∀ v, xs[argBest (bt ds) (xs.length - 1)]? = some v → Q v H
theorem argBest_le (bt : Nat → Nat → Bool) : ∀ k, argBest bt k ≤ k
  | 0 => Nat.le_refl _
  | k + 1 => by
    unfold argBest
    split
    · exact Nat.le_refl _
    · exact Nat.le_succ_of_le (argBest_le bt k)
theorem best_fin {X : Cx} {pins : List (Addr × Obj)} {σ : L2.St} {H : Hp} {s : Shared} {Q : VK} {xs : List V} {its : List Value} (I : Inv X pins σ H s) (rv : Vals xs its) {i : Nat} {v : Value} {h' : Heap} {tk : Tok} (h : ∀ v, xs[i]? = some v → Q v H)
    (hi : i < its.length) (hv : its.toArray[i]? = some v) (hk : ∀ b o, s.heap.get? b = some o → h'.get? b = some o) : EP X pins σ Q v { s with heap := h', toks := tk } := by
  have lt : i < xs.length := by rw [rv.length]; exact hi
  obtain ⟨u, e1, e2⟩ := rv.get (List.getElem?_eq_getElem lt)
  have e3 : u = v := by
    rw [List.getElem?_toArray] at hv
    exact Option.some.inj (e1.symm.trans hv)
  subst e3
  exact ⟨_, H, I.kept (t' := tk) hk, e2, h _ (List.getElem?_eq_getElem lt)⟩
section
variable {X : Cx}
theorem cr_minD (hc : X.calm = true) (hu : X.A.units + 65 < cLine) : CallR X (.builtin "min") (rBestD btMin X.K) := by
  intro pins s σ H vs us Q I r h
  obtain ⟨q, a, xs, ds, rfl, hq, hd, hal, hdp, h0, h⟩ := h
  obtain ⟨u, rfl, ru⟩ := vals1 r
  obtain rfl : u = Value.ref a := ru
  obtain ⟨its, rv, p⟩ := bInv I hq
  obtain ⟨as, rd⟩ := Dp.readsAll I _ _ _ hd rv
  have l0 : 0 < its.length := by rw [← rv.length]; exact List.length_pos_iff.mpr h0
  refine min_at (I.ok.hd hc) p (as := as) (by simpa using rd) hal (by omega) (by simpa using l0) fun v h' tk hv hk => ?_
  have sz : its.toArray.size = xs.length := by rw [List.size_toArray, rv.length]
  rw [sz] at hv
  have := argBest_le (btMin ds) (xs.length - 1)
  exact best_fin I rv h (by have := rv.length; omega) hv hk
theorem cr_maxD' (hc : X.calm = true) (hu : X.A.units + 65 < cLine) : CallR X (.builtin "max") (rBestD btMax X.K) := by
  intro pins s σ H vs us Q I r h
  obtain ⟨q, a, xs, ds, rfl, hq, hd, hal, hdp, h0, h⟩ := h
  obtain ⟨u, rfl, ru⟩ := vals1 r
  obtain rfl : u = Value.ref a := ru
  obtain ⟨its, rv, p⟩ := bInv I hq
  obtain ⟨as, rd⟩ := Dp.readsAll I _ _ _ hd rv
  have l0 : 0 < its.length := by rw [← rv.length]; exact List.length_pos_iff.mpr h0
  refine max_at (I.ok.hd hc) p (as := as) (by simpa using rd) hal (by omega) (by simpa using l0) fun v h' tk hv hk => ?_
  have sz : its.toArray.size = xs.length := by rw [List.size_toArray, rv.length]
  rw [sz] at hv
  have := argBest_le (btMax ds) (xs.length - 1)
  exact best_fin I rv h (by have := rv.length; omega) hv hk
end
/-! ### the evaluator's -/
theorem extr_ok {p : R → Prop} (hb : ¬ p .no) {lt : EV → EV → B3} {L : EV → EV → Bool} : ∀ {xs : List EV} {b : EV} {k : EV → R}, (∀ x ∈ xs, ∀ y ∈ b :: xs, ∀ z, lt x y = .of z → L x y = z) → p (extr lt xs b k) → p (k (xs.foldl (fun a y => if L y a then y else a) b))
  | [], b, k, _, h => h
  | x :: r, b, k, hl, h => by
    have h : p (b3 (lt x b) (extr lt r b k) (extr lt r x k) .no) := h
    rw [List.foldl_cons]
    cases e : lt x b with
    | x => rw [e] at h; exact absurd h hb
    | f =>
      rw [e] at h
      rw [hl x List.mem_cons_self b List.mem_cons_self false e, if_neg (by simp)]
      exact extr_ok hb (fun a ha y hy => hl a (List.mem_cons_of_mem _ ha) y (by rcases List.mem_cons.mp hy with rfl | hy <;> simp [*])) h
    | t =>
      rw [e] at h
      rw [hl x List.mem_cons_self b List.mem_cons_self true e, if_pos rfl]
      exact extr_ok hb (fun a ha y hy => hl a (List.mem_cons_of_mem _ ha) y (by rcases List.mem_cons.mp hy with rfl | hy <;> simp [*])) h
section
variable {G : Fix} {P : Program} {w : World} {mg : Str → Option Value} {base : Heap} {k : Nat} {c : SC} {E : EXK} {cal : Cal} {X : Cx} {μ : List Addr} {H : Hp} {st : Sto} {Q : VK}
theorem toD_getD (es : List EV) (i : Nat) : (es.map (toD st 5)).getD i .none = toD st 5 (es.getD i .u) := by
  rw [List.getD_eq_getElem?_getD, List.getD_eq_getElem?_getD, List.getElem?_map]
  cases es[i]? <;> rfl
theorem alike_all_of {xs : List EV} (h : sortable xs = true) : PySem.W.AlikeAll (xs.map (toD st 5)) := by
  obtain ⟨a1, a2⟩ := sortable_ok (st := st) h
  refine ⟨a1, fun x hx e => ?_⟩
  have := a1 x hx x hx
  rcases a2 with a2 | a2
  · obtain ⟨y, r, z⟩ := a2 x hx
    rw [z] at e; cases e
  · exact (a2 x hx).1 e
theorem best_h (g : Good G P w mg base k c E X) {bt : List PyData → Nat → Nat → Bool} {F : EV → EV → B3} {L : EV → EV → Bool} {v : EV} {x : V} (s : RS' G μ H st) (rv : RV G μ H v x)
    (hL : ∀ a b z, F a b = .of z → dD st 5 a = true → dD st 5 b = true → PySem.W.alike (toD st 5 a) (toD st 5 b) = true → PySem.W.alike (toD st 5 b) (toD st 5 a) = true → L a b = z)
    (hb : ∀ es : List EV, bt (es.map (toD st 5)) = fun i j => L (es.getD i .u) (es.getD j .u))
    (h : PostE G μ H (gX .no v st fun xs => ift (allB1 (dD st 5) xs) (ift (sortable xs) (@List.rec EV (fun _ => R) .no (fun x r _ => extr F r x fun v => .ok v st) xs) .no) .no) Q E) : rBestD bt X.K [x] H Q := by
  obtain ⟨qq, ad, es, vs, e1, e2, e3, e4, _⟩ := gX_sq (p := fun r => PostE G μ H r Q E) s rv h (fun z => z)
  rw [e4] at h
  obtain ⟨hd, h⟩ := PostE.ift h
  obtain ⟨hs, h⟩ := PostE.ift h
  have hd := allB1_ok hd
  have ha := alike_all_of (st := st) hs
  obtain ⟨d1, _, d3⟩ := dpAll_of (dp_of s 5) e3 hd
  refine ⟨qq, ad, vs, es.map (toD st 5), by rw [e1], by rw [g.kk]; exact e2, by rw [g.kk]; exact d1, ha, by omega, fun z => ?_, fun u hu => ?_⟩
  · subst z
    cases e3
    exact h.elim
  · cases es with
    | nil => exact h.elim
    | cons y ys =>
      have al : ∀ a ∈ y :: ys, ∀ b ∈ y :: ys, PySem.W.alike (toD st 5 a) (toD st 5 b) = true := fun a ma b mb => ha.1 _ (List.mem_map.mpr ⟨a, ma, rfl⟩) _ (List.mem_map.mpr ⟨b, mb, rfl⟩)
      have h : PostE G μ H (extr F ys y fun v => .ok v st) Q E := h
      have h := extr_ok (p := fun r => PostE G μ H r Q E) (L := L) (fun z => z) (fun a ma b mb z hz => hL a b z hz (hd a (List.mem_cons_of_mem _ ma)) (hd b mb) (al a (List.mem_cons_of_mem _ ma) b mb) (al b mb a (List.mem_cons_of_mem _ ma))) h
      have f := (PySem.W.argBest_fold L EV.u y ys ys.length (Nat.le_refl _))
      have ln : vs.length - 1 = ys.length := by rw [← e3.length]; rfl
      rw [hb, ln] at hu
      rw [List.take_length] at f
      have lt : argBest (fun i j => L ((y :: ys).getD i .u) ((y :: ys).getD j .u)) ys.length < (y :: ys).length := Nat.lt_succ_of_le f.1
      obtain ⟨u', g1, g2⟩ := e3.get (List.getElem?_eq_getElem lt)
      rw [hu] at g1
      cases g1
      have f2 := f.2
      rw [List.getD_eq_getElem?_getD, List.getElem?_eq_getElem lt] at f2
      rw [← f2] at h
      exact PostE.ok h s g2
theorem cl_minO (g : Good G P w mg base k c E X) : Cl1 G E X (.builtin "min") pMinO := CallR.of fun xs H Q ⟨x, e, μ, st, v, s, rv, h⟩ => by
  subst e
  exact ⟨_, cr_minD g.calm (units65 g), best_h g (F := ltD st 5) (L := fun a b => PySem.W.dataLt (toD st 5 a) (toD st 5 b)) s rv (fun a b z h1 h2 h3 h4 _ => ltD_ok 5 a b z h1 h2 h3 h4) (fun es => by funext i j; unfold btMin; rw [toD_getD, toD_getD]) h⟩
theorem cl_maxO (g : Good G P w mg base k c E X) : Cl1 G E X (.builtin "max") pMaxO := CallR.of fun xs H Q ⟨x, e, μ, st, v, s, rv, h⟩ => by
  subst e
  exact ⟨_, cr_maxD' g.calm (units65 g), best_h g (F := fun x b => ltD st 5 b x) (L := fun a b => PySem.W.dataLt (toD st 5 b) (toD st 5 a)) s rv (fun a b z h1 h2 h3 _ h4 => ltD_ok 5 b a z h1 h3 h2 h4) (fun es => by funext i j; unfold btMax; rw [toD_getD, toD_getD]) h⟩
theorem cl_minY (g : Good G P w mg base k c E X) : Cl1 G E X (.builtin "min") pMinY := CallR.of fun xs H Q ⟨x, e, μ, st, v, s, rv, h⟩ => by
  have newO : PostE G μ H (pMinO v st) Q E → ∃ r' : List V → Hp → VK → Prop, CallR X (.builtin "min") r' ∧ r' xs H Q := fun h => ⟨_, cl_minO g, x, e, μ, st, v, s, rv, h⟩
  obtain ⟨qq, ad, es, vs, e1, e2, e3, e4, _⟩ := gX_sq (p := fun r => PostE G μ H r Q E) s rv h (fun z => z)
  have h : PostE G μ H (gX .no v st fun xs => @List.rec EV (fun _ => R) .no (fun x _ _ => gI (pMinO v st) x fun _ => sel v (fun _ => .no) (fun _ => .no) (fun _ => pMinO v st) (fun _ => pMin1 v st) .no) xs) Q E := h
  rw [e4] at h
  cases es with
  | nil => exact h.elim
  | cons y ys =>
    have h : PostE G μ H (gI (pMinO v st) y fun _ => sel v (fun _ => .no) (fun _ => .no) (fun _ => pMinO v st) (fun _ => pMin1 v st) .no) Q E := h
    cases y with
    | i n =>
      cases v with
      | t => exact newO h
      | l a => exact ⟨_, cl_min1 g, x, e, μ, st, .l a, s, rv, h⟩
      | _ => exact h.elim
    | _ => exact newO h
theorem cl_maxY (g : Good G P w mg base k c E X) : Cl1 G E X (.builtin "max") pMaxY := CallR.of fun xs H Q ⟨x, e, μ, st, v, s, rv, h⟩ => by
  have newO : PostE G μ H (pMaxO v st) Q E → ∃ r' : List V → Hp → VK → Prop, CallR X (.builtin "max") r' ∧ r' xs H Q := fun h => ⟨_, cl_maxO g, x, e, μ, st, v, s, rv, h⟩
  obtain ⟨qq, ad, es, vs, e1, e2, e3, e4, _⟩ := gX_sq (p := fun r => PostE G μ H r Q E) s rv h (fun z => z)
  have h : PostE G μ H (gX .no v st fun xs => @List.rec EV (fun _ => R) .no (fun x _ _ => gI (pMaxO v st) x fun _ => sel v (fun _ => .no) (fun _ => .no) (fun _ => pMaxO v st) (fun _ => pMax1 v st) .no) xs) Q E := h
  rw [e4] at h
  cases es with
  | nil => exact h.elim
  | cons y ys =>
    have h : PostE G μ H (gI (pMaxO v st) y fun _ => sel v (fun _ => .no) (fun _ => .no) (fun _ => pMaxO v st) (fun _ => pMax1 v st) .no) Q E := h
    cases y with
    | i n =>
      cases v with
      | t => exact newO h
      | l a => exact ⟨_, cl_max1 g, x, e, μ, st, .l a, s, rv, h⟩
      | _ => exact h.elim
    | _ => exact newO h
end
def fMinY : F1 := ⟨"min", .builtin "min", pMinY, .inl ⟨_, rfl⟩, by decide +kernel, fun g => cl_minY g⟩
def fMaxY : F1 := ⟨"max", .builtin "max", pMaxY, .inl ⟨_, rfl⟩, by decide +kernel, fun g => cl_maxY g⟩
end L3

set_option Elab.async false
set_option linter.all false
set_option maxRecDepth 100000
set_option maxHeartbeats 4000000
/-! L3: len(set(xs)), xs of ints, of tuples of ints. -/
noncomputable section
namespace L3
open PySem PySem.Spec PyProof.Rows L2
theorem nodup_len {α : Type} {xs ys : List α} (hx : xs.Nodup) (hy : ys.Nodup) (h : ∀ k, k ∈ xs ↔ k ∈ ys) : xs.length = ys.length :=
  ((List.perm_ext_iff_of_nodup hx hy).mpr h).length_eq
/-! ### the rules -/
def rLenI (w : World) : List V → Hp → VK → Prop := fun xs H Q => ∃ (b : Addr) (S : Int → Bool) (n : Nat) (ns : List Int), xs = [.ref b] ∧ H b = some (SetO w b S n) ∧ ns.Nodup ∧ (∀ k, S k = true ↔ k ∈ ns) ∧ Q (.int ns.length) H
theorem cr_lenI {X : Cx} : CallR X (.builtin "len") (rLenI X.w) := by
  intro pins s σ H xs us Q I r h
  obtain ⟨b, S, n, ns, rfl, hb, nd, hS, q⟩ := h
  obtain ⟨u, rfl, ru⟩ := vals1 r
  obtain rfl : u = Value.ref b := ru
  obtain ⟨o, es, ep, t, ho, hex, hd, _, hn, hk, hsz, hf, _⟩ : SetR X.w s.heap b S n := (I.hok b _ hb).1
  have el : es.size = ns.length := by
    have := nodup_len hn nd fun k => (hk k).symm.trans (hS k)
    rwa [List.length_map, Array.length_toList] at this
  refine call_len_set ho hex hd hf (by unfold scanBound at hsz; omega) ⟨.int ns.length, H, I.tok _, ⟨_, by rw [el]⟩, q⟩
def rLenT2 (K : PySem.W.Frag) (P : Program) (w : World) : List V → Hp → VK → Prop := fun xs H Q => ∃ (b : Addr) (L : List (Addr × List Int)), xs = [.ref b] ∧ H b = some (SetTO P w b L) ∧ (∀ p ∈ L, SqT K H p.1 (p.2.map V.int)) ∧ ((L.map (·.2)).Nodup → Q (.int L.length) H)
theorem cr_lenT2 {X : Cx} : CallR X (.builtin "len") (rLenT2 X.K X.prog X.w) := by
  intro pins s σ H xs us Q I r h
  obtain ⟨b, L, rfl, hb, hk, q⟩ := h
  obtain ⟨u, rfl, ru⟩ := vals1 r
  obtain rfl : u = Value.ref b := ru
  have R0 : SetT0 X.prog X.w s.heap b L := (I.hok b _ hb).1
  obtain ⟨es, ep, t, R⟩ := R0.full fun p hp => I.isT (hk p hp)
  obtain ⟨o, ho, hex, hd⟩ := R.ob
  have el : es.size = L.length := by
    have := congrArg List.length R.rows
    rw [Array.length_toList] at this
    rw [this]
    unfold rowsOf
    rw [List.length_map]
  have h64 := R.few
  refine call_len_set ho hex hd R.fits (by omega) ⟨.int L.length, H, I.tok _, ⟨_, by rw [el]⟩, q R.nd⟩
/-! ### the evaluator's -/
section
variable {G : Fix} {P : Program} {w : World} {mg : Str → Option Value} {base : Heap} {k : Nat} {c : SC} {E : EXK} {cal : Cal} {X : Cx} {μ : List Addr} {H : Hp} {st : Sto} {Q : VK}
theorem tupsK2_ok : ∀ {xs : List EV} {ws : List V} {kk : R}, RVs G μ H xs ws → PostE G μ H (tupsK xs kk) Q E →
    ∃ ks : List (Addr × List Int), xs = (ks.map (·.2)).map tI ∧ ws = (ks.map fun p => V.ref p.1) ∧ (∀ p ∈ ks, TiAt H p) ∧ PostE G μ H kk Q E
  | [], _, kk, .nil, h => ⟨[], rfl, rfl, fun n hn => by simp at hn, h⟩
  | x :: xs, _, kk, .cons rx r, h => by
    cases rx with
    | @t es p vs hp rr =>
      have h : PostE G μ H (@List.rec EV (fun _ => R) .no (fun _ _ _ => intsK es (tupsK xs kk)) es) Q E := h
      cases es with
      | nil => exact h.elim
      | cons e0 es =>
        have h : PostE G μ H (intsK (e0 :: es) (tupsK xs kk)) Q E := h
        obtain ⟨ns, e1, e2, h⟩ := intsK_ok rr h
        obtain ⟨ks, f1, f2, f3, h⟩ := tupsK2_ok r h
        refine ⟨(p, ns) :: ks, by rw [f1, e1]; rfl, by rw [f2]; rfl, fun q hq => ?_, h⟩
        rcases List.mem_cons.mp hq with rfl | hq
        · rcases hp with hp | ⟨_, hp⟩
          · show H p = _
            rw [hp, e2]
          · cases ns with
            | nil => cases e1
            | cons n ns =>
              obtain ⟨x, hx⟩ := hp (V.int n) (by rw [e2]; exact List.mem_cons_self)
              cases hx
        · exact f3 q hq
    | _ => exact h.elim
theorem lenSetI_h (g : Good G P w mg base k c E X) {x : V} {H1 : Hp} {v : EV} (s : RS' G μ H1 st) (rv : RV G μ H1 v x) (h : PostE G μ H1 (pLenSetI v st) Q E) : rSetI X.K X.w [x] H1 fun y H2 => rLenI X.w [y] H2 Q := by
  obtain ⟨qq, ad, xs, vs, e1, e2, e3, e4, _⟩ := gX_sq (p := fun r => PostE G μ H1 r Q E) s rv h (fun z => z)
  have h : PostE G μ H1 (gX .no v st fun xs => ift (Nat.blt (lenN xs) 64) (intsK xs (sortIU xs fun r => okN st (lenN r))) .no) Q E := h
  rw [e4] at h
  obtain ⟨hl, h⟩ := PostE.ift h
  rw [blt_dec, lenN_eq] at hl
  have hl := dcd hl
  obtain ⟨ns, i1, i2, h⟩ := intsK_ok e3 h
  rw [i1, sortIU_eq, lenN_eq, List.length_map] at h
  have ln : ns.length < 64 := by rw [i1, List.length_map] at hl; exact hl
  have hb : ns.length + 1 < scanBound := by unfold scanBound; omega
  refine ⟨qq, ad, ns, by rw [e1], by rw [g.kk, ← i2]; exact e2, hb, fun b cc hbn hcc => ?_⟩
  have nd : (srtU ns).Nodup := (srtU_up ns).imp fun {a b} h => by omega
  refine ⟨b, _, cc, srtU ns, rfl, upd_same, nd, fun k => by rw [srtU_mem]; simp, ?_⟩
  exact PostE.sNn (PostE.mono h (Ext.tup hbn)) (s.tup hbn)
theorem lenSetT_h (g : Good G P w mg base k c E X) {x : V} {H1 : Hp} {v : EV} (s : RS' G μ H1 st) (rv : RV G μ H1 v x) (h : PostE G μ H1 (pLenSetT v st) Q E) : rSetT X.K X.prog X.w [x] H1 fun y H2 => rLenT2 X.K X.prog X.w [y] H2 Q := by
  obtain ⟨qq, ad, xs, vs, e1, e2, e3, e4, _⟩ := gX_sq (p := fun r => PostE G μ H1 r Q E) s rv h (fun z => z)
  have h : PostE G μ H1 (gX .no v st fun xs => ift (Nat.blt (lenN xs) 64) (tupsK xs (sortTU xs fun r => okN st (lenN r))) .no) Q E := h
  rw [e4] at h
  obtain ⟨hl, h⟩ := PostE.ift h
  rw [blt_dec, lenN_eq] at hl
  have hl := dcd hl
  obtain ⟨ks, i1, i2, i3, h⟩ := tupsK2_ok e3 h
  have l64 : ks.length < 64 := by rw [i1, List.length_map, List.length_map] at hl; exact hl
  rw [i1, sortTU_eq, lenN_eq, List.length_map] at h
  refine ⟨qq, ad, ks, by rw [e1], by rw [g.kk, ← i2]; exact e2, fun p hp => .inl (.inl (i3 p hp)), l64, fun a L ha hL1 hL2 => ?_⟩
  have keep : ∀ p ∈ ks, TiAt (upd H1 a (SetTO X.prog X.w a L)) p := fun p hp => by
    have q := i3 p hp
    unfold TiAt at q ⊢
    rw [upd_ne fun z => by rw [z, ha] at q; cases q]
    exact q
  refine ⟨a, L, rfl, upd_same, fun p hp => .inl (.inl (keep p (hL1 p hp))), fun nd => ?_⟩
  have nd2 : (srtL (ks.map (·.2))).Nodup := (srtL_up _).imp fun {a b} h e => by
    rw [e] at h
    have := lex_no h
    rw [h] at this; cases this
  have el : (srtL (ks.map (·.2))).length = L.length := by
    have := nodup_len nd2 nd fun k => by
      rw [srtL_mem]
      constructor
      · intro hk
        obtain ⟨q, hq, e⟩ := List.mem_map.mp hk
        have q2 := hL2 q hq
        rw [e] at q2
        exact q2
      · intro hk
        obtain ⟨q, hq, e⟩ := List.mem_map.mp hk
        exact List.mem_map.mpr ⟨q, hL1 q hq, e⟩
    rwa [List.length_map] at this
  rw [el] at h
  exact PostE.sNn (PostE.mono h (Ext.tup ha)) (s.tup ha)
theorem t_lenSetX (g : Good G P w mg base k c E X) {e : Expr} {m : ES} {p p2 q pos : Pos} (hn : noStar e = true) (hx : c.sc.names.lookup ("len" : Str) = some .globalImplicit) (hm : mg ("len" : Str) = none) (hx2 : c.sc.names.lookup ("set" : Str) = some .globalImplicit) (hm2 : mg ("set" : Str) = none) (he : PE X e (T G E cal m)) :
    PE X (.Call (.Name "len" p) [.Call (.Name "set" p2) [e] [] q] [] pos) (T G E cal (c1 pLenSetX m)) :=
  (pe_callB (cr_or cr_lenI cr_lenT2) (gl_of g hx) (by rw [g.mm]; exact hm) boot_len (pa_cons (pe_callTy (cr_or (cr_setI g.calm) (cr_setT g.calm (units64 g))) (gl_of g hx2) (by rw [g.mm]; exact hm2) (by decide +kernel) (pa_cons he pa_nil (starEach_cons hn [] X.env)) (by decide) (by decide) (starEach_cons hn [] X.env) rfl) pa_nil)).impL fun σ H Q h => (T.one h).imp fun x H1 ⟨μ, st, v, s, rv, h⟩ => by
    have oldI : PostE G μ H1 (pLenSetI v st) Q E → rSetI X.K X.w [x] H1 (fun y H2 => rOr (rLenI X.w) (rLenT2 X.K X.prog X.w) [y] H2 Q) := fun h => by
      obtain ⟨z1, z2, z3, z4, z5, z6, z7⟩ := lenSetI_h g s rv h
      exact ⟨z1, z2, z3, z4, z5, z6, fun b c a1 a2 => .inl (z7 b c a1 a2)⟩
    obtain ⟨qq, ad, xs, vs, e1, e2, e3, e4, _⟩ := gX_sq (p := fun r => PostE G μ H1 r Q E) s rv h (fun z => z)
    have h : PostE G μ H1 (gX .no v st fun xs => @List.rec EV (fun _ => R) (pLenSetI v st) (fun x _ _ => gT (pLenSetI v st) x fun _ => pLenSetT v st) xs) Q E := h
    rw [e4] at h
    cases xs with
    | nil => exact .inl (oldI h)
    | cons y ys =>
      have h : PostE G μ H1 (gT (pLenSetI v st) y fun _ => pLenSetT v st) Q E := h
      cases y with
      | t a =>
        obtain ⟨z1, z2, z3, z4, z5, z6, z7, z8⟩ := lenSetT_h g s rv h
        exact .inr ⟨z1, z2, z3, z4, z5, z6, z7, fun a L a1 a2 a3 => .inr (z8 a L a1 a2 a3)⟩
      | _ => exact .inl (oldI h)
end
def nLenSetX (x : NE) : NE where
  den := c1 pLenSetX x.den
  chk tb c a := match a with
    | .Call (.Name z _) [.Call (.Name u _) [e] [] _] [] _ => (decide (z = "len") && decide (u = "set")) && ((bltB tb c z && bltB tb c u) && (noStar e && x.chk tb c e))
    | _ => false
  ok tb G P w mg base k cal c E X a t g h := by
    dsimp only at h
    split at h
    · obtain ⟨h1, h2⟩ := and2 h
      obtain ⟨e1, e2⟩ := and2 h1
      obtain ⟨h3, h4⟩ := and2 h2
      obtain ⟨b1, b2⟩ := and2 h3
      obtain ⟨n1, n2⟩ := and2 h4
      cases dcd e1; cases dcd e2
      obtain ⟨l1, l2, l3⟩ := bltB_of b1
      obtain ⟨m1, m2, m3⟩ := bltB_of b2
      exact t_lenSetX g n1 l1 (t.blt _ l3) m1 (t.blt _ m3) (x.u t g n2)
    · cases h
end L3

set_option Elab.async false
set_option linter.all false
set_option maxRecDepth 100000
set_option maxHeartbeats 4000000
/-! L3: comb; d.get, d.setdefault. -/
noncomputable section
namespace L3
open PySem PySem.Spec PyProof.Rows L2
section
variable {G : Fix} {P : Program} {w : World} {mg : Str → Option Value} {base : Heap} {k : Nat} {c : SC} {E : EXK} {cal : Cal} {X : Cx} {μ : List Addr} {H : Hp} {st : Sto} {Q : VK}
/-! ### comb -/
def rComb : List V → Hp → VK → Prop := fun vs H Q => ∃ a b : Int, vs = [.int a, .int b] ∧ 0 ≤ a ∧ 0 ≤ b ∧ a ≤ 9000 ∧ Q (.int (PySem.W.mcComb a b)) H
theorem cr_comb : CallR X (.builtin "math.comb") rComb := by
  intro pins s σ H vs us Q I r h
  obtain ⟨a, b, rfl, h1, h2, h3, q⟩ := h
  obtain ⟨t, u, rfl⟩ := Vals.int2 r
  exact PySem.W.mc_comb h1 h2 (by omega) (.inr (by omega)) fun _ => ⟨.int _, H, I.tok _, ⟨_, rfl⟩, q⟩
theorem cl_comb : Cl2 G E X (.builtin "math.comb") pComb := CallR.of fun xs H Q ⟨x, y, e, μ, st, a, b, s, ra, rb, h⟩ => by
  subst e
  cases ra with
  | i x =>
    cases rb with
    | i y =>
      have h : PostE G μ H (ift (iLt x 0) .no (ift (iLt y 0) .no (ift (iLt 9000 x) .no (okI st (PySem.W.mcComb x y))))) Q E := h
      rw [ift_eq, ift_eq, ift_eq] at h
      split at h
      · exact h.elim
      · rename_i h1
        split at h
        · exact h.elim
        · rename_i h2
          split at h
          · exact h.elim
          · rename_i h3
            rw [iLt_ok] at h1 h2 h3
            exact ⟨_, cr_comb, x, y, rfl, by simpa using h1, by simpa using h2, by simpa using h3, PostE.sI h s⟩
    | _ => exact h.elim
  | _ => exact h.elim
/-! ### a dict of the store -/
theorem dsD {no : R} {a : EV} {x : V} {kk : Nat → List (EV × EV) → R} (s : RS' G μ H st) (ra : RV G μ H a x) (h : PostE G μ H (gDs .no a st kk) Q E) :
    ∃ l p kvs, a = .l l ∧ x = .ref p ∧ μ[l]? = some p ∧ st.get l = .d kvs ∧ ((∃ q, H p = some (.dK q)) ∨ ∃ q, H p = some (.dT q)) ∧ PostE G μ H (kk l kvs) Q E := by
  cases ra with
  | @l l p hl =>
    have h : PostE G μ H (gOD R.no (st.get l) fun xs => kk l xs) Q E := h
    cases e : st.get l with
    | d kvs =>
      rw [e] at h
      have o := s.at_ l p hl
      have e' := e
      rw [st_get] at e'
      rw [e'] at o
      refine ⟨l, p, kvs, rfl, rfl, hl, e, ?_, h⟩
      rcases o with ⟨q, h1, _⟩ | ⟨q, h1, _⟩
      · exact .inl ⟨q, h1⟩
      · exact .inr ⟨q, h1⟩
    | _ => rw [e] at h; exact h.elim
  | _ => exact h.elim
theorem t_md (g : Good G P w mg base k c E X) {o e : Expr} {mo me : ES} {name : Str} {apos cpos : Pos} {id : String} {p : P2} (slot : Slot "dict" name id) (hty : typeOf (.builtin id) = pure (.type "method_descriptor")) (hm : Ml2 G E X id p) (ho : PE X o (T G E cal mo)) (he : PE X e (T G E cal me))
    (hb : plainBase o = true) (hn : noStar e = true) (hline : (apos.endLine == cpos.line) = true) : PE X (.Call (.Attribute o name apos) [e] [] cpos) (T G E cal (cMD p mo me)) := by
  refine (pe_bm1 PySem.F.plainAttrs_dict slot hty hm ho (pa_cons he pa_nil (starEach_cons hn [] X.env)) hb hn hline).impL fun σ H Q h => ?_
  refine (T.seq (kk := fun ρ x st => gDs .no x st fun _ _ => rB (me cal ρ st) fun y st => p x y st) h).imp fun x H1 ⟨μ, ρ, st, v, s, r, rv, h⟩ => ?_
  obtain ⟨l, q, kvs, rfl, rfl, hl, e0, e1, h⟩ := dsD (no := .no) s rv h
  refine ⟨.inr (.inr (.inl ⟨rfl, e1⟩)), μ, ρ, st, s, r, ?_⟩
  have h := PostE.bind (r := me cal ρ st) h
  cases e : me cal ρ st with
  | ex => rw [e] at h; exact h
  | no => rw [e] at h; exact h
  | ok u st1 =>
    rw [e] at h
    intro μ' H' y x' s' rq
    obtain ⟨μ1, st2, u2, x2, s2, r2, h⟩ := h μ' H' y x' s' rq
    exact ⟨y, rfl, μ1, st2, .l l, u2, s2, rv.mono x2 s.notup, r2, h⟩
theorem ml_get1 (g : Good G P w mg base k c E X) : Ml2 G E X "dict.get" pDget1 := by
  intro pins s0 σ H x xs v us Q I rx rs ⟨y, e, μ, st, a, b, s, ra, rb, h⟩
  subst e
  obtain ⟨u, rfl, ru⟩ := vals1 rs
  obtain ⟨l, p, kvs, rfl, rfl, hl, e0, _, h⟩ := dsD (no := .no) s ra h
  obtain rfl : v = Value.ref p := rx
  obtain ⟨hk, h⟩ := PostE.ift h
  obtain ⟨H2, I2, x2, s2, kp, dat⟩ := d_prep I s hl e0 rb hk
  have h := h.mono x2
  rcases d_look (bad := R.no) (none' := R.ok .n st) (kf := fun v => R.ok v st) (p := fun r => PostE G μ H2 r Q E) (fun z => z) dat h with ⟨g1, h⟩ | ⟨w1, x1, g1, g2, h⟩
  · exact d_get1 (units1 g) I2 g1 ru fun w' s3 I3 rw' => ⟨_, H2, I3, rw', PostE.ok h s2 .n⟩
  · exact d_get1 (units1 g) I2 g1 ru fun w' s3 I3 rw' => ⟨_, H2, I3, rw', PostE.ok h s2 g2⟩
/-! ### two arguments -/
def Ml3 (G : Fix) (E : EXK) (X : Cx) (id : String) (p : P3) : Prop := MtR X id fun x xs H Q => ∃ y z, xs = [y, z] ∧ ∃ μ st a b d, RS' G μ H st ∧ RV G μ H a x ∧ RV G μ H b y ∧ RV G μ H d z ∧ PostE G μ H (p a b d st) Q E
theorem pe_bm2 {o e f : Expr} {to : TE} {t : TA} {name : Str} {apos cpos : Pos} {Ty id : String} {r : V → List V → Hp → VK → Prop} (pa : PlainAttrs Ty) (slot : Slot Ty name id) (hty : typeOf (.builtin id) = pure (.type "method_descriptor")) (hm : MtR X id r) (ho : PE X o to) (ha : PA X [e, f] t)
    (hb : plainBase o = true) (hn : noStar e = true) (hn2 : noStar f = true) (hline : (apos.endLine == cpos.line) = true) : PE X (.Call (.Attribute o name apos) [e, f] [] cpos) (tBM X.K Ty r to t) :=
  pe_bm pa slot hty hm ho ha (attr_base hb name X.env _) (by rw [starEach_cons hn, starEach_cons hn2]; rfl) hline (starEach_cons hn [f] X.env) (by rw [starEach_cons hn2]; rfl)
theorem t_md2 (g : Good G P w mg base k c E X) {o e f : Expr} {mo me mf : ES} {name : Str} {apos cpos : Pos} {id : String} {p : P3} (slot : Slot "dict" name id) (hty : typeOf (.builtin id) = pure (.type "method_descriptor")) (hm : Ml3 G E X id p) (ho : PE X o (T G E cal mo)) (he : PE X e (T G E cal me)) (hf : PE X f (T G E cal mf))
    (hb : plainBase o = true) (hn : noStar e = true) (hn2 : noStar f = true) (hline : (apos.endLine == cpos.line) = true) : PE X (.Call (.Attribute o name apos) [e, f] [] cpos) (T G E cal (cMD2 p mo me mf)) := by
  refine (pe_bm2 PySem.F.plainAttrs_dict slot hty hm ho (pa_cons he (pa_cons hf pa_nil (starEach_cons hn2 [] X.env)) (starEach_cons hn [f] X.env)) hb hn hn2 hline).impL fun σ H Q h => ?_
  refine (T.seq (kk := fun ρ x st => gDs .no x st fun _ _ => rB (me cal ρ st) fun y st => rB (mf cal ρ st) fun z st => p x y z st) h).imp fun x H1 ⟨μ, ρ, st, v, s, r, rv, h⟩ => ?_
  obtain ⟨l, q, kvs, rfl, rfl, hl, e0, e1, h⟩ := dsD (no := .no) s rv h
  refine ⟨.inr (.inr (.inl ⟨rfl, e1⟩)), μ, ρ, st, s, r, ?_⟩
  cases e : me cal ρ st with
  | ex c q st1 => rw [e] at h; exact h
  | no => rw [e] at h; exact h
  | ok u st1 =>
    rw [e] at h
    have h : PostE G μ H1 (rB (mf cal ρ st1) fun z st => p (.l l) u z st) Q E := h
    intro μ' H' y x' s' rq
    refine ⟨μ', ρ, st1, s', r.mono x' s.notup, ?_⟩
    cases e2 : mf cal ρ st1 with
    | ex c q st2 => rw [e2] at h; exact fun μ2 H2 x2 => h μ2 H2 (x'.trans x2)
    | no => rw [e2] at h; exact h
    | ok d st2 =>
      rw [e2] at h
      have h : PostE G μ H1 (p (.l l) u d st2) Q E := h
      intro μ2 H2 z x2 s2 rz
      exact ⟨y, z, rfl, μ2, st2, .l l, u, d, s2, rv.mono (x'.trans x2) s.notup, rq.mono x2 s'.notup, rz, h.mono (x'.trans x2)⟩
theorem vals2' {x y : V} {us : List Value} (r : Vals [x, y] us) : ∃ u v, us = [u, v] ∧ RelV x u ∧ RelV y v := by
  cases r with
  | cons h1 t =>
    cases t with
    | cons h2 t => cases t; exact ⟨_, _, rfl, h1, h2⟩
theorem ml_get2 (g : Good G P w mg base k c E X) : Ml3 G E X "dict.get" pDget2 := by
  intro pins s0 σ H x xs v us Q I rx rs ⟨y, z, e, μ, st, a, b, d, s, ra, rb, rd, h⟩
  subst e
  obtain ⟨u, u2, rfl, ru, ru2⟩ := vals2' rs
  obtain ⟨l, p, kvs, rfl, rfl, hl, e0, _, h⟩ := dsD (no := .no) s ra h
  obtain rfl : v = Value.ref p := rx
  obtain ⟨hk, h⟩ := PostE.ift h
  obtain ⟨H2, I2, x2, s2, kp, dat⟩ := d_prep I s hl e0 rb hk
  have h := h.mono x2
  rcases d_look (bad := R.no) (none' := R.ok d st) (kf := fun v => R.ok v st) (p := fun r => PostE G μ H2 r Q E) (fun z => z) dat h with ⟨g1, h⟩ | ⟨w1, x1, g1, g2, h⟩
  · exact d_get2 (units1 g) I2 g1 ru ru2 fun w' s3 I3 rw' => ⟨_, H2, I3, rw', PostE.ok h s2 (rd.kp kp)⟩
  · exact d_get2 (units1 g) I2 g1 ru ru2 fun w' s3 I3 rw' => ⟨_, H2, I3, rw', PostE.ok h s2 g2⟩
/-- d.setdefault(t, z), t a tuple -/
theorem d_setdT {pins : List (Addr × Obj)} {σ : L2.St} {s : Shared} {a b : Addr} {r : Value} {d : V} {ks : List Key} {kvs : List (List Key × V)} {A : Around} {E' : Value → Shared → Prop} {Q' : Value → Shared → Prop} (hu : A.units + 1 < cLine) (I : Inv X pins σ H s) (e : H a = some (.dT kvs)) (eb : H b = some (.tup (ks.map kV))) (rd : RelV d r)
    (hl : (putK kvs ks d).length ≤ sizeLine) (h1 : ∀ v, valV kvs ks = some v → ∀ (w' : Value) (s' : Shared), Inv X pins σ H s' → RelV v w' → Q' w' s') (h2 : valV kvs ks = none → ∀ (w' : Value) (s' : Shared), Inv X pins σ (upd H a (.dT (putK kvs ks d))) s' → RelV d w' → Q' w' s') :
    wpAny (model X.prog X.w) A (call (.builtin "dict.setdefault") [.ref a, .ref b, r]) Q' E' s := by
  obtain ⟨z, hd, xs, rel, dd⟩ := dt_of I.hok e
  have hz : xs.length ≤ sizeLine := by rw [← Paired.length rel]; exact z
  refine call_setdefault_heap (hsz := hz) (tupleKind_room_in1 hu) (key_of I.hok eb) hd dd (fun p hp => ?_) fun hn h' dd' hs => ?_
  · have q := rel.val ks
    rw [hp] at q
    cases q0 : valV kvs ks with
    | none => rw [q0] at q; exact (show False from q).elim
    | some v0 =>
      rw [q0] at q
      exact h1 v0 q0 _ _ (I.tok _) q
  · have q := rel.val ks
    rw [hn] at q
    cases q0 : valV kvs ks with
    | some v0 => rw [q0] at q; exact (show False from q).elim
    | none =>
      obtain ⟨o, es, ep, ho, d2, d3, d4, _, d5⟩ := dd'
      refine h2 q0 _ _ (d_write I (by rw [e]; exact True.intro) hs ⟨o, ho⟩ ⟨hl, hd, _, (rel.put ks eb rd).keeps fun c ys ec => ?_, o, es, ep, ho, d2, d3, d4, d5⟩) rd
      rw [upd_ne fun z => by rw [z, e] at ec; cases ec]
      exact ec
theorem ml_setd (g : Good G P w mg base k c E X) : Ml3 G E X "dict.setdefault" pDsetd := by
  intro pins s0 σ H x xs v us Q I rx rs ⟨y, z, e, μ, st, a, b, d, s, ra, rb, rd, h⟩
  subst e
  obtain ⟨u, u2, rfl, ru, ru2⟩ := vals2' rs
  obtain ⟨l, p, kvs, rfl, rfl, hl, e0, _, h⟩ := dsD (no := .no) s ra h
  obtain rfl : v = Value.ref p := rx
  obtain ⟨hk, h⟩ := PostE.ift h
  obtain ⟨hl5, h⟩ := PostE.ift h
  rw [blt_dec, lenN_eq] at hl5
  have hl5 := dcd hl5
  obtain ⟨H2, I2, x2, s2, kp, dat⟩ := d_prep I s hl e0 rb hk
  have h := h.mono x2
  have rd2 := rd.kp kp
  rcases dat.ok with ⟨q, k', h1, h2, e3, h4⟩ | ⟨q, ns, b', h1, h2, e3, h4, e5⟩
  · subst e3
    have main : (∀ v, valV q k' = some v → Q v H2) ∧ (valV q k' = none → (putK q k' z).length ≤ 16000000 ∧ Q z (upd H2 p (.dK (putK q k' z)))) := by
      rcases dGet_k (bad := R.no) (none' := dPut R.no (kEq b) b d kvs fun kvs => putD st l kvs d) (kf := fun v => R.ok v st) h4 (p := fun r => PostE G μ H2 r Q E) (fun z => z) h2 h with ⟨g1, h⟩ | ⟨w1, x1, g1, g2, h⟩
      · refine ⟨fun v hv => (by rw [g1] at hv; cases hv), fun _ => ?_⟩
        obtain ⟨kvs', f1, f2⟩ := dPut_k h4 rd2 (p := fun r => PostE G μ H2 r Q E) (fun z => z) h2 (nodupK I2 h1) h
        have kp3 : Kp G μ H2 μ (upd H2 p (.dK (putK q k' z))) := Kp.put s2 (List.mem_of_getElem? hl) h1
        obtain ⟨h5, h6⟩ := put_d s2 hl h1 (.inl ⟨_, upd_same, f1.kp kp3⟩) rd2 f2
        rw [f1.length] at h5
        exact ⟨h5, h6⟩
      · exact ⟨fun v hv => (by rw [g1] at hv; cases hv; exact PostE.ok h s2 g2), fun hv => (by rw [g1] at hv; cases hv)⟩
    have hlen : q.length < sizeLine := by rw [sizeLine_eq, ← h2.length]; omega
    exact d_setd I2 h1 ru ru2 hlen (fun v hv w' s' I' r' => ⟨v, H2, I', r', main.1 v hv⟩) fun hn w' s' I' r' => ⟨z, _, I', r', (main.2 hn).2⟩
  · subst e3
    subst e5
    have main : (∀ v, valV q (ns.map Sum.inl) = some v → Q v H2) ∧ (valV q (ns.map Sum.inl) = none → (putK q (ns.map Sum.inl) z).length ≤ 16000000 ∧ Q z (upd H2 p (.dT (putK q (ns.map Sum.inl) z)))) := by
      rcases dGet_t (bad := R.no) (none' := dPut R.no (kEq (.t (ns.map EV.i))) (.t (ns.map EV.i)) d kvs fun kvs => putD st l kvs d) (kf := fun v => R.ok v st) (RKs.ints ns) (p := fun r => PostE G μ H2 r Q E) (fun z => z) h2 h with ⟨g1, h⟩ | ⟨w1, x1, g1, g2, h⟩
      · refine ⟨fun v hv => (by rw [g1] at hv; cases hv), fun _ => ?_⟩
        obtain ⟨kvs', f1, f2⟩ := dPut_t (RKs.ints ns) rd2 (p := fun r => PostE G μ H2 r Q E) (fun z => z) h2 (nodupT I2 h1) h
        have kp3 : Kp G μ H2 μ (upd H2 p (.dT (putK q (ns.map Sum.inl) z))) := Kp.put s2 (List.mem_of_getElem? hl) h1
        obtain ⟨h5, h6⟩ := put_d s2 hl h1 (.inr ⟨_, upd_same, f1.kp kp3⟩) rd2 f2
        rw [f1.length] at h5
        exact ⟨h5, h6⟩
      · exact ⟨fun v hv => (by rw [g1] at hv; cases hv; exact PostE.ok h s2 g2), fun hv => (by rw [g1] at hv; cases hv)⟩
    cases (show u = Value.ref b' from ru)
    refine d_setdT (units1 g) I2 h1 h4 ru2 ?_ (fun v hv w' s' I' r' => ⟨v, H2, I', r', main.1 v hv⟩) fun hn w' s' I' r' => ⟨z, _, I', r', (main.2 hn).2⟩
    have := length_putK q (ns.map (Sum.inl : Int → Key)) z
    rw [sizeLine_eq]
    have := h2.length
    omega
end
def nComb (x y : NE) : NE where
  den := c2 pComb x.den y.den
  chk tb c a := match a with
    | .Call (.Name z _) [e, d] [] _ => decide (tb.fx.lookup z = some "math.comb") && (gloB c z && ((noStar e && noStar d) && (x.chk tb c e && y.chk tb c d)))
    | _ => false
  ok tb G P w mg base k cal c E X a t g h := by
    dsimp only at h
    split at h
    · obtain ⟨h1, h2⟩ := and2 h
      obtain ⟨h2, h3⟩ := and2 h2
      obtain ⟨b1, b2⟩ := and2 h2
      obtain ⟨h3, h4⟩ := and2 h3
      obtain ⟨n1, n2⟩ := and2 h3
      obtain ⟨h4, h5⟩ := and2 h4
      exact t_fun2 g cl_comb (dcd b1) b2 (t.fx _ _ (dcd h1)) n1 n2 (x.u t g h4) (y.u t g h5)
    · cases h
def nGet1 (x y : NE) : NE where
  den := cMD pDget1 x.den y.den
  chk tb c a := match a with
    | .Call (.Attribute o z q) [e] [] p => decide (z = "get") && ((plainBase o && (noStar e && (q.endLine == p.line))) && (x.chk tb c o && y.chk tb c e))
    | _ => false
  ok tb G P w mg base k cal c E X a t g h := by
    dsimp only at h
    split at h
    · obtain ⟨h1, h2⟩ := and2 h
      obtain ⟨h2, h3⟩ := and2 h2
      obtain ⟨h2, h4⟩ := and2 h2
      obtain ⟨h4, h5⟩ := and2 h4
      obtain ⟨h6, h7⟩ := and2 h3
      cases dcd h1
      exact t_md g PySem.F.slot_dict_get PySem.F.type_dict_get (ml_get1 g) (x.u t g h6) (y.u t g h7) h2 h4 h5
    · cases h
structure M2D where
  nm : Str
  id : String
  p : P3
  slot : Slot "dict" nm id
  ty : typeOf (.builtin id) = pure (.type "method_descriptor")
  ok : ∀ {G P w mg base k c E X}, Good G P w mg base k c E X → Ml3 G E X id p
def nMd2 (m : M2D) (x y v : NE) : NE where
  den := cMD2 m.p x.den y.den v.den
  chk tb c a := match a with
    | .Call (.Attribute o z q) [e, f] [] p => decide (z = m.nm) && ((plainBase o && ((noStar e && noStar f) && (q.endLine == p.line))) && (x.chk tb c o && (y.chk tb c e && v.chk tb c f)))
    | _ => false
  ok tb G P w mg base k cal c E X a t g h := by
    dsimp only at h
    split at h
    · obtain ⟨h1, h2⟩ := and2 h
      obtain ⟨h2, h3⟩ := and2 h2
      obtain ⟨h2, h4⟩ := and2 h2
      obtain ⟨h4, h5⟩ := and2 h4
      obtain ⟨n1, n2⟩ := and2 h4
      obtain ⟨h6, h7⟩ := and2 h3
      obtain ⟨h7, h8⟩ := and2 h7
      cases dcd h1
      exact t_md2 g m.slot m.ty (m.ok g) (x.u t g h6) (y.u t g h7) (v.u t g h8) h2 n1 n2 h5
    · cases h
def mdGet2 : M2D := ⟨"get", "dict.get", pDget2, PySem.F.slot_dict_get, PySem.F.type_dict_get, fun g => ml_get2 g⟩
def mdSetd : M2D := ⟨"setdefault", "dict.setdefault", pDsetd, PySem.F.slot_dict_setdefault, PySem.F.type_dict_setdefault, fun g => ml_setd g⟩
end L3

set_option Elab.async false
set_option linter.all false
set_option maxRecDepth 100000
set_option maxHeartbeats 4000000
/-! L3: a[i], b[j] = .. -/
noncomputable section
namespace L3
open PySem PySem.Spec PyProof.Rows L2
section
variable {G : Fix} {P : Program} {w : World} {mg : Str → Option Value} {base : Heap} {k : Nat} {c : SC} {E : EXK} {cal : Cal} {X : Cx} {μ : List Addr} {H : Hp} {st : Sto} {Q : VK}
theorem noRt2 {g h : GS} (n1 : NoRt g) (n2 : NoRt h) : NoRt (gTup2 g h) := fun c v ρ st => by
  cases v with
  | t vs =>
    match vs with
    | [] => exact trivial
    | [a] => exact trivial
    | [a, b] =>
      show match sBd (g c a ρ st) (fun ρ st => h c b ρ st) with
        | .nx _ _ => True
        | .ex _ _ _ => True
        | .no => True
        | _ => False
      have q1 := n1 c a ρ st
      cases e : g c a ρ st with
      | nx ρ1 st1 => exact n2 c b ρ1 st1
      | ex => exact trivial
      | no => exact trivial
      | rt => rw [e] at q1; exact q1
      | bk => rw [e] at q1; exact q1
      | ct => rw [e] at q1; exact q1
    | a :: b :: d :: r => exact trivial
  | _ => exact trivial
theorem pg_two (g : Good G P w mg base k c E X) {a b : Expr} {ga gb : GS} {kk : Nat} {pos : Pos} {sa sb : List Nat} (na : noStar a = true) (nb : noStar b = true) (h1 : PG X a (TGd G E cal ga sa)) (h2 : PG X b (TGd G E cal gb sb)) : PG X (.Tuple [a, b] kk pos) (TGd G E cal (gTup2 ga gb) (sa ++ sb)) := by
  have q : PG X (.Tuple [a, b] kk pos) (L2.gTup X.K 2 (L2.gCons (TGd G E cal ga sa) (L2.gCons (TGd G E cal gb sb) L2.gNil))) := pg_tup g.calm (pgs_cons h1 (pgs_cons h2 pgs_nil (by rw [assignEach_cons nb]; rfl)) (by rw [assignEach_cons na]; rfl)) (assignEach_len _) (assignEach_nostar _ (by rw [List.all_cons, na, List.all_cons, nb]; rfl))
  refine ⟨fun pins s σ H v u Q I r h => q.run pins s σ H v u Q I r ?_⟩
  obtain ⟨μ, ρ, st, ev, s', r', rv, h⟩ := h
  cases rv with
  | @t xs a' vs hq rs =>
    cases rs with
    | nil => exact h.elim
    | @cons x v1 xs1 vs1 rx rs =>
    cases rs with
    | nil => exact h.elim
    | @cons y v2 xs2 vs2 ry rs =>
    cases rs with
    | cons => exact h.elim
    | nil =>
      refine ⟨a', [v1, v2], rfl, by rw [g.kk]; exact hq.sq, rfl, v1, [v2], rfl, μ, ρ, st, x, s', r', rx, ?_⟩
      have h : PostS G μ H (sBd (ga cal x ρ st) fun ρ st => gb cal y ρ st) _ E := h
      cases e : ga cal x ρ st with
      | no => rw [e] at h; exact h
      | ex => rw [e] at h; exact h
      | rt => rw [e] at h; exact h
      | bk => rw [e] at h; exact h
      | ct => rw [e] at h; exact h
      | nx ρ1 st1 =>
        rw [e] at h
        have h : PostS G μ H (gb cal y ρ1 st1) _ E := h
        intro μ' H' σ' x2 s2 r2 o2
        refine ⟨v2, [], rfl, μ', ρ1, st1, y, s2, r2, ry.mono x2 s'.notup, ?_⟩
        have h := PostS.mono h x2
        cases e2 : gb cal y ρ1 st1 with
        | nx ρ3 st3 => rw [e2] at h; exact fun μ3 H3 σ3 x3 s3 r3 o3 => ⟨rfl, h μ3 H3 σ3 x3 s3 r3 (o2.trans o3)⟩
        | ex => rw [e2] at h; exact h
        | no => rw [e2] at h; exact h
        | rt => rw [e2] at h; exact h
        | bk => rw [e2] at h; exact h
        | ct => rw [e2] at h; exact h
  | _ => exact h.elim
end
def gT2 (x y : NG) : NG where
  den := gTup2 x.den y.den
  sl := x.sl ++ y.sl
  pu := false
  hp e := by cases e
  nr := noRt2 x.nr y.nr
  chk tb c a := match a with
    | .Tuple [e, f] _ _ => x.chk tb c e && y.chk tb c f
    | _ => false
  ok tb G P w mg base k cal c E X a t g h := by
    dsimp only at h
    split at h
    · obtain ⟨h1, h2⟩ := and2 h
      obtain ⟨p1, p2⟩ := x.u t g h1
      obtain ⟨q1, q2⟩ := y.u t g h2
      exact ⟨pg_two g p2 q2 p1 q1, rfl⟩
    · cases h
end L3

set_option Elab.async false
set_option linter.all false
set_option maxRecDepth 100000
set_option maxHeartbeats 4000000
/-! L3: sorted of tuples of ints, the first of them (). -/
noncomputable section
namespace L3
open PySem PySem.Spec PyProof.Rows L2
section
variable {M : Model} {A : Around} {E : Value → Shared → Prop} {s : Shared}
theorem mapM_each {α β : Type} {f : α → Sem β} {g : α → β} : ∀ (l : List α) {Q : List β → Shared → Prop}, (∀ v ∈ l, ∀ (Q' : β → Shared → Prop), Q' (g v) s → wpAny M A (f v) Q' E s) → Q (l.map g) s → wpAny M A (l.mapM f) Q E s
  | [], _, _, h => by rw [List.mapM_nil]; exact wpAny_pure h
  | x :: l, Q, hf, h => by
    rw [List.mapM_cons]
    refine wpAny_bind (hf x (List.mem_cons_self ..) _ (wpAny_bind (mapM_each l (Q := fun bs s' => wpAny M A (pure (g x :: bs)) Q E s') (fun v hv => hf v (List.mem_cons_of_mem _ hv)) (wpAny_pure h))))
/-- the kind of tuples, the first of them empty -/
theorem kind_empty {v₁ : Value} {rest : List Value} {k : Value → List Int} {Q : SortKind → Shared → Prop} (hp : ∀ v ∈ v₁ :: rest, TupAt s.heap v (k v)) (h1 : k v₁ = []) (h : Q oneType' s) : wpAny M A (keyKind' (v₁ :: rest).toArray) Q E s := by
  have ty : ∀ v ∈ v₁ :: rest, PySem.W.Looks M s.heap (typeOf v) (.type "tuple") := fun v hv => by
    obtain ⟨a, o, its, n, rfl, ho, hc, _⟩ := hp v hv
    show PySem.W.Looks M s.heap (typeOf (Value.ref a)) (Value.type "tuple")
    exact hc ▸ (PySem.W.Looks.ld ho).andThen .now
  have hT2 : (Value.type "tuple" == Value.type "tuple") = true := by rfl
  -- what stands first in each
  have fst : ∃ g : Value → Option Value, g v₁ = none ∧ ∀ v ∈ v₁ :: rest, ∀ (Q' : Option Value → Shared → Prop), Q' (g v) s → wpAny M A (firstOfTuple' v) Q' E s := by
    refine ⟨fun v => match v with
      | .ref a => match s.heap.get? a with
        | some o => match o.data with
          | .seq its _ => its[0]?
          | _ => none
        | none => none
      | _ => none, ?_, fun v hv Q' hq => ?_⟩
    · obtain ⟨a, o, its, n, e, ho, hc, hd, hi⟩ := hp v₁ (List.mem_cons_self ..)
      rw [e]
      dsimp only
      rw [ho]
      dsimp only
      rw [hd]
      dsimp only
      rw [h1] at hi
      have : its.toList = [] := by
        cases q : its.toList with
        | nil => rfl
        | cons x l => rw [q] at hi; cases hi
      rw [← Array.getElem?_toList, this]
      rfl
    · obtain ⟨a, o, its, n, rfl, ho, hc, hd, hi⟩ := hp v hv
      dsimp only at hq
      rw [ho] at hq
      dsimp only at hq
      rw [hd] at hq
      rw [PySem.W.kas_first_eq]
      refine wpAny_bind ((ty _ hv).here ?_)
      rw [if_neg (by rw [bne, hT2]; simp)]
      exact wpAny_bind (listItems_at ho hd (wpAny_pure hq))
  obtain ⟨g, g1, g2⟩ := fst
  rw [PyProof.Rows.keyKind'_eq, List.mapM_toArray, map_eq_pure_bind]
  refine wpAny_bind (wpAny_bind (mapM_each (g := g) _ g2 (wpAny_pure ?_)))
  have n1 : ((List.map g (v₁ :: rest)).toArray.all fun x => x.isSome) = false := by
    rw [List.all_toArray, List.map_cons, List.all_cons, g1]
    rfl
  rw [if_neg (by rw [n1]; simp), if_neg (by rw [List.map_cons, g1]; simp)]
  rw [PyProof.Rows.oneTypeOnly'_eq, List.mapM_toArray, map_eq_pure_bind]
  refine wpAny_bind (wpAny_bind (wpAny_bind (mapM_each (g := fun _ => Value.type "tuple") _ (fun v hv Q' hq => (ty v hv).here hq) (wpAny_pure ?_))))
  have hall : ((List.map (fun _ => Value.type "tuple") (v₁ :: rest)).toArray.all fun x => x == Value.type "tuple") = true := by
    rw [List.all_toArray, List.all_map, List.all_eq_true]
    intro _ _
    exact hT2
  have h0 : (List.map (fun _ => Value.type "tuple") (v₁ :: rest)).toArray[0]? = some (Value.type "tuple") := rfl
  rw [h0]
  simp only [hall, if_true]
  exact wpAny_pure (wpAny_pure h)
end
end L3

set_option Elab.async false
set_option linter.all false
set_option maxRecDepth 100000
set_option maxHeartbeats 4000000
/-! L3: tuple.__lt__ of two tuples of ints; the sort. -/
noncomputable section
namespace L3
open PySem PySem.Spec PyProof.Rows L2
section
variable {P : Program} {w : World} {A : Around} {E : Value → Shared → Prop} {s : Shared}
theorem tlt_call {a b : Addr} {od od2 : Option Addr} {its its2 : Array Value} {n n2 : Nat} {os os2 : Array (Option Value)} {ns ms : List Int} {Q : Value → Shared → Prop}
    (ho : s.heap.get? a = some { cls := .type "tuple", dict := od, data := .seq its n, slots := os }) (ho2 : s.heap.get? b = some { cls := .type "tuple", dict := od2, data := .seq its2 n2, slots := os2 })
    (hi : IntsAre its.toList ns) (hi2 : IntsAre its2.toList ms) (iv : PySem.W.Looks (model P w) s.heap (isInstance (.ref a) (.type "tuple")) true)
    (iu : ∀ M : Model, PySem.W.Looks M s.heap (isInstance (.ref b) (.type "tuple")) true) (h : Q (.bool (HT.lexLt ns ms)) s) :
    wpAny (model P w) A (call (.builtin "tuple.__lt__") [.ref a, .ref b]) Q E s := by
  have ck := fun Q1 => @PySem.W.check_slot (model P w) A.in1 E s
    "tuple.__lt__" "tuple" "__lt__" (.ref a) [.ref b] [] Q1
    (by decide +kernel) (by decide +kernel) iv (PySem.F.args_tuple_lt_2 _ _)
  refine wpAny_call (codeAny_call_builtin
    PySem.F.slot_tuple_lt.plain PySem.F.entry_tuple_lt (ck _ ?_))
  have run := NtL.nt_lt_ints a b (.type "tuple") (.type "tuple") its its2
    n n2 od od2 os os2 ns ms hi hi2 P w
  refine wpAny_mono (run _ (wants Q E) s ⟨ho, ho2, iu, h⟩) (fun f s' q => ?_) fun _ _ q => q
  cases f with
  | done _ => exact q
  | again _ => exact q
theorem lt_tups {v u : Value} {ns ms : List Int} {Q : Bool → Shared → Prop} (hu : A.units < cLine) (hv : TupAt s.heap v ns) (hw : TupAt s.heap u ms) (h : Q (HT.lexLt ns ms) s) : wpAny (model P w) A (keyLt' oneType' v u) Q E s := by
  have ty : ∀ {M : Model} {x : Value} {ks : List Int}, TupAt s.heap x ks → PySem.W.Looks M s.heap (typeOf x) (.type "tuple") := fun {M x ks} hx => by
    obtain ⟨a, o, its, n, rfl, ho, hc, _⟩ := hx
    show PySem.W.Looks M s.heap (typeOf (Value.ref a)) (Value.type "tuple")
    exact hc ▸ (PySem.W.Looks.ld ho).andThen .now
  have sub : isSubtype (.type "tuple") (.type "tuple") = pure true := by rw [isSubtype_type]; kernel_rfl
  have sp : PySem.W.Looks (model P w) s.heap (specialOf v "__lt__") (some (.builtin "tuple.__lt__")) := (ty hv).andThen (PySem.W.Looks.of_pure PySem.F.slot_tuple_lt.lookup)
  have iv : PySem.W.Looks (model P w) s.heap (isInstance v (.type "tuple")) true := (ty hv).andThen (PySem.W.Looks.of_pure sub)
  have iu : ∀ M : Model, PySem.W.Looks M s.heap (isInstance u (.type "tuple")) true := fun M => (ty (M := M) hw).andThen (PySem.W.Looks.of_pure sub)
  obtain ⟨a, o, its, n, rfl, ho, hc, hd, hi⟩ := hv
  obtain ⟨b, o2, its2, n2, rfl, ho2, hc2, hd2, hi2⟩ := hw
  obtain ⟨oc, od, oa, os⟩ := o
  obtain ⟨oc2, od2, oa2, os2⟩ := o2
  dsimp only at hc hd hc2 hd2
  subst hc hd hc2 hd2
  rw [PyProof.Rows.keyLt'_oneType, PyProof.Rows.oneLt'_eq]
  simp only [if_true]
  refine wpAny_bind (wpAny_cRoomFor hu ?_)
  exact wpAny_bind (NtL.csib (E := E) sp (PySem.F.slot_tuple_lt.bind _) (tlt_call ho ho2 hi hi2 iv iu (wpAny_truthy_bool h)))
end
theorem ints_inj : ∀ {us : List Value} {ns ms : List Int}, IntsAre us ns → IntsAre us ms → ns = ms
  | _, _, _, .nil, .nil => rfl
  | _, _, _, .cons x t h, .cons _ _ h' => by rw [ints_inj h h']
theorem TupAt.inj {h : Heap} {v : Value} {ns ms : List Int} (p : TupAt h v ns) (q : TupAt h v ms) : ns = ms := by
  obtain ⟨a, o, its, n, e, ho, _, hd, hi⟩ := p
  obtain ⟨a', o', its', n', e', ho', _, hd', hi'⟩ := q
  rw [e] at e'
  cases e'
  rw [ho] at ho'
  cases ho'
  rw [hd] at hd'
  cases hd'
  exact ints_inj hi hi'
open Classical in
def ktAt (h : Heap) (v : Value) : List Int := if p : ∃ ns, TupAt h v ns then p.choose else []
theorem ktAt_eq {h : Heap} {v : Value} {ns : List Int} (p : TupAt h v ns) : ktAt h v = ns := by
  unfold ktAt
  rw [dif_pos ⟨ns, p⟩]
  exact TupAt.inj (Exists.choose_spec (⟨ns, p⟩ : ∃ ns, TupAt h v ns)) p
inductive TZs (K : PySem.W.Frag) (H : Hp) : List V → List (List Int) → Prop
  | nil : TZs K H [] []
  | cons {t : Addr} {k : List Int} {xs : List V} {ks : List (List Int)} (h : SqT K H t (k.map V.int)) (r : TZs K H xs ks) : TZs K H (.ref t :: xs) (k :: ks)
theorem TZs.length {K : PySem.W.Frag} {H : Hp} : ∀ {xs : List V} {ks : List (List Int)}, TZs K H xs ks → xs.length = ks.length
  | _, _, .nil => rfl
  | _, _, .cons _ r => congrArg Nat.succ r.length
def ltP3 {α : Type} (a b : α × List Int) : Bool := HT.lexLt a.2 b.2
def rSortTZ (K : PySem.W.Frag) : List V → Hp → VK → Prop := fun vs H Q => ∃ (q : Bool) (a : Addr) (xs : List V) (ks : List (List Int)), vs = [V.ref a] ∧ bSq q K H a xs ∧ TZs K H xs ks ∧ ks.head? = some [] ∧
  ∀ p, H p = none → Q (.ref p) (upd H p (.lst ((isort ltP3 (xs.zip ks)).map (·.1))))
theorem zip_bk3 : ∀ (us : List Value) (ds : List (List Int)), (us.map bk).zip ds = (us.zip ds).map fun p => (bk p.1, p.2)
  | [], _ => rfl
  | _ :: _, [] => rfl
  | u :: us, d :: ds => congrArg ((bk u, d) :: ·) (zip_bk3 us ds)
theorem cr_sortTZ {X : Cx} (hu : X.A.units + 65 < cLine) : CallR X (.builtin "sorted") (rSortTZ X.K) := by
  intro pins s σ H vs us Q I r h
  obtain ⟨q, a, xs, ks, rfl, hq, hd, h0, h⟩ := h
  obtain ⟨u, rfl, ru⟩ := vals1 r
  obtain rfl : u = Value.ref a := ru
  obtain ⟨its, rv, p⟩ := bInv I hq
  have rd0 : PySem.W.EachIs (fun v d => TupAt s.heap v d ∧ ∃ b, v = Value.ref b) its ks ∧ its.map bk = xs := by
    have go : ∀ (xs : List V) (es : List (List Int)) (us : List Value), TZs X.K H xs es → Vals xs us → PySem.W.EachIs (fun v d => TupAt s.heap v d ∧ ∃ b, v = Value.ref b) us es ∧ us.map bk = xs := by
      intro xs es us hd
      induction hd generalizing us with
      | nil => intro r; cases r; exact ⟨.nil, rfl⟩
      | cons d1 d2 ih =>
        intro r
        cases r with
        | cons r1 r2 =>
          cases r1
          obtain ⟨z1, z2⟩ := ih _ r2
          obtain ⟨its2, rv2, ⟨o, ho, hc, n, hd⟩, _⟩ := I.tuple d1
          refine ⟨.cons ⟨⟨_, o, its2.toArray, n, rfl, ho, hc, hd, ?_⟩, _, rfl⟩ z1, by rw [List.map_cons, z2]; rfl⟩
          have z := rv2.ints
          simpa using z
    exact go xs ks its hd rv
  obtain ⟨rd0, b1⟩ := rd0
  have b2 : ∀ u ∈ its, RelV (bk u) u := fun u hu => by
    obtain ⟨d, _, _, b, e⟩ := rd0.left u hu
    rw [e]; rfl
  have hz : its.length ≤ sizeLine := by
    cases q with
    | false =>
      obtain ⟨its', rv', _, hz⟩ := I.list hq
      rw [← rv.length]; exact hz
    | true =>
      obtain ⟨its', rv', _, hz⟩ := I.tuple hq
      rw [← rv.length]; exact hz
  let kt : Value → List Int := ktAt s.heap
  let lk : Value → Value → Bool := fun v u => HT.lexLt (kt v) (kt u)
  have O : SrtO.Swo lk := NtL.swo_lexL kt
  have srt : 2 ≤ its.length → ∀ (h₁ : Heap) (a' : Addr), h₁.get? a' = some (seqObj "list" its.toArray 0) → (∀ b o, s.heap.get? b = some o → b ≠ a' ∧ h₁.get? b = some o) → SrtO.SortableO X.prog X.w X.A.in1.in1 { s with heap := h₁ } a' its lk := by
    intro h2 h₁ a' ha kp h' keep
    have hp : ∀ v ∈ its, TupAt h' v (kt v) := fun v hv => by
      obtain ⟨d, _, t, _⟩ := rd0.left v hv
      have e : kt v = d := ktAt_eq t
      rw [e]
      exact t.keeps fun b o e1 e2 => keep b o (kp b o e1).1 (kp b o e1).2
    refine ⟨oneType', fun Q E hq => ?_, fun p q hp1 hq1 => ?_⟩
    · cases rd0 with
      | nil => cases h0
      | cons t1 t2 =>
        cases h0
        exact kind_empty (k := kt) hp (ktAt_eq t1.1) hq
    · refine lt_tups (s := { s with heap := h' }) ?_ (hp _ hp1) (hp _ hq1) ⟨rfl, rfl⟩
      show X.A.units + 1 + 1 < cLine
      omega
  have ln : its.length = ks.length := rv.length.symm.trans hd.length
  have same : (isort lk its).map bk = (isort ltP3 (xs.zip ks)).map (·.1) := by
    have z1 : (its.zip ks).map (·.1) = its := List.map_fst_zip (by omega)
    have z2 : xs.zip ks = (its.zip ks).map fun p => (bk p.1, p.2) := by
      rw [← b1]
      exact zip_bk3 its ks
    have e1 : isort lk its = (isort (fun a b : Value × List Int => lk a.1 b.1) (its.zip ks)).map (·.1) := by
      rw [← isort_map (f := fun p : Value × List Int => p.1) (lt' := lk), z1]
    have e2 : isort (fun a b : Value × List Int => lk a.1 b.1) (its.zip ks) = isort (fun a b : Value × List Int => ltP3 (α := Value) a b) (its.zip ks) := isort_congr fun x hx y hy => by
      have k1 : kt x.1 = x.2 := ktAt_eq (rd0.zip x hx).1
      have k2 : kt y.1 = y.2 := ktAt_eq (rd0.zip y hy).1
      show HT.lexLt (kt x.1) (kt y.1) = HT.lexLt x.2 y.2
      rw [k1, k2]
    have e3 : isort ltP3 ((its.zip ks).map fun p => (bk p.1, p.2)) = (isort (fun a b : Value × List Int => ltP3 (α := V) (bk a.1, a.2) (bk b.1, b.2)) (its.zip ks)).map fun p => (bk p.1, p.2) := isort_map _
    rw [e1, e2, z2, e3, List.map_map, List.map_map]
    rfl
  have fin : ∀ out : List Value, SrtO.Srtd lk out → SrtO.Stb lk out its → EP X pins σ Q (.ref (s.heap.objs.size + 1)) { s with heap := sortedAll s.heap its out.toArray } := fun out h1 h2 => by
    have h3 : ∀ u ∈ out, RelV (bk u) u := fun u hu => b2 u (h2.perm.mem_iff.mp hu)
    obtain ⟨n, hn⟩ := sortedAll_at s.heap its out.toArray
    have q2 := isort_stb O its
    have eo : out = isort lk its := SrtO.stb_uniq O h1 (isort_srtd O its) ⟨h2.perm.trans q2.perm.symm, fun x => (h2.cls x).trans (q2.cls x).symm⟩
    have eb : out.map bk = (isort ltP3 (xs.zip ks)).map (·.1) := by rw [eo, same]
    refine ⟨.ref (s.heap.objs.size + 1), upd H (s.heap.objs.size + 1) (.lst ((isort ltP3 (xs.zip ks)).map (·.1))), I.laid (t' := s.toks) (fun _ _ => sortedAll_old) (Nat.le_succ _) ⟨?_, out, n, ?_, hn⟩, rfl, h _ (I.hok.fresh (Nat.le_succ _))⟩
    · rw [← eb, List.length_map, h2.len]
      exact hz
    · rw [← eb]; exact vals_bk h3
  cases q with
  | false => exact SrtO.sorted_ord O p hz srt fin
  | true => exact sorted_tup O p hz srt fin
/-! ### the evaluator's -/
theorem ltZ_ok {a b : EV} (ha : isTIB a = true) (hb : isTIB b = true) : tLt a b = .of (ltE a b) := by
  obtain ⟨xs, rfl, ha⟩ := gT_of ha
  obtain ⟨ns, rfl⟩ := intsB_of ha
  obtain ⟨ys, rfl, hb⟩ := gT_of hb
  obtain ⟨ms, rfl⟩ := intsB_of hb
  show ltI (ns.map EV.i) (ms.map EV.i) = .of (HT.lexLt (ivs (ns.map EV.i)) (ivs (ms.map EV.i)))
  rw [ltI_val, ivs_ints, ivs_ints]
theorem insZ_eq {x : EV} (hx : isTIB x = true) : ∀ {xs : List EV} (k : List EV → R), (∀ y ∈ xs, isTIB y = true) → insT x xs k = k (ins ltE x xs)
  | [], k, _ => rfl
  | y :: r, k, h => by
    show b3 (tLt y x) (k (x :: y :: r)) (insT x r fun r' => k (y :: r')) .no = _
    rw [ltZ_ok (h y (List.mem_cons_self ..)) hx, insZ_eq hx _ fun z hz => h z (List.mem_cons_of_mem _ hz)]
    show _ = k (if ltE y x = true then y :: ins ltE x r else x :: y :: r)
    cases ltE y x with
    | true => rfl
    | false => rfl
theorem sortZ_eq : ∀ {xs : List EV} (k : List EV → R), (∀ y ∈ xs, isTIB y = true) → sortT xs k = k (isort ltE xs)
  | [], k, _ => rfl
  | x :: r, k, h => by
    show sortT r (fun r => insT x r k) = _
    rw [sortZ_eq _ fun z hz => h z (List.mem_cons_of_mem _ hz)]
    exact insZ_eq (h x (List.mem_cons_self ..)) k fun z hz => h z (List.mem_cons_of_mem _ (isort_mem' hz))
section
variable {G : Fix} {P : Program} {w : World} {mg : Str → Option Value} {base : Heap} {k : Nat} {c : SC} {E : EXK} {cal : Cal} {X : Cx} {μ : List Addr} {H : Hp} {st : Sto} {Q : VK}
theorem tz_of : ∀ {es : List EV} {vs : List V}, RVs G μ H es vs → (∀ y ∈ es, isTIB y = true) → TZs G.K H vs (es.map keyE)
  | _, _, .nil, _ => .nil
  | _, _, .cons rv r, h => by
    obtain ⟨xs, rfl, hb⟩ := gT_of (h _ (List.mem_cons_self ..))
    obtain ⟨ns, rfl⟩ := intsB_of hb
    cases rv with
    | t hp rr =>
      rw [List.map_cons]
      refine .cons ?_ (tz_of r fun y hy => h y (List.mem_cons_of_mem _ hy))
      have e1 : keyE (.t (ns.map EV.i)) = ns := ivs_ints ns
      rw [e1]
      have e2 : ∀ {ns : List Int} {vs : List V}, RVs G μ H (ns.map EV.i) vs → vs = ns.map V.int := fun {ns} => by
        induction ns with
        | nil => intro vs rr; cases rr; rfl
        | cons x l ih =>
          intro vs rr
          cases rr with
          | cons h rr => cases h; rw [List.map_cons, ih rr]
      rw [← e2 rr]
      exact hp.sq
theorem zip_keyE : ∀ (es : List EV) (vs : List V), vs.zip (es.map keyE) = (es.zip vs).map fun p => (p.2, keyE p.1)
  | [], [] => rfl
  | [], _ :: _ => rfl
  | _ :: _, [] => rfl
  | e :: es, v :: vs => congrArg ((v, keyE e) :: ·) (zip_keyE es vs)
theorem cl_sortedZ (g : Good G P w mg base k c E X) : Cl1 G E X (.builtin "sorted") pSortedZ := CallR.of fun xs H Q ⟨x, e, μ, st, v, s, rv, h⟩ => by
  have old : PostE G μ H (pSortedY v st) Q E → ∃ r' : List V → Hp → VK → Prop, CallR X (.builtin "sorted") r' ∧ r' xs H Q := fun h => ⟨_, cl_sortedY g, x, e, μ, st, v, s, rv, h⟩
  obtain ⟨qq, ad, es, vs, e1, e2, e3, e4, _⟩ := gX_sq (p := fun r => PostE G μ H r Q E) s rv h (fun z => z)
  have h : PostE G μ H (gX .no v st fun xs => @List.rec EV (fun _ => R) (pSortedY v st) (fun x _ _ => gT (pSortedY v st) x fun ys => @List.rec EV (fun _ => R) (ift (allB1 isTIB xs) (sortT xs (newL st)) .no) (fun _ _ _ => pSortedY v st) ys) xs) Q E := h
  rw [e4] at h
  cases es with
  | nil => exact old h
  | cons y ys =>
    cases y with
    | t zs =>
      cases zs with
      | cons z zs => exact old h
      | nil =>
        have h : PostE G μ H (ift (allB1 isTIB (.t [] :: ys)) (sortT (.t [] :: ys) (newL st)) .no) Q E := h
        obtain ⟨hT, h⟩ := PostE.ift h
        have hT := allB1_ok hT
        generalize ees : EV.t [] :: ys = es at e3 h hT
        obtain ⟨z1, z2, z3⟩ := zips e3
        rw [sortZ_eq _ hT] at h
        subst e
        refine ⟨_, cr_sortTZ (units65 g), qq, ad, vs, es.map keyE, by rw [e1], by rw [g.kk]; exact e2, by rw [g.kk]; exact tz_of e3 hT, by rw [← ees]; rfl, fun p hp => ?_⟩
        have f1 : isort ltE es = (isort (fun a b : EV × V => ltE a.1 b.1) (es.zip vs)).map (·.1) := by
          rw [← isort_map (f := fun p : EV × V => p.1) (lt' := ltE), z1]
        have f2 : (isort ltP3 (vs.zip (es.map keyE))).map (·.1) = (isort (fun a b : EV × V => ltE a.1 b.1) (es.zip vs)).map (·.2) := by
          rw [zip_keyE, isort_map (f := fun p : EV × V => (p.2, keyE p.1)) (lt' := ltP3), List.map_map]
          rfl
        rw [f1] at h
        rw [f2]
        exact (PostE.sLn h s (RVs.of_zip fun p hp => z3 p (isort_mem' hp))).2 p hp
    | _ => exact old h
end
def fSortedZ : F1 := ⟨"sorted", .builtin "sorted", pSortedZ, .inl ⟨_, rfl⟩, by decide +kernel, fun g => cl_sortedZ g⟩
end L3

set_option Elab.async false
set_option linter.all false
set_option maxRecDepth 100000
set_option maxHeartbeats 0
namespace HD
open PySem PySem.Spec PyProof.Rows L2 L3
noncomputable section
def ps0 : List Str := ["thing"]
def nm0 : List Str := ["thing"]
def ps1 : List Str := ["thing", "least"]
def nm1 : List Str := ["thing", "least"]
def ps2 : List Str := ["thing", "length"]
def nm2 : List Str := ["thing", "length"]
def ps3 : List Str := ["value"]
def nm3 : List Str := ["value", "own"]
def ps4 : List Str := ["row"]
def nm4 : List Str := ["row", "k"]
def ps5 : List Str := ["thing"]
def nm5 : List Str := ["thing", "own"]
def ps6 : List Str := ["thing", "many"]
def nm6 : List Str := ["thing", "many", "own"]
def ps7 : List Str := ["thing", "many"]
def nm7 : List Str := ["thing", "many"]
def ps8 : List Str := ["row"]
def nm8 : List Str := ["row", "last"]
def ps9 : List Str := ["one", "other", "often"]
def nm9 : List Str := ["one", "other", "often", "wide", "near", "far", "left", "right"]
def ps10 : List Str := ["line", "number"]
def nm10 : List Str := ["line", "number", "own"]
def ps11 : List Str := ["one", "other"]
def nm11 : List Str := ["one", "other", "found", "left", "near", "right", "far"]
def ps12 : List Str := ["line", "number"]
def nm12 : List Str := ["line", "number", "found", "own"]
def ps13 : List Str := ["line", "over", "under"]
def nm13 : List Str := ["line", "over", "under", "found", "power", "own"]
def ps14 : List Str := ["line"]
def nm14 : List Str := ["line", "at", "own"]
def ps15 : List Str := ["line", "other"]
def nm15 : List Str := ["line", "other", "found", "own"]
def ps16 : List Str := ["line"]
def nm16 : List Str := ["line", "found", "own"]
def ps17 : List Str := ["line"]
def nm17 : List Str := ["line", "part", "own"]
def ps18 : List Str := ["line"]
def nm18 : List Str := ["line", "own"]
def ps19 : List Str := ["one", "other"]
def nm19 : List Str := ["one", "other", "left", "lead", "far"]
def ps20 : List Str := ["one", "other"]
def nm20 : List Str := ["one", "other", "near", "far"]
def ps21 : List Str := ["one", "other"]
def nm21 : List Str := ["one", "other", "left", "found", "far", "number"]
def ps22 : List Str := ["line"]
def nm22 : List Str := ["line", "found", "often", "own", "common", "left", "more", "told"]
def ps23 : List Str := ["line", "count"]
def nm23 : List Str := ["line", "count", "degree", "found", "power", "own", "at"]
def ps24 : List Str := ["sums"]
def nm24 : List Str := ["sums", "degree", "found", "power", "own", "at"]
def ps25 : List Str := ["many", "thing"]
def nm25 : List Str := ["many", "thing"]
def ps26 : List Str := ["thing"]
def nm26 : List Str := ["thing", "tie"]
def ps27 : List Str := ["web"]
def nm27 : List Str := ["web", "own"]
def ps28 : List Str := ["one", "other"]
def nm28 : List Str := ["one", "other"]
def ps29 : List Str := ["web"]
def nm29 : List Str := ["web", "found", "one", "other", "place", "own"]
def ps30 : List Str := ["many"]
def nm30 : List Str := ["many", "one", "other"]
def ps31 : List Str := ["web"]
def nm31 : List Str := ["web", "near", "seen", "found", "place", "lot", "row", "other"]
def ps32 : List Str := ["web"]
def nm32 : List Str := ["web", "near", "found", "lot", "row", "step", "place", "other"]
def ps33 : List Str := ["many"]
def nm33 : List Str := ["many", "one", "other"]
def ps34 : List Str := ["one", "other"]
def nm34 : List Str := ["one", "other", "turned", "row", "column", "left", "right"]
def ps35 : List Str := ["one", "other", "often"]
def nm35 : List Str := ["one", "other", "often", "near", "far", "left", "right"]
def ps36 : List Str := ["table"]
def nm36 : List Str := ["table", "at", "row"]
def ps37 : List Str := ["table", "often"]
def nm37 : List Str := ["table", "often", "found", "now", "left", "row"]
def ps38 : List Str := ["table"]
def nm38 : List Str := ["table", "many", "now", "found", "count", "told", "own"]
def ps39 : List Str := ["web"]
def nm39 : List Str := ["web", "found", "one", "other", "place"]
def ps40 : List Str := ["web"]
def nm40 : List Str := ["web"]
def ps41 : List Str := ["line"]
def nm41 : List Str := ["line", "found"]
def ps42 : List Str := ["number"]
def nm42 : List Str := ["number"]
def ps43 : List Str := ["signs"]
def nm43 : List Str := ["signs", "row", "own", "at"]
def ps44 : List Str := ["row", "share"]
def nm44 : List Str := ["row", "share", "own"]
def ps45 : List Str := ["row", "side"]
def nm45 : List Str := ["row", "side", "own"]
def ps46 : List Str := ["line", "share"]
def nm46 : List Str := ["line", "share", "own", "often"]
def ps47 : List Str := ["line"]
def nm47 : List Str := ["line", "own"]
def ps48 : List Str := ["line"]
def nm48 : List Str := ["line", "bound", "found", "parts", "own", "often", "row", "piles", "low", "high", "many", "middle"]
def ps49 : List Str := ["line", "row", "number"]
def nm49 : List Str := ["line", "row", "number", "own"]
def ps50 : List Str := ["line"]
def nm50 : List Str := ["line", "found", "own"]
def ps51 : List Str := ["near", "row"]
def nm51 : List Str := ["near", "row", "own", "other"]
def ps52 : List Str := ["web", "count"]
def nm52 : List Str := ["web", "count", "found", "table", "now", "near", "lap", "row"]
def ps53 : List Str := ["one", "other"]
def nm53 : List Str := ["one", "other", "near", "far"]
def ps54 : List Str := ["one", "other"]
def nm54 : List Str := ["one", "other", "near", "far"]
def ps55 : List Str := ["one", "other"]
def nm55 : List Str := ["one", "other", "ties", "place", "left", "right"]
def ps56 : List Str := ["one", "other"]
def nm56 : List Str := ["one", "other", "ties", "left", "right", "near", "far"]
def ps57 : List Str := ["many", "ties"]
def nm57 : List Str := ["many", "ties", "one", "other"]
def ps58 : List Str := ["one", "other", "count"]
def nm58 : List Str := ["one", "other", "count", "power", "at"]
def ps59 : List Str := ["one", "other"]
def nm59 : List Str := ["one", "other", "near", "far"]
def ps60 : List Str := ["one", "other"]
def nm60 : List Str := ["one", "other", "near", "far"]
def ps61 : List Str := ["one", "other"]
def nm61 : List Str := ["one", "other", "near", "far"]
def ps62 : List Str := ["one", "other"]
def nm62 : List Str := ["one", "other", "near", "far", "ties", "place", "left", "right", "here", "there"]
def ps63 : List Str := ["one", "other"]
def nm63 : List Str := ["one", "other", "near", "far", "many", "left", "right"]
def ps64 : List Str := ["one", "other"]
def nm64 : List Str := ["one", "other", "near", "far", "many", "left", "right", "here", "there"]
def ps65 : List Str := ["one", "other"]
def nm65 : List Str := ["one", "other", "near", "far", "many", "left", "right", "line", "here", "there"]
def ps66 : List Str := ["one", "other", "count"]
def nm66 : List Str := ["one", "other", "count", "near", "far"]
def ps67 : List Str := ["one", "other", "count"]
def nm67 : List Str := ["one", "other", "count", "near", "far", "here", "there"]
def ps68 : List Str := ["many"]
def nm68 : List Str := ["many", "found", "lap"]
def ps69 : List Str := ["letters", "many"]
def nm69 : List Str := ["letters", "many", "found", "lap"]
def ps70 : List Str := ["letters", "many"]
def nm70 : List Str := ["letters", "many", "own", "found", "place", "often", "lap"]
def ps71 : List Str := ["one", "other"]
def nm71 : List Str := ["one", "other", "near", "far"]
def ps72 : List Str := ["one", "other", "left", "right"]
def nm72 : List Str := ["one", "other", "left", "right", "near", "far"]
def ps73 : List Str := ["one", "other", "start", "goal"]
def nm73 : List Str := ["one", "other", "start", "goal", "near", "far", "place", "left", "right"]
def ps74 : List Str := ["web", "start", "goal"]
def nm74 : List Str := ["web", "start", "goal", "near", "steps", "row", "step", "place", "other"]
def ps75 : List Str := ["web", "often"]
def nm75 : List Str := ["web", "often", "own", "found", "lap"]
def ps76 : List Str := ["one", "other"]
def nm76 : List Str := ["one", "other", "near", "far"]
def ps77 : List Str := ["one", "other"]
def nm77 : List Str := ["one", "other", "near", "far"]
def ps78 : List Str := ["many", "thing"]
def nm78 : List Str := ["many", "thing", "step"]
def ps79 : List Str := ["many", "steps"]
def nm79 : List Str := ["many", "steps", "own"]
def ps80 : List Str := ["many", "steps"]
def nm80 : List Str := ["many", "steps", "place", "step"]
def ps81 : List Str := ["many"]
def nm81 : List Str := ["many", "own"]
def ps82 : List Str := ["many", "part"]
def nm82 : List Str := ["many", "part", "own"]
def ps83 : List Str := ["many", "steps", "row"]
def nm83 : List Str := ["many", "steps", "row", "place", "step"]
def ps84 : List Str := ["many", "steps", "length"]
def nm84 : List Str := ["many", "steps", "length", "row", "lap", "place"]
def ps85 : List Str := ["many", "steps", "length"]
def nm85 : List Str := ["many", "steps", "length", "row", "lap", "place"]
def ps86 : List Str := ["number"]
def nm86 : List Str := ["number", "found", "left", "own"]
def ps87 : List Str := ["many", "number"]
def nm87 : List Str := ["many", "number", "part"]
def ps88 : List Str := ["many", "thing"]
def nm88 : List Str := ["many", "thing"]
def ps89 : List Str := ["many", "steps"]
def nm89 : List Str := ["many", "steps"]
def ps90 : List Str := ["web"]
def nm90 : List Str := ["web", "own", "steps"]
def ps91 : List Str := ["many", "steps"]
def nm91 : List Str := ["many", "steps"]
def ps92 : List Str := ["many", "steps", "count"]
def nm92 : List Str := ["many", "steps", "count", "own", "row", "found", "lap", "place"]
def ps93 : List Str := ["many", "steps", "length", "goal"]
def nm93 : List Str := ["many", "steps", "length", "goal", "own"]
def ps94 : List Str := ["many"]
def nm94 : List Str := ["many", "part"]
def ps95 : List Str := ["many", "steps"]
def nm95 : List Str := ["many", "steps", "own", "step", "other"]
def ps96 : List Str := ["many", "steps"]
def nm96 : List Str := ["many", "steps", "own"]
def ps97 : List Str := ["many", "parts"]
def nm97 : List Str := ["many", "parts", "own", "place", "part"]
def ps98 : List Str := ["many", "parts"]
def nm98 : List Str := ["many", "parts", "step"]
def ps99 : List Str := ["many", "number"]
def nm99 : List Str := ["many", "number"]
def ps100 : List Str := ["number"]
def nm100 : List Str := ["number"]
def ps101 : List Str := ["many", "steps", "unit"]
def nm101 : List Str := ["many", "steps", "unit", "own", "step"]
def ps102 : List Str := ["many", "one", "other"]
def nm102 : List Str := ["many", "one", "other", "near", "far", "unit", "step"]
def ps103 : List Str := ["many", "steps"]
def nm103 : List Str := ["many", "steps", "own", "found", "step"]
def ps104 : List Str := ["many", "steps"]
def nm104 : List Str := ["many", "steps", "own", "part", "step"]
def ps105 : List Str := ["many"]
def nm105 : List Str := ["many", "rows", "part", "row"]
def ps106 : List Str := ["many", "steps"]
def nm106 : List Str := ["many", "steps", "own", "step"]
def ps107 : List Str := ["script", "most_so"]
def nm107 : List Str := ["script", "most_so", "cells_so", "k", "bit_so", "at_so"]
def ps108 : List Str := ["got", "due"]
def nm108 : List Str := ["got", "due", "mine", "its"]
def ps109 : List Str := []
def nm109 : List Str := ["got", "due"]
def ps110 : List Str := []
def nm110 : List Str := ["got", "due"]
def ps111 : List Str := []
def nm111 : List Str := ["got", "due"]
def ps112 : List Str := []
def nm112 : List Str := ["got", "due"]
def ps113 : List Str := []
def nm113 : List Str := ["got", "due"]
def ps114 : List Str := []
def nm114 : List Str := ["got", "due"]
def ps115 : List Str := []
def nm115 : List Str := ["got", "due"]
def ps116 : List Str := []
def nm116 : List Str := ["got", "due"]
def ps117 : List Str := []
def nm117 : List Str := ["got", "due"]
def ps118 : List Str := []
def nm118 : List Str := ["got", "due"]
def ps119 : List Str := []
def nm119 : List Str := ["got", "due"]
def ps120 : List Str := []
def nm120 : List Str := ["got", "due"]
def ps121 : List Str := ["script"]
def nm121 : List Str := ["script"]
def fnT : FTr := (.d "is_number" ps0 (.d "is_from" ps1 (.d "tupled" ps3 (.d "is_set_below" ps7 (.d "put_in" ps15 (.d "lots_in" ps31 (.d "turns_poly" ps63 .e .e) (.d "is_of_part_lots" ps95 .e .e)) (.d "bound_in" ps47 (.d "sure_steps" ps79 .e .e) (.d "_law_rounds_c_right" ps111 .e .e))) (.d "sums_in_lines" ps23 (.d "ties_table_in" ps39 (.d "once_parts" ps71 .e .e) (.d "round_parts" ps103 .e .e)) (.d "turns_in" ps55 (.d "prime_sum_in" ps87 .e .e) (.d "_law_grids_known_b_right" ps119 .e .e)))) (.d "times" ps11 (.d "rest_in" ps19 (.d "sum_in" ps35 (.d "once_walks" ps67 .e .e) (.d "prime_sum" ps99 .e .e)) (.d "step_in" ps51 (.d "row_in" ps83 .e .e) (.d "_law_grids_so_right" ps115 .e .e))) (.d "sure_web" ps27 (.d "changes_in" ps43 (.d "power_by_turns" ps75 .e .e) (.d "_law_cells" ps107 .e .e)) (.d "by_turns" ps59 (.d "round_poly" ps91 .e .e) .e)))) (.d "are_numbers" ps5 (.d "added" ps9 (.d "plain_in" ps17 (.d "one_in" ps33 (.d "either_poly" ps65 .e .e) (.d "whole_round_roots" ps97 .e .e)) (.d "from_in" ps49 (.d "parts_of" ps81 .e .e) (.d "_law_rounds_known_b_right" ps113 .e .e))) (.d "is_tie_in" ps25 (.d "sturm_row" ps41 (.d "turns_far" ps73 .e .e) (.d "all_whole_steps" ps105 .e .e)) (.d "web_of" ps57 (.d "round_web" ps89 .e .e) (.d "law" ps121 .e .e)))) (.d "value_at" ps13 (.d "quotient_in" ps21 (.d "power_in" ps37 (.d "words_web" ps69 .e .e) (.d "times_steps" ps101 .e .e)) (.d "sure_pair" ps53 (.d "sums_in_rounds" ps85 .e .e) (.d "_law_grids_c_right" ps117 .e .e))) (.d "near_in" ps29 (.d "signs_far" ps45 (.d "product_line" ps77 .e .e) (.d "_law_rounds_so_right" ps109 .e .e)) (.d "either_way" ps61 (.d "sums_to" ps93 .e .e) .e))))) (.d "is_long" ps2 (.d "ascends" ps4 (.d "cut_line" ps8 (.d "common_number" ps16 (.d "sides_in" ps32 (.d "once_poly" ps64 .e .e) (.d "is_whole_round" ps96 .e .e)) (.d "floors_in" ps48 (.d "round_in" ps80 .e .e) (.d "_law_rounds_known_a_right" ps112 .e .e))) (.d "from_sums_in" ps24 (.d "poly_in" ps40 (.d "pair_place" ps72 .e .e) (.d "has_round_sides" ps104 .e .e)) (.d "both_in" ps56 (.d "are_steps" ps88 .e .e) (.d "_law_grids_known_c_right" ps120 .e .e)))) (.d "value_in" ps12 (.d "shared_in" ps20 (.d "trace_in" ps36 (.d "cube_web" ps68 .e .e) (.d "moebius" ps100 .e .e)) (.d "closed_in" ps52 (.d "sums_in" ps84 .e .e) (.d "_law_grids_b_right" ps116 .e .e))) (.d "tie_of" ps28 (.d "signs_at" ps44 (.d "is_turns_whole" ps76 .e .e) (.d "_law_same" ps108 .e .e)) (.d "at_once" ps60 (.d "round_walks" ps92 .e .e) .e)))) (.d "is_row_below" ps6 (.d "scaled" ps10 (.d "same_signs" ps18 (.d "product_in" ps34 (.d "turns_walks" ps66 .e .e) (.d "steps_of_parts" ps98 .e .e)) (.d "whole_in" ps50 (.d "lot_of_part" ps82 .e .e) (.d "_law_rounds_known_c_right" ps114 .e .e))) (.d "is_web_in" ps26 (.d "sign_of" ps42 (.d "steps_to" ps74 .e .e) (.d "turned_steps" ps106 .e .e)) (.d "sums_by_turns" ps58 (.d "steps_of" ps90 .e .e) .e))) (.d "slope_in" ps14 (.d "square_parts_in" ps22 (.d "poly_of_table" ps38 (.d "words_roots" ps70 .e .e) (.d "unit_to" ps102 .e .e)) (.d "sure_small" ps54 (.d "moebius_in" ps86 .e .e) (.d "_law_grids_known_a_right" ps118 .e .e))) (.d "clique_in" ps30 (.d "at_in" ps46 (.d "are_steps_in" ps78 .e .e) (.d "_law_rounds_b_right" ps110 .e .e)) (.d "first_first" ps62 (.d "part_lots" ps94 .e .e) .e))))))
def tb : TB := ⟨fnT, bltL, giL, gsL, fxL⟩
/-! ### the defs as nodes and as combinators -/
def nd0 : NBk := (bC (sRt (nAnd (nF2 fIsin (nV 0) (nTy 0)) (nOne (nNot (nF2 fIsin (nV 0) (nTy 1)))))) bN)
theorem nf0 : fd0.body = nd0.den := by kernel_rfl
def nd1 : NBk := (bC (sRt (nAnd (nCall 0 (lC (nV 0) lN)) (nOne (nCmp oGe (nV 0) (nV 1))))) bN)
theorem nf1 : fd1.body = nd1.den := by kernel_rfl
def nd2 : NBk := (bC (sRt (nAnd (nF2 fIsin (nV 0) (nTy 3)) (nOne (nCmp oEq (nF1 fLen (nV 0)) (nV 1))))) bN)
theorem nf2 : fd2.body = nd2.den := by kernel_rfl
def nd3 : NBk := (bC (sRt (nIte (tOf (nIsin2 4 3 (nV 0))) (nF1 fTup (nComp (gVn 1) (wX (nV 0)) qN (nCall 3 (lC (nV 1) lN)) [1])) (nV 0))) bN)
theorem nf3 : fd3.body = nd3.den := by kernel_rfl
def nd4 : NBk := (bC (sRt (nF1 fAll (nComp (gVn 1) (wR1 (nBin oSub (nF1 fLen (nV 0)) (nI 1))) qN (nCmp oLt (nIx (nV 0) (nV 1)) (nIx (nV 0) (nBin oAdd (nV 1) (nI 1)))) [1]))) bN)
theorem nf4 : fd4.body = nd4.den := by kernel_rfl
def nd5 : NBk := (bC (sRt (nAnd (nF2 fIsin (nV 0) (nTy 3)) (nOne (nF1 fAll (nComp (gVn 1) (wX (nV 0)) qN (nCall 0 (lC (nV 1) lN)) [1]))))) bN)
theorem nf5 : fd5.body = nd5.den := by kernel_rfl
def nd6 : NBk := (bC (sRt (nAnd (nCall 5 (lC (nV 0) lN)) (nOne (nF1 fAll (nComp (gVn 2) (wX (nV 0)) qN (nChain oLe oLt (nI 0) (nV 2) (nV 1)) [2]))))) bN)
theorem nf6 : fd6.body = nd6.den := by kernel_rfl
def nd7 : NBk := (bC (sRt (nAnd (nCall 6 (lC (nV 0) (lC (nV 1) lN))) (nOne (nCall 4 (lC (nV 0) lN))))) bN)
theorem nf7 : fd7.body = nd7.den := by kernel_rfl
def nd8 : NBk := (bC (sSt (gVn 1) (nF1 fLen (nV 0))) (bC (sW (tBl (pAnd (tCmp oGt (nV 1) (nI 0)) (pOne (tCmp oEq (nIx (nV 0) (nBin oSub (nV 1) (nI 1))) (nI 0))))) (bC (sAu iSb 1 (nI 1)) bN)) (bC (sRt (nF1 fTup (nSlH (nV 0) (nV 1)))) bN)))
theorem nf8 : fd8.body = nd8.den := by kernel_rfl
def nd9 : NBk := (bC (sSt (gVn 3) (nF2 fMax2 (nF1 fLen (nV 0)) (nF1 fLen (nV 1)))) (bC (sAlt (sP2 4 5 (nBin oAdd (nV 0) (nBin oMul (nTup (lC (nI 0) lN)) (nBin oSub (nV 3) (nF1 fLen (nV 0))))) (nBin oAdd (nV 1) (nBin oMul (nTup (lC (nI 0) lN)) (nBin oSub (nV 3) (nF1 fLen (nV 1)))))) (sSt (gTp (gC (gVn 4) rfl (gC (gVn 5) rfl gN))) (nTup (lC (nBin oAdd (nV 0) (nBin oMul (nTup (lC (nI 0) lN)) (nBin oSub (nV 3) (nF1 fLen (nV 0))))) (lC (nBin oAdd (nV 1) (nBin oMul (nTup (lC (nI 0) lN)) (nBin oSub (nV 3) (nF1 fLen (nV 1))))) lN)))) rfl) (bC (sRt (nCall 8 (lC (nComp (gTp (gC (gVn 6) rfl (gC (gVn 7) rfl gN))) (wZ2 (nV 4) (nV 5)) qN (nBin oAdd (nV 6) (nBin oMul (nV 2) (nV 7))) [6, 7]) lN))) bN)))
theorem nf9 : fd9.body = nd9.den := by kernel_rfl
def nd10 : NBk := (bC (sRt (nIte (tCmp oNe (nV 1) (nI 0)) (nF1 fTup (nComp (gVn 2) (wX (nV 0)) qN (nBin oMul (nV 1) (nV 2)) [2])) (nTup lN))) bN)
theorem nf10 : fd10.body = nd10.den := by kernel_rfl
def nd11 : NBk := (bC (sIft (tBl (pOr (tCmp oEq (nV 0) (nTup lN)) (pOne (tCmp oEq (nV 1) (nTup lN))))) (bC (sRt (nTup lN)) bN) bN) (bC (sSt (gVn 2) (nBin oMul (nLst (lC (nI 0) lN)) (nBin oSub (nBin oAdd (nF1 fLen (nV 0)) (nF1 fLen (nV 1))) (nI 1)))) (bC (sF (gTp (gC (gVn 3) rfl (gC (gVn 4) rfl gN))) (wN1 (nV 0)) (bC (sF (gTp (gC (gVn 5) rfl (gC (gVn 6) rfl gN))) (wN1 (nV 1)) (bC (sAuS iAd (nV 2) (nBin oAdd (nV 3) (nV 5)) (nBin oMul (nV 4) (nV 6))) bN)) bN)) (bC (sRt (nF1 fTup (nV 2))) bN))))
theorem nf11 : fd11.body = nd11.den := by kernel_rfl
def nd12 : NBk := (bC (sSt (gVn 2) (nI 0)) (bC (sF (gVn 3) (wX (nRev (nV 0))) (bC (sSt (gVn 2) (nBin oAdd (nBin oMul (nV 2) (nV 1)) (nV 3))) bN)) (bC (sRt (nV 2)) bN)))
theorem nf12 : fd12.body = nd12.den := by kernel_rfl
def nd13 : NBk := (bC (sAlt (sP2 3 4 (nI 0) (nI 1)) (sSt (gTp (gC (gVn 3) rfl (gC (gVn 4) rfl gN))) (nTup (lC (nI 0) (lC (nI 1) lN)))) rfl) (bC (sF (gVn 5) (wX (nRev (nV 0))) (bC (sSt (gVn 3) (nBin oAdd (nBin oMul (nV 3) (nV 1)) (nBin oMul (nV 5) (nV 4)))) (bC (sSt (gVn 4) (nBin oMul (nV 4) (nV 2))) bN))) (bC (sRt (nV 3)) bN)))
theorem nf13 : fd13.body = nd13.den := by kernel_rfl
def nd14 : NBk := (bC (sRt (nF1 fTup (nSlL (nComp (gTp (gC (gVn 1) rfl (gC (gVn 2) rfl gN))) (wN1 (nV 0)) qN (nBin oMul (nV 1) (nV 2)) [1, 2]) (nI 1)))) bN)
theorem nf14 : fd14.body = nd14.den := by kernel_rfl
def nd15 : NBk := (bC (sSt (gVn 2) (nTup lN)) (bC (sF (gVn 3) (wX (nRev (nV 0))) (bC (sSt (gVn 2) (nCall 9 (lC (nCall 11 (lC (nV 2) (lC (nV 1) lN))) (lC (nCall 8 (lC (nTup (lC (nV 3) lN)) lN)) (lC (nI 1) lN))))) bN)) (bC (sRt (nV 2)) bN)))
theorem nf15 : fd15.body = nd15.den := by kernel_rfl
def nd16 : NBk := (bC (sSt (gVn 1) (nI 0)) (bC (sF (gVn 2) (wX (nV 0)) (bC (sSt (gVn 1) (nGcd (nV 1) (nV 2))) bN)) (bC (sRt (nV 1)) bN)))
theorem nf16 : fd16.body = nd16.den := by kernel_rfl
def nd17 : NBk := (bC (sIft (tCmp oEq (nV 0) (nTup lN)) (bC (sRt (nTup lN)) bN) bN) (bC (sSt (gVn 1) (nIte (tCmp oGt (nIx (nV 0) (nNeg (nI 1))) (nI 0)) (nCall 16 (lC (nV 0) lN)) (nNeg (nCall 16 (lC (nV 0) lN))))) (bC (sRt (nF1 fTup (nComp (gVn 2) (wX (nV 0)) qN (nBin oFdiv (nV 2) (nV 1)) [2]))) bN)))
theorem nf17 : fd17.body = nd17.den := by kernel_rfl
def nd18 : NBk := (bC (sRt (nF1 fTup (nComp (gVn 1) (wX (nV 0)) qN (nBin oFdiv (nV 1) (nCall 16 (lC (nV 0) lN))) [1]))) bN)
theorem nf18 : fd18.body = nd18.den := by kernel_rfl
def nd19 : NBk := (bC (sAlt (sP2 2 3 (nV 0) (nIx (nV 1) (nNeg (nI 1)))) (sSt (gTp (gC (gVn 2) rfl (gC (gVn 3) rfl gN))) (nTup (lC (nV 0) (lC (nIx (nV 1) (nNeg (nI 1))) lN)))) rfl) (bC (sW (tCmp oGe (nF1 fLen (nV 2)) (nF1 fLen (nV 1))) (bC (sSt (gVn 4) (nBin oSub (nF1 fLen (nV 2)) (nF1 fLen (nV 1)))) (bC (sSt (gVn 2) (nCall 9 (lC (nCall 10 (lC (nV 2) (lC (nF1 fAbs (nV 3)) lN))) (lC (nBin oAdd (nBin oMul (nTup (lC (nI 0) lN)) (nV 4)) (nCall 10 (lC (nV 1) (lC (nIte (tCmp oGt (nV 3) (nI 0)) (nIx (nV 2) (nNeg (nI 1))) (nNeg (nIx (nV 2) (nNeg (nI 1))))) lN)))) (lC (nNeg (nI 1)) lN))))) bN))) (bC (sRt (nIte (tCmp oNe (nV 2) (nTup lN)) (nCall 18 (lC (nV 2) lN)) (nTup lN))) bN)))
theorem nf19 : fd19.body = nd19.den := by kernel_rfl
def nd20 : NBk := (bC (sAlt (sP2 2 3 (nCall 17 (lC (nV 0) lN)) (nCall 17 (lC (nV 1) lN))) (sSt (gTp (gC (gVn 2) rfl (gC (gVn 3) rfl gN))) (nTup (lC (nCall 17 (lC (nV 0) lN)) (lC (nCall 17 (lC (nV 1) lN)) lN)))) rfl) (bC (sW (tCmp oNe (nV 3) (nTup lN)) (bC (sAlt (sP2 2 3 (nV 3) (nCall 17 (lC (nCall 19 (lC (nV 2) (lC (nV 3) lN))) lN))) (sSt (gTp (gC (gVn 2) rfl (gC (gVn 3) rfl gN))) (nTup (lC (nV 3) (lC (nCall 17 (lC (nCall 19 (lC (nV 2) (lC (nV 3) lN))) lN)) lN)))) rfl) bN)) (bC (sRt (nV 2)) bN)))
theorem nf20 : fd20.body = nd20.den := by kernel_rfl
def nd21 : NBk := (bC (sAlt (sP2 2 3 (nV 0) (nBin oMul (nLst (lC (nI 0) lN)) (nF2 fMax2 (nI 0) (nBin oAdd (nBin oSub (nF1 fLen (nV 0)) (nF1 fLen (nV 1))) (nI 1))))) (sSt (gTp (gC (gVn 2) rfl (gC (gVn 3) rfl gN))) (nTup (lC (nV 0) (lC (nBin oMul (nLst (lC (nI 0) lN)) (nF2 fMax2 (nI 0) (nBin oAdd (nBin oSub (nF1 fLen (nV 0)) (nF1 fLen (nV 1))) (nI 1)))) lN)))) rfl) (bC (sW (tBl (pAnd (tCmp oGe (nF1 fLen (nV 2)) (nF1 fLen (nV 1))) (pOne (tCmp oNe (nV 2) (nTup lN))))) (bC (sIft (tCmp oNe (nBin oMod (nIx (nV 2) (nNeg (nI 1))) (nIx (nV 1) (nNeg (nI 1)))) (nI 0)) (bC (sRt nN) bN) bN) (bC (sAlt (sP2 4 5 (nBin oSub (nF1 fLen (nV 2)) (nF1 fLen (nV 1))) (nBin oFdiv (nIx (nV 2) (nNeg (nI 1))) (nIx (nV 1) (nNeg (nI 1))))) (sSt (gTp (gC (gVn 4) rfl (gC (gVn 5) rfl gN))) (nTup (lC (nBin oSub (nF1 fLen (nV 2)) (nF1 fLen (nV 1))) (lC (nBin oFdiv (nIx (nV 2) (nNeg (nI 1))) (nIx (nV 1) (nNeg (nI 1)))) lN)))) rfl) (bC (sSt (gSb (nV 3) (nV 4)) (nV 5)) (bC (sSt (gVn 2) (nCall 9 (lC (nV 2) (lC (nBin oAdd (nBin oMul (nTup (lC (nI 0) lN)) (nV 4)) (nCall 10 (lC (nV 1) (lC (nV 5) lN)))) (lC (nNeg (nI 1)) lN))))) bN))))) (bC (sRt (nIte (tCmp oEq (nV 2) (nTup lN)) (nCall 8 (lC (nV 3) lN)) nN)) bN)))
theorem nf21 : fd21.body = nd21.den := by kernel_rfl
def nd22 : NBk := (bC (sAlt (sP2 1 2 (nLst lN) (nI 1)) (sSt (gTp (gC (gVn 1) rfl (gC (gVn 2) rfl gN))) (nTup (lC (nLst lN) (lC (nI 1) lN)))) rfl) (bC (sSt (gVn 3) (nCall 17 (lC (nV 0) lN))) (bC (sSt (gVn 4) (nCall 20 (lC (nV 3) (lC (nCall 14 (lC (nV 3) lN)) lN)))) (bC (sSt (gVn 5) (nCall 21 (lC (nV 3) (lC (nV 4) lN)))) (bC (sW (tCmp oGt (nF1 fLen (nV 5)) (nI 1)) (bC (sSt (gVn 6) (nCall 20 (lC (nV 5) (lC (nV 4) lN)))) (bC (sSt (gVn 7) (nCall 21 (lC (nV 5) (lC (nV 6) lN)))) (bC (sIft (tCmp oGt (nF1 fLen (nV 7)) (nI 1)) (bC (sE (nMl mApp (nV 1) (nTup (lC (nV 7) (lC (nV 2) lN))))) bN) bN) (bC (sAlt (sP3 5 4 2 (nV 6) (nCall 21 (lC (nV 4) (lC (nV 6) lN))) (nBin oAdd (nV 2) (nI 1))) (sSt (gTp (gC (gVn 5) rfl (gC (gVn 4) rfl (gC (gVn 2) rfl gN)))) (nTup (lC (nV 6) (lC (nCall 21 (lC (nV 4) (lC (nV 6) lN))) (lC (nBin oAdd (nV 2) (nI 1)) lN))))) rfl) bN))))) (bC (sRt (nV 1)) bN))))))
theorem nf22 : fd22.body = nd22.den := by kernel_rfl
def nd23 : NBk := (bC (sAlt (sP2 2 3 (nBin oSub (nF1 fLen (nV 0)) (nI 1)) (nLst (lC (nBin oSub (nF1 fLen (nV 0)) (nI 1)) lN))) (sSt (gTp (gC (gVn 2) rfl (gC (gVn 3) rfl gN))) (nTup (lC (nBin oSub (nF1 fLen (nV 0)) (nI 1)) (lC (nLst (lC (nBin oSub (nF1 fLen (nV 0)) (nI 1)) lN)) lN)))) rfl) (bC (sF (gVn 4) (wR2 (nI 1) (nV 1)) (bC (sSt (gVn 5) (nIte (tCmp oLe (nV 4) (nV 2)) (nBin oMul (nNeg (nV 4)) (nIx (nV 0) (nBin oSub (nV 2) (nV 4)))) (nI 0))) (bC (sF (gVn 6) (wR2 (nI 1) (nBin oAdd (nF2 fMin2 (nBin oSub (nV 4) (nI 1)) (nV 2)) (nI 1))) (bC (sAu iSb 5 (nBin oMul (nIx (nV 0) (nBin oSub (nV 2) (nV 6))) (nIx (nV 3) (nBin oSub (nV 4) (nV 6))))) bN)) (bC (sE (nMl mApp (nV 3) (nV 5))) bN)))) (bC (sRt (nSlH (nV 3) (nV 1))) bN)))
theorem nf23 : fd23.body = nd23.den := by kernel_rfl
def nd24 : NBk := (bC (sAlt (sP2 1 2 (nIx (nV 0) (nI 0)) (nLst (lC (nI 1) lN))) (sSt (gTp (gC (gVn 1) rfl (gC (gVn 2) rfl gN))) (nTup (lC (nIx (nV 0) (nI 0)) (lC (nLst (lC (nI 1) lN)) lN)))) rfl) (bC (sF (gVn 3) (wR2 (nI 1) (nBin oAdd (nV 1) (nI 1))) (bC (sSt (gVn 4) (nI 0)) (bC (sF (gVn 5) (wR2 (nI 1) (nBin oAdd (nV 3) (nI 1))) (bC (sAu iSb 4 (nBin oMul (nIx (nV 2) (nBin oSub (nV 3) (nV 5))) (nIx (nV 0) (nV 5)))) bN)) (bC (sIft (tCmp oNe (nBin oMod (nV 4) (nV 3)) (nI 0)) (bC (sRt nN) bN) bN) (bC (sE (nMl mApp (nV 2) (nBin oFdiv (nV 4) (nV 3)))) bN))))) (bC (sRt (nF1 fTup (nRev (nV 2)))) bN)))
theorem nf24 : fd24.body = nd24.den := by kernel_rfl
def nd25 : NBk := (bC (sRt (nAnd (nCall 2 (lC (nV 1) (lC (nI 2) lN))) (nOne (nCall 7 (lC (nV 1) (lC (nV 0) lN)))))) bN)
theorem nf25 : fd25.body = nd25.den := by kernel_rfl
def nd26 : NBk := (bC (sIft (tBl (pOr (tNot (tOf (nCall 2 (lC (nV 0) (lC (nI 2) lN))))) (pOr (tNot (tOf (nCall 1 (lC (nIx (nV 0) (nI 0)) (lC (nI 0) lN))))) (pOne (tCmp oGt (nIx (nV 0) (nI 0)) (nKi 40)))))) (bC (sRt (nBl false)) bN) bN) (bC (sRt (nAnd (nF2 fIsin (nIx (nV 0) (nI 1)) (nTy 3)) (nAnd (nF1 fAll (nComp (gVn 1) (wX (nIx (nV 0) (nI 1))) qN (nCall 25 (lC (nIx (nV 0) (nI 0)) (lC (nV 1) lN))) [1])) (nOne (nCall 4 (lC (nIx (nV 0) (nI 1)) lN)))))) bN))
theorem nf26 : fd26.body = nd26.den := by kernel_rfl
def nd27 : NBk := (bC (sSt (gVn 1) (nCall 3 (lC (nV 0) lN))) (bC (sIft (tNot (tOf (nCall 26 (lC (nV 1) lN)))) (bC sX bN) bN) (bC (sRt (nV 1)) bN)))
theorem nf27 : fd27.body = nd27.den := by kernel_rfl
def nd28 : NBk := (bC (sRt (nIte (tCmp oLt (nV 0) (nV 1)) (nTup (lC (nV 0) (lC (nV 1) lN))) (nTup (lC (nV 1) (lC (nV 0) lN))))) bN)
theorem nf28 : fd28.body = nd28.den := by kernel_rfl
def nd29 : NBk := (bC (sAlt (sLc 1 (gVn 4) (wR1 (nIx (nV 0) (nI 0))) qN (nLst lN) [4]) (sSt (gVn 1) (nComp (gVn 4) (wR1 (nIx (nV 0) (nI 0))) qN (nLst lN) [4])) rfl) (bC (sF (gTp (gC (gVn 2) rfl (gC (gVn 3) rfl gN))) (wX (nIx (nV 0) (nI 1))) (bC (sE (nMl mApp (nIx (nV 1) (nV 2)) (nV 3))) (bC (sE (nMl mApp (nIx (nV 1) (nV 3)) (nV 2))) bN))) (bC (sRt (nComp (gVn 5) (wX (nV 1)) qN (nF1 fSortedZ (nV 5)) [5])) bN)))
theorem nf29 : fd29.body = nd29.den := by kernel_rfl
def nd30 : NBk := (bC (sRt (nTup (lC (nV 0) (lC (nF1 fTup (nComp2 (gVn 1) (wR1 (nV 0)) qN (gVn 2) (wR2 (nBin oAdd (nV 1) (nI 1)) (nV 0)) qN (nTup (lC (nV 1) (lC (nV 2) lN))) [2] [1, 2])) lN)))) bN)
theorem nf30 : fd30.body = nd30.den := by kernel_rfl
def nd31 : NBk := (bC (sAlt (sP3 1 2 3 (nCall 29 (lC (nV 0) lN)) nDic0 (nLst lN)) (sSt (gTp (gC (gVn 1) rfl (gC (gVn 2) rfl (gC (gVn 3) rfl gN)))) (nTup (lC (nCall 29 (lC (nV 0) lN)) (lC nDic0 (lC (nLst lN) lN))))) rfl) (bC (sF (gVn 4) (wR1 (nIx (nV 0) (nI 0))) (bC (sIft (tCmp oIn (nV 4) (nV 2)) (bC sCt bN) bN) (bC (sAlt (sP2 5 6 (nLst (lC (nV 4) lN)) (nLst (lC (nV 4) lN))) (sSt (gTp (gC (gVn 5) rfl (gC (gVn 6) rfl gN))) (nTup (lC (nLst (lC (nV 4) lN)) (lC (nLst (lC (nV 4) lN)) lN)))) rfl) (bC (sSt (gSb (nV 2) (nV 4)) (nBl true)) (bC (sW (tCmp oNe (nV 6) (nLst lN)) (bC (sF (gVn 7) (wX (nIx (nV 1) (nPop (nV 6)))) (bC (sIft (tCmp oNin (nV 7) (nV 2)) (bC (sSt (gSb (nV 2) (nV 7)) (nBl true)) (bC (sE (nMl mApp (nV 5) (nV 7))) (bC (sE (nMl mApp (nV 6) (nV 7))) bN))) bN) bN)) bN)) (bC (sE (nMl mApp (nV 3) (nF1 fTup (nF1 fSortedZ (nV 5))))) bN)))))) (bC (sRt (nV 3)) bN)))
theorem nf31 : fd31.body = nd31.den := by kernel_rfl
def nd32 : NBk := (bC (sAlt (sP2 1 2 (nCall 29 (lC (nV 0) lN)) (nBin oMul (nLst (lC nN lN)) (nIx (nV 0) (nI 0)))) (sSt (gTp (gC (gVn 1) rfl (gC (gVn 2) rfl gN))) (nTup (lC (nCall 29 (lC (nV 0) lN)) (lC (nBin oMul (nLst (lC nN lN)) (nIx (nV 0) (nI 0))) lN)))) rfl) (bC (sF (gVn 3) (wX (nCall 31 (lC (nV 0) lN))) (bC (sSt (gSb (nV 2) (nIx (nV 3) (nI 0))) (nI 0)) (bC (sSt (gVn 4) (nLst (lC (nIx (nV 3) (nI 0)) lN))) (bC (sSt (gVn 5) (nI 0)) (bC (sW (tCmp oLt (nV 5) (nF1 fLen (nV 4))) (bC (sSt (gVn 6) (nIx (nV 4) (nV 5))) (bC (sAu iAd 5 (nI 1)) (bC (sF (gVn 7) (wX (nIx (nV 1) (nV 6))) (bC (sIft (tIs (nIx (nV 2) (nV 7))) (bC (sSt (gSb (nV 2) (nV 7)) (nBin oSub (nI 1) (nIx (nV 2) (nV 6)))) (bC (sE (nMl mApp (nV 4) (nV 7))) bN)) (bC (sIft (tCmp oEq (nIx (nV 2) (nV 7)) (nIx (nV 2) (nV 6))) (bC (sRt nN) bN) bN) bN)) bN)) bN)))) bN))))) (bC (sRt (nF1 fTup (nV 2))) bN)))
theorem nf32 : fd32.body = nd32.den := by kernel_rfl
def nd33 : NBk := (bC (sRt (nComp (gVn 1) (wR1 (nV 0)) qN (nComp (gVn 2) (wR1 (nV 0)) qN (nIte (tCmp oEq (nV 1) (nV 2)) (nI 1) (nI 0)) [2]) [1])) bN)
theorem nf33 : fd33.body = nd33.den := by kernel_rfl
def nd34 : NBk := (bC (sSt (gVn 2) (nListZ (nV 1))) (bC (sRt (nComp (gVn 3) (wX (nV 0)) qN (nComp (gVn 4) (wX (nV 2)) qN (nF1 fSum (nComp (gTp (gC (gVn 5) rfl (gC (gVn 6) rfl gN))) (wZ2 (nV 3) (nV 4)) qN (nBin oMul (nV 5) (nV 6)) [5, 6])) [4]) [3])) bN))
theorem nf34 : fd34.body = nd34.den := by kernel_rfl
def nd35 : NBk := (bC (sRt (nComp (gTp (gC (gVn 3) rfl (gC (gVn 4) rfl gN))) (wZ2 (nV 0) (nV 1)) qN (nComp (gTp (gC (gVn 5) rfl (gC (gVn 6) rfl gN))) (wZ2 (nV 3) (nV 4)) qN (nBin oAdd (nV 5) (nBin oMul (nV 2) (nV 6))) [5, 6]) [3, 4])) bN)
theorem nf35 : fd35.body = nd35.den := by kernel_rfl
def nd36 : NBk := (bC (sRt (nF1 fSum (nComp (gTp (gC (gVn 1) rfl (gC (gVn 2) rfl gN))) (wN1 (nV 0)) qN (nIx (nV 2) (nV 1)) [1, 2]))) bN)
theorem nf36 : fd36.body = nd36.den := by kernel_rfl
def nd37 : NBk := (bC (sAlt (sP3 2 3 4 (nCall 33 (lC (nF1 fLen (nV 0)) lN)) (nComp (gVn 5) (wX (nV 0)) qN (nF1 fLst (nV 5)) [5]) (nV 1)) (sSt (gTp (gC (gVn 2) rfl (gC (gVn 3) rfl (gC (gVn 4) rfl gN)))) (nTup (lC (nCall 33 (lC (nF1 fLen (nV 0)) lN)) (lC (nComp (gVn 5) (wX (nV 0)) qN (nF1 fLst (nV 5)) [5]) (lC (nV 1) lN))))) rfl) (bC (sW (tCmp oGt (nV 4) (nI 0)) (bC (sIft (tCmp oEq (nBin oMod (nV 4) (nI 2)) (nI 1)) (bC (sSt (gVn 2) (nCall 34 (lC (nV 2) (lC (nV 3) lN)))) bN) bN) (bC (sAlt (sP2 3 4 (nCall 34 (lC (nV 3) (lC (nV 3) lN))) (nBin oFdiv (nV 4) (nI 2))) (sSt (gTp (gC (gVn 3) rfl (gC (gVn 4) rfl gN))) (nTup (lC (nCall 34 (lC (nV 3) (lC (nV 3) lN))) (lC (nBin oFdiv (nV 4) (nI 2)) lN)))) rfl) bN))) (bC (sRt (nV 2)) bN)))
theorem nf37 : fd37.body = nd37.den := by kernel_rfl
def nd38 : NBk := (bC (sAlt (sP3 1 2 3 (nF1 fLen (nV 0)) (nCall 33 (lC (nF1 fLen (nV 0)) lN)) (nLst (lC (nI 1) lN))) (sSt (gTp (gC (gVn 1) rfl (gC (gVn 2) rfl (gC (gVn 3) rfl gN)))) (nTup (lC (nF1 fLen (nV 0)) (lC (nCall 33 (lC (nF1 fLen (nV 0)) lN)) (lC (nLst (lC (nI 1) lN)) lN))))) rfl) (bC (sF (gVn 4) (wR2 (nI 1) (nBin oAdd (nV 1) (nI 1))) (bC (sSt (gVn 5) (nCall 34 (lC (nV 0) (lC (nV 2) lN)))) (bC (sSt (gVn 6) (nBin oFdiv (nNeg (nCall 36 (lC (nV 5) lN))) (nV 4))) (bC (sE (nMl mApp (nV 3) (nV 6))) (bC (sSt (gVn 2) (nCall 35 (lC (nV 5) (lC (nCall 33 (lC (nV 1) lN)) (lC (nV 6) lN))))) bN))))) (bC (sRt (nF1 fTup (nRev (nV 3)))) bN)))
theorem nf38 : fd38.body = nd38.den := by kernel_rfl
def nd39 : NBk := (bC (sAlt (sLc 1 (gVn 4) (wR1 (nIx (nV 0) (nI 0))) qN (nBin oMul (nLst (lC (nI 0) lN)) (nIx (nV 0) (nI 0))) [4]) (sSt (gVn 1) (nComp (gVn 4) (wR1 (nIx (nV 0) (nI 0))) qN (nBin oMul (nLst (lC (nI 0) lN)) (nIx (nV 0) (nI 0))) [4])) rfl) (bC (sF (gTp (gC (gVn 2) rfl (gC (gVn 3) rfl gN))) (wX (nIx (nV 0) (nI 1))) (bC (sSt2 (gSb (nIx (nV 1) (nV 2)) (nV 3)) (gSb (nIx (nV 1) (nV 3)) (nV 2)) (nI 1)) bN)) (bC (sRt (nV 1)) bN)))
theorem nf39 : fd39.body = nd39.den := by kernel_rfl
def nd40 : NBk := (bC (sRt (nCall 38 (lC (nCall 39 (lC (nV 0) lN)) lN))) bN)
theorem nf40 : fd40.body = nd40.den := by kernel_rfl
def nd41 : NBk := (bC (sSt (gVn 1) (nLst (lC (nV 0) (lC (nCall 14 (lC (nV 0) lN)) lN)))) (bC (sW (tCmp oNe (nIx (nV 1) (nNeg (nI 1))) (nTup lN)) (bC (sE (nMl mApp (nV 1) (nCall 10 (lC (nCall 19 (lC (nIx (nV 1) (nNeg (nI 2))) (lC (nIx (nV 1) (nNeg (nI 1))) lN))) (lC (nNeg (nI 1)) lN))))) bN)) (bC (sRt (nSlH (nV 1) (nNeg (nI 1)))) bN)))
theorem nf41 : fd41.body = nd41.den := by kernel_rfl
def nd42 : NBk := (bC (sRt (nBin oSub (nIte (tCmp oGt (nV 0) (nI 0)) (nI 1) (nI 0)) (nIte (tCmp oLt (nV 0) (nI 0)) (nI 1) (nI 0)))) bN)
theorem nf42 : fd42.body = nd42.den := by kernel_rfl
def nd43 : NBk := (bC (sAlt (sLc 1 (gVn 2) (wX (nV 0)) (qO (tCmp oNe (nV 2) (nI 0))) (nV 2) [2]) (sSt (gVn 1) (nComp (gVn 2) (wX (nV 0)) (qO (tCmp oNe (nV 2) (nI 0))) (nV 2) [2])) rfl) (bC (sRt (nF1 fLen (nComp (gVn 3) (wR2 (nI 1) (nF1 fLen (nV 1))) (qO (tCmp oNe (nIx (nV 1) (nV 3)) (nIx (nV 1) (nBin oSub (nV 3) (nI 1))))) (nI 1) [3]))) bN))
theorem nf43 : fd43.body = nd43.den := by kernel_rfl
def nd44 : NBk := (bC (sRt (nComp (gVn 2) (wX (nV 0)) qN (nCall 42 (lC (nCall 13 (lC (nV 2) (lC (nIx (nV 1) (nI 0)) (lC (nIx (nV 1) (nI 1)) lN)))) lN)) [2])) bN)
theorem nf44 : fd44.body = nd44.den := by kernel_rfl
def nd45 : NBk := (bC (sRt (nComp (gVn 2) (wX (nV 0)) qN (nBin oMul (nCall 42 (lC (nIx (nV 2) (nNeg (nI 1))) lN)) (nIte (tCmp oEq (nBin oMod (nBin oSub (nF1 fLen (nV 2)) (nI 1)) (nI 2)) (nI 1)) (nV 1) (nI 1))) [2])) bN)
theorem nf45 : fd45.body = nd45.den := by kernel_rfl
def nd46 : NBk := (bC (sRt (nF1 fSum (nComp (gTp (gC (gVn 2) rfl (gC (gVn 3) rfl gN))) (wX (nCall 22 (lC (nV 0) lN))) (qO (tCmp oEq (nCall 13 (lC (nV 2) (lC (nIx (nV 1) (nI 0)) (lC (nIx (nV 1) (nI 1)) lN)))) (nI 0))) (nV 3) [2, 3]))) bN)
theorem nf46 : fd46.body = nd46.den := by kernel_rfl
def nd47 : NBk := (bC (sRt (nBin oAdd (nI 2) (nBin oFdiv (nF1 fMaxY (nComp (gVn 1) (wX (nV 0)) qN (nF1 fAbs (nV 1)) [1])) (nF1 fAbs (nIx (nV 0) (nNeg (nI 1))))))) bN)
theorem nf47 : fd47.body = nd47.den := by kernel_rfl
def nd48 : NBk := (bC (sAlt (sP2 1 2 (nCall 47 (lC (nV 0) lN)) (nLst lN)) (sSt (gTp (gC (gVn 1) rfl (gC (gVn 2) rfl gN))) (nTup (lC (nCall 47 (lC (nV 0) lN)) (lC (nLst lN) lN)))) rfl) (bC (sAlt (sLc 3 (gTp (gC (gVn 4) rfl (gC (gVn 5) rfl gN))) (wX (nCall 22 (lC (nV 0) lN))) qN (nTup (lC (nV 4) (lC (nV 5) (lC (nCall 41 (lC (nV 4) lN)) lN)))) [4, 5]) (sSt (gVn 3) (nComp (gTp (gC (gVn 4) rfl (gC (gVn 5) rfl gN))) (wX (nCall 22 (lC (nV 0) lN))) qN (nTup (lC (nV 4) (lC (nV 5) (lC (nCall 41 (lC (nV 4) lN)) lN)))) [4, 5])) rfl) (bC (sF (gTp (gC (gVn 4) rfl (gC (gVn 5) rfl (gC (gVn 6) rfl gN)))) (wX (nV 3)) (bC (sSt (gVn 7) (nLst (lC (nTup (lC (nNeg (nV 1)) (lC (nV 1) lN))) lN))) (bC (sW (tCmp oNe (nV 7) (nLst lN)) (bC (sSt (gTp (gC (gVn 8) rfl (gC (gVn 9) rfl gN))) (nPop (nV 7))) (bC (sSt (gVn 10) (nBin oSub (nCall 49 (lC (nV 4) (lC (nV 6) (lC (nV 8) lN)))) (nCall 49 (lC (nV 4) (lC (nV 6) (lC (nV 9) lN)))))) (bC (sIft (tBl (pAnd (tCmp oGt (nV 10) (nI 0)) (pOne (tCmp oEq (nBin oSub (nV 9) (nV 8)) (nI 1))))) (bC (sE (nMl mExt (nV 2) (nBin oMul (nLst (lC (nV 8) lN)) (nBin oMul (nV 5) (nV 10))))) bN) (bC (sIft (tCmp oGt (nV 10) (nI 0)) (bC (sSt (gVn 11) (nBin oFdiv (nBin oAdd (nV 8) (nV 9)) (nI 2))) (bC (sE (nMl mExt (nV 7) (nLst (lC (nTup (lC (nV 8) (lC (nV 11) lN))) (lC (nTup (lC (nV 11) (lC (nV 9) lN))) lN))))) bN)) bN) bN)) bN)))) bN))) (bC (sRt (nF1 fSortedZ (nV 2))) bN))))
theorem nf48 : fd48.body = nd48.den := by kernel_rfl
def nd49 : NBk := (bC (sSt (gVn 3) (nBin oSub (nCall 43 (lC (nCall 44 (lC (nV 1) (lC (nTup (lC (nV 2) (lC (nI 1) lN))) lN))) lN)) (nCall 43 (lC (nCall 45 (lC (nV 1) (lC (nI 1) lN))) lN)))) (bC (sRt (nBin oAdd (nV 3) (nIte (tCmp oEq (nCall 12 (lC (nV 0) (lC (nV 2) lN))) (nI 0)) (nI 1) (nI 0)))) bN))
theorem nf49 : fd49.body = nd49.den := by kernel_rfl
def nd50 : NBk := (bC (sSt (gVn 1) (nLst lN)) (bC (sF (gVn 2) (wX (nSortSetX (nCall 48 (lC (nV 0) lN)))) (bC (sE (nMl mExt (nV 1) (nBin oMul (nLst (lC (nV 2) lN)) (nCall 46 (lC (nV 0) (lC (nTup (lC (nV 2) (lC (nI 1) lN))) lN)))))) bN)) (bC (sRt (nV 1)) bN)))
theorem nf50 : fd50.body = nd50.den := by kernel_rfl
def nd51 : NBk := (bC (sRt (nComp (gVn 2) (wX (nV 0)) qN (nF1 fSum (nComp (gVn 3) (wX (nV 2)) qN (nIx (nV 1) (nV 3)) [3])) [2])) bN)
theorem nf51 : fd51.body = nd51.den := by kernel_rfl
def nd52 : NBk := (bC (sAlt (sP3 2 3 4 (nLst lN) (nCall 39 (lC (nV 0) lN)) (nCall 37 (lC (nCall 39 (lC (nV 0) lN)) (lC (nI 0) lN)))) (sSt (gTp (gC (gVn 2) rfl (gC (gVn 3) rfl (gC (gVn 4) rfl gN)))) (nTup (lC (nLst lN) (lC (nCall 39 (lC (nV 0) lN)) (lC (nCall 37 (lC (nCall 39 (lC (nV 0) lN)) (lC (nI 0) lN))) lN))))) rfl) (bC (sSt (gVn 5) (nCall 29 (lC (nV 0) lN))) (bC (sF (gVn 6) (wR1 (nV 1)) (bC (sE (nMl mApp (nV 2) (nCall 36 (lC (nV 4) lN)))) (bC (sAlt (sLc 4 (gVn 7) (wX (nV 4)) qN (nCall 51 (lC (nV 5) (lC (nV 7) lN))) [7]) (sSt (gVn 4) (nComp (gVn 7) (wX (nV 4)) qN (nCall 51 (lC (nV 5) (lC (nV 7) lN))) [7])) rfl) bN))) (bC (sRt (nIte (tCmp oNe (nV 3) (nLst lN)) (nV 2) (nBin oMul (nLst (lC (nI 0) lN)) (nV 1)))) bN))))
theorem nf52 : fd52.body = nd52.den := by kernel_rfl
def nd53 : NBk := (bC (sAlt (sP2 2 3 (nCall 27 (lC (nV 0) lN)) (nCall 27 (lC (nV 1) lN))) (sSt (gTp (gC (gVn 2) rfl (gC (gVn 3) rfl gN))) (nTup (lC (nCall 27 (lC (nV 0) lN)) (lC (nCall 27 (lC (nV 1) lN)) lN)))) rfl) (bC (sIft (tCmp oGt (nBin oMul (nIx (nV 2) (nI 0)) (nIx (nV 3) (nI 0))) (nKi 40)) (bC sX bN) bN) (bC (sRt (nTup (lC (nV 2) (lC (nV 3) lN)))) bN)))
theorem nf53 : fd53.body = nd53.den := by kernel_rfl
def nd54 : NBk := (bC (sAlt (sP2 2 3 (nCall 27 (lC (nV 0) lN)) (nCall 27 (lC (nV 1) lN))) (sSt (gTp (gC (gVn 2) rfl (gC (gVn 3) rfl gN))) (nTup (lC (nCall 27 (lC (nV 0) lN)) (lC (nCall 27 (lC (nV 1) lN)) lN)))) rfl) (bC (sIft (tCmp oGt (nBin oMul (nIx (nV 2) (nI 0)) (nIx (nV 3) (nI 0))) (nKi 20)) (bC sX bN) bN) (bC (sRt (nTup (lC (nV 2) (lC (nV 3) lN)))) bN)))
theorem nf54 : fd54.body = nd54.den := by kernel_rfl
def nd55 : NBk := (bC (sSt (gVn 2) (nLst lN)) (bC (sF (gVn 3) (wR1 (nIx (nV 0) (nI 0))) (bC (sE (nMl mExt (nV 2) (nComp (gTp (gC (gVn 4) rfl (gC (gVn 5) rfl gN))) (wX (nIx (nV 1) (nI 1))) qN (nTup (lC (nBin oAdd (nBin oMul (nV 3) (nIx (nV 1) (nI 0))) (nV 4)) (lC (nBin oAdd (nBin oMul (nV 3) (nIx (nV 1) (nI 0))) (nV 5)) lN))) [4, 5]))) bN)) (bC (sF (gTp (gC (gVn 4) rfl (gC (gVn 5) rfl gN))) (wX (nIx (nV 0) (nI 1))) (bC (sE (nMl mExt (nV 2) (nComp (gVn 3) (wR1 (nIx (nV 1) (nI 0))) qN (nTup (lC (nBin oAdd (nBin oMul (nV 4) (nIx (nV 1) (nI 0))) (nV 3)) (lC (nBin oAdd (nBin oMul (nV 5) (nIx (nV 1) (nI 0))) (nV 3)) lN))) [3]))) bN)) (bC (sRt (nV 2)) bN))))
theorem nf55 : fd55.body = nd55.den := by kernel_rfl
def nd56 : NBk := (bC (sSt (gVn 2) (nLst lN)) (bC (sF (gTp (gC (gVn 3) rfl (gC (gVn 4) rfl gN))) (wX (nIx (nV 0) (nI 1))) (bC (sF (gTp (gC (gVn 5) rfl (gC (gVn 6) rfl gN))) (wX (nIx (nV 1) (nI 1))) (bC (sE (nMl mApp (nV 2) (nTup (lC (nBin oAdd (nBin oMul (nV 3) (nIx (nV 1) (nI 0))) (nV 5)) (lC (nBin oAdd (nBin oMul (nV 4) (nIx (nV 1) (nI 0))) (nV 6)) lN))))) (bC (sE (nMl mApp (nV 2) (nTup (lC (nBin oAdd (nBin oMul (nV 3) (nIx (nV 1) (nI 0))) (nV 6)) (lC (nBin oAdd (nBin oMul (nV 4) (nIx (nV 1) (nI 0))) (nV 5)) lN))))) bN))) bN)) (bC (sRt (nV 2)) bN)))
theorem nf56 : fd56.body = nd56.den := by kernel_rfl
def nd57 : NBk := (bC (sRt (nTup (lC (nV 0) (lC (nF1 fTup (nSortSetX (nComp (gTp (gC (gVn 2) rfl (gC (gVn 3) rfl gN))) (wX (nV 1)) qN (nCall 28 (lC (nV 2) (lC (nV 3) lN))) [2, 3]))) lN)))) bN)
theorem nf57 : fd57.body = nd57.den := by kernel_rfl
def nd58 : NBk := (bC (sRt (nComp (gVn 3) (wR1 (nV 2)) qN (nF1 fSum (nComp (gVn 4) (wR1 (nBin oAdd (nV 3) (nI 1))) qN (nBin oMul (nBin oMul (nComb (nV 3) (nV 4)) (nIx (nV 0) (nV 4))) (nIx (nV 1) (nBin oSub (nV 3) (nV 4)))) [4])) [3])) bN)
theorem nf58 : fd58.body = nd58.den := by kernel_rfl
def nd59 : NBk := (bC (sSt (gTp (gC (gVn 2) rfl (gC (gVn 3) rfl gN))) (nCall 53 (lC (nV 0) (lC (nV 1) lN)))) (bC (sRt (nCall 57 (lC (nBin oMul (nIx (nV 2) (nI 0)) (nIx (nV 3) (nI 0))) (lC (nCall 55 (lC (nV 2) (lC (nV 3) lN))) lN)))) bN))
theorem nf59 : fd59.body = nd59.den := by kernel_rfl
def nd60 : NBk := (bC (sSt (gTp (gC (gVn 2) rfl (gC (gVn 3) rfl gN))) (nCall 53 (lC (nV 0) (lC (nV 1) lN)))) (bC (sRt (nCall 57 (lC (nBin oMul (nIx (nV 2) (nI 0)) (nIx (nV 3) (nI 0))) (lC (nCall 56 (lC (nV 2) (lC (nV 3) lN))) lN)))) bN))
theorem nf60 : fd60.body = nd60.den := by kernel_rfl
def nd61 : NBk := (bC (sSt (gTp (gC (gVn 2) rfl (gC (gVn 3) rfl gN))) (nCall 53 (lC (nV 0) (lC (nV 1) lN)))) (bC (sRt (nCall 57 (lC (nBin oMul (nIx (nV 2) (nI 0)) (nIx (nV 3) (nI 0))) (lC (nBin oAdd (nCall 55 (lC (nV 2) (lC (nV 3) lN))) (nCall 56 (lC (nV 2) (lC (nV 3) lN)))) lN)))) bN))
theorem nf61 : fd61.body = nd61.den := by kernel_rfl
def nd62 : NBk := (bC (sSt (gTp (gC (gVn 2) rfl (gC (gVn 3) rfl gN))) (nCall 53 (lC (nV 0) (lC (nV 1) lN)))) (bC (sSt (gVn 4) (nLst lN)) (bC (sF (gVn 5) (wR1 (nIx (nV 2) (nI 0))) (bC (sE (nMl mExt (nV 4) (nComp (gTp (gC (gVn 6) rfl (gC (gVn 7) rfl gN))) (wX (nIx (nV 3) (nI 1))) qN (nTup (lC (nBin oAdd (nBin oMul (nV 5) (nIx (nV 3) (nI 0))) (nV 6)) (lC (nBin oAdd (nBin oMul (nV 5) (nIx (nV 3) (nI 0))) (nV 7)) lN))) [6, 7]))) bN)) (bC (sF (gTp (gC (gVn 6) rfl (gC (gVn 7) rfl gN))) (wX (nIx (nV 2) (nI 1))) (bC (sF (gVn 8) (wR1 (nIx (nV 3) (nI 0))) (bC (sE (nMl mExt (nV 4) (nComp (gVn 9) (wR1 (nIx (nV 3) (nI 0))) qN (nTup (lC (nBin oAdd (nBin oMul (nV 6) (nIx (nV 3) (nI 0))) (nV 8)) (lC (nBin oAdd (nBin oMul (nV 7) (nIx (nV 3) (nI 0))) (nV 9)) lN))) [9]))) bN)) bN)) (bC (sRt (nCall 57 (lC (nBin oMul (nIx (nV 2) (nI 0)) (nIx (nV 3) (nI 0))) (lC (nV 4) lN)))) bN)))))
theorem nf62 : fd62.body = nd62.den := by kernel_rfl
def nd63 : NBk := (bC (sSt (gTp (gC (gVn 2) rfl (gC (gVn 3) rfl gN))) (nCall 54 (lC (nV 0) (lC (nV 1) lN)))) (bC (sSt (gVn 4) (nBin oMul (nIx (nV 2) (nI 0)) (nIx (nV 3) (nI 0)))) (bC (sAlt (sP2 5 6 (nCall 23 (lC (nCall 40 (lC (nV 2) lN)) (lC (nBin oAdd (nV 4) (nI 1)) lN))) (nCall 23 (lC (nCall 40 (lC (nV 3) lN)) (lC (nBin oAdd (nV 4) (nI 1)) lN)))) (sSt (gTp (gC (gVn 5) rfl (gC (gVn 6) rfl gN))) (nTup (lC (nCall 23 (lC (nCall 40 (lC (nV 2) lN)) (lC (nBin oAdd (nV 4) (nI 1)) lN))) (lC (nCall 23 (lC (nCall 40 (lC (nV 3) lN)) (lC (nBin oAdd (nV 4) (nI 1)) lN))) lN)))) rfl) (bC (sRt (nCall 24 (lC (nCall 58 (lC (nV 5) (lC (nV 6) (lC (nBin oAdd (nV 4) (nI 1)) lN)))) lN))) bN))))
theorem nf63 : fd63.body = nd63.den := by kernel_rfl
def nd64 : NBk := (bC (sSt (gTp (gC (gVn 2) rfl (gC (gVn 3) rfl gN))) (nCall 54 (lC (nV 0) (lC (nV 1) lN)))) (bC (sSt (gVn 4) (nBin oMul (nIx (nV 2) (nI 0)) (nIx (nV 3) (nI 0)))) (bC (sAlt (sP2 5 6 (nCall 23 (lC (nCall 40 (lC (nV 2) lN)) (lC (nBin oAdd (nV 4) (nI 1)) lN))) (nCall 23 (lC (nCall 40 (lC (nV 3) lN)) (lC (nBin oAdd (nV 4) (nI 1)) lN)))) (sSt (gTp (gC (gVn 5) rfl (gC (gVn 6) rfl gN))) (nTup (lC (nCall 23 (lC (nCall 40 (lC (nV 2) lN)) (lC (nBin oAdd (nV 4) (nI 1)) lN))) (lC (nCall 23 (lC (nCall 40 (lC (nV 3) lN)) (lC (nBin oAdd (nV 4) (nI 1)) lN))) lN)))) rfl) (bC (sRt (nCall 24 (lC (nComp (gTp (gC (gVn 7) rfl (gC (gVn 8) rfl gN))) (wZ2 (nV 5) (nV 6)) qN (nBin oMul (nV 7) (nV 8)) [7, 8]) lN))) bN))))
theorem nf64 : fd64.body = nd64.den := by kernel_rfl
def nd65 : NBk := (bC (sSt (gTp (gC (gVn 2) rfl (gC (gVn 3) rfl gN))) (nCall 54 (lC (nV 0) (lC (nV 1) lN)))) (bC (sSt (gVn 4) (nBin oMul (nIx (nV 2) (nI 0)) (nIx (nV 3) (nI 0)))) (bC (sSt (gVn 5) (nCall 23 (lC (nCall 15 (lC (nCall 40 (lC (nV 2) lN)) (lC (nTup (lC (nNeg (nI 1)) (lC (nI 1) lN))) lN))) (lC (nBin oAdd (nV 4) (nI 1)) lN)))) (bC (sSt (gVn 6) (nCall 23 (lC (nCall 15 (lC (nCall 40 (lC (nV 3) lN)) (lC (nTup (lC (nNeg (nI 1)) (lC (nI 1) lN))) lN))) (lC (nBin oAdd (nV 4) (nI 1)) lN)))) (bC (sSt (gVn 7) (nCall 24 (lC (nComp (gTp (gC (gVn 8) rfl (gC (gVn 9) rfl gN))) (wZ2 (nV 5) (nV 6)) qN (nBin oMul (nV 8) (nV 9)) [8, 9]) lN))) (bC (sRt (nCall 15 (lC (nV 7) (lC (nTup (lC (nI 1) (lC (nI 1) lN))) lN)))) bN))))))
theorem nf65 : fd65.body = nd65.den := by kernel_rfl
def nd66 : NBk := (bC (sAlt (sP2 3 4 (nCall 27 (lC (nV 0) lN)) (nCall 27 (lC (nV 1) lN))) (sSt (gTp (gC (gVn 3) rfl (gC (gVn 4) rfl gN))) (nTup (lC (nCall 27 (lC (nV 0) lN)) (lC (nCall 27 (lC (nV 1) lN)) lN)))) rfl) (bC (sIft (tBl (pOr (tNot (tOf (nCall 1 (lC (nV 2) (lC (nI 0) lN))))) (pOne (tCmp oGt (nV 2) (nI 100))))) (bC sX bN) bN) (bC (sRt (nF1 fTup (nCall 58 (lC (nCall 52 (lC (nV 3) (lC (nV 2) lN))) (lC (nCall 52 (lC (nV 4) (lC (nV 2) lN))) (lC (nV 2) lN)))))) bN)))
theorem nf66 : fd66.body = nd66.den := by kernel_rfl
def nd67 : NBk := (bC (sAlt (sP2 3 4 (nCall 27 (lC (nV 0) lN)) (nCall 27 (lC (nV 1) lN))) (sSt (gTp (gC (gVn 3) rfl (gC (gVn 4) rfl gN))) (nTup (lC (nCall 27 (lC (nV 0) lN)) (lC (nCall 27 (lC (nV 1) lN)) lN)))) rfl) (bC (sIft (tBl (pOr (tNot (tOf (nCall 1 (lC (nV 2) (lC (nI 0) lN))))) (pOne (tCmp oGt (nV 2) (nI 100))))) (bC sX bN) bN) (bC (sRt (nF1 fTup (nComp (gTp (gC (gVn 5) rfl (gC (gVn 6) rfl gN))) (wZ2 (nCall 52 (lC (nV 3) (lC (nV 2) lN))) (nCall 52 (lC (nV 4) (lC (nV 2) lN)))) qN (nBin oMul (nV 5) (nV 6)) [5, 6]))) bN)))
theorem nf67 : fd67.body = nd67.den := by kernel_rfl
def nd68 : NBk := (bC (sIft (tBl (pOr (tNot (tOf (nCall 1 (lC (nV 0) (lC (nI 0) lN))))) (pOne (tCmp oGt (nV 0) (nI 5))))) (bC sX bN) bN) (bC (sSt (gVn 1) (nTup (lC (nI 1) (lC (nTup lN) lN)))) (bC (sF (gVn 2) (wR1 (nV 0)) (bC (sSt (gVn 1) (nCall 57 (lC (nBin oMul (nI 2) (nIx (nV 1) (nI 0))) (lC (nCall 55 (lC (nV 1) (lC (nTup (lC (nI 2) (lC (nTup (lC (nTup (lC (nI 0) (lC (nI 1) lN))) lN)) lN))) lN))) lN)))) bN)) (bC (sRt (nV 1)) bN))))
theorem nf68 : fd68.body = nd68.den := by kernel_rfl
def nd69 : NBk := (bC (sIft (tBl (pOr (tNot (tOf (nCall 1 (lC (nV 0) (lC (nI 1) lN))))) (pOr (tNot (tOf (nCall 1 (lC (nV 1) (lC (nI 0) lN))))) (pOne (tCmp oGt (nV 1) (nI 40)))))) (bC sX bN) bN) (bC (sSt (gVn 2) (nTup (lC (nI 1) (lC (nTup lN) lN)))) (bC (sF (gVn 3) (wR1 (nV 1)) (bC (sIft (tCmp oGt (nBin oMul (nV 0) (nIx (nV 2) (nI 0))) (nKi 40)) (bC sX bN) bN) (bC (sSt (gVn 2) (nCall 57 (lC (nBin oMul (nV 0) (nIx (nV 2) (nI 0))) (lC (nCall 55 (lC (nV 2) (lC (nCall 30 (lC (nV 0) lN)) lN))) lN)))) bN))) (bC (sRt (nV 2)) bN))))
theorem nf69 : fd69.body = nd69.den := by kernel_rfl
def nd70 : NBk := (bC (sAlt (sP2 2 3 (nCall 69 (lC (nV 0) (lC (nV 1) lN))) (nLst lN)) (sSt (gTp (gC (gVn 2) rfl (gC (gVn 3) rfl gN))) (nTup (lC (nCall 69 (lC (nV 0) (lC (nV 1) lN))) (lC (nLst lN) lN)))) rfl) (bC (sF (gVn 4) (wR1 (nBin oAdd (nV 1) (nI 1))) (bC (sSt (gVn 5) (nComb (nV 1) (nV 4))) (bC (sF (gVn 6) (wR1 (nV 4)) (bC (sSt (gVn 5) (nBin oMul (nV 5) (nBin oSub (nV 0) (nI 1)))) bN)) (bC (sE (nMl mExt (nV 3) (nBin oMul (nLst (lC (nBin oSub (nBin oMul (nV 1) (nBin oSub (nV 0) (nI 1))) (nBin oMul (nV 0) (nV 4))) lN)) (nV 5)))) bN)))) (bC (sRt (nSlH (nF1 fTup (nF1 fSortedZ (nV 3))) (nIx (nV 2) (nI 0)))) bN)))
theorem nf70 : fd70.body = nd70.den := by kernel_rfl
def nd71 : NBk := (bC (sAlt (sP2 2 3 (nCall 27 (lC (nV 0) lN)) (nCall 27 (lC (nV 1) lN))) (sSt (gTp (gC (gVn 2) rfl (gC (gVn 3) rfl gN))) (nTup (lC (nCall 27 (lC (nV 0) lN)) (lC (nCall 27 (lC (nV 1) lN)) lN)))) rfl) (bC (sIft (tBl (pOr (tCmp oEq (nIx (nV 2) (nI 1)) (nTup lN)) (pOr (tCmp oEq (nIx (nV 3) (nI 1)) (nTup lN)) (pOr (tCmp oGt (nF1 fLen (nCall 31 (lC (nV 2) lN))) (nI 1)) (pOne (tCmp oGt (nF1 fLen (nCall 31 (lC (nV 3) lN))) (nI 1))))))) (bC sX bN) bN) (bC (sRt (nIte (tBl (pAnd (tIsn (nCall 32 (lC (nV 2) lN))) (pOne (tIsn (nCall 32 (lC (nV 3) lN)))))) (nI 2) (nI 1))) bN)))
theorem nf71 : fd71.body = nd71.den := by kernel_rfl
def nd72 : NBk := (bC (sAlt (sP2 4 5 (nCall 27 (lC (nV 0) lN)) (nCall 27 (lC (nV 1) lN))) (sSt (gTp (gC (gVn 4) rfl (gC (gVn 5) rfl gN))) (nTup (lC (nCall 27 (lC (nV 0) lN)) (lC (nCall 27 (lC (nV 1) lN)) lN)))) rfl) (bC (sIft (tBl (pOr (tNot (tOf (nCall 1 (lC (nV 2) (lC (nI 0) lN))))) (pOr (tCmp oGe (nV 2) (nIx (nV 4) (nI 0))) (pOr (tNot (tOf (nCall 1 (lC (nV 3) (lC (nI 0) lN))))) (pOne (tCmp oGe (nV 3) (nIx (nV 5) (nI 0)))))))) (bC sX bN) bN) (bC (sRt (nBin oAdd (nBin oMul (nV 2) (nIx (nV 5) (nI 0))) (nV 3))) bN)))
theorem nf72 : fd72.body = nd72.den := by kernel_rfl
def nd73 : NBk := (bC (sAlt (sP2 4 5 (nCall 27 (lC (nV 0) lN)) (nCall 27 (lC (nV 1) lN))) (sSt (gTp (gC (gVn 4) rfl (gC (gVn 5) rfl gN))) (nTup (lC (nCall 27 (lC (nV 0) lN)) (lC (nCall 27 (lC (nV 1) lN)) lN)))) rfl) (bC (sF (gVn 6) (wX (nTup (lC (nV 2) (lC (nV 3) lN)))) (bC (sIft (tBl (pOr (tNot (tOf (nCall 1 (lC (nV 6) (lC (nI 0) lN))))) (pOne (tCmp oGe (nV 6) (nBin oMul (nIx (nV 4) (nI 0)) (nIx (nV 5) (nI 0))))))) (bC sX bN) bN) bN)) (bC (sSt (gVn 7) (nCall 74 (lC (nV 4) (lC (nBin oFdiv (nV 2) (nIx (nV 5) (nI 0))) (lC (nBin oFdiv (nV 3) (nIx (nV 5) (nI 0))) lN))))) (bC (sSt (gVn 8) (nCall 74 (lC (nV 5) (lC (nBin oMod (nV 2) (nIx (nV 5) (nI 0))) (lC (nBin oMod (nV 3) (nIx (nV 5) (nI 0))) lN))))) (bC (sRt (nIte (tBl (pAnd (tIsn (nV 7)) (pOne (tIsn (nV 8))))) (nBin oAdd (nV 7) (nV 8)) nN)) bN)))))
theorem nf73 : fd73.body = nd73.den := by kernel_rfl
def nd74 : NBk := (bC (sAlt (sP3 3 4 5 (nCall 29 (lC (nV 0) lN)) (nDic1 (nV 1) (nI 0)) (nLst (lC (nV 1) lN))) (sSt (gTp (gC (gVn 3) rfl (gC (gVn 4) rfl (gC (gVn 5) rfl gN)))) (nTup (lC (nCall 29 (lC (nV 0) lN)) (lC (nDic1 (nV 1) (nI 0)) (lC (nLst (lC (nV 1) lN)) lN))))) rfl) (bC (sSt (gVn 6) (nI 0)) (bC (sW (tCmp oLt (nV 6) (nF1 fLen (nV 5))) (bC (sSt (gVn 7) (nIx (nV 5) (nV 6))) (bC (sAu iAd 6 (nI 1)) (bC (sF (gVn 8) (wX (nIx (nV 3) (nV 7))) (bC (sIft (tCmp oNin (nV 8) (nV 4)) (bC (sSt (gSb (nV 4) (nV 8)) (nBin oAdd (nIx (nV 4) (nV 7)) (nI 1))) (bC (sE (nMl mApp (nV 5) (nV 8))) bN)) bN) bN)) bN)))) (bC (sRt (nGet1 (nV 4) (nV 2))) bN))))
theorem nf74 : fd74.body = nd74.den := by kernel_rfl
def nd75 : NBk := (bC (sAlt (sP2 2 3 (nCall 27 (lC (nV 0) lN)) (nTup (lC (nI 1) (lC (nTup lN) lN)))) (sSt (gTp (gC (gVn 2) rfl (gC (gVn 3) rfl gN))) (nTup (lC (nCall 27 (lC (nV 0) lN)) (lC (nTup (lC (nI 1) (lC (nTup lN) lN))) lN)))) rfl) (bC (sIft (tBl (pOr (tNot (tOf (nCall 1 (lC (nV 1) (lC (nI 0) lN))))) (pOne (tCmp oGt (nV 1) (nI 40))))) (bC sX bN) bN) (bC (sF (gVn 4) (wR1 (nV 1)) (bC (sIft (tCmp oGt (nBin oMul (nIx (nV 3) (nI 0)) (nIx (nV 2) (nI 0))) (nKi 40)) (bC sX bN) bN) (bC (sSt (gVn 3) (nCall 57 (lC (nBin oMul (nIx (nV 3) (nI 0)) (nIx (nV 2) (nI 0))) (lC (nCall 55 (lC (nV 3) (lC (nV 2) lN))) lN)))) bN))) (bC (sRt (nV 3)) bN))))
theorem nf75 : fd75.body = nd75.den := by kernel_rfl
def nd76 : NBk := (bC (sSt (gTp (gC (gVn 2) rfl (gC (gVn 3) rfl gN))) (nCall 54 (lC (nV 0) (lC (nV 1) lN)))) (bC (sRt (nCmp oEq (nF1 fLen (nCall 50 (lC (nCall 40 (lC (nCall 57 (lC (nBin oMul (nIx (nV 2) (nI 0)) (nIx (nV 3) (nI 0))) (lC (nCall 55 (lC (nV 2) (lC (nV 3) lN))) lN))) lN)) lN))) (nBin oMul (nIx (nV 2) (nI 0)) (nIx (nV 3) (nI 0))))) bN))
theorem nf76 : fd76.body = nd76.den := by kernel_rfl
def nd77 : NBk := (bC (sAlt (sP2 2 3 (nCall 27 (lC (nV 0) lN)) (nCall 27 (lC (nV 1) lN))) (sSt (gTp (gC (gVn 2) rfl (gC (gVn 3) rfl gN))) (nTup (lC (nCall 27 (lC (nV 0) lN)) (lC (nCall 27 (lC (nV 1) lN)) lN)))) rfl) (bC (sIft (tCmp oGt (nBin oAdd (nIx (nV 2) (nI 0)) (nIx (nV 3) (nI 0))) (nKi 20)) (bC sX bN) bN) (bC (sRt (nCall 11 (lC (nCall 40 (lC (nV 2) lN)) (lC (nCall 40 (lC (nV 3) lN)) lN)))) bN)))
theorem nf77 : fd77.body = nd77.den := by kernel_rfl
def nd78 : NBk := (bC (sIft (tBl (pOr (tNot (tOf (nCall 7 (lC (nV 1) (lC (nV 0) lN))))) (pOne (tCmp oIn (nI 0) (nV 1))))) (bC (sRt (nBl false)) bN) bN) (bC (sRt (nF1 fAll (nComp (gVn 2) (wX (nV 1)) qN (nCmp oIn (nBin oSub (nV 0) (nV 2)) (nV 1)) [2]))) bN))
theorem nf78 : fd78.body = nd78.den := by kernel_rfl
def nd79 : NBk := (bC (sSt (gVn 2) (nCall 3 (lC (nV 1) lN))) (bC (sIft (tBl (pOr (tNot (tOf (nCall 1 (lC (nV 0) (lC (nI 1) lN))))) (pOr (tCmp oGt (nV 0) (nKi 20)) (pOne (tNot (tOf (nCall 78 (lC (nV 0) (lC (nV 2) lN))))))))) (bC sX bN) bN) (bC (sRt (nV 2)) bN)))
theorem nf79 : fd79.body = nd79.den := by kernel_rfl
def nd80 : NBk := (bC (sRt (nTup (lC (nV 0) (lC (nF1 fTup (nSortSetX (nComp2 (gVn 2) (wR1 (nV 0)) qN (gVn 3) (wX (nV 1)) qN (nCall 28 (lC (nV 2) (lC (nBin oMod (nBin oAdd (nV 2) (nV 3)) (nV 0)) lN))) [3] [2, 3]))) lN)))) bN)
theorem nf80 : fd80.body = nd80.den := by kernel_rfl
def nd81 : NBk := (bC (sRt (nComp (gVn 1) (wR2 (nI 1) (nBin oAdd (nV 0) (nI 1))) (qO (tCmp oEq (nBin oMod (nV 0) (nV 1)) (nI 0))) (nV 1) [1])) bN)
theorem nf81 : fd81.body = nd81.den := by kernel_rfl
def nd82 : NBk := (bC (sRt (nF1 fTup (nComp (gVn 2) (wR2 (nI 1) (nV 0)) (qO (tCmp oEq (nGcd (nV 2) (nV 0)) (nV 1))) (nV 2) [2]))) bN)
theorem nf82 : fd82.body = nd82.den := by kernel_rfl
def nd83 : NBk := (bC (sRt (nComp (gVn 3) (wR1 (nV 0)) qN (nF1 fSum (nComp (gVn 4) (wX (nV 1)) qN (nIx (nV 2) (nBin oMod (nBin oSub (nV 3) (nV 4)) (nV 0))) [4])) [3])) bN)
theorem nf83 : fd83.body = nd83.den := by kernel_rfl
def nd84 : NBk := (bC (sAlt (sLc 3 (gVn 5) (wR1 (nV 0)) qN (nIte (tCmp oEq (nV 5) (nI 0)) (nI 1) (nI 0)) [5]) (sSt (gVn 3) (nComp (gVn 5) (wR1 (nV 0)) qN (nIte (tCmp oEq (nV 5) (nI 0)) (nI 1) (nI 0)) [5])) rfl) (bC (sF (gVn 4) (wR1 (nV 2)) (bC (sSt (gVn 3) (nCall 83 (lC (nV 0) (lC (nV 1) (lC (nV 3) lN))))) bN)) (bC (sRt (nV 3)) bN)))
theorem nf84 : fd84.body = nd84.den := by kernel_rfl
def nd85 : NBk := (bC (sAlt (sLc 3 (gVn 5) (wR1 (nV 0)) qN (nIte (tCmp oEq (nV 5) (nI 0)) (nI 1) (nI 0)) [5]) (sSt (gVn 3) (nComp (gVn 5) (wR1 (nV 0)) qN (nIte (tCmp oEq (nV 5) (nI 0)) (nI 1) (nI 0)) [5])) rfl) (bC (sF (gVn 4) (wR1 (nV 2)) (bC (sSt (gVn 3) (nCall 83 (lC (nV 0) (lC (nV 1) (lC (nV 3) lN))))) bN)) (bC (sRt (nV 3)) bN)))
theorem nf85 : fd85.body = nd85.den := by kernel_rfl
def nd86 : NBk := (bC (sAlt (sP2 1 2 (nI 1) (nV 0)) (sSt (gTp (gC (gVn 1) rfl (gC (gVn 2) rfl gN))) (nTup (lC (nI 1) (lC (nV 0) lN)))) rfl) (bC (sF (gVn 3) (wR2 (nI 2) (nBin oAdd (nV 0) (nI 1))) (bC (sIft (tCmp oEq (nBin oMod (nV 2) (nV 3)) (nI 0)) (bC (sSt (gVn 2) (nBin oFdiv (nV 2) (nV 3))) (bC (sIft (tCmp oEq (nBin oMod (nV 2) (nV 3)) (nI 0)) (bC (sRt (nI 0)) bN) bN) (bC (sSt (gVn 1) (nNeg (nV 1))) bN))) bN) bN)) (bC (sRt (nV 1)) bN)))
theorem nf86 : fd86.body = nd86.den := by kernel_rfl
def nd87 : NBk := (bC (sRt (nF1 fSum (nComp (gVn 2) (wX (nCall 81 (lC (nV 0) lN))) (qO (tCmp oEq (nBin oMod (nV 1) (nV 2)) (nI 0))) (nBin oMul (nV 2) (nCall 86 (lC (nBin oFdiv (nV 0) (nV 2)) lN))) [2]))) bN)
theorem nf87 : fd87.body = nd87.den := by kernel_rfl
def nd88 : NBk := (bC (sIft (tBl (pOr (tNot (tOf (nCall 1 (lC (nV 0) (lC (nI 1) lN))))) (pOne (tCmp oGt (nV 0) (nKi 20))))) (bC sX bN) bN) (bC (sRt (nCall 78 (lC (nV 0) (lC (nV 1) lN)))) bN))
theorem nf88 : fd88.body = nd88.den := by kernel_rfl
def nd89 : NBk := (bC (sRt (nCall 80 (lC (nV 0) (lC (nCall 79 (lC (nV 0) (lC (nV 1) lN))) lN)))) bN)
theorem nf89 : fd89.body = nd89.den := by kernel_rfl
def nd90 : NBk := (bC (sSt (gVn 1) (nCall 27 (lC (nV 0) lN))) (bC (sIft (tCmp oGt (nIx (nV 1) (nI 0)) (nKi 20)) (bC sX bN) bN) (bC (sIft (tCmp oEq (nIx (nV 1) (nI 0)) (nI 0)) (bC (sRt nN) bN) bN) (bC (sSt (gVn 2) (nF1 fTup (nIx (nCall 29 (lC (nV 1) lN)) (nI 0)))) (bC (sIft (tBl (pOr (tNot (tOf (nCall 78 (lC (nIx (nV 1) (nI 0)) (lC (nV 2) lN))))) (pOne (tCmp oNe (nCall 80 (lC (nIx (nV 1) (nI 0)) (lC (nV 2) lN))) (nV 1))))) (bC (sRt nN) bN) bN) (bC (sRt (nV 2)) bN))))))
theorem nf90 : fd90.body = nd90.den := by kernel_rfl
def nd91 : NBk := (bC (sRt (nCall 40 (lC (nCall 80 (lC (nV 0) (lC (nCall 79 (lC (nV 0) (lC (nV 1) lN))) lN))) lN))) bN)
theorem nf91 : fd91.body = nd91.den := by kernel_rfl
def nd92 : NBk := (bC (sSt (gVn 3) (nCall 79 (lC (nV 0) (lC (nV 1) lN)))) (bC (sIft (tBl (pOr (tNot (tOf (nCall 1 (lC (nV 2) (lC (nI 0) lN))))) (pOne (tCmp oGt (nV 2) (nI 100))))) (bC sX bN) bN) (bC (sAlt (sP2 4 5 (nComp (gVn 7) (wR1 (nV 0)) qN (nIte (tCmp oEq (nV 7) (nI 0)) (nI 1) (nI 0)) [7]) (nLst lN)) (sSt (gTp (gC (gVn 4) rfl (gC (gVn 5) rfl gN))) (nTup (lC (nComp (gVn 7) (wR1 (nV 0)) qN (nIte (tCmp oEq (nV 7) (nI 0)) (nI 1) (nI 0)) [7]) (lC (nLst lN) lN)))) rfl) (bC (sF (gVn 6) (wR1 (nV 2)) (bC (sE (nMl mApp (nV 5) (nBin oMul (nV 0) (nIx (nV 4) (nI 0))))) (bC (sSt (gVn 4) (nCall 83 (lC (nV 0) (lC (nV 3) (lC (nV 4) lN))))) bN))) (bC (sRt (nF1 fTup (nV 5))) bN)))))
theorem nf92 : fd92.body = nd92.den := by kernel_rfl
def nd93 : NBk := (bC (sSt (gVn 4) (nCall 79 (lC (nV 0) (lC (nV 1) lN)))) (bC (sIft (tBl (pOr (tNot (tOf (nCall 1 (lC (nV 2) (lC (nI 0) lN))))) (pOr (tCmp oGt (nV 2) (nI 100)) (pOr (tNot (tOf (nCall 1 (lC (nV 3) (lC (nI 0) lN))))) (pOne (tCmp oGe (nV 3) (nV 0))))))) (bC sX bN) bN) (bC (sRt (nIx (nCall 85 (lC (nV 0) (lC (nV 4) (lC (nV 2) lN)))) (nV 3))) bN)))
theorem nf93 : fd93.body = nd93.den := by kernel_rfl
def nd94 : NBk := (bC (sIft (tBl (pOr (tNot (tOf (nCall 1 (lC (nV 0) (lC (nI 1) lN))))) (pOne (tCmp oGt (nV 0) (nI 1000))))) (bC sX bN) bN) (bC (sRt (nF1 fTup (nComp (gVn 1) (wX (nCall 81 (lC (nV 0) lN))) (qO (tCmp oLt (nV 1) (nV 0))) (nTup (lC (nV 1) (lC (nCall 82 (lC (nV 0) (lC (nV 1) lN))) lN))) [1]))) bN))
theorem nf94 : fd94.body = nd94.den := by kernel_rfl
def nd95 : NBk := (bC (sSt (gVn 2) (nCall 79 (lC (nV 0) (lC (nV 1) lN)))) (bC (sRt (nF1 fAll (nComp2 (gVn 3) (wX (nV 2)) qN (gVn 4) (wX (nCall 82 (lC (nV 0) (lC (nGcd (nV 3) (nV 0)) lN)))) qN (nCmp oIn (nV 4) (nV 2)) [4] [3, 4]))) bN))
theorem nf95 : fd95.body = nd95.den := by kernel_rfl
def nd96 : NBk := (bC (sSt (gVn 2) (nCall 79 (lC (nV 0) (lC (nV 1) lN)))) (bC (sRt (nCmp oEq (nF1 fLen (nCall 50 (lC (nCall 40 (lC (nCall 80 (lC (nV 0) (lC (nV 2) lN))) lN)) lN))) (nV 0))) bN))
theorem nf96 : fd96.body = nd96.den := by kernel_rfl
def nd97 : NBk := (bC (sSt (gVn 2) (nCall 3 (lC (nV 1) lN))) (bC (sIft (tBl (pOr (tNot (tOf (nCall 1 (lC (nV 0) (lC (nI 1) lN))))) (pOr (tCmp oGt (nV 0) (nKi 20)) (pOne (tNot (tOf (nCall 7 (lC (nV 2) (lC (nV 0) lN))))))))) (bC sX bN) bN) (bC (sIft (tNot (tOf (nF1 fAll (nComp (gVn 4) (wX (nV 2)) qN (nAnd (nCmp oGt (nV 4) (nI 0)) (nOne (nCmp oEq (nBin oMod (nV 0) (nV 4)) (nI 0)))) [4])))) (bC sX bN) bN) (bC (sRt (nF1 fTup (nComp (gVn 3) (wR1 (nV 0)) qN (nF1 fSum (nComp (gVn 4) (wX (nV 2)) qN (nCall 87 (lC (nBin oFdiv (nV 0) (nV 4)) (lC (nV 3) lN))) [4])) [3]))) bN))))
theorem nf97 : fd97.body = nd97.den := by kernel_rfl
def nd98 : NBk := (bC (sE (nCall 97 (lC (nV 0) (lC (nV 1) lN)))) (bC (sRt (nF1 fTup (nComp (gVn 2) (wR2 (nI 1) (nV 0)) (qO (tCmp oIn (nGcd (nV 2) (nV 0)) (nCall 3 (lC (nV 1) lN)))) (nV 2) [2]))) bN))
theorem nf98 : fd98.body = nd98.den := by kernel_rfl
def nd99 : NBk := (bC (sIft (tBl (pOr (tNot (tOf (nCall 1 (lC (nV 0) (lC (nI 1) lN))))) (pOr (tCmp oGt (nV 0) (nI 1000)) (pOne (tNot (tOf (nCall 1 (lC (nV 1) (lC (nI 0) lN))))))))) (bC sX bN) bN) (bC (sRt (nCall 87 (lC (nV 0) (lC (nV 1) lN)))) bN))
theorem nf99 : fd99.body = nd99.den := by kernel_rfl
def nd100 : NBk := (bC (sIft (tBl (pOr (tNot (tOf (nCall 1 (lC (nV 0) (lC (nI 1) lN))))) (pOne (tCmp oGt (nV 0) (nI 1000))))) (bC sX bN) bN) (bC (sRt (nCall 86 (lC (nV 0) lN))) bN))
theorem nf100 : fd100.body = nd100.den := by kernel_rfl
def nd101 : NBk := (bC (sSt (gVn 3) (nCall 79 (lC (nV 0) (lC (nV 1) lN)))) (bC (sIft (tBl (pOr (tNot (tOf (nCall 1 (lC (nV 2) (lC (nI 0) lN))))) (pOne (tCmp oGe (nV 2) (nV 0))))) (bC sX bN) bN) (bC (sIft (tCmp oNe (nGcd (nV 2) (nV 0)) (nI 1)) (bC sX bN) bN) (bC (sRt (nF1 fTup (nF1 fSortedZ (nComp (gVn 4) (wX (nV 3)) qN (nBin oMod (nBin oMul (nV 4) (nV 2)) (nV 0)) [4])))) bN))))
theorem nf101 : fd101.body = nd101.den := by kernel_rfl
def nd102 : NBk := (bC (sAlt (sP2 3 4 (nCall 79 (lC (nV 0) (lC (nV 1) lN))) (nCall 79 (lC (nV 0) (lC (nV 2) lN)))) (sSt (gTp (gC (gVn 3) rfl (gC (gVn 4) rfl gN))) (nTup (lC (nCall 79 (lC (nV 0) (lC (nV 1) lN))) (lC (nCall 79 (lC (nV 0) (lC (nV 2) lN))) lN)))) rfl) (bC (sF (gVn 5) (wR2 (nI 1) (nBin oAdd (nV 0) (nI 1))) (bC (sIft (tBl (pAnd (tCmp oEq (nGcd (nV 5) (nV 0)) (nI 1)) (pOne (tCmp oEq (nF1 fTup (nF1 fSortedZ (nComp (gVn 6) (wX (nV 3)) qN (nBin oMod (nBin oMul (nV 6) (nV 5)) (nV 0)) [6]))) (nV 4))))) (bC (sRt (nV 5)) bN) bN) bN)) (bC (sRt nN) bN)))
theorem nf102 : fd102.body = nd102.den := by kernel_rfl
def nd103 : NBk := (bC (sAlt (sP2 2 3 (nCall 79 (lC (nV 0) (lC (nV 1) lN))) (nV 0)) (sSt (gTp (gC (gVn 2) rfl (gC (gVn 3) rfl gN))) (nTup (lC (nCall 79 (lC (nV 0) (lC (nV 1) lN))) (lC (nV 0) lN)))) rfl) (bC (sF (gVn 4) (wX (nV 2)) (bC (sSt (gVn 3) (nGcd (nV 3) (nV 4))) bN)) (bC (sRt (nV 3)) bN)))
theorem nf103 : fd103.body = nd103.den := by kernel_rfl
def nd104 : NBk := (bC (sAlt (sP2 2 3 (nCall 79 (lC (nV 0) (lC (nV 1) lN))) (nV 0)) (sSt (gTp (gC (gVn 2) rfl (gC (gVn 3) rfl gN))) (nTup (lC (nCall 79 (lC (nV 0) (lC (nV 1) lN))) (lC (nV 0) lN)))) rfl) (bC (sF (gVn 4) (wX (nV 2)) (bC (sSt (gVn 3) (nGcd (nV 3) (nV 4))) bN)) (bC (sRt (nOr (nCmp oEq (nV 2) (nTup lN)) (nOne (nAnd (nCmp oEq (nBin oMod (nBin oFdiv (nV 0) (nV 3)) (nI 2)) (nI 0)) (nOne (nF1 fAll (nComp (gVn 4) (wX (nV 2)) qN (nCmp oEq (nBin oMod (nBin oFdiv (nV 4) (nV 3)) (nI 2)) (nI 1)) [4]))))))) bN)))
theorem nf104 : fd104.body = nd104.den := by kernel_rfl
def nd105 : NBk := (bC (sIft (tBl (pOr (tNot (tOf (nCall 1 (lC (nV 0) (lC (nI 1) lN))))) (pOne (tCmp oGt (nV 0) (nKi 20))))) (bC sX bN) bN) (bC (sSt (gVn 1) (nLst (lC (nTup lN) lN))) (bC (sF (gVn 2) (wX (nCall 81 (lC (nV 0) lN))) (bC (sIft (tCmp oLt (nV 2) (nV 0)) (bC (sSt (gVn 1) (nBin oAdd (nV 1) (nComp (gVn 3) (wX (nV 1)) qN (nBin oAdd (nV 3) (nCall 82 (lC (nV 0) (lC (nV 2) lN)))) [3]))) bN) bN) bN)) (bC (sRt (nF1 fSortedZ (nComp (gVn 3) (wX (nV 1)) qN (nF1 fTup (nF1 fSortedZ (nV 3))) [3]))) bN))))
theorem nf105 : fd105.body = nd105.den := by kernel_rfl
def nd106 : NBk := (bC (sSt (gVn 2) (nCall 79 (lC (nV 0) (lC (nV 1) lN)))) (bC (sRt (nF1 fTup (nComp (gVn 3) (wR2 (nI 1) (nV 0)) (qO (tCmp oNin (nV 3) (nV 2))) (nV 3) [3]))) bN))
theorem nf106 : fd106.body = nd106.den := by kernel_rfl
def nd107 : NBk := (bC (sSt (gVn 2) (nOr (nF1 fLst (nSlH (nV 0) (nV 1))) (nOne (nLst (lC (nI 0) lN))))) (bC (sF (gTp (gC (gVn 3) rfl (gC (gVn 4) rfl gN))) (wN1 (nSlLH (nV 0) (nV 1) (nI 63))) (bC (sSt (gVn 5) (nBin oMod (nF1 fInt (nV 3)) (nV 1))) (bC (sSt (gSb (nV 2) (nV 5)) (nBin oAdd (nIx (nV 2) (nV 5)) (nBin oMul (nV 4) (nBin oAdd (nV 3) (nI 2))))) bN))) (bC (sRt (nV 2)) bN)))
theorem nf107 : fd107.body = nd107.den := by kernel_rfl
def nd108 : NBk := (bC (sIft (tOf (nIsin2 4 3 (nV 1))) (bC (sIft (tBl (pOr (tCmp oNe (nF2 fIsin (nV 0) (nTy 4)) (nF2 fIsin (nV 1) (nTy 4))) (pOne (tCmp oNe (nF2 fIsin (nV 0) (nTy 3)) (nF2 fIsin (nV 1) (nTy 3)))))) (bC (sRt (nBl false)) bN) bN) (bC (sRt (nAnd (nCmp oEq (nF1 fLen (nV 0)) (nF1 fLen (nV 1))) (nOne (nF1 fAll (nComp (gTp (gC (gVn 2) rfl (gC (gVn 3) rfl gN))) (wZ2 (nV 0) (nV 1)) qN (nCall 108 (lC (nV 2) (lC (nV 3) lN))) [2, 3]))))) bN)) bN) (bC (sIft (tIs (nV 1)) (bC (sRt (nIs (nV 0))) bN) bN) (bC (sIft (tOf (nIsin2 1 2 (nV 1))) (bC (sRt (nAnd (nCmp oEq (nF2 fIsin (nV 0) (nTy 1)) (nF2 fIsin (nV 1) (nTy 1))) (nAnd (nCmp oEq (nF2 fIsin (nV 0) (nTy 2)) (nF2 fIsin (nV 1) (nTy 2))) (nOne (nCmp oEq (nV 0) (nV 1)))))) bN) bN) (bC (sRt (nAnd (nF2 fIsin (nV 0) (nTy 0)) (nAnd (nNot (nF2 fIsin (nV 0) (nTy 1))) (nOne (nCmp oEq (nV 0) (nV 1)))))) bN))))
theorem nf108 : fd108.body = nd108.den := by kernel_rfl
def nd109 : NBk := (bC (sAlt (sP2 0 1 (nLst lN) (nLst lN)) (sSt (gTp (gC (gVn 0) rfl (gC (gVn 1) rfl gN))) (nTup (lC (nLst lN) (lC (nLst lN) lN)))) rfl) (bC (sE (nMl mApp (nV 0) (nCallK0 88 (kC (nTup (lC (nI 1) lN)) (kC (nI 5) kN)) [1, 0]))) (bC (sE (nMl mApp (nV 1) (nCall 88 (lC (nI 5) (lC (nTup (lC (nI 1) lN)) lN))))) (bC (sE (nMl mApp (nV 0) (nCallK0 89 (kC (nTup (lC (nI 1) (lC (nI 3) lN))) (kC (nI 4) kN)) [1, 0]))) (bC (sE (nMl mApp (nV 1) (nCall 89 (lC (nI 4) (lC (nTup (lC (nI 1) (lC (nI 3) lN))) lN))))) (bC (sE (nMl mApp (nV 0) (nCallK0 90 (kC (nTup (lC (nI 3) (lC (nTup (lC (nTup (lC (nI 0) (lC (nI 1) lN))) (lC (nTup (lC (nI 0) (lC (nI 2) lN))) (lC (nTup (lC (nI 1) (lC (nI 2) lN))) lN)))) lN))) kN) [0]))) (bC (sE (nMl mApp (nV 1) (nCall 90 (lC (nTup (lC (nI 3) (lC (nTup (lC (nTup (lC (nI 0) (lC (nI 1) lN))) (lC (nTup (lC (nI 0) (lC (nI 2) lN))) (lC (nTup (lC (nI 1) (lC (nI 2) lN))) lN)))) lN))) lN)))) (bC (sE (nMl mApp (nV 0) (nCallK0 91 (kC (nTup (lC (nI 1) (lC (nI 3) lN))) (kC (nI 4) kN)) [1, 0]))) (bC (sE (nMl mApp (nV 1) (nCall 91 (lC (nI 4) (lC (nTup (lC (nI 1) (lC (nI 3) lN))) lN))))) (bC (sE (nMl mApp (nV 0) (nCallK0 92 (kC (nI 6) (kC (nTup (lC (nI 1) (lC (nI 4) lN))) (kC (nI 5) kN))) [2, 1, 0]))) (bC (sE (nMl mApp (nV 1) (nCall 92 (lC (nI 5) (lC (nTup (lC (nI 1) (lC (nI 4) lN))) (lC (nI 6) lN)))))) (bC (sE (nMl mApp (nV 0) (nCallK0 93 (kC (nI 0) (kC (nI 3) (kC (nTup (lC (nI 2) (lC (nI 4) lN))) (kC (nI 6) kN)))) [3, 2, 1, 0]))) (bC (sE (nMl mApp (nV 1) (nCall 93 (lC (nI 6) (lC (nTup (lC (nI 2) (lC (nI 4) lN))) (lC (nI 3) (lC (nI 0) lN))))))) (bC (sE (nMl mApp (nV 0) (nCallK0 106 (kC (nTup (lC (nI 1) (lC (nI 4) lN))) (kC (nI 5) kN)) [1, 0]))) (bC (sE (nMl mApp (nV 1) (nCall 106 (lC (nI 5) (lC (nTup (lC (nI 1) (lC (nI 4) lN))) lN))))) (bC (sE (nMl mApp (nV 0) (nCallK0 94 (kC (nI 6) kN) [0]))) (bC (sE (nMl mApp (nV 1) (nCall 94 (lC (nI 6) lN)))) (bC (sRt (nCall 108 (lC (nV 0) (lC (nV 1) lN)))) bN))))))))))))))))))
theorem nf109 : fd109.body = nd109.den := by kernel_rfl
def nd110 : NBk := (bC (sAlt (sP2 0 1 (nLst lN) (nLst lN)) (sSt (gTp (gC (gVn 0) rfl (gC (gVn 1) rfl gN))) (nTup (lC (nLst lN) (lC (nLst lN) lN)))) rfl) (bC (sE (nMl mApp (nV 0) (nCallK0 95 (kC (nTup (lC (nI 1) (lC (nI 5) lN))) (kC (nI 6) kN)) [1, 0]))) (bC (sE (nMl mApp (nV 1) (nCall 95 (lC (nI 6) (lC (nTup (lC (nI 1) (lC (nI 5) lN))) lN))))) (bC (sE (nMl mApp (nV 0) (nCallK0 96 (kC (nTup (lC (nI 1) (lC (nI 4) lN))) (kC (nI 5) kN)) [1, 0]))) (bC (sE (nMl mApp (nV 1) (nCall 96 (lC (nI 5) (lC (nTup (lC (nI 1) (lC (nI 4) lN))) lN))))) (bC (sE (nMl mApp (nV 0) (nCallK0 98 (kC (nTup (lC (nI 1) (lC (nI 2) lN))) (kC (nI 6) kN)) [1, 0]))) (bC (sE (nMl mApp (nV 1) (nCall 98 (lC (nI 6) (lC (nTup (lC (nI 1) (lC (nI 2) lN))) lN))))) (bC (sE (nMl mApp (nV 0) (nCallK0 97 (kC (nTup (lC (nI 1) lN)) (kC (nI 6) kN)) [1, 0]))) (bC (sE (nMl mApp (nV 1) (nCall 97 (lC (nI 6) (lC (nTup (lC (nI 1) lN)) lN))))) (bC (sE (nMl mApp (nV 0) (nCallK0 105 (kC (nI 4) kN) [0]))) (bC (sE (nMl mApp (nV 1) (nCall 105 (lC (nI 4) lN)))) (bC (sE (nMl mApp (nV 0) (nCallK0 99 (kC (nI 2) (kC (nI 6) kN)) [1, 0]))) (bC (sE (nMl mApp (nV 1) (nCall 99 (lC (nI 6) (lC (nI 2) lN))))) (bC (sE (nMl mApp (nV 0) (nCallK0 100 (kC (nI 30) kN) [0]))) (bC (sE (nMl mApp (nV 1) (nCall 100 (lC (nI 30) lN)))) (bC (sE (nMl mApp (nV 0) (nCallK0 101 (kC (nI 3) (kC (nTup (lC (nI 1) (lC (nI 7) lN))) (kC (nI 8) kN))) [2, 1, 0]))) (bC (sE (nMl mApp (nV 1) (nCall 101 (lC (nI 8) (lC (nTup (lC (nI 1) (lC (nI 7) lN))) (lC (nI 3) lN)))))) (bC (sRt (nCall 108 (lC (nV 0) (lC (nV 1) lN)))) bN))))))))))))))))))
theorem nf110 : fd110.body = nd110.den := by kernel_rfl
def nd111 : NBk := (bC (sAlt (sP2 0 1 (nLst lN) (nLst lN)) (sSt (gTp (gC (gVn 0) rfl (gC (gVn 1) rfl gN))) (nTup (lC (nLst lN) (lC (nLst lN) lN)))) rfl) (bC (sE (nMl mApp (nV 0) (nCallK0 102 (kC (nTup (lC (nI 3) (lC (nI 5) lN))) (kC (nTup (lC (nI 1) (lC (nI 7) lN))) (kC (nI 8) kN))) [2, 1, 0]))) (bC (sE (nMl mApp (nV 1) (nCall 102 (lC (nI 8) (lC (nTup (lC (nI 1) (lC (nI 7) lN))) (lC (nTup (lC (nI 3) (lC (nI 5) lN))) lN)))))) (bC (sE (nMl mApp (nV 0) (nCallK0 103 (kC (nTup (lC (nI 2) (lC (nI 4) lN))) (kC (nI 6) kN)) [1, 0]))) (bC (sE (nMl mApp (nV 1) (nCall 103 (lC (nI 6) (lC (nTup (lC (nI 2) (lC (nI 4) lN))) lN))))) (bC (sE (nMl mApp (nV 0) (nCallK0 104 (kC (nTup (lC (nI 1) (lC (nI 5) lN))) (kC (nI 6) kN)) [1, 0]))) (bC (sE (nMl mApp (nV 1) (nCall 104 (lC (nI 6) (lC (nTup (lC (nI 1) (lC (nI 5) lN))) lN))))) (bC (sRt (nCall 108 (lC (nV 0) (lC (nV 1) lN)))) bN))))))))
theorem nf111 : fd111.body = nd111.den := by kernel_rfl
def nd112 : NBk := (bC (sAlt (sP2 0 1 (nLst lN) (nLst lN)) (sSt (gTp (gC (gVn 0) rfl (gC (gVn 1) rfl gN))) (nTup (lC (nLst lN) (lC (nLst lN) lN)))) rfl) (bC (sE (nMl mApp (nV 0) (nCall 89 (lC (nI 4) (lC (nTup (lC (nI 1) (lC (nI 3) lN))) lN))))) (bC (sE (nMl mApp (nV 1) (nTup (lC (nI 4) (lC (nTup (lC (nTup (lC (nI 0) (lC (nI 1) lN))) (lC (nTup (lC (nI 0) (lC (nI 3) lN))) (lC (nTup (lC (nI 1) (lC (nI 2) lN))) (lC (nTup (lC (nI 2) (lC (nI 3) lN))) lN))))) lN))))) (bC (sE (nMl mApp (nV 0) (nCall 91 (lC (nI 4) (lC (nTup (lC (nI 1) (lC (nI 3) lN))) lN))))) (bC (sE (nMl mApp (nV 1) (nTup (lC (nI 0) (lC (nI 0) (lC (nNeg (nI 4)) (lC (nI 0) (lC (nI 1) lN)))))))) (bC (sE (nMl mApp (nV 0) (nCall 92 (lC (nI 5) (lC (nTup (lC (nI 1) (lC (nI 4) lN))) (lC (nI 6) lN)))))) (bC (sE (nMl mApp (nV 1) (nTup (lC (nI 5) (lC (nI 0) (lC (nI 10) (lC (nI 0) (lC (nI 30) (lC (nI 10) lN))))))))) (bC (sE (nMl mApp (nV 0) (nCall 93 (lC (nI 6) (lC (nTup (lC (nI 2) (lC (nI 4) lN))) (lC (nI 3) (lC (nI 0) lN))))))) (bC (sE (nMl mApp (nV 1) (nI 2))) (bC (sE (nMl mApp (nV 0) (nCall 94 (lC (nI 6) lN)))) (bC (sE (nMl mApp (nV 1) (nTup (lC (nTup (lC (nI 1) (lC (nTup (lC (nI 1) (lC (nI 5) lN))) lN))) (lC (nTup (lC (nI 2) (lC (nTup (lC (nI 2) (lC (nI 4) lN))) lN))) (lC (nTup (lC (nI 3) (lC (nTup (lC (nI 3) lN)) lN))) lN)))))) (bC (sE (nMl mApp (nV 0) (nCall 95 (lC (nI 6) (lC (nTup (lC (nI 1) (lC (nI 5) lN))) lN))))) (bC (sE (nMl mApp (nV 1) (nBl true))) (bC (sE (nMl mApp (nV 0) (nCall 96 (lC (nI 5) (lC (nTup (lC (nI 1) (lC (nI 4) lN))) lN))))) (bC (sE (nMl mApp (nV 1) (nBl false))) (bC (sE (nMl mApp (nV 0) (nCall 97 (lC (nI 6) (lC (nTup (lC (nI 1) lN)) lN))))) (bC (sE (nMl mApp (nV 1) (nTup (lC (nI 2) (lC (nI 1) (lC (nNeg (nI 1)) (lC (nNeg (nI 2)) (lC (nNeg (nI 1)) (lC (nI 1) lN))))))))) (bC (sE (nMl mApp (nV 0) (nCall 98 (lC (nI 6) (lC (nTup (lC (nI 1) (lC (nI 2) lN))) lN))))) (bC (sE (nMl mApp (nV 1) (nTup (lC (nI 1) (lC (nI 2) (lC (nI 4) (lC (nI 5) lN))))))) (bC (sE (nMl mApp (nV 0) (nCall 99 (lC (nI 6) (lC (nI 2) lN))))) (bC (sE (nMl mApp (nV 1) (nNeg (nI 1)))) (bC (sRt (nCall 108 (lC (nV 0) (lC (nV 1) lN)))) bN))))))))))))))))))))))
theorem nf112 : fd112.body = nd112.den := by kernel_rfl
def nd113 : NBk := (bC (sAlt (sP2 0 1 (nLst lN) (nLst lN)) (sSt (gTp (gC (gVn 0) rfl (gC (gVn 1) rfl gN))) (nTup (lC (nLst lN) (lC (nLst lN) lN)))) rfl) (bC (sE (nMl mApp (nV 0) (nCall 100 (lC (nI 30) lN)))) (bC (sE (nMl mApp (nV 1) (nNeg (nI 1)))) (bC (sE (nMl mApp (nV 0) (nCall 100 (lC (nI 12) lN)))) (bC (sE (nMl mApp (nV 1) (nI 0))) (bC (sE (nMl mApp (nV 0) (nCall 101 (lC (nI 8) (lC (nTup (lC (nI 1) (lC (nI 7) lN))) (lC (nI 3) lN)))))) (bC (sE (nMl mApp (nV 1) (nTup (lC (nI 3) (lC (nI 5) lN))))) (bC (sE (nMl mApp (nV 0) (nCall 102 (lC (nI 8) (lC (nTup (lC (nI 1) (lC (nI 7) lN))) (lC (nTup (lC (nI 3) (lC (nI 5) lN))) lN)))))) (bC (sE (nMl mApp (nV 1) (nI 3))) (bC (sE (nMl mApp (nV 0) (nCall 103 (lC (nI 6) (lC (nTup (lC (nI 2) (lC (nI 4) lN))) lN))))) (bC (sE (nMl mApp (nV 1) (nI 2))) (bC (sE (nMl mApp (nV 0) (nCall 104 (lC (nI 6) (lC (nTup (lC (nI 1) (lC (nI 5) lN))) lN))))) (bC (sE (nMl mApp (nV 1) (nBl true))) (bC (sE (nMl mApp (nV 0) (nCall 105 (lC (nI 4) lN)))) (bC (sE (nMl mApp (nV 1) (nLst (lC (nTup lN) (lC (nTup (lC (nI 1) (lC (nI 2) (lC (nI 3) lN)))) (lC (nTup (lC (nI 1) (lC (nI 3) lN))) (lC (nTup (lC (nI 2) lN)) lN))))))) (bC (sE (nMl mApp (nV 0) (nCall 90 (lC (nTup (lC (nI 3) (lC (nTup (lC (nTup (lC (nI 0) (lC (nI 1) lN))) (lC (nTup (lC (nI 0) (lC (nI 2) lN))) (lC (nTup (lC (nI 1) (lC (nI 2) lN))) lN)))) lN))) lN)))) (bC (sE (nMl mApp (nV 1) (nTup (lC (nI 1) (lC (nI 2) lN))))) (bC (sE (nMl mApp (nV 0) (nCall 106 (lC (nI 5) (lC (nTup (lC (nI 1) (lC (nI 4) lN))) lN))))) (bC (sE (nMl mApp (nV 1) (nTup (lC (nI 2) (lC (nI 3) lN))))) (bC (sE (nMl mApp (nV 0) (nCall 89 (lC (nI 1) (lC (nTup lN) lN))))) (bC (sE (nMl mApp (nV 1) (nTup (lC (nI 1) (lC (nTup lN) lN))))) (bC (sRt (nCall 108 (lC (nV 0) (lC (nV 1) lN)))) bN))))))))))))))))))))))
theorem nf113 : fd113.body = nd113.den := by kernel_rfl
def nd114 : NBk := (bC (sAlt (sP2 0 1 (nLst lN) (nLst lN)) (sSt (gTp (gC (gVn 0) rfl (gC (gVn 1) rfl gN))) (nTup (lC (nLst lN) (lC (nLst lN) lN)))) rfl) (bC (sE (nMl mApp (nV 0) (nCall 94 (lC (nI 1) lN)))) (bC (sE (nMl mApp (nV 1) (nTup lN))) (bC (sE (nMl mApp (nV 0) (nCall 105 (lC (nI 1) lN)))) (bC (sE (nMl mApp (nV 1) (nLst (lC (nTup lN) lN)))) (bC (sE (nMl mApp (nV 0) (nCall 97 (lC (nI 1) (lC (nTup lN) lN))))) (bC (sE (nMl mApp (nV 1) (nTup (lC (nI 0) lN)))) (bC (sE (nMl mApp (nV 0) (nCall 90 (lC (nTup (lC (nI 0) (lC (nTup lN) lN))) lN)))) (bC (sE (nMl mApp (nV 1) nN)) (bC (sE (nMl mApp (nV 0) (nCall 99 (lC (nI 1) (lC (nI 0) lN))))) (bC (sE (nMl mApp (nV 1) (nI 1))) (bC (sE (nMl mApp (nV 0) (nCall 104 (lC (nI 3) (lC (nTup lN) lN))))) (bC (sE (nMl mApp (nV 1) (nBl true))) (bC (sE (nMl mApp (nV 0) (nCall 101 (lC (nI 1) (lC (nTup lN) (lC (nI 0) lN)))))) (bC (sE (nMl mApp (nV 1) (nTup lN))) (bC (sRt (nCall 108 (lC (nV 0) (lC (nV 1) lN)))) bN))))))))))))))))
theorem nf114 : fd114.body = nd114.den := by kernel_rfl
def nd115 : NBk := (bC (sAlt (sP2 0 1 (nLst lN) (nLst lN)) (sSt (gTp (gC (gVn 0) rfl (gC (gVn 1) rfl gN))) (nTup (lC (nLst lN) (lC (nLst lN) lN)))) rfl) (bC (sE (nMl mApp (nV 0) (nCallK0 59 (kC (nTup (lC (nI 2) (lC (nTup (lC (nTup (lC (nI 0) (lC (nI 1) lN))) lN)) lN))) (kC (nTup (lC (nI 2) (lC (nTup (lC (nTup (lC (nI 0) (lC (nI 1) lN))) lN)) lN))) kN)) [1, 0]))) (bC (sE (nMl mApp (nV 1) (nCall 59 (lC (nTup (lC (nI 2) (lC (nTup (lC (nTup (lC (nI 0) (lC (nI 1) lN))) lN)) lN))) (lC (nTup (lC (nI 2) (lC (nTup (lC (nTup (lC (nI 0) (lC (nI 1) lN))) lN)) lN))) lN))))) (bC (sE (nMl mApp (nV 0) (nCallK0 60 (kC (nTup (lC (nI 2) (lC (nTup (lC (nTup (lC (nI 0) (lC (nI 1) lN))) lN)) lN))) (kC (nTup (lC (nI 2) (lC (nTup (lC (nTup (lC (nI 0) (lC (nI 1) lN))) lN)) lN))) kN)) [1, 0]))) (bC (sE (nMl mApp (nV 1) (nCall 60 (lC (nTup (lC (nI 2) (lC (nTup (lC (nTup (lC (nI 0) (lC (nI 1) lN))) lN)) lN))) (lC (nTup (lC (nI 2) (lC (nTup (lC (nTup (lC (nI 0) (lC (nI 1) lN))) lN)) lN))) lN))))) (bC (sE (nMl mApp (nV 0) (nCallK0 61 (kC (nTup (lC (nI 2) (lC (nTup (lC (nTup (lC (nI 0) (lC (nI 1) lN))) lN)) lN))) (kC (nTup (lC (nI 2) (lC (nTup (lC (nTup (lC (nI 0) (lC (nI 1) lN))) lN)) lN))) kN)) [1, 0]))) (bC (sE (nMl mApp (nV 1) (nCall 61 (lC (nTup (lC (nI 2) (lC (nTup (lC (nTup (lC (nI 0) (lC (nI 1) lN))) lN)) lN))) (lC (nTup (lC (nI 2) (lC (nTup (lC (nTup (lC (nI 0) (lC (nI 1) lN))) lN)) lN))) lN))))) (bC (sE (nMl mApp (nV 0) (nCallK0 62 (kC (nTup (lC (nI 2) (lC (nTup lN) lN))) (kC (nTup (lC (nI 2) (lC (nTup (lC (nTup (lC (nI 0) (lC (nI 1) lN))) lN)) lN))) kN)) [1, 0]))) (bC (sE (nMl mApp (nV 1) (nCall 62 (lC (nTup (lC (nI 2) (lC (nTup (lC (nTup (lC (nI 0) (lC (nI 1) lN))) lN)) lN))) (lC (nTup (lC (nI 2) (lC (nTup lN) lN))) lN))))) (bC (sE (nMl mApp (nV 0) (nCallK0 72 (kC (nI 0) (kC (nI 1) (kC (nTup (lC (nI 2) (lC (nTup (lC (nTup (lC (nI 0) (lC (nI 1) lN))) lN)) lN))) (kC (nTup (lC (nI 2) (lC (nTup (lC (nTup (lC (nI 0) (lC (nI 1) lN))) lN)) lN))) kN)))) [3, 2, 1, 0]))) (bC (sE (nMl mApp (nV 1) (nCall 72 (lC (nTup (lC (nI 2) (lC (nTup (lC (nTup (lC (nI 0) (lC (nI 1) lN))) lN)) lN))) (lC (nTup (lC (nI 2) (lC (nTup (lC (nTup (lC (nI 0) (lC (nI 1) lN))) lN)) lN))) (lC (nI 1) (lC (nI 0) lN))))))) (bC (sE (nMl mApp (nV 0) (nCallK0 75 (kC (nI 2) (kC (nTup (lC (nI 2) (lC (nTup (lC (nTup (lC (nI 0) (lC (nI 1) lN))) lN)) lN))) kN)) [1, 0]))) (bC (sE (nMl mApp (nV 1) (nCall 75 (lC (nTup (lC (nI 2) (lC (nTup (lC (nTup (lC (nI 0) (lC (nI 1) lN))) lN)) lN))) (lC (nI 2) lN))))) (bC (sE (nMl mApp (nV 0) (nCallK0 63 (kC (nTup (lC (nI 3) (lC (nTup (lC (nTup (lC (nI 0) (lC (nI 1) lN))) (lC (nTup (lC (nI 1) (lC (nI 2) lN))) lN))) lN))) (kC (nTup (lC (nI 2) (lC (nTup (lC (nTup (lC (nI 0) (lC (nI 1) lN))) lN)) lN))) kN)) [1, 0]))) (bC (sE (nMl mApp (nV 1) (nCall 63 (lC (nTup (lC (nI 2) (lC (nTup (lC (nTup (lC (nI 0) (lC (nI 1) lN))) lN)) lN))) (lC (nTup (lC (nI 3) (lC (nTup (lC (nTup (lC (nI 0) (lC (nI 1) lN))) (lC (nTup (lC (nI 1) (lC (nI 2) lN))) lN))) lN))) lN))))) (bC (sE (nMl mApp (nV 0) (nCallK0 64 (kC (nTup (lC (nI 2) (lC (nTup (lC (nTup (lC (nI 0) (lC (nI 1) lN))) lN)) lN))) (kC (nTup (lC (nI 2) (lC (nTup (lC (nTup (lC (nI 0) (lC (nI 1) lN))) lN)) lN))) kN)) [1, 0]))) (bC (sE (nMl mApp (nV 1) (nCall 64 (lC (nTup (lC (nI 2) (lC (nTup (lC (nTup (lC (nI 0) (lC (nI 1) lN))) lN)) lN))) (lC (nTup (lC (nI 2) (lC (nTup (lC (nTup (lC (nI 0) (lC (nI 1) lN))) lN)) lN))) lN))))) (bC (sRt (nCall 108 (lC (nV 0) (lC (nV 1) lN)))) bN))))))))))))))))))
theorem nf115 : fd115.body = nd115.den := by kernel_rfl
def nd116 : NBk := (bC (sAlt (sP2 0 1 (nLst lN) (nLst lN)) (sSt (gTp (gC (gVn 0) rfl (gC (gVn 1) rfl gN))) (nTup (lC (nLst lN) (lC (nLst lN) lN)))) rfl) (bC (sE (nMl mApp (nV 0) (nCallK0 65 (kC (nTup (lC (nI 2) (lC (nTup (lC (nTup (lC (nI 0) (lC (nI 1) lN))) lN)) lN))) (kC (nTup (lC (nI 2) (lC (nTup (lC (nTup (lC (nI 0) (lC (nI 1) lN))) lN)) lN))) kN)) [1, 0]))) (bC (sE (nMl mApp (nV 1) (nCall 65 (lC (nTup (lC (nI 2) (lC (nTup (lC (nTup (lC (nI 0) (lC (nI 1) lN))) lN)) lN))) (lC (nTup (lC (nI 2) (lC (nTup (lC (nTup (lC (nI 0) (lC (nI 1) lN))) lN)) lN))) lN))))) (bC (sE (nMl mApp (nV 0) (nCallK0 66 (kC (nI 5) (kC (nTup (lC (nI 2) (lC (nTup (lC (nTup (lC (nI 0) (lC (nI 1) lN))) lN)) lN))) (kC (nTup (lC (nI 2) (lC (nTup (lC (nTup (lC (nI 0) (lC (nI 1) lN))) lN)) lN))) kN))) [2, 1, 0]))) (bC (sE (nMl mApp (nV 1) (nCall 66 (lC (nTup (lC (nI 2) (lC (nTup (lC (nTup (lC (nI 0) (lC (nI 1) lN))) lN)) lN))) (lC (nTup (lC (nI 2) (lC (nTup (lC (nTup (lC (nI 0) (lC (nI 1) lN))) lN)) lN))) (lC (nI 5) lN)))))) (bC (sE (nMl mApp (nV 0) (nCallK0 67 (kC (nI 5) (kC (nTup (lC (nI 2) (lC (nTup (lC (nTup (lC (nI 0) (lC (nI 1) lN))) lN)) lN))) (kC (nTup (lC (nI 2) (lC (nTup (lC (nTup (lC (nI 0) (lC (nI 1) lN))) lN)) lN))) kN))) [2, 1, 0]))) (bC (sE (nMl mApp (nV 1) (nCall 67 (lC (nTup (lC (nI 2) (lC (nTup (lC (nTup (lC (nI 0) (lC (nI 1) lN))) lN)) lN))) (lC (nTup (lC (nI 2) (lC (nTup (lC (nTup (lC (nI 0) (lC (nI 1) lN))) lN)) lN))) (lC (nI 5) lN)))))) (bC (sE (nMl mApp (nV 0) (nCallK0 77 (kC (nTup (lC (nI 2) (lC (nTup (lC (nTup (lC (nI 0) (lC (nI 1) lN))) lN)) lN))) (kC (nTup (lC (nI 0) (lC (nTup lN) lN))) kN)) [1, 0]))) (bC (sE (nMl mApp (nV 1) (nCall 77 (lC (nTup (lC (nI 0) (lC (nTup lN) lN))) (lC (nTup (lC (nI 2) (lC (nTup (lC (nTup (lC (nI 0) (lC (nI 1) lN))) lN)) lN))) lN))))) (bC (sE (nMl mApp (nV 0) (nCallK0 76 (kC (nTup (lC (nI 2) (lC (nTup (lC (nTup (lC (nI 0) (lC (nI 1) lN))) lN)) lN))) (kC (nTup (lC (nI 2) (lC (nTup (lC (nTup (lC (nI 0) (lC (nI 1) lN))) lN)) lN))) kN)) [1, 0]))) (bC (sE (nMl mApp (nV 1) (nCall 76 (lC (nTup (lC (nI 2) (lC (nTup (lC (nTup (lC (nI 0) (lC (nI 1) lN))) lN)) lN))) (lC (nTup (lC (nI 2) (lC (nTup (lC (nTup (lC (nI 0) (lC (nI 1) lN))) lN)) lN))) lN))))) (bC (sE (nMl mApp (nV 0) (nCallK0 71 (kC (nTup (lC (nI 2) (lC (nTup (lC (nTup (lC (nI 0) (lC (nI 1) lN))) lN)) lN))) (kC (nTup (lC (nI 2) (lC (nTup (lC (nTup (lC (nI 0) (lC (nI 1) lN))) lN)) lN))) kN)) [1, 0]))) (bC (sE (nMl mApp (nV 1) (nCall 71 (lC (nTup (lC (nI 2) (lC (nTup (lC (nTup (lC (nI 0) (lC (nI 1) lN))) lN)) lN))) (lC (nTup (lC (nI 2) (lC (nTup (lC (nTup (lC (nI 0) (lC (nI 1) lN))) lN)) lN))) lN))))) (bC (sE (nMl mApp (nV 0) (nCallK0 73 (kC (nI 3) (kC (nI 0) (kC (nTup (lC (nI 2) (lC (nTup (lC (nTup (lC (nI 0) (lC (nI 1) lN))) lN)) lN))) (kC (nTup (lC (nI 2) (lC (nTup (lC (nTup (lC (nI 0) (lC (nI 1) lN))) lN)) lN))) kN)))) [3, 2, 1, 0]))) (bC (sE (nMl mApp (nV 1) (nCall 73 (lC (nTup (lC (nI 2) (lC (nTup (lC (nTup (lC (nI 0) (lC (nI 1) lN))) lN)) lN))) (lC (nTup (lC (nI 2) (lC (nTup (lC (nTup (lC (nI 0) (lC (nI 1) lN))) lN)) lN))) (lC (nI 0) (lC (nI 3) lN))))))) (bC (sE (nMl mApp (nV 0) (nCallK0 68 (kC (nI 2) kN) [0]))) (bC (sE (nMl mApp (nV 1) (nCall 68 (lC (nI 2) lN)))) (bC (sRt (nCall 108 (lC (nV 0) (lC (nV 1) lN)))) bN))))))))))))))))))
theorem nf116 : fd116.body = nd116.den := by kernel_rfl
def nd117 : NBk := (bC (sAlt (sP2 0 1 (nLst lN) (nLst lN)) (sSt (gTp (gC (gVn 0) rfl (gC (gVn 1) rfl gN))) (nTup (lC (nLst lN) (lC (nLst lN) lN)))) rfl) (bC (sE (nMl mApp (nV 0) (nCallK0 69 (kC (nI 1) (kC (nI 3) kN)) [1, 0]))) (bC (sE (nMl mApp (nV 1) (nCall 69 (lC (nI 3) (lC (nI 1) lN))))) (bC (sE (nMl mApp (nV 0) (nCallK0 70 (kC (nI 3) (kC (nI 2) kN)) [1, 0]))) (bC (sE (nMl mApp (nV 1) (nCall 70 (lC (nI 2) (lC (nI 3) lN))))) (bC (sRt (nCall 108 (lC (nV 0) (lC (nV 1) lN)))) bN))))))
theorem nf117 : fd117.body = nd117.den := by kernel_rfl
def nd118 : NBk := (bC (sAlt (sP2 0 1 (nLst lN) (nLst lN)) (sSt (gTp (gC (gVn 0) rfl (gC (gVn 1) rfl gN))) (nTup (lC (nLst lN) (lC (nLst lN) lN)))) rfl) (bC (sE (nMl mApp (nV 0) (nCall 59 (lC (nTup (lC (nI 2) (lC (nTup (lC (nTup (lC (nI 0) (lC (nI 1) lN))) lN)) lN))) (lC (nTup (lC (nI 2) (lC (nTup (lC (nTup (lC (nI 0) (lC (nI 1) lN))) lN)) lN))) lN))))) (bC (sE (nMl mApp (nV 1) (nTup (lC (nI 4) (lC (nTup (lC (nTup (lC (nI 0) (lC (nI 1) lN))) (lC (nTup (lC (nI 0) (lC (nI 2) lN))) (lC (nTup (lC (nI 1) (lC (nI 3) lN))) (lC (nTup (lC (nI 2) (lC (nI 3) lN))) lN))))) lN))))) (bC (sE (nMl mApp (nV 0) (nCall 60 (lC (nTup (lC (nI 2) (lC (nTup (lC (nTup (lC (nI 0) (lC (nI 1) lN))) lN)) lN))) (lC (nTup (lC (nI 2) (lC (nTup (lC (nTup (lC (nI 0) (lC (nI 1) lN))) lN)) lN))) lN))))) (bC (sE (nMl mApp (nV 1) (nTup (lC (nI 4) (lC (nTup (lC (nTup (lC (nI 0) (lC (nI 3) lN))) (lC (nTup (lC (nI 1) (lC (nI 2) lN))) lN))) lN))))) (bC (sE (nMl mApp (nV 0) (nCmp oEq (nCall 61 (lC (nTup (lC (nI 2) (lC (nTup (lC (nTup (lC (nI 0) (lC (nI 1) lN))) lN)) lN))) (lC (nTup (lC (nI 2) (lC (nTup (lC (nTup (lC (nI 0) (lC (nI 1) lN))) lN)) lN))) lN))) (nTup (lC (nI 4) (lC (nTup (lC (nTup (lC (nI 0) (lC (nI 1) lN))) (lC (nTup (lC (nI 0) (lC (nI 2) lN))) (lC (nTup (lC (nI 0) (lC (nI 3) lN))) (lC (nTup (lC (nI 1) (lC (nI 2) lN))) (lC (nTup (lC (nI 1) (lC (nI 3) lN))) (lC (nTup (lC (nI 2) (lC (nI 3) lN))) lN))))))) lN)))))) (bC (sE (nMl mApp (nV 1) (nBl true))) (bC (sE (nMl mApp (nV 0) (nCall 62 (lC (nTup (lC (nI 2) (lC (nTup (lC (nTup (lC (nI 0) (lC (nI 1) lN))) lN)) lN))) (lC (nTup (lC (nI 2) (lC (nTup lN) lN))) lN))))) (bC (sE (nMl mApp (nV 1) (nTup (lC (nI 4) (lC (nTup (lC (nTup (lC (nI 0) (lC (nI 2) lN))) (lC (nTup (lC (nI 0) (lC (nI 3) lN))) (lC (nTup (lC (nI 1) (lC (nI 2) lN))) (lC (nTup (lC (nI 1) (lC (nI 3) lN))) lN))))) lN))))) (bC (sE (nMl mApp (nV 0) (nCall 63 (lC (nTup (lC (nI 2) (lC (nTup (lC (nTup (lC (nI 0) (lC (nI 1) lN))) lN)) lN))) (lC (nTup (lC (nI 3) (lC (nTup (lC (nTup (lC (nI 0) (lC (nI 1) lN))) (lC (nTup (lC (nI 1) (lC (nI 2) lN))) lN))) lN))) lN))))) (bC (sE (nMl mApp (nV 1) (nTup (lC (nNeg (nI 1)) (lC (nI 0) (lC (nI 7) (lC (nI 0) (lC (nNeg (nI 7)) (lC (nI 0) (lC (nI 1) lN)))))))))) (bC (sE (nMl mApp (nV 0) (nCall 64 (lC (nTup (lC (nI 2) (lC (nTup (lC (nTup (lC (nI 0) (lC (nI 1) lN))) lN)) lN))) (lC (nTup (lC (nI 2) (lC (nTup (lC (nTup (lC (nI 0) (lC (nI 1) lN))) lN)) lN))) lN))))) (bC (sE (nMl mApp (nV 1) (nTup (lC (nI 1) (lC (nI 0) (lC (nNeg (nI 2)) (lC (nI 0) (lC (nI 1) lN)))))))) (bC (sE (nMl mApp (nV 0) (nCall 65 (lC (nTup (lC (nI 2) (lC (nTup (lC (nTup (lC (nI 0) (lC (nI 1) lN))) lN)) lN))) (lC (nTup (lC (nI 2) (lC (nTup (lC (nTup (lC (nI 0) (lC (nI 1) lN))) lN)) lN))) lN))))) (bC (sE (nMl mApp (nV 1) (nTup (lC (nNeg (nI 3)) (lC (nNeg (nI 8)) (lC (nNeg (nI 6)) (lC (nI 0) (lC (nI 1) lN)))))))) (bC (sE (nMl mApp (nV 0) (nCall 66 (lC (nTup (lC (nI 2) (lC (nTup (lC (nTup (lC (nI 0) (lC (nI 1) lN))) lN)) lN))) (lC (nTup (lC (nI 2) (lC (nTup (lC (nTup (lC (nI 0) (lC (nI 1) lN))) lN)) lN))) (lC (nI 5) lN)))))) (bC (sE (nMl mApp (nV 1) (nTup (lC (nI 4) (lC (nI 0) (lC (nI 8) (lC (nI 0) (lC (nI 32) lN)))))))) (bC (sE (nMl mApp (nV 0) (nCall 67 (lC (nTup (lC (nI 2) (lC (nTup (lC (nTup (lC (nI 0) (lC (nI 1) lN))) lN)) lN))) (lC (nTup (lC (nI 2) (lC (nTup (lC (nTup (lC (nI 0) (lC (nI 1) lN))) lN)) lN))) (lC (nI 5) lN)))))) (bC (sE (nMl mApp (nV 1) (nTup (lC (nI 4) (lC (nI 0) (lC (nI 4) (lC (nI 0) (lC (nI 4) lN)))))))) (bC (sE (nMl mApp (nV 0) (nCall 68 (lC (nI 2) lN)))) (bC (sE (nMl mApp (nV 1) (nTup (lC (nI 4) (lC (nTup (lC (nTup (lC (nI 0) (lC (nI 1) lN))) (lC (nTup (lC (nI 0) (lC (nI 2) lN))) (lC (nTup (lC (nI 1) (lC (nI 3) lN))) (lC (nTup (lC (nI 2) (lC (nI 3) lN))) lN))))) lN))))) (bC (sRt (nCall 108 (lC (nV 0) (lC (nV 1) lN)))) bN))))))))))))))))))))))
theorem nf118 : fd118.body = nd118.den := by kernel_rfl
def nd119 : NBk := (bC (sAlt (sP2 0 1 (nLst lN) (nLst lN)) (sSt (gTp (gC (gVn 0) rfl (gC (gVn 1) rfl gN))) (nTup (lC (nLst lN) (lC (nLst lN) lN)))) rfl) (bC (sE (nMl mApp (nV 0) (nCall 69 (lC (nI 3) (lC (nI 1) lN))))) (bC (sE (nMl mApp (nV 1) (nTup (lC (nI 3) (lC (nTup (lC (nTup (lC (nI 0) (lC (nI 1) lN))) (lC (nTup (lC (nI 0) (lC (nI 2) lN))) (lC (nTup (lC (nI 1) (lC (nI 2) lN))) lN)))) lN))))) (bC (sE (nMl mApp (nV 0) (nCall 70 (lC (nI 2) (lC (nI 3) lN))))) (bC (sE (nMl mApp (nV 1) (nTup (lC (nNeg (nI 3)) (lC (nNeg (nI 1)) (lC (nNeg (nI 1)) (lC (nNeg (nI 1)) (lC (nI 1) (lC (nI 1) (lC (nI 1) (lC (nI 3) lN))))))))))) (bC (sE (nMl mApp (nV 0) (nCall 70 (lC (nI 3) (lC (nI 2) lN))))) (bC (sE (nMl mApp (nV 1) (nTup (lC (nNeg (nI 2)) (lC (nNeg (nI 2)) (lC (nNeg (nI 2)) (lC (nNeg (nI 2)) (lC (nI 1) (lC (nI 1) (lC (nI 1) (lC (nI 1) (lC (nI 4) lN)))))))))))) (bC (sE (nMl mApp (nV 0) (nCall 71 (lC (nTup (lC (nI 2) (lC (nTup (lC (nTup (lC (nI 0) (lC (nI 1) lN))) lN)) lN))) (lC (nTup (lC (nI 2) (lC (nTup (lC (nTup (lC (nI 0) (lC (nI 1) lN))) lN)) lN))) lN))))) (bC (sE (nMl mApp (nV 1) (nI 2))) (bC (sE (nMl mApp (nV 0) (nCall 73 (lC (nTup (lC (nI 2) (lC (nTup (lC (nTup (lC (nI 0) (lC (nI 1) lN))) lN)) lN))) (lC (nTup (lC (nI 2) (lC (nTup (lC (nTup (lC (nI 0) (lC (nI 1) lN))) lN)) lN))) (lC (nI 0) (lC (nI 3) lN))))))) (bC (sE (nMl mApp (nV 1) (nI 2))) (bC (sE (nMl mApp (nV 0) (nCall 72 (lC (nTup (lC (nI 2) (lC (nTup (lC (nTup (lC (nI 0) (lC (nI 1) lN))) lN)) lN))) (lC (nTup (lC (nI 2) (lC (nTup (lC (nTup (lC (nI 0) (lC (nI 1) lN))) lN)) lN))) (lC (nI 1) (lC (nI 0) lN))))))) (bC (sE (nMl mApp (nV 1) (nI 2))) (bC (sE (nMl mApp (nV 0) (nCmp oEq (nCall 75 (lC (nTup (lC (nI 2) (lC (nTup (lC (nTup (lC (nI 0) (lC (nI 1) lN))) lN)) lN))) (lC (nI 2) lN))) (nCall 68 (lC (nI 2) lN))))) (bC (sE (nMl mApp (nV 1) (nBl true))) (bC (sE (nMl mApp (nV 0) (nCall 59 (lC (nTup (lC (nI 0) (lC (nTup lN) lN))) (lC (nTup (lC (nI 2) (lC (nTup (lC (nTup (lC (nI 0) (lC (nI 1) lN))) lN)) lN))) lN))))) (bC (sE (nMl mApp (nV 1) (nTup (lC (nI 0) (lC (nTup lN) lN))))) (bC (sE (nMl mApp (nV 0) (nCall 63 (lC (nTup (lC (nI 0) (lC (nTup lN) lN))) (lC (nTup (lC (nI 2) (lC (nTup (lC (nTup (lC (nI 0) (lC (nI 1) lN))) lN)) lN))) lN))))) (bC (sE (nMl mApp (nV 1) (nTup (lC (nI 1) lN)))) (bC (sE (nMl mApp (nV 0) (nCall 68 (lC (nI 0) lN)))) (bC (sE (nMl mApp (nV 1) (nTup (lC (nI 1) (lC (nTup lN) lN))))) (bC (sRt (nCall 108 (lC (nV 0) (lC (nV 1) lN)))) bN))))))))))))))))))))))
theorem nf119 : fd119.body = nd119.den := by kernel_rfl
def nd120 : NBk := (bC (sAlt (sP2 0 1 (nLst lN) (nLst lN)) (sSt (gTp (gC (gVn 0) rfl (gC (gVn 1) rfl gN))) (nTup (lC (nLst lN) (lC (nLst lN) lN)))) rfl) (bC (sE (nMl mApp (nV 0) (nCall 69 (lC (nI 1) (lC (nI 5) lN))))) (bC (sE (nMl mApp (nV 1) (nTup (lC (nI 1) (lC (nTup lN) lN))))) (bC (sE (nMl mApp (nV 0) (nCall 75 (lC (nTup (lC (nI 0) (lC (nTup lN) lN))) (lC (nI 0) lN))))) (bC (sE (nMl mApp (nV 1) (nTup (lC (nI 1) (lC (nTup lN) lN))))) (bC (sE (nMl mApp (nV 0) (nCall 77 (lC (nTup (lC (nI 0) (lC (nTup lN) lN))) (lC (nTup (lC (nI 2) (lC (nTup (lC (nTup (lC (nI 0) (lC (nI 1) lN))) lN)) lN))) lN))))) (bC (sE (nMl mApp (nV 1) (nTup (lC (nNeg (nI 1)) (lC (nI 0) (lC (nI 1) lN)))))) (bC (sE (nMl mApp (nV 0) (nCall 73 (lC (nTup (lC (nI 2) (lC (nTup lN) lN))) (lC (nTup (lC (nI 2) (lC (nTup (lC (nTup (lC (nI 0) (lC (nI 1) lN))) lN)) lN))) (lC (nI 0) (lC (nI 2) lN))))))) (bC (sE (nMl mApp (nV 1) nN)) (bC (sRt (nCall 108 (lC (nV 0) (lC (nV 1) lN)))) bN))))))))))
theorem nf120 : fd120.body = nd120.den := by kernel_rfl
def nd121 : NBk := (bC (sIft (tCmp oNe (nF1 fLen (nCall 107 (lC (nV 0) (lC (nI 1) lN)))) (nI 1)) (bC (sRt (nBl false)) bN) bN) (bC (sIft (tNot (tOf (nCall0 109))) (bC (sRt (nBl false)) bN) bN) (bC (sIft (tNot (tOf (nCall0 110))) (bC (sRt (nBl false)) bN) bN) (bC (sIft (tNot (tOf (nCall0 111))) (bC (sRt (nBl false)) bN) bN) (bC (sIft (tNot (tOf (nCall0 112))) (bC (sRt (nBl false)) bN) bN) (bC (sIft (tNot (tOf (nCall0 113))) (bC (sRt (nBl false)) bN) bN) (bC (sIft (tNot (tOf (nCall0 114))) (bC (sRt (nBl false)) bN) bN) (bC (sIft (tNot (tOf (nCall0 115))) (bC (sRt (nBl false)) bN) bN) (bC (sIft (tNot (tOf (nCall0 116))) (bC (sRt (nBl false)) bN) bN) (bC (sIft (tNot (tOf (nCall0 117))) (bC (sRt (nBl false)) bN) bN) (bC (sIft (tNot (tOf (nCall0 118))) (bC (sRt (nBl false)) bN) bN) (bC (sIft (tNot (tOf (nCall0 119))) (bC (sRt (nBl false)) bN) bN) (bC (sIft (tNot (tOf (nCall0 120))) (bC (sRt (nBl false)) bN) bN) (bC (sRt (nBl true)) bN))))))))))))))
theorem nf121 : fd121.body = nd121.den := by kernel_rfl
theorem fg0 : ∀ kk : FD → L3.R, FT.get L3.R.no FTab 0 kk = kk ⟨ps0.length, nm0.length, nd0.den⟩ := fun kk => by kernel_rfl
theorem fc0 : fnChk tb nd0 nm0 ps0 (defArgs (top 6)) (defScope (top 6)) (defBody (top 6)) = true := by decide +kernel
theorem ro0 : RowOk tb FTab (faOf faG tb) fn 0 "is_number" ps0 := ⟨⟨dd "is_number" "is_number" 6, nm0, nd0, by kernel_rfl, rfl, rfl, rfl, by kernel_rfl, fg0, fc0⟩⟩
theorem fg1 : ∀ kk : FD → L3.R, FT.get L3.R.no FTab 1 kk = kk ⟨ps1.length, nm1.length, nd1.den⟩ := fun kk => by kernel_rfl
theorem fc1 : fnChk tb nd1 nm1 ps1 (defArgs (top 7)) (defScope (top 7)) (defBody (top 7)) = true := by decide +kernel
theorem ro1 : RowOk tb FTab (faOf faG tb) fn 1 "is_from" ps1 := ⟨⟨dd "is_from" "is_from" 7, nm1, nd1, by kernel_rfl, rfl, rfl, rfl, by kernel_rfl, fg1, fc1⟩⟩
theorem fg2 : ∀ kk : FD → L3.R, FT.get L3.R.no FTab 2 kk = kk ⟨ps2.length, nm2.length, nd2.den⟩ := fun kk => by kernel_rfl
theorem fc2 : fnChk tb nd2 nm2 ps2 (defArgs (top 8)) (defScope (top 8)) (defBody (top 8)) = true := by decide +kernel
theorem ro2 : RowOk tb FTab (faOf faG tb) fn 2 "is_long" ps2 := ⟨⟨dd "is_long" "is_long" 8, nm2, nd2, by kernel_rfl, rfl, rfl, rfl, by kernel_rfl, fg2, fc2⟩⟩
theorem fg3 : ∀ kk : FD → L3.R, FT.get L3.R.no FTab 3 kk = kk ⟨ps3.length, nm3.length, nd3.den⟩ := fun kk => by kernel_rfl
theorem fc3 : fnChk tb nd3 nm3 ps3 (defArgs (top 9)) (defScope (top 9)) (defBody (top 9)) = true := by decide +kernel
theorem ro3 : RowOk tb FTab (faOf faG tb) fn 3 "tupled" ps3 := ⟨⟨dd "tupled" "tupled" 9, nm3, nd3, by kernel_rfl, rfl, rfl, rfl, by kernel_rfl, fg3, fc3⟩⟩
theorem fg4 : ∀ kk : FD → L3.R, FT.get L3.R.no FTab 4 kk = kk ⟨ps4.length, nm4.length, nd4.den⟩ := fun kk => by kernel_rfl
theorem fc4 : fnChk tb nd4 nm4 ps4 (defArgs (top 10)) (defScope (top 10)) (defBody (top 10)) = true := by decide +kernel
theorem ro4 : RowOk tb FTab (faOf faG tb) fn 4 "ascends" ps4 := ⟨⟨dd "ascends" "ascends" 10, nm4, nd4, by kernel_rfl, rfl, rfl, rfl, by kernel_rfl, fg4, fc4⟩⟩
theorem fg5 : ∀ kk : FD → L3.R, FT.get L3.R.no FTab 5 kk = kk ⟨ps5.length, nm5.length, nd5.den⟩ := fun kk => by kernel_rfl
theorem fc5 : fnChk tb nd5 nm5 ps5 (defArgs (top 11)) (defScope (top 11)) (defBody (top 11)) = true := by decide +kernel
theorem ro5 : RowOk tb FTab (faOf faG tb) fn 5 "are_numbers" ps5 := ⟨⟨dd "are_numbers" "are_numbers" 11, nm5, nd5, by kernel_rfl, rfl, rfl, rfl, by kernel_rfl, fg5, fc5⟩⟩
theorem fg6 : ∀ kk : FD → L3.R, FT.get L3.R.no FTab 6 kk = kk ⟨ps6.length, nm6.length, nd6.den⟩ := fun kk => by kernel_rfl
theorem fc6 : fnChk tb nd6 nm6 ps6 (defArgs (top 12)) (defScope (top 12)) (defBody (top 12)) = true := by decide +kernel
theorem ro6 : RowOk tb FTab (faOf faG tb) fn 6 "is_row_below" ps6 := ⟨⟨dd "is_row_below" "is_row_below" 12, nm6, nd6, by kernel_rfl, rfl, rfl, rfl, by kernel_rfl, fg6, fc6⟩⟩
theorem fg7 : ∀ kk : FD → L3.R, FT.get L3.R.no FTab 7 kk = kk ⟨ps7.length, nm7.length, nd7.den⟩ := fun kk => by kernel_rfl
theorem fc7 : fnChk tb nd7 nm7 ps7 (defArgs (top 13)) (defScope (top 13)) (defBody (top 13)) = true := by decide +kernel
theorem ro7 : RowOk tb FTab (faOf faG tb) fn 7 "is_set_below" ps7 := ⟨⟨dd "is_set_below" "is_set_below" 13, nm7, nd7, by kernel_rfl, rfl, rfl, rfl, by kernel_rfl, fg7, fc7⟩⟩
theorem fg8 : ∀ kk : FD → L3.R, FT.get L3.R.no FTab 8 kk = kk ⟨ps8.length, nm8.length, nd8.den⟩ := fun kk => by kernel_rfl
theorem fc8 : fnChk tb nd8 nm8 ps8 (defArgs (top 15)) (defScope (top 15)) (defBody (top 15)) = true := by decide +kernel
theorem ro8 : RowOk tb FTab (faOf faG tb) fn 8 "cut_line" ps8 := ⟨⟨dd "cut_line" "cut_line" 15, nm8, nd8, by kernel_rfl, rfl, rfl, rfl, by kernel_rfl, fg8, fc8⟩⟩
theorem fg9 : ∀ kk : FD → L3.R, FT.get L3.R.no FTab 9 kk = kk ⟨ps9.length, nm9.length, nd9.den⟩ := fun kk => by kernel_rfl
theorem fc9 : fnChk tb nd9 nm9 ps9 (defArgs (top 16)) (defScope (top 16)) (defBody (top 16)) = true := by decide +kernel
theorem ro9 : RowOk tb FTab (faOf faG tb) fn 9 "added" ps9 := ⟨⟨dd "added" "added" 16, nm9, nd9, by kernel_rfl, rfl, rfl, rfl, by kernel_rfl, fg9, fc9⟩⟩
theorem fg10 : ∀ kk : FD → L3.R, FT.get L3.R.no FTab 10 kk = kk ⟨ps10.length, nm10.length, nd10.den⟩ := fun kk => by kernel_rfl
theorem fc10 : fnChk tb nd10 nm10 ps10 (defArgs (top 17)) (defScope (top 17)) (defBody (top 17)) = true := by decide +kernel
theorem ro10 : RowOk tb FTab (faOf faG tb) fn 10 "scaled" ps10 := ⟨⟨dd "scaled" "scaled" 17, nm10, nd10, by kernel_rfl, rfl, rfl, rfl, by kernel_rfl, fg10, fc10⟩⟩
theorem fg11 : ∀ kk : FD → L3.R, FT.get L3.R.no FTab 11 kk = kk ⟨ps11.length, nm11.length, nd11.den⟩ := fun kk => by kernel_rfl
theorem fc11 : fnChk tb nd11 nm11 ps11 (defArgs (top 18)) (defScope (top 18)) (defBody (top 18)) = true := by decide +kernel
theorem ro11 : RowOk tb FTab (faOf faG tb) fn 11 "times" ps11 := ⟨⟨dd "times" "times" 18, nm11, nd11, by kernel_rfl, rfl, rfl, rfl, by kernel_rfl, fg11, fc11⟩⟩
theorem fg12 : ∀ kk : FD → L3.R, FT.get L3.R.no FTab 12 kk = kk ⟨ps12.length, nm12.length, nd12.den⟩ := fun kk => by kernel_rfl
theorem fc12 : fnChk tb nd12 nm12 ps12 (defArgs (top 19)) (defScope (top 19)) (defBody (top 19)) = true := by decide +kernel
theorem ro12 : RowOk tb FTab (faOf faG tb) fn 12 "value_in" ps12 := ⟨⟨dd "value_in" "value_in" 19, nm12, nd12, by kernel_rfl, rfl, rfl, rfl, by kernel_rfl, fg12, fc12⟩⟩
theorem fg13 : ∀ kk : FD → L3.R, FT.get L3.R.no FTab 13 kk = kk ⟨ps13.length, nm13.length, nd13.den⟩ := fun kk => by kernel_rfl
theorem fc13 : fnChk tb nd13 nm13 ps13 (defArgs (top 20)) (defScope (top 20)) (defBody (top 20)) = true := by decide +kernel
theorem ro13 : RowOk tb FTab (faOf faG tb) fn 13 "value_at" ps13 := ⟨⟨dd "value_at" "value_at" 20, nm13, nd13, by kernel_rfl, rfl, rfl, rfl, by kernel_rfl, fg13, fc13⟩⟩
theorem fg14 : ∀ kk : FD → L3.R, FT.get L3.R.no FTab 14 kk = kk ⟨ps14.length, nm14.length, nd14.den⟩ := fun kk => by kernel_rfl
theorem fc14 : fnChk tb nd14 nm14 ps14 (defArgs (top 21)) (defScope (top 21)) (defBody (top 21)) = true := by decide +kernel
theorem ro14 : RowOk tb FTab (faOf faG tb) fn 14 "slope_in" ps14 := ⟨⟨dd "slope_in" "slope_in" 21, nm14, nd14, by kernel_rfl, rfl, rfl, rfl, by kernel_rfl, fg14, fc14⟩⟩
theorem fg15 : ∀ kk : FD → L3.R, FT.get L3.R.no FTab 15 kk = kk ⟨ps15.length, nm15.length, nd15.den⟩ := fun kk => by kernel_rfl
theorem fc15 : fnChk tb nd15 nm15 ps15 (defArgs (top 22)) (defScope (top 22)) (defBody (top 22)) = true := by decide +kernel
theorem ro15 : RowOk tb FTab (faOf faG tb) fn 15 "put_in" ps15 := ⟨⟨dd "put_in" "put_in" 22, nm15, nd15, by kernel_rfl, rfl, rfl, rfl, by kernel_rfl, fg15, fc15⟩⟩
theorem fg16 : ∀ kk : FD → L3.R, FT.get L3.R.no FTab 16 kk = kk ⟨ps16.length, nm16.length, nd16.den⟩ := fun kk => by kernel_rfl
theorem fc16 : fnChk tb nd16 nm16 ps16 (defArgs (top 23)) (defScope (top 23)) (defBody (top 23)) = true := by decide +kernel
theorem ro16 : RowOk tb FTab (faOf faG tb) fn 16 "common_number" ps16 := ⟨⟨dd "common_number" "common_number" 23, nm16, nd16, by kernel_rfl, rfl, rfl, rfl, by kernel_rfl, fg16, fc16⟩⟩
theorem fg17 : ∀ kk : FD → L3.R, FT.get L3.R.no FTab 17 kk = kk ⟨ps17.length, nm17.length, nd17.den⟩ := fun kk => by kernel_rfl
theorem fc17 : fnChk tb nd17 nm17 ps17 (defArgs (top 24)) (defScope (top 24)) (defBody (top 24)) = true := by decide +kernel
theorem ro17 : RowOk tb FTab (faOf faG tb) fn 17 "plain_in" ps17 := ⟨⟨dd "plain_in" "plain_in" 24, nm17, nd17, by kernel_rfl, rfl, rfl, rfl, by kernel_rfl, fg17, fc17⟩⟩
theorem fg18 : ∀ kk : FD → L3.R, FT.get L3.R.no FTab 18 kk = kk ⟨ps18.length, nm18.length, nd18.den⟩ := fun kk => by kernel_rfl
theorem fc18 : fnChk tb nd18 nm18 ps18 (defArgs (top 25)) (defScope (top 25)) (defBody (top 25)) = true := by decide +kernel
theorem ro18 : RowOk tb FTab (faOf faG tb) fn 18 "same_signs" ps18 := ⟨⟨dd "same_signs" "same_signs" 25, nm18, nd18, by kernel_rfl, rfl, rfl, rfl, by kernel_rfl, fg18, fc18⟩⟩
theorem fg19 : ∀ kk : FD → L3.R, FT.get L3.R.no FTab 19 kk = kk ⟨ps19.length, nm19.length, nd19.den⟩ := fun kk => by kernel_rfl
theorem fc19 : fnChk tb nd19 nm19 ps19 (defArgs (top 26)) (defScope (top 26)) (defBody (top 26)) = true := by decide +kernel
theorem ro19 : RowOk tb FTab (faOf faG tb) fn 19 "rest_in" ps19 := ⟨⟨dd "rest_in" "rest_in" 26, nm19, nd19, by kernel_rfl, rfl, rfl, rfl, by kernel_rfl, fg19, fc19⟩⟩
theorem fg20 : ∀ kk : FD → L3.R, FT.get L3.R.no FTab 20 kk = kk ⟨ps20.length, nm20.length, nd20.den⟩ := fun kk => by kernel_rfl
theorem fc20 : fnChk tb nd20 nm20 ps20 (defArgs (top 27)) (defScope (top 27)) (defBody (top 27)) = true := by decide +kernel
theorem ro20 : RowOk tb FTab (faOf faG tb) fn 20 "shared_in" ps20 := ⟨⟨dd "shared_in" "shared_in" 27, nm20, nd20, by kernel_rfl, rfl, rfl, rfl, by kernel_rfl, fg20, fc20⟩⟩
theorem fg21 : ∀ kk : FD → L3.R, FT.get L3.R.no FTab 21 kk = kk ⟨ps21.length, nm21.length, nd21.den⟩ := fun kk => by kernel_rfl
theorem fc21 : fnChk tb nd21 nm21 ps21 (defArgs (top 28)) (defScope (top 28)) (defBody (top 28)) = true := by decide +kernel
theorem ro21 : RowOk tb FTab (faOf faG tb) fn 21 "quotient_in" ps21 := ⟨⟨dd "quotient_in" "quotient_in" 28, nm21, nd21, by kernel_rfl, rfl, rfl, rfl, by kernel_rfl, fg21, fc21⟩⟩
theorem fg22 : ∀ kk : FD → L3.R, FT.get L3.R.no FTab 22 kk = kk ⟨ps22.length, nm22.length, nd22.den⟩ := fun kk => by kernel_rfl
theorem fc22 : fnChk tb nd22 nm22 ps22 (defArgs (top 29)) (defScope (top 29)) (defBody (top 29)) = true := by decide +kernel
theorem ro22 : RowOk tb FTab (faOf faG tb) fn 22 "square_parts_in" ps22 := ⟨⟨dd "square_parts_in" "square_parts_in" 29, nm22, nd22, by kernel_rfl, rfl, rfl, rfl, by kernel_rfl, fg22, fc22⟩⟩
theorem fg23 : ∀ kk : FD → L3.R, FT.get L3.R.no FTab 23 kk = kk ⟨ps23.length, nm23.length, nd23.den⟩ := fun kk => by kernel_rfl
theorem fc23 : fnChk tb nd23 nm23 ps23 (defArgs (top 30)) (defScope (top 30)) (defBody (top 30)) = true := by decide +kernel
theorem ro23 : RowOk tb FTab (faOf faG tb) fn 23 "sums_in_lines" ps23 := ⟨⟨dd "sums_in_lines" "sums_in" 30, nm23, nd23, by kernel_rfl, rfl, rfl, rfl, by kernel_rfl, fg23, fc23⟩⟩
theorem fg24 : ∀ kk : FD → L3.R, FT.get L3.R.no FTab 24 kk = kk ⟨ps24.length, nm24.length, nd24.den⟩ := fun kk => by kernel_rfl
theorem fc24 : fnChk tb nd24 nm24 ps24 (defArgs (top 32)) (defScope (top 32)) (defBody (top 32)) = true := by decide +kernel
theorem ro24 : RowOk tb FTab (faOf faG tb) fn 24 "from_sums_in" ps24 := ⟨⟨dd "from_sums_in" "from_sums_in" 32, nm24, nd24, by kernel_rfl, rfl, rfl, rfl, by kernel_rfl, fg24, fc24⟩⟩
theorem fg25 : ∀ kk : FD → L3.R, FT.get L3.R.no FTab 25 kk = kk ⟨ps25.length, nm25.length, nd25.den⟩ := fun kk => by kernel_rfl
theorem fc25 : fnChk tb nd25 nm25 ps25 (defArgs (top 35)) (defScope (top 35)) (defBody (top 35)) = true := by decide +kernel
theorem ro25 : RowOk tb FTab (faOf faG tb) fn 25 "is_tie_in" ps25 := ⟨⟨dd "is_tie_in" "is_tie_in" 35, nm25, nd25, by kernel_rfl, rfl, rfl, rfl, by kernel_rfl, fg25, fc25⟩⟩
theorem fg26 : ∀ kk : FD → L3.R, FT.get L3.R.no FTab 26 kk = kk ⟨ps26.length, nm26.length, nd26.den⟩ := fun kk => by kernel_rfl
theorem fc26 : fnChk tb nd26 nm26 ps26 (defArgs (top 36)) (defScope (top 36)) (defBody (top 36)) = true := by decide +kernel
theorem ro26 : RowOk tb FTab (faOf faG tb) fn 26 "is_web_in" ps26 := ⟨⟨dd "is_web_in" "is_web_in" 36, nm26, nd26, by kernel_rfl, rfl, rfl, rfl, by kernel_rfl, fg26, fc26⟩⟩
theorem fg27 : ∀ kk : FD → L3.R, FT.get L3.R.no FTab 27 kk = kk ⟨ps27.length, nm27.length, nd27.den⟩ := fun kk => by kernel_rfl
theorem fc27 : fnChk tb nd27 nm27 ps27 (defArgs (top 37)) (defScope (top 37)) (defBody (top 37)) = true := by decide +kernel
theorem ro27 : RowOk tb FTab (faOf faG tb) fn 27 "sure_web" ps27 := ⟨⟨dd "sure_web" "sure_web" 37, nm27, nd27, by kernel_rfl, rfl, rfl, rfl, by kernel_rfl, fg27, fc27⟩⟩
theorem fg28 : ∀ kk : FD → L3.R, FT.get L3.R.no FTab 28 kk = kk ⟨ps28.length, nm28.length, nd28.den⟩ := fun kk => by kernel_rfl
theorem fc28 : fnChk tb nd28 nm28 ps28 (defArgs (top 38)) (defScope (top 38)) (defBody (top 38)) = true := by decide +kernel
theorem ro28 : RowOk tb FTab (faOf faG tb) fn 28 "tie_of" ps28 := ⟨⟨dd "tie_of" "tie_of" 38, nm28, nd28, by kernel_rfl, rfl, rfl, rfl, by kernel_rfl, fg28, fc28⟩⟩
theorem fg29 : ∀ kk : FD → L3.R, FT.get L3.R.no FTab 29 kk = kk ⟨ps29.length, nm29.length, nd29.den⟩ := fun kk => by kernel_rfl
theorem fc29 : fnChk tb nd29 nm29 ps29 (defArgs (top 39)) (defScope (top 39)) (defBody (top 39)) = true := by decide +kernel
theorem ro29 : RowOk tb FTab (faOf faG tb) fn 29 "near_in" ps29 := ⟨⟨dd "near_in" "near_in" 39, nm29, nd29, by kernel_rfl, rfl, rfl, rfl, by kernel_rfl, fg29, fc29⟩⟩
theorem fg30 : ∀ kk : FD → L3.R, FT.get L3.R.no FTab 30 kk = kk ⟨ps30.length, nm30.length, nd30.den⟩ := fun kk => by kernel_rfl
theorem fc30 : fnChk tb nd30 nm30 ps30 (defArgs (top 40)) (defScope (top 40)) (defBody (top 40)) = true := by decide +kernel
theorem ro30 : RowOk tb FTab (faOf faG tb) fn 30 "clique_in" ps30 := ⟨⟨dd "clique_in" "clique_in" 40, nm30, nd30, by kernel_rfl, rfl, rfl, rfl, by kernel_rfl, fg30, fc30⟩⟩
theorem fg31 : ∀ kk : FD → L3.R, FT.get L3.R.no FTab 31 kk = kk ⟨ps31.length, nm31.length, nd31.den⟩ := fun kk => by kernel_rfl
theorem fc31 : fnChk tb nd31 nm31 ps31 (defArgs (top 41)) (defScope (top 41)) (defBody (top 41)) = true := by decide +kernel
theorem ro31 : RowOk tb FTab (faOf faG tb) fn 31 "lots_in" ps31 := ⟨⟨dd "lots_in" "lots_in" 41, nm31, nd31, by kernel_rfl, rfl, rfl, rfl, by kernel_rfl, fg31, fc31⟩⟩
theorem fg32 : ∀ kk : FD → L3.R, FT.get L3.R.no FTab 32 kk = kk ⟨ps32.length, nm32.length, nd32.den⟩ := fun kk => by kernel_rfl
theorem fc32 : fnChk tb nd32 nm32 ps32 (defArgs (top 42)) (defScope (top 42)) (defBody (top 42)) = true := by decide +kernel
theorem ro32 : RowOk tb FTab (faOf faG tb) fn 32 "sides_in" ps32 := ⟨⟨dd "sides_in" "sides_in" 42, nm32, nd32, by kernel_rfl, rfl, rfl, rfl, by kernel_rfl, fg32, fc32⟩⟩
theorem fg33 : ∀ kk : FD → L3.R, FT.get L3.R.no FTab 33 kk = kk ⟨ps33.length, nm33.length, nd33.den⟩ := fun kk => by kernel_rfl
theorem fc33 : fnChk tb nd33 nm33 ps33 (defArgs (top 44)) (defScope (top 44)) (defBody (top 44)) = true := by decide +kernel
theorem ro33 : RowOk tb FTab (faOf faG tb) fn 33 "one_in" ps33 := ⟨⟨dd "one_in" "one_in" 44, nm33, nd33, by kernel_rfl, rfl, rfl, rfl, by kernel_rfl, fg33, fc33⟩⟩
theorem fg34 : ∀ kk : FD → L3.R, FT.get L3.R.no FTab 34 kk = kk ⟨ps34.length, nm34.length, nd34.den⟩ := fun kk => by kernel_rfl
theorem fc34 : fnChk tb nd34 nm34 ps34 (defArgs (top 45)) (defScope (top 45)) (defBody (top 45)) = true := by decide +kernel
theorem ro34 : RowOk tb FTab (faOf faG tb) fn 34 "product_in" ps34 := ⟨⟨dd "product_in" "product_in" 45, nm34, nd34, by kernel_rfl, rfl, rfl, rfl, by kernel_rfl, fg34, fc34⟩⟩
theorem fg35 : ∀ kk : FD → L3.R, FT.get L3.R.no FTab 35 kk = kk ⟨ps35.length, nm35.length, nd35.den⟩ := fun kk => by kernel_rfl
theorem fc35 : fnChk tb nd35 nm35 ps35 (defArgs (top 46)) (defScope (top 46)) (defBody (top 46)) = true := by decide +kernel
theorem ro35 : RowOk tb FTab (faOf faG tb) fn 35 "sum_in" ps35 := ⟨⟨dd "sum_in" "sum_in" 46, nm35, nd35, by kernel_rfl, rfl, rfl, rfl, by kernel_rfl, fg35, fc35⟩⟩
theorem fg36 : ∀ kk : FD → L3.R, FT.get L3.R.no FTab 36 kk = kk ⟨ps36.length, nm36.length, nd36.den⟩ := fun kk => by kernel_rfl
theorem fc36 : fnChk tb nd36 nm36 ps36 (defArgs (top 47)) (defScope (top 47)) (defBody (top 47)) = true := by decide +kernel
theorem ro36 : RowOk tb FTab (faOf faG tb) fn 36 "trace_in" ps36 := ⟨⟨dd "trace_in" "trace_in" 47, nm36, nd36, by kernel_rfl, rfl, rfl, rfl, by kernel_rfl, fg36, fc36⟩⟩
theorem fg37 : ∀ kk : FD → L3.R, FT.get L3.R.no FTab 37 kk = kk ⟨ps37.length, nm37.length, nd37.den⟩ := fun kk => by kernel_rfl
theorem fc37 : fnChk tb nd37 nm37 ps37 (defArgs (top 48)) (defScope (top 48)) (defBody (top 48)) = true := by decide +kernel
theorem ro37 : RowOk tb FTab (faOf faG tb) fn 37 "power_in" ps37 := ⟨⟨dd "power_in" "power_in" 48, nm37, nd37, by kernel_rfl, rfl, rfl, rfl, by kernel_rfl, fg37, fc37⟩⟩
theorem fg38 : ∀ kk : FD → L3.R, FT.get L3.R.no FTab 38 kk = kk ⟨ps38.length, nm38.length, nd38.den⟩ := fun kk => by kernel_rfl
theorem fc38 : fnChk tb nd38 nm38 ps38 (defArgs (top 49)) (defScope (top 49)) (defBody (top 49)) = true := by decide +kernel
theorem ro38 : RowOk tb FTab (faOf faG tb) fn 38 "poly_of_table" ps38 := ⟨⟨dd "poly_of_table" "poly_of_table" 49, nm38, nd38, by kernel_rfl, rfl, rfl, rfl, by kernel_rfl, fg38, fc38⟩⟩
theorem fg39 : ∀ kk : FD → L3.R, FT.get L3.R.no FTab 39 kk = kk ⟨ps39.length, nm39.length, nd39.den⟩ := fun kk => by kernel_rfl
theorem fc39 : fnChk tb nd39 nm39 ps39 (defArgs (top 50)) (defScope (top 50)) (defBody (top 50)) = true := by decide +kernel
theorem ro39 : RowOk tb FTab (faOf faG tb) fn 39 "ties_table_in" ps39 := ⟨⟨dd "ties_table_in" "ties_table_in" 50, nm39, nd39, by kernel_rfl, rfl, rfl, rfl, by kernel_rfl, fg39, fc39⟩⟩
theorem fg40 : ∀ kk : FD → L3.R, FT.get L3.R.no FTab 40 kk = kk ⟨ps40.length, nm40.length, nd40.den⟩ := fun kk => by kernel_rfl
theorem fc40 : fnChk tb nd40 nm40 ps40 (defArgs (top 52)) (defScope (top 52)) (defBody (top 52)) = true := by decide +kernel
theorem ro40 : RowOk tb FTab (faOf faG tb) fn 40 "poly_in" ps40 := ⟨⟨dd "poly_in" "poly_in" 52, nm40, nd40, by kernel_rfl, rfl, rfl, rfl, by kernel_rfl, fg40, fc40⟩⟩
theorem fg41 : ∀ kk : FD → L3.R, FT.get L3.R.no FTab 41 kk = kk ⟨ps41.length, nm41.length, nd41.den⟩ := fun kk => by kernel_rfl
theorem fc41 : fnChk tb nd41 nm41 ps41 (defArgs (top 54)) (defScope (top 54)) (defBody (top 54)) = true := by decide +kernel
theorem ro41 : RowOk tb FTab (faOf faG tb) fn 41 "sturm_row" ps41 := ⟨⟨dd "sturm_row" "sturm_row" 54, nm41, nd41, by kernel_rfl, rfl, rfl, rfl, by kernel_rfl, fg41, fc41⟩⟩
theorem fg42 : ∀ kk : FD → L3.R, FT.get L3.R.no FTab 42 kk = kk ⟨ps42.length, nm42.length, nd42.den⟩ := fun kk => by kernel_rfl
theorem fc42 : fnChk tb nd42 nm42 ps42 (defArgs (top 55)) (defScope (top 55)) (defBody (top 55)) = true := by decide +kernel
theorem ro42 : RowOk tb FTab (faOf faG tb) fn 42 "sign_of" ps42 := ⟨⟨dd "sign_of" "sign_of" 55, nm42, nd42, by kernel_rfl, rfl, rfl, rfl, by kernel_rfl, fg42, fc42⟩⟩
theorem fg43 : ∀ kk : FD → L3.R, FT.get L3.R.no FTab 43 kk = kk ⟨ps43.length, nm43.length, nd43.den⟩ := fun kk => by kernel_rfl
theorem fc43 : fnChk tb nd43 nm43 ps43 (defArgs (top 56)) (defScope (top 56)) (defBody (top 56)) = true := by decide +kernel
theorem ro43 : RowOk tb FTab (faOf faG tb) fn 43 "changes_in" ps43 := ⟨⟨dd "changes_in" "changes_in" 56, nm43, nd43, by kernel_rfl, rfl, rfl, rfl, by kernel_rfl, fg43, fc43⟩⟩
theorem fg44 : ∀ kk : FD → L3.R, FT.get L3.R.no FTab 44 kk = kk ⟨ps44.length, nm44.length, nd44.den⟩ := fun kk => by kernel_rfl
theorem fc44 : fnChk tb nd44 nm44 ps44 (defArgs (top 57)) (defScope (top 57)) (defBody (top 57)) = true := by decide +kernel
theorem ro44 : RowOk tb FTab (faOf faG tb) fn 44 "signs_at" ps44 := ⟨⟨dd "signs_at" "signs_at" 57, nm44, nd44, by kernel_rfl, rfl, rfl, rfl, by kernel_rfl, fg44, fc44⟩⟩
theorem fg45 : ∀ kk : FD → L3.R, FT.get L3.R.no FTab 45 kk = kk ⟨ps45.length, nm45.length, nd45.den⟩ := fun kk => by kernel_rfl
theorem fc45 : fnChk tb nd45 nm45 ps45 (defArgs (top 58)) (defScope (top 58)) (defBody (top 58)) = true := by decide +kernel
theorem ro45 : RowOk tb FTab (faOf faG tb) fn 45 "signs_far" ps45 := ⟨⟨dd "signs_far" "signs_far" 58, nm45, nd45, by kernel_rfl, rfl, rfl, rfl, by kernel_rfl, fg45, fc45⟩⟩
theorem fg46 : ∀ kk : FD → L3.R, FT.get L3.R.no FTab 46 kk = kk ⟨ps46.length, nm46.length, nd46.den⟩ := fun kk => by kernel_rfl
theorem fc46 : fnChk tb nd46 nm46 ps46 (defArgs (top 59)) (defScope (top 59)) (defBody (top 59)) = true := by decide +kernel
theorem ro46 : RowOk tb FTab (faOf faG tb) fn 46 "at_in" ps46 := ⟨⟨dd "at_in" "at_in" 59, nm46, nd46, by kernel_rfl, rfl, rfl, rfl, by kernel_rfl, fg46, fc46⟩⟩
theorem fg47 : ∀ kk : FD → L3.R, FT.get L3.R.no FTab 47 kk = kk ⟨ps47.length, nm47.length, nd47.den⟩ := fun kk => by kernel_rfl
theorem fc47 : fnChk tb nd47 nm47 ps47 (defArgs (top 60)) (defScope (top 60)) (defBody (top 60)) = true := by decide +kernel
theorem ro47 : RowOk tb FTab (faOf faG tb) fn 47 "bound_in" ps47 := ⟨⟨dd "bound_in" "bound_in" 60, nm47, nd47, by kernel_rfl, rfl, rfl, rfl, by kernel_rfl, fg47, fc47⟩⟩
theorem fg48 : ∀ kk : FD → L3.R, FT.get L3.R.no FTab 48 kk = kk ⟨ps48.length, nm48.length, nd48.den⟩ := fun kk => by kernel_rfl
theorem fc48 : fnChk tb nd48 nm48 ps48 (defArgs (top 61)) (defScope (top 61)) (defBody (top 61)) = true := by decide +kernel
theorem ro48 : RowOk tb FTab (faOf faG tb) fn 48 "floors_in" ps48 := ⟨⟨dd "floors_in" "floors_in" 61, nm48, nd48, by kernel_rfl, rfl, rfl, rfl, by kernel_rfl, fg48, fc48⟩⟩
theorem fg49 : ∀ kk : FD → L3.R, FT.get L3.R.no FTab 49 kk = kk ⟨ps49.length, nm49.length, nd49.den⟩ := fun kk => by kernel_rfl
theorem fc49 : fnChk tb nd49 nm49 ps49 (defArgs (top 62)) (defScope (top 62)) (defBody (top 62)) = true := by decide +kernel
theorem ro49 : RowOk tb FTab (faOf faG tb) fn 49 "from_in" ps49 := ⟨⟨dd "from_in" "from_in" 62, nm49, nd49, by kernel_rfl, rfl, rfl, rfl, by kernel_rfl, fg49, fc49⟩⟩
theorem fg50 : ∀ kk : FD → L3.R, FT.get L3.R.no FTab 50 kk = kk ⟨ps50.length, nm50.length, nd50.den⟩ := fun kk => by kernel_rfl
theorem fc50 : fnChk tb nd50 nm50 ps50 (defArgs (top 63)) (defScope (top 63)) (defBody (top 63)) = true := by decide +kernel
theorem ro50 : RowOk tb FTab (faOf faG tb) fn 50 "whole_in" ps50 := ⟨⟨dd "whole_in" "whole_in" 63, nm50, nd50, by kernel_rfl, rfl, rfl, rfl, by kernel_rfl, fg50, fc50⟩⟩
theorem fg51 : ∀ kk : FD → L3.R, FT.get L3.R.no FTab 51 kk = kk ⟨ps51.length, nm51.length, nd51.den⟩ := fun kk => by kernel_rfl
theorem fc51 : fnChk tb nd51 nm51 ps51 (defArgs (top 65)) (defScope (top 65)) (defBody (top 65)) = true := by decide +kernel
theorem ro51 : RowOk tb FTab (faOf faG tb) fn 51 "step_in" ps51 := ⟨⟨dd "step_in" "step_in" 65, nm51, nd51, by kernel_rfl, rfl, rfl, rfl, by kernel_rfl, fg51, fc51⟩⟩
theorem fg52 : ∀ kk : FD → L3.R, FT.get L3.R.no FTab 52 kk = kk ⟨ps52.length, nm52.length, nd52.den⟩ := fun kk => by kernel_rfl
theorem fc52 : fnChk tb nd52 nm52 ps52 (defArgs (top 66)) (defScope (top 66)) (defBody (top 66)) = true := by decide +kernel
theorem ro52 : RowOk tb FTab (faOf faG tb) fn 52 "closed_in" ps52 := ⟨⟨dd "closed_in" "closed_in" 66, nm52, nd52, by kernel_rfl, rfl, rfl, rfl, by kernel_rfl, fg52, fc52⟩⟩
theorem fg53 : ∀ kk : FD → L3.R, FT.get L3.R.no FTab 53 kk = kk ⟨ps53.length, nm53.length, nd53.den⟩ := fun kk => by kernel_rfl
theorem fc53 : fnChk tb nd53 nm53 ps53 (defArgs (top 70)) (defScope (top 70)) (defBody (top 70)) = true := by decide +kernel
theorem ro53 : RowOk tb FTab (faOf faG tb) fn 53 "sure_pair" ps53 := ⟨⟨dd "sure_pair" "sure_pair" 70, nm53, nd53, by kernel_rfl, rfl, rfl, rfl, by kernel_rfl, fg53, fc53⟩⟩
theorem fg54 : ∀ kk : FD → L3.R, FT.get L3.R.no FTab 54 kk = kk ⟨ps54.length, nm54.length, nd54.den⟩ := fun kk => by kernel_rfl
theorem fc54 : fnChk tb nd54 nm54 ps54 (defArgs (top 71)) (defScope (top 71)) (defBody (top 71)) = true := by decide +kernel
theorem ro54 : RowOk tb FTab (faOf faG tb) fn 54 "sure_small" ps54 := ⟨⟨dd "sure_small" "sure_small" 71, nm54, nd54, by kernel_rfl, rfl, rfl, rfl, by kernel_rfl, fg54, fc54⟩⟩
theorem fg55 : ∀ kk : FD → L3.R, FT.get L3.R.no FTab 55 kk = kk ⟨ps55.length, nm55.length, nd55.den⟩ := fun kk => by kernel_rfl
theorem fc55 : fnChk tb nd55 nm55 ps55 (defArgs (top 72)) (defScope (top 72)) (defBody (top 72)) = true := by decide +kernel
theorem ro55 : RowOk tb FTab (faOf faG tb) fn 55 "turns_in" ps55 := ⟨⟨dd "turns_in" "turns_in" 72, nm55, nd55, by kernel_rfl, rfl, rfl, rfl, by kernel_rfl, fg55, fc55⟩⟩
theorem fg56 : ∀ kk : FD → L3.R, FT.get L3.R.no FTab 56 kk = kk ⟨ps56.length, nm56.length, nd56.den⟩ := fun kk => by kernel_rfl
theorem fc56 : fnChk tb nd56 nm56 ps56 (defArgs (top 73)) (defScope (top 73)) (defBody (top 73)) = true := by decide +kernel
theorem ro56 : RowOk tb FTab (faOf faG tb) fn 56 "both_in" ps56 := ⟨⟨dd "both_in" "both_in" 73, nm56, nd56, by kernel_rfl, rfl, rfl, rfl, by kernel_rfl, fg56, fc56⟩⟩
theorem fg57 : ∀ kk : FD → L3.R, FT.get L3.R.no FTab 57 kk = kk ⟨ps57.length, nm57.length, nd57.den⟩ := fun kk => by kernel_rfl
theorem fc57 : fnChk tb nd57 nm57 ps57 (defArgs (top 74)) (defScope (top 74)) (defBody (top 74)) = true := by decide +kernel
theorem ro57 : RowOk tb FTab (faOf faG tb) fn 57 "web_of" ps57 := ⟨⟨dd "web_of" "web_of" 74, nm57, nd57, by kernel_rfl, rfl, rfl, rfl, by kernel_rfl, fg57, fc57⟩⟩
theorem fg58 : ∀ kk : FD → L3.R, FT.get L3.R.no FTab 58 kk = kk ⟨ps58.length, nm58.length, nd58.den⟩ := fun kk => by kernel_rfl
theorem fc58 : fnChk tb nd58 nm58 ps58 (defArgs (top 75)) (defScope (top 75)) (defBody (top 75)) = true := by decide +kernel
theorem ro58 : RowOk tb FTab (faOf faG tb) fn 58 "sums_by_turns" ps58 := ⟨⟨dd "sums_by_turns" "sums_by_turns" 75, nm58, nd58, by kernel_rfl, rfl, rfl, rfl, by kernel_rfl, fg58, fc58⟩⟩
theorem fg59 : ∀ kk : FD → L3.R, FT.get L3.R.no FTab 59 kk = kk ⟨ps59.length, nm59.length, nd59.den⟩ := fun kk => by kernel_rfl
theorem fc59 : fnChk tb nd59 nm59 ps59 (defArgs (top 76)) (defScope (top 76)) (defBody (top 76)) = true := by decide +kernel
theorem ro59 : RowOk tb FTab (faOf faG tb) fn 59 "by_turns" ps59 := ⟨⟨dd "by_turns" "by_turns" 76, nm59, nd59, by kernel_rfl, rfl, rfl, rfl, by kernel_rfl, fg59, fc59⟩⟩
theorem fg60 : ∀ kk : FD → L3.R, FT.get L3.R.no FTab 60 kk = kk ⟨ps60.length, nm60.length, nd60.den⟩ := fun kk => by kernel_rfl
theorem fc60 : fnChk tb nd60 nm60 ps60 (defArgs (top 77)) (defScope (top 77)) (defBody (top 77)) = true := by decide +kernel
theorem ro60 : RowOk tb FTab (faOf faG tb) fn 60 "at_once" ps60 := ⟨⟨dd "at_once" "at_once" 77, nm60, nd60, by kernel_rfl, rfl, rfl, rfl, by kernel_rfl, fg60, fc60⟩⟩
theorem fg61 : ∀ kk : FD → L3.R, FT.get L3.R.no FTab 61 kk = kk ⟨ps61.length, nm61.length, nd61.den⟩ := fun kk => by kernel_rfl
theorem fc61 : fnChk tb nd61 nm61 ps61 (defArgs (top 78)) (defScope (top 78)) (defBody (top 78)) = true := by decide +kernel
theorem ro61 : RowOk tb FTab (faOf faG tb) fn 61 "either_way" ps61 := ⟨⟨dd "either_way" "either_way" 78, nm61, nd61, by kernel_rfl, rfl, rfl, rfl, by kernel_rfl, fg61, fc61⟩⟩
theorem fg62 : ∀ kk : FD → L3.R, FT.get L3.R.no FTab 62 kk = kk ⟨ps62.length, nm62.length, nd62.den⟩ := fun kk => by kernel_rfl
theorem fc62 : fnChk tb nd62 nm62 ps62 (defArgs (top 79)) (defScope (top 79)) (defBody (top 79)) = true := by decide +kernel
theorem ro62 : RowOk tb FTab (faOf faG tb) fn 62 "first_first" ps62 := ⟨⟨dd "first_first" "first_first" 79, nm62, nd62, by kernel_rfl, rfl, rfl, rfl, by kernel_rfl, fg62, fc62⟩⟩
theorem fg63 : ∀ kk : FD → L3.R, FT.get L3.R.no FTab 63 kk = kk ⟨ps63.length, nm63.length, nd63.den⟩ := fun kk => by kernel_rfl
theorem fc63 : fnChk tb nd63 nm63 ps63 (defArgs (top 80)) (defScope (top 80)) (defBody (top 80)) = true := by decide +kernel
theorem ro63 : RowOk tb FTab (faOf faG tb) fn 63 "turns_poly" ps63 := ⟨⟨dd "turns_poly" "turns_poly" 80, nm63, nd63, by kernel_rfl, rfl, rfl, rfl, by kernel_rfl, fg63, fc63⟩⟩
theorem fg64 : ∀ kk : FD → L3.R, FT.get L3.R.no FTab 64 kk = kk ⟨ps64.length, nm64.length, nd64.den⟩ := fun kk => by kernel_rfl
theorem fc64 : fnChk tb nd64 nm64 ps64 (defArgs (top 81)) (defScope (top 81)) (defBody (top 81)) = true := by decide +kernel
theorem ro64 : RowOk tb FTab (faOf faG tb) fn 64 "once_poly" ps64 := ⟨⟨dd "once_poly" "once_poly" 81, nm64, nd64, by kernel_rfl, rfl, rfl, rfl, by kernel_rfl, fg64, fc64⟩⟩
theorem fg65 : ∀ kk : FD → L3.R, FT.get L3.R.no FTab 65 kk = kk ⟨ps65.length, nm65.length, nd65.den⟩ := fun kk => by kernel_rfl
theorem fc65 : fnChk tb nd65 nm65 ps65 (defArgs (top 82)) (defScope (top 82)) (defBody (top 82)) = true := by decide +kernel
theorem ro65 : RowOk tb FTab (faOf faG tb) fn 65 "either_poly" ps65 := ⟨⟨dd "either_poly" "either_poly" 82, nm65, nd65, by kernel_rfl, rfl, rfl, rfl, by kernel_rfl, fg65, fc65⟩⟩
theorem fg66 : ∀ kk : FD → L3.R, FT.get L3.R.no FTab 66 kk = kk ⟨ps66.length, nm66.length, nd66.den⟩ := fun kk => by kernel_rfl
theorem fc66 : fnChk tb nd66 nm66 ps66 (defArgs (top 83)) (defScope (top 83)) (defBody (top 83)) = true := by decide +kernel
theorem ro66 : RowOk tb FTab (faOf faG tb) fn 66 "turns_walks" ps66 := ⟨⟨dd "turns_walks" "turns_walks" 83, nm66, nd66, by kernel_rfl, rfl, rfl, rfl, by kernel_rfl, fg66, fc66⟩⟩
theorem fg67 : ∀ kk : FD → L3.R, FT.get L3.R.no FTab 67 kk = kk ⟨ps67.length, nm67.length, nd67.den⟩ := fun kk => by kernel_rfl
theorem fc67 : fnChk tb nd67 nm67 ps67 (defArgs (top 84)) (defScope (top 84)) (defBody (top 84)) = true := by decide +kernel
theorem ro67 : RowOk tb FTab (faOf faG tb) fn 67 "once_walks" ps67 := ⟨⟨dd "once_walks" "once_walks" 84, nm67, nd67, by kernel_rfl, rfl, rfl, rfl, by kernel_rfl, fg67, fc67⟩⟩
theorem fg68 : ∀ kk : FD → L3.R, FT.get L3.R.no FTab 68 kk = kk ⟨ps68.length, nm68.length, nd68.den⟩ := fun kk => by kernel_rfl
theorem fc68 : fnChk tb nd68 nm68 ps68 (defArgs (top 85)) (defScope (top 85)) (defBody (top 85)) = true := by decide +kernel
theorem ro68 : RowOk tb FTab (faOf faG tb) fn 68 "cube_web" ps68 := ⟨⟨dd "cube_web" "cube_web" 85, nm68, nd68, by kernel_rfl, rfl, rfl, rfl, by kernel_rfl, fg68, fc68⟩⟩
theorem fg69 : ∀ kk : FD → L3.R, FT.get L3.R.no FTab 69 kk = kk ⟨ps69.length, nm69.length, nd69.den⟩ := fun kk => by kernel_rfl
theorem fc69 : fnChk tb nd69 nm69 ps69 (defArgs (top 86)) (defScope (top 86)) (defBody (top 86)) = true := by decide +kernel
theorem ro69 : RowOk tb FTab (faOf faG tb) fn 69 "words_web" ps69 := ⟨⟨dd "words_web" "words_web" 86, nm69, nd69, by kernel_rfl, rfl, rfl, rfl, by kernel_rfl, fg69, fc69⟩⟩
theorem fg70 : ∀ kk : FD → L3.R, FT.get L3.R.no FTab 70 kk = kk ⟨ps70.length, nm70.length, nd70.den⟩ := fun kk => by kernel_rfl
theorem fc70 : fnChk tb nd70 nm70 ps70 (defArgs (top 87)) (defScope (top 87)) (defBody (top 87)) = true := by decide +kernel
theorem ro70 : RowOk tb FTab (faOf faG tb) fn 70 "words_roots" ps70 := ⟨⟨dd "words_roots" "words_roots" 87, nm70, nd70, by kernel_rfl, rfl, rfl, rfl, by kernel_rfl, fg70, fc70⟩⟩
theorem fg71 : ∀ kk : FD → L3.R, FT.get L3.R.no FTab 71 kk = kk ⟨ps71.length, nm71.length, nd71.den⟩ := fun kk => by kernel_rfl
theorem fc71 : fnChk tb nd71 nm71 ps71 (defArgs (top 88)) (defScope (top 88)) (defBody (top 88)) = true := by decide +kernel
theorem ro71 : RowOk tb FTab (faOf faG tb) fn 71 "once_parts" ps71 := ⟨⟨dd "once_parts" "once_parts" 88, nm71, nd71, by kernel_rfl, rfl, rfl, rfl, by kernel_rfl, fg71, fc71⟩⟩
theorem fg72 : ∀ kk : FD → L3.R, FT.get L3.R.no FTab 72 kk = kk ⟨ps72.length, nm72.length, nd72.den⟩ := fun kk => by kernel_rfl
theorem fc72 : fnChk tb nd72 nm72 ps72 (defArgs (top 89)) (defScope (top 89)) (defBody (top 89)) = true := by decide +kernel
theorem ro72 : RowOk tb FTab (faOf faG tb) fn 72 "pair_place" ps72 := ⟨⟨dd "pair_place" "pair_place" 89, nm72, nd72, by kernel_rfl, rfl, rfl, rfl, by kernel_rfl, fg72, fc72⟩⟩
theorem fg73 : ∀ kk : FD → L3.R, FT.get L3.R.no FTab 73 kk = kk ⟨ps73.length, nm73.length, nd73.den⟩ := fun kk => by kernel_rfl
theorem fc73 : fnChk tb nd73 nm73 ps73 (defArgs (top 90)) (defScope (top 90)) (defBody (top 90)) = true := by decide +kernel
theorem ro73 : RowOk tb FTab (faOf faG tb) fn 73 "turns_far" ps73 := ⟨⟨dd "turns_far" "turns_far" 90, nm73, nd73, by kernel_rfl, rfl, rfl, rfl, by kernel_rfl, fg73, fc73⟩⟩
theorem fg74 : ∀ kk : FD → L3.R, FT.get L3.R.no FTab 74 kk = kk ⟨ps74.length, nm74.length, nd74.den⟩ := fun kk => by kernel_rfl
theorem fc74 : fnChk tb nd74 nm74 ps74 (defArgs (top 91)) (defScope (top 91)) (defBody (top 91)) = true := by decide +kernel
theorem ro74 : RowOk tb FTab (faOf faG tb) fn 74 "steps_to" ps74 := ⟨⟨dd "steps_to" "steps_to" 91, nm74, nd74, by kernel_rfl, rfl, rfl, rfl, by kernel_rfl, fg74, fc74⟩⟩
theorem fg75 : ∀ kk : FD → L3.R, FT.get L3.R.no FTab 75 kk = kk ⟨ps75.length, nm75.length, nd75.den⟩ := fun kk => by kernel_rfl
theorem fc75 : fnChk tb nd75 nm75 ps75 (defArgs (top 92)) (defScope (top 92)) (defBody (top 92)) = true := by decide +kernel
theorem ro75 : RowOk tb FTab (faOf faG tb) fn 75 "power_by_turns" ps75 := ⟨⟨dd "power_by_turns" "power_by_turns" 92, nm75, nd75, by kernel_rfl, rfl, rfl, rfl, by kernel_rfl, fg75, fc75⟩⟩
theorem fg76 : ∀ kk : FD → L3.R, FT.get L3.R.no FTab 76 kk = kk ⟨ps76.length, nm76.length, nd76.den⟩ := fun kk => by kernel_rfl
theorem fc76 : fnChk tb nd76 nm76 ps76 (defArgs (top 93)) (defScope (top 93)) (defBody (top 93)) = true := by decide +kernel
theorem ro76 : RowOk tb FTab (faOf faG tb) fn 76 "is_turns_whole" ps76 := ⟨⟨dd "is_turns_whole" "is_turns_whole" 93, nm76, nd76, by kernel_rfl, rfl, rfl, rfl, by kernel_rfl, fg76, fc76⟩⟩
theorem fg77 : ∀ kk : FD → L3.R, FT.get L3.R.no FTab 77 kk = kk ⟨ps77.length, nm77.length, nd77.den⟩ := fun kk => by kernel_rfl
theorem fc77 : fnChk tb nd77 nm77 ps77 (defArgs (top 94)) (defScope (top 94)) (defBody (top 94)) = true := by decide +kernel
theorem ro77 : RowOk tb FTab (faOf faG tb) fn 77 "product_line" ps77 := ⟨⟨dd "product_line" "product_line" 94, nm77, nd77, by kernel_rfl, rfl, rfl, rfl, by kernel_rfl, fg77, fc77⟩⟩
theorem fg78 : ∀ kk : FD → L3.R, FT.get L3.R.no FTab 78 kk = kk ⟨ps78.length, nm78.length, nd78.den⟩ := fun kk => by kernel_rfl
theorem fc78 : fnChk tb nd78 nm78 ps78 (defArgs (top 97)) (defScope (top 97)) (defBody (top 97)) = true := by decide +kernel
theorem ro78 : RowOk tb FTab (faOf faG tb) fn 78 "are_steps_in" ps78 := ⟨⟨dd "are_steps_in" "are_steps_in" 97, nm78, nd78, by kernel_rfl, rfl, rfl, rfl, by kernel_rfl, fg78, fc78⟩⟩
theorem fg79 : ∀ kk : FD → L3.R, FT.get L3.R.no FTab 79 kk = kk ⟨ps79.length, nm79.length, nd79.den⟩ := fun kk => by kernel_rfl
theorem fc79 : fnChk tb nd79 nm79 ps79 (defArgs (top 98)) (defScope (top 98)) (defBody (top 98)) = true := by decide +kernel
theorem ro79 : RowOk tb FTab (faOf faG tb) fn 79 "sure_steps" ps79 := ⟨⟨dd "sure_steps" "sure_steps" 98, nm79, nd79, by kernel_rfl, rfl, rfl, rfl, by kernel_rfl, fg79, fc79⟩⟩
theorem fg80 : ∀ kk : FD → L3.R, FT.get L3.R.no FTab 80 kk = kk ⟨ps80.length, nm80.length, nd80.den⟩ := fun kk => by kernel_rfl
theorem fc80 : fnChk tb nd80 nm80 ps80 (defArgs (top 99)) (defScope (top 99)) (defBody (top 99)) = true := by decide +kernel
theorem ro80 : RowOk tb FTab (faOf faG tb) fn 80 "round_in" ps80 := ⟨⟨dd "round_in" "round_in" 99, nm80, nd80, by kernel_rfl, rfl, rfl, rfl, by kernel_rfl, fg80, fc80⟩⟩
theorem fg81 : ∀ kk : FD → L3.R, FT.get L3.R.no FTab 81 kk = kk ⟨ps81.length, nm81.length, nd81.den⟩ := fun kk => by kernel_rfl
theorem fc81 : fnChk tb nd81 nm81 ps81 (defArgs (top 100)) (defScope (top 100)) (defBody (top 100)) = true := by decide +kernel
theorem ro81 : RowOk tb FTab (faOf faG tb) fn 81 "parts_of" ps81 := ⟨⟨dd "parts_of" "parts_of" 100, nm81, nd81, by kernel_rfl, rfl, rfl, rfl, by kernel_rfl, fg81, fc81⟩⟩
theorem fg82 : ∀ kk : FD → L3.R, FT.get L3.R.no FTab 82 kk = kk ⟨ps82.length, nm82.length, nd82.den⟩ := fun kk => by kernel_rfl
theorem fc82 : fnChk tb nd82 nm82 ps82 (defArgs (top 101)) (defScope (top 101)) (defBody (top 101)) = true := by decide +kernel
theorem ro82 : RowOk tb FTab (faOf faG tb) fn 82 "lot_of_part" ps82 := ⟨⟨dd "lot_of_part" "lot_of_part" 101, nm82, nd82, by kernel_rfl, rfl, rfl, rfl, by kernel_rfl, fg82, fc82⟩⟩
theorem fg83 : ∀ kk : FD → L3.R, FT.get L3.R.no FTab 83 kk = kk ⟨ps83.length, nm83.length, nd83.den⟩ := fun kk => by kernel_rfl
theorem fc83 : fnChk tb nd83 nm83 ps83 (defArgs (top 102)) (defScope (top 102)) (defBody (top 102)) = true := by decide +kernel
theorem ro83 : RowOk tb FTab (faOf faG tb) fn 83 "row_in" ps83 := ⟨⟨dd "row_in" "row_in" 102, nm83, nd83, by kernel_rfl, rfl, rfl, rfl, by kernel_rfl, fg83, fc83⟩⟩
theorem fg84 : ∀ kk : FD → L3.R, FT.get L3.R.no FTab 84 kk = kk ⟨ps84.length, nm84.length, nd84.den⟩ := fun kk => by kernel_rfl
theorem fc84 : fnChk tb nd84 nm84 ps84 (defArgs (top 103)) (defScope (top 103)) (defBody (top 103)) = true := by decide +kernel
theorem ro84 : RowOk tb FTab (faOf faG tb) fn 84 "sums_in" ps84 := ⟨⟨dd "sums_in" "sums_in" 103, nm84, nd84, by kernel_rfl, rfl, rfl, rfl, by kernel_rfl, fg84, fc84⟩⟩
theorem fg85 : ∀ kk : FD → L3.R, FT.get L3.R.no FTab 85 kk = kk ⟨ps85.length, nm85.length, nd85.den⟩ := fun kk => by kernel_rfl
theorem fc85 : fnChk tb nd85 nm85 ps85 (defArgs (top 103)) (defScope (top 103)) (defBody (top 103)) = true := by decide +kernel
theorem ro85 : RowOk tb FTab (faOf faG tb) fn 85 "sums_in_rounds" ps85 := ⟨⟨dd "sums_in_rounds" "sums_in" 103, nm85, nd85, by kernel_rfl, rfl, rfl, rfl, by kernel_rfl, fg85, fc85⟩⟩
theorem fg86 : ∀ kk : FD → L3.R, FT.get L3.R.no FTab 86 kk = kk ⟨ps86.length, nm86.length, nd86.den⟩ := fun kk => by kernel_rfl
theorem fc86 : fnChk tb nd86 nm86 ps86 (defArgs (top 105)) (defScope (top 105)) (defBody (top 105)) = true := by decide +kernel
theorem ro86 : RowOk tb FTab (faOf faG tb) fn 86 "moebius_in" ps86 := ⟨⟨dd "moebius_in" "moebius_in" 105, nm86, nd86, by kernel_rfl, rfl, rfl, rfl, by kernel_rfl, fg86, fc86⟩⟩
theorem fg87 : ∀ kk : FD → L3.R, FT.get L3.R.no FTab 87 kk = kk ⟨ps87.length, nm87.length, nd87.den⟩ := fun kk => by kernel_rfl
theorem fc87 : fnChk tb nd87 nm87 ps87 (defArgs (top 106)) (defScope (top 106)) (defBody (top 106)) = true := by decide +kernel
theorem ro87 : RowOk tb FTab (faOf faG tb) fn 87 "prime_sum_in" ps87 := ⟨⟨dd "prime_sum_in" "prime_sum_in" 106, nm87, nd87, by kernel_rfl, rfl, rfl, rfl, by kernel_rfl, fg87, fc87⟩⟩
theorem fg88 : ∀ kk : FD → L3.R, FT.get L3.R.no FTab 88 kk = kk ⟨ps88.length, nm88.length, nd88.den⟩ := fun kk => by kernel_rfl
theorem fc88 : fnChk tb nd88 nm88 ps88 (defArgs (top 107)) (defScope (top 107)) (defBody (top 107)) = true := by decide +kernel
theorem ro88 : RowOk tb FTab (faOf faG tb) fn 88 "are_steps" ps88 := ⟨⟨dd "are_steps" "are_steps" 107, nm88, nd88, by kernel_rfl, rfl, rfl, rfl, by kernel_rfl, fg88, fc88⟩⟩
theorem fg89 : ∀ kk : FD → L3.R, FT.get L3.R.no FTab 89 kk = kk ⟨ps89.length, nm89.length, nd89.den⟩ := fun kk => by kernel_rfl
theorem fc89 : fnChk tb nd89 nm89 ps89 (defArgs (top 108)) (defScope (top 108)) (defBody (top 108)) = true := by decide +kernel
theorem ro89 : RowOk tb FTab (faOf faG tb) fn 89 "round_web" ps89 := ⟨⟨dd "round_web" "round_web" 108, nm89, nd89, by kernel_rfl, rfl, rfl, rfl, by kernel_rfl, fg89, fc89⟩⟩
theorem fg90 : ∀ kk : FD → L3.R, FT.get L3.R.no FTab 90 kk = kk ⟨ps90.length, nm90.length, nd90.den⟩ := fun kk => by kernel_rfl
theorem fc90 : fnChk tb nd90 nm90 ps90 (defArgs (top 109)) (defScope (top 109)) (defBody (top 109)) = true := by decide +kernel
theorem ro90 : RowOk tb FTab (faOf faG tb) fn 90 "steps_of" ps90 := ⟨⟨dd "steps_of" "steps_of" 109, nm90, nd90, by kernel_rfl, rfl, rfl, rfl, by kernel_rfl, fg90, fc90⟩⟩
theorem fg91 : ∀ kk : FD → L3.R, FT.get L3.R.no FTab 91 kk = kk ⟨ps91.length, nm91.length, nd91.den⟩ := fun kk => by kernel_rfl
theorem fc91 : fnChk tb nd91 nm91 ps91 (defArgs (top 110)) (defScope (top 110)) (defBody (top 110)) = true := by decide +kernel
theorem ro91 : RowOk tb FTab (faOf faG tb) fn 91 "round_poly" ps91 := ⟨⟨dd "round_poly" "round_poly" 110, nm91, nd91, by kernel_rfl, rfl, rfl, rfl, by kernel_rfl, fg91, fc91⟩⟩
theorem fg92 : ∀ kk : FD → L3.R, FT.get L3.R.no FTab 92 kk = kk ⟨ps92.length, nm92.length, nd92.den⟩ := fun kk => by kernel_rfl
theorem fc92 : fnChk tb nd92 nm92 ps92 (defArgs (top 111)) (defScope (top 111)) (defBody (top 111)) = true := by decide +kernel
theorem ro92 : RowOk tb FTab (faOf faG tb) fn 92 "round_walks" ps92 := ⟨⟨dd "round_walks" "round_walks" 111, nm92, nd92, by kernel_rfl, rfl, rfl, rfl, by kernel_rfl, fg92, fc92⟩⟩
theorem fg93 : ∀ kk : FD → L3.R, FT.get L3.R.no FTab 93 kk = kk ⟨ps93.length, nm93.length, nd93.den⟩ := fun kk => by kernel_rfl
theorem fc93 : fnChk tb nd93 nm93 ps93 (defArgs (top 112)) (defScope (top 112)) (defBody (top 112)) = true := by decide +kernel
theorem ro93 : RowOk tb FTab (faOf faG tb) fn 93 "sums_to" ps93 := ⟨⟨dd "sums_to" "sums_to" 112, nm93, nd93, by kernel_rfl, rfl, rfl, rfl, by kernel_rfl, fg93, fc93⟩⟩
theorem fg94 : ∀ kk : FD → L3.R, FT.get L3.R.no FTab 94 kk = kk ⟨ps94.length, nm94.length, nd94.den⟩ := fun kk => by kernel_rfl
theorem fc94 : fnChk tb nd94 nm94 ps94 (defArgs (top 113)) (defScope (top 113)) (defBody (top 113)) = true := by decide +kernel
theorem ro94 : RowOk tb FTab (faOf faG tb) fn 94 "part_lots" ps94 := ⟨⟨dd "part_lots" "part_lots" 113, nm94, nd94, by kernel_rfl, rfl, rfl, rfl, by kernel_rfl, fg94, fc94⟩⟩
theorem fg95 : ∀ kk : FD → L3.R, FT.get L3.R.no FTab 95 kk = kk ⟨ps95.length, nm95.length, nd95.den⟩ := fun kk => by kernel_rfl
theorem fc95 : fnChk tb nd95 nm95 ps95 (defArgs (top 114)) (defScope (top 114)) (defBody (top 114)) = true := by decide +kernel
theorem ro95 : RowOk tb FTab (faOf faG tb) fn 95 "is_of_part_lots" ps95 := ⟨⟨dd "is_of_part_lots" "is_of_part_lots" 114, nm95, nd95, by kernel_rfl, rfl, rfl, rfl, by kernel_rfl, fg95, fc95⟩⟩
theorem fg96 : ∀ kk : FD → L3.R, FT.get L3.R.no FTab 96 kk = kk ⟨ps96.length, nm96.length, nd96.den⟩ := fun kk => by kernel_rfl
theorem fc96 : fnChk tb nd96 nm96 ps96 (defArgs (top 115)) (defScope (top 115)) (defBody (top 115)) = true := by decide +kernel
theorem ro96 : RowOk tb FTab (faOf faG tb) fn 96 "is_whole_round" ps96 := ⟨⟨dd "is_whole_round" "is_whole_round" 115, nm96, nd96, by kernel_rfl, rfl, rfl, rfl, by kernel_rfl, fg96, fc96⟩⟩
theorem fg97 : ∀ kk : FD → L3.R, FT.get L3.R.no FTab 97 kk = kk ⟨ps97.length, nm97.length, nd97.den⟩ := fun kk => by kernel_rfl
theorem fc97 : fnChk tb nd97 nm97 ps97 (defArgs (top 116)) (defScope (top 116)) (defBody (top 116)) = true := by decide +kernel
theorem ro97 : RowOk tb FTab (faOf faG tb) fn 97 "whole_round_roots" ps97 := ⟨⟨dd "whole_round_roots" "whole_round_roots" 116, nm97, nd97, by kernel_rfl, rfl, rfl, rfl, by kernel_rfl, fg97, fc97⟩⟩
theorem fg98 : ∀ kk : FD → L3.R, FT.get L3.R.no FTab 98 kk = kk ⟨ps98.length, nm98.length, nd98.den⟩ := fun kk => by kernel_rfl
theorem fc98 : fnChk tb nd98 nm98 ps98 (defArgs (top 117)) (defScope (top 117)) (defBody (top 117)) = true := by decide +kernel
theorem ro98 : RowOk tb FTab (faOf faG tb) fn 98 "steps_of_parts" ps98 := ⟨⟨dd "steps_of_parts" "steps_of_parts" 117, nm98, nd98, by kernel_rfl, rfl, rfl, rfl, by kernel_rfl, fg98, fc98⟩⟩
theorem fg99 : ∀ kk : FD → L3.R, FT.get L3.R.no FTab 99 kk = kk ⟨ps99.length, nm99.length, nd99.den⟩ := fun kk => by kernel_rfl
theorem fc99 : fnChk tb nd99 nm99 ps99 (defArgs (top 118)) (defScope (top 118)) (defBody (top 118)) = true := by decide +kernel
theorem ro99 : RowOk tb FTab (faOf faG tb) fn 99 "prime_sum" ps99 := ⟨⟨dd "prime_sum" "prime_sum" 118, nm99, nd99, by kernel_rfl, rfl, rfl, rfl, by kernel_rfl, fg99, fc99⟩⟩
theorem fg100 : ∀ kk : FD → L3.R, FT.get L3.R.no FTab 100 kk = kk ⟨ps100.length, nm100.length, nd100.den⟩ := fun kk => by kernel_rfl
theorem fc100 : fnChk tb nd100 nm100 ps100 (defArgs (top 119)) (defScope (top 119)) (defBody (top 119)) = true := by decide +kernel
theorem ro100 : RowOk tb FTab (faOf faG tb) fn 100 "moebius" ps100 := ⟨⟨dd "moebius" "moebius" 119, nm100, nd100, by kernel_rfl, rfl, rfl, rfl, by kernel_rfl, fg100, fc100⟩⟩
theorem fg101 : ∀ kk : FD → L3.R, FT.get L3.R.no FTab 101 kk = kk ⟨ps101.length, nm101.length, nd101.den⟩ := fun kk => by kernel_rfl
theorem fc101 : fnChk tb nd101 nm101 ps101 (defArgs (top 120)) (defScope (top 120)) (defBody (top 120)) = true := by decide +kernel
theorem ro101 : RowOk tb FTab (faOf faG tb) fn 101 "times_steps" ps101 := ⟨⟨dd "times_steps" "times_steps" 120, nm101, nd101, by kernel_rfl, rfl, rfl, rfl, by kernel_rfl, fg101, fc101⟩⟩
theorem fg102 : ∀ kk : FD → L3.R, FT.get L3.R.no FTab 102 kk = kk ⟨ps102.length, nm102.length, nd102.den⟩ := fun kk => by kernel_rfl
theorem fc102 : fnChk tb nd102 nm102 ps102 (defArgs (top 121)) (defScope (top 121)) (defBody (top 121)) = true := by decide +kernel
theorem ro102 : RowOk tb FTab (faOf faG tb) fn 102 "unit_to" ps102 := ⟨⟨dd "unit_to" "unit_to" 121, nm102, nd102, by kernel_rfl, rfl, rfl, rfl, by kernel_rfl, fg102, fc102⟩⟩
theorem fg103 : ∀ kk : FD → L3.R, FT.get L3.R.no FTab 103 kk = kk ⟨ps103.length, nm103.length, nd103.den⟩ := fun kk => by kernel_rfl
theorem fc103 : fnChk tb nd103 nm103 ps103 (defArgs (top 122)) (defScope (top 122)) (defBody (top 122)) = true := by decide +kernel
theorem ro103 : RowOk tb FTab (faOf faG tb) fn 103 "round_parts" ps103 := ⟨⟨dd "round_parts" "round_parts" 122, nm103, nd103, by kernel_rfl, rfl, rfl, rfl, by kernel_rfl, fg103, fc103⟩⟩
theorem fg104 : ∀ kk : FD → L3.R, FT.get L3.R.no FTab 104 kk = kk ⟨ps104.length, nm104.length, nd104.den⟩ := fun kk => by kernel_rfl
theorem fc104 : fnChk tb nd104 nm104 ps104 (defArgs (top 123)) (defScope (top 123)) (defBody (top 123)) = true := by decide +kernel
theorem ro104 : RowOk tb FTab (faOf faG tb) fn 104 "has_round_sides" ps104 := ⟨⟨dd "has_round_sides" "has_round_sides" 123, nm104, nd104, by kernel_rfl, rfl, rfl, rfl, by kernel_rfl, fg104, fc104⟩⟩
theorem fg105 : ∀ kk : FD → L3.R, FT.get L3.R.no FTab 105 kk = kk ⟨ps105.length, nm105.length, nd105.den⟩ := fun kk => by kernel_rfl
theorem fc105 : fnChk tb nd105 nm105 ps105 (defArgs (top 124)) (defScope (top 124)) (defBody (top 124)) = true := by decide +kernel
theorem ro105 : RowOk tb FTab (faOf faG tb) fn 105 "all_whole_steps" ps105 := ⟨⟨dd "all_whole_steps" "all_whole_steps" 124, nm105, nd105, by kernel_rfl, rfl, rfl, rfl, by kernel_rfl, fg105, fc105⟩⟩
theorem fg106 : ∀ kk : FD → L3.R, FT.get L3.R.no FTab 106 kk = kk ⟨ps106.length, nm106.length, nd106.den⟩ := fun kk => by kernel_rfl
theorem fc106 : fnChk tb nd106 nm106 ps106 (defArgs (top 125)) (defScope (top 125)) (defBody (top 125)) = true := by decide +kernel
theorem ro106 : RowOk tb FTab (faOf faG tb) fn 106 "turned_steps" ps106 := ⟨⟨dd "turned_steps" "turned_steps" 125, nm106, nd106, by kernel_rfl, rfl, rfl, rfl, by kernel_rfl, fg106, fc106⟩⟩
theorem fg107 : ∀ kk : FD → L3.R, FT.get L3.R.no FTab 107 kk = kk ⟨ps107.length, nm107.length, nd107.den⟩ := fun kk => by kernel_rfl
theorem fc107 : fnChk tb nd107 nm107 ps107 (defArgs (top 127)) (defScope (top 127)) (defBody (top 127)) = true := by decide +kernel
theorem ro107 : RowOk tb FTab (faOf faG tb) fn 107 "_law_cells" ps107 := ⟨⟨dd "_law_cells" "_law_cells" 127, nm107, nd107, by kernel_rfl, rfl, rfl, rfl, by kernel_rfl, fg107, fc107⟩⟩
theorem fg108 : ∀ kk : FD → L3.R, FT.get L3.R.no FTab 108 kk = kk ⟨ps108.length, nm108.length, nd108.den⟩ := fun kk => by kernel_rfl
theorem fc108 : fnChk tb nd108 nm108 ps108 (defArgs (top 128)) (defScope (top 128)) (defBody (top 128)) = true := by decide +kernel
theorem ro108 : RowOk tb FTab (faOf faG tb) fn 108 "_law_same" ps108 := ⟨⟨dd "_law_same" "_law_same" 128, nm108, nd108, by kernel_rfl, rfl, rfl, rfl, by kernel_rfl, fg108, fc108⟩⟩
theorem fg109 : ∀ kk : FD → L3.R, FT.get L3.R.no FTab 109 kk = kk ⟨ps109.length, nm109.length, nd109.den⟩ := fun kk => by kernel_rfl
theorem fc109 : fnChk tb nd109 nm109 ps109 (defArgs (top 129)) (defScope (top 129)) (defBody (top 129)) = true := by decide +kernel
theorem ro109 : RowOk tb FTab (faOf faG tb) fn 109 "_law_rounds_so_right" ps109 := ⟨⟨dd "_law_rounds_so_right" "_law_rounds_so_right" 129, nm109, nd109, by kernel_rfl, rfl, rfl, rfl, by kernel_rfl, fg109, fc109⟩⟩
theorem fg110 : ∀ kk : FD → L3.R, FT.get L3.R.no FTab 110 kk = kk ⟨ps110.length, nm110.length, nd110.den⟩ := fun kk => by kernel_rfl
theorem fc110 : fnChk tb nd110 nm110 ps110 (defArgs (top 130)) (defScope (top 130)) (defBody (top 130)) = true := by decide +kernel
theorem ro110 : RowOk tb FTab (faOf faG tb) fn 110 "_law_rounds_b_right" ps110 := ⟨⟨dd "_law_rounds_b_right" "_law_rounds_b_right" 130, nm110, nd110, by kernel_rfl, rfl, rfl, rfl, by kernel_rfl, fg110, fc110⟩⟩
theorem fg111 : ∀ kk : FD → L3.R, FT.get L3.R.no FTab 111 kk = kk ⟨ps111.length, nm111.length, nd111.den⟩ := fun kk => by kernel_rfl
theorem fc111 : fnChk tb nd111 nm111 ps111 (defArgs (top 131)) (defScope (top 131)) (defBody (top 131)) = true := by decide +kernel
theorem ro111 : RowOk tb FTab (faOf faG tb) fn 111 "_law_rounds_c_right" ps111 := ⟨⟨dd "_law_rounds_c_right" "_law_rounds_c_right" 131, nm111, nd111, by kernel_rfl, rfl, rfl, rfl, by kernel_rfl, fg111, fc111⟩⟩
theorem fg112 : ∀ kk : FD → L3.R, FT.get L3.R.no FTab 112 kk = kk ⟨ps112.length, nm112.length, nd112.den⟩ := fun kk => by kernel_rfl
theorem fc112 : fnChk tb nd112 nm112 ps112 (defArgs (top 132)) (defScope (top 132)) (defBody (top 132)) = true := by decide +kernel
theorem ro112 : RowOk tb FTab (faOf faG tb) fn 112 "_law_rounds_known_a_right" ps112 := ⟨⟨dd "_law_rounds_known_a_right" "_law_rounds_known_a_right" 132, nm112, nd112, by kernel_rfl, rfl, rfl, rfl, by kernel_rfl, fg112, fc112⟩⟩
theorem fg113 : ∀ kk : FD → L3.R, FT.get L3.R.no FTab 113 kk = kk ⟨ps113.length, nm113.length, nd113.den⟩ := fun kk => by kernel_rfl
theorem fc113 : fnChk tb nd113 nm113 ps113 (defArgs (top 133)) (defScope (top 133)) (defBody (top 133)) = true := by decide +kernel
theorem ro113 : RowOk tb FTab (faOf faG tb) fn 113 "_law_rounds_known_b_right" ps113 := ⟨⟨dd "_law_rounds_known_b_right" "_law_rounds_known_b_right" 133, nm113, nd113, by kernel_rfl, rfl, rfl, rfl, by kernel_rfl, fg113, fc113⟩⟩
theorem fg114 : ∀ kk : FD → L3.R, FT.get L3.R.no FTab 114 kk = kk ⟨ps114.length, nm114.length, nd114.den⟩ := fun kk => by kernel_rfl
theorem fc114 : fnChk tb nd114 nm114 ps114 (defArgs (top 134)) (defScope (top 134)) (defBody (top 134)) = true := by decide +kernel
theorem ro114 : RowOk tb FTab (faOf faG tb) fn 114 "_law_rounds_known_c_right" ps114 := ⟨⟨dd "_law_rounds_known_c_right" "_law_rounds_known_c_right" 134, nm114, nd114, by kernel_rfl, rfl, rfl, rfl, by kernel_rfl, fg114, fc114⟩⟩
theorem fg115 : ∀ kk : FD → L3.R, FT.get L3.R.no FTab 115 kk = kk ⟨ps115.length, nm115.length, nd115.den⟩ := fun kk => by kernel_rfl
theorem fc115 : fnChk tb nd115 nm115 ps115 (defArgs (top 135)) (defScope (top 135)) (defBody (top 135)) = true := by decide +kernel
theorem ro115 : RowOk tb FTab (faOf faG tb) fn 115 "_law_grids_so_right" ps115 := ⟨⟨dd "_law_grids_so_right" "_law_grids_so_right" 135, nm115, nd115, by kernel_rfl, rfl, rfl, rfl, by kernel_rfl, fg115, fc115⟩⟩
theorem fg116 : ∀ kk : FD → L3.R, FT.get L3.R.no FTab 116 kk = kk ⟨ps116.length, nm116.length, nd116.den⟩ := fun kk => by kernel_rfl
theorem fc116 : fnChk tb nd116 nm116 ps116 (defArgs (top 136)) (defScope (top 136)) (defBody (top 136)) = true := by decide +kernel
theorem ro116 : RowOk tb FTab (faOf faG tb) fn 116 "_law_grids_b_right" ps116 := ⟨⟨dd "_law_grids_b_right" "_law_grids_b_right" 136, nm116, nd116, by kernel_rfl, rfl, rfl, rfl, by kernel_rfl, fg116, fc116⟩⟩
theorem fg117 : ∀ kk : FD → L3.R, FT.get L3.R.no FTab 117 kk = kk ⟨ps117.length, nm117.length, nd117.den⟩ := fun kk => by kernel_rfl
theorem fc117 : fnChk tb nd117 nm117 ps117 (defArgs (top 137)) (defScope (top 137)) (defBody (top 137)) = true := by decide +kernel
theorem ro117 : RowOk tb FTab (faOf faG tb) fn 117 "_law_grids_c_right" ps117 := ⟨⟨dd "_law_grids_c_right" "_law_grids_c_right" 137, nm117, nd117, by kernel_rfl, rfl, rfl, rfl, by kernel_rfl, fg117, fc117⟩⟩
theorem fg118 : ∀ kk : FD → L3.R, FT.get L3.R.no FTab 118 kk = kk ⟨ps118.length, nm118.length, nd118.den⟩ := fun kk => by kernel_rfl
theorem fc118 : fnChk tb nd118 nm118 ps118 (defArgs (top 138)) (defScope (top 138)) (defBody (top 138)) = true := by decide +kernel
theorem ro118 : RowOk tb FTab (faOf faG tb) fn 118 "_law_grids_known_a_right" ps118 := ⟨⟨dd "_law_grids_known_a_right" "_law_grids_known_a_right" 138, nm118, nd118, by kernel_rfl, rfl, rfl, rfl, by kernel_rfl, fg118, fc118⟩⟩
theorem fg119 : ∀ kk : FD → L3.R, FT.get L3.R.no FTab 119 kk = kk ⟨ps119.length, nm119.length, nd119.den⟩ := fun kk => by kernel_rfl
theorem fc119 : fnChk tb nd119 nm119 ps119 (defArgs (top 139)) (defScope (top 139)) (defBody (top 139)) = true := by decide +kernel
theorem ro119 : RowOk tb FTab (faOf faG tb) fn 119 "_law_grids_known_b_right" ps119 := ⟨⟨dd "_law_grids_known_b_right" "_law_grids_known_b_right" 139, nm119, nd119, by kernel_rfl, rfl, rfl, rfl, by kernel_rfl, fg119, fc119⟩⟩
theorem fg120 : ∀ kk : FD → L3.R, FT.get L3.R.no FTab 120 kk = kk ⟨ps120.length, nm120.length, nd120.den⟩ := fun kk => by kernel_rfl
theorem fc120 : fnChk tb nd120 nm120 ps120 (defArgs (top 140)) (defScope (top 140)) (defBody (top 140)) = true := by decide +kernel
theorem ro120 : RowOk tb FTab (faOf faG tb) fn 120 "_law_grids_known_c_right" ps120 := ⟨⟨dd "_law_grids_known_c_right" "_law_grids_known_c_right" 140, nm120, nd120, by kernel_rfl, rfl, rfl, rfl, by kernel_rfl, fg120, fc120⟩⟩
theorem fg121 : ∀ kk : FD → L3.R, FT.get L3.R.no FTab 121 kk = kk ⟨ps121.length, nm121.length, nd121.den⟩ := fun kk => by kernel_rfl
theorem fc121 : fnChk tb nd121 nm121 ps121 (defArgs (top 141)) (defScope (top 141)) (defBody (top 141)) = true := by decide +kernel
theorem ro121 : RowOk tb FTab (faOf faG tb) fn 121 "law" ps121 := ⟨⟨dd "law" "law" 141, nm121, nd121, by kernel_rfl, rfl, rfl, rfl, by kernel_rfl, fg121, fc121⟩⟩
theorem rows : tb.fn.All (RowOk tb FTab (faOf faG tb) fn) (fun n => n) := ⟨ro0, ⟨ro1, ⟨ro3, ⟨ro7, ⟨ro15, ⟨ro31, ⟨ro63, trivial, trivial⟩, ⟨ro95, trivial, trivial⟩⟩, ⟨ro47, ⟨ro79, trivial, trivial⟩, ⟨ro111, trivial, trivial⟩⟩⟩, ⟨ro23, ⟨ro39, ⟨ro71, trivial, trivial⟩, ⟨ro103, trivial, trivial⟩⟩, ⟨ro55, ⟨ro87, trivial, trivial⟩, ⟨ro119, trivial, trivial⟩⟩⟩⟩, ⟨ro11, ⟨ro19, ⟨ro35, ⟨ro67, trivial, trivial⟩, ⟨ro99, trivial, trivial⟩⟩, ⟨ro51, ⟨ro83, trivial, trivial⟩, ⟨ro115, trivial, trivial⟩⟩⟩, ⟨ro27, ⟨ro43, ⟨ro75, trivial, trivial⟩, ⟨ro107, trivial, trivial⟩⟩, ⟨ro59, ⟨ro91, trivial, trivial⟩, trivial⟩⟩⟩⟩, ⟨ro5, ⟨ro9, ⟨ro17, ⟨ro33, ⟨ro65, trivial, trivial⟩, ⟨ro97, trivial, trivial⟩⟩, ⟨ro49, ⟨ro81, trivial, trivial⟩, ⟨ro113, trivial, trivial⟩⟩⟩, ⟨ro25, ⟨ro41, ⟨ro73, trivial, trivial⟩, ⟨ro105, trivial, trivial⟩⟩, ⟨ro57, ⟨ro89, trivial, trivial⟩, ⟨ro121, trivial, trivial⟩⟩⟩⟩, ⟨ro13, ⟨ro21, ⟨ro37, ⟨ro69, trivial, trivial⟩, ⟨ro101, trivial, trivial⟩⟩, ⟨ro53, ⟨ro85, trivial, trivial⟩, ⟨ro117, trivial, trivial⟩⟩⟩, ⟨ro29, ⟨ro45, ⟨ro77, trivial, trivial⟩, ⟨ro109, trivial, trivial⟩⟩, ⟨ro61, ⟨ro93, trivial, trivial⟩, trivial⟩⟩⟩⟩⟩, ⟨ro2, ⟨ro4, ⟨ro8, ⟨ro16, ⟨ro32, ⟨ro64, trivial, trivial⟩, ⟨ro96, trivial, trivial⟩⟩, ⟨ro48, ⟨ro80, trivial, trivial⟩, ⟨ro112, trivial, trivial⟩⟩⟩, ⟨ro24, ⟨ro40, ⟨ro72, trivial, trivial⟩, ⟨ro104, trivial, trivial⟩⟩, ⟨ro56, ⟨ro88, trivial, trivial⟩, ⟨ro120, trivial, trivial⟩⟩⟩⟩, ⟨ro12, ⟨ro20, ⟨ro36, ⟨ro68, trivial, trivial⟩, ⟨ro100, trivial, trivial⟩⟩, ⟨ro52, ⟨ro84, trivial, trivial⟩, ⟨ro116, trivial, trivial⟩⟩⟩, ⟨ro28, ⟨ro44, ⟨ro76, trivial, trivial⟩, ⟨ro108, trivial, trivial⟩⟩, ⟨ro60, ⟨ro92, trivial, trivial⟩, trivial⟩⟩⟩⟩, ⟨ro6, ⟨ro10, ⟨ro18, ⟨ro34, ⟨ro66, trivial, trivial⟩, ⟨ro98, trivial, trivial⟩⟩, ⟨ro50, ⟨ro82, trivial, trivial⟩, ⟨ro114, trivial, trivial⟩⟩⟩, ⟨ro26, ⟨ro42, ⟨ro74, trivial, trivial⟩, ⟨ro106, trivial, trivial⟩⟩, ⟨ro58, ⟨ro90, trivial, trivial⟩, trivial⟩⟩⟩, ⟨ro14, ⟨ro22, ⟨ro38, ⟨ro70, trivial, trivial⟩, ⟨ro102, trivial, trivial⟩⟩, ⟨ro54, ⟨ro86, trivial, trivial⟩, ⟨ro118, trivial, trivial⟩⟩⟩, ⟨ro30, ⟨ro46, ⟨ro78, trivial, trivial⟩, ⟨ro110, trivial, trivial⟩⟩, ⟨ro62, ⟨ro94, trivial, trivial⟩, trivial⟩⟩⟩⟩⟩⟩
def np0 : NS := (sIft (tNot (tOf (nCall0 109))) (bC (sRt (nBl false)) bN) bN)
theorem ep0 : np0.den = dp0 := by kernel_rfl
def np1 : NS := (sIft (tNot (tOf (nCall0 110))) (bC (sRt (nBl false)) bN) bN)
theorem ep1 : np1.den = dp1 := by kernel_rfl
def np2 : NS := (sIft (tNot (tOf (nCall0 111))) (bC (sRt (nBl false)) bN) bN)
theorem ep2 : np2.den = dp2 := by kernel_rfl
def np3 : NS := (sIft (tNot (tOf (nCall0 112))) (bC (sRt (nBl false)) bN) bN)
theorem ep3 : np3.den = dp3 := by kernel_rfl
def np4 : NS := (sIft (tNot (tOf (nCall0 113))) (bC (sRt (nBl false)) bN) bN)
theorem ep4 : np4.den = dp4 := by kernel_rfl
def np5 : NS := (sIft (tNot (tOf (nCall0 114))) (bC (sRt (nBl false)) bN) bN)
theorem ep5 : np5.den = dp5 := by kernel_rfl
def np6 : NS := (sIft (tNot (tOf (nCall0 115))) (bC (sRt (nBl false)) bN) bN)
theorem ep6 : np6.den = dp6 := by kernel_rfl
def np7 : NS := (sIft (tNot (tOf (nCall0 116))) (bC (sRt (nBl false)) bN) bN)
theorem ep7 : np7.den = dp7 := by kernel_rfl
def np8 : NS := (sIft (tNot (tOf (nCall0 117))) (bC (sRt (nBl false)) bN) bN)
theorem ep8 : np8.den = dp8 := by kernel_rfl
def np9 : NS := (sIft (tNot (tOf (nCall0 118))) (bC (sRt (nBl false)) bN) bN)
theorem ep9 : np9.den = dp9 := by kernel_rfl
def np10 : NS := (sIft (tNot (tOf (nCall0 119))) (bC (sRt (nBl false)) bN) bN)
theorem ep10 : np10.den = dp10 := by kernel_rfl
def np11 : NS := (sIft (tNot (tOf (nCall0 120))) (bC (sRt (nBl false)) bN) bN)
theorem ep11 : np11.den = dp11 := by kernel_rfl
def ndL : NBk := (bC (sRt (nBl true)) bN)
theorem epL : ndL.den = dpL := by kernel_rfl
def npL : List NS := [np0, np1, np2, np3, np4, np5, np6, np7, np8, np9, np10, np11]
theorem ocl : DefOk faG fn tb 107 "_law_cells" (dd "_law_cells" "_law_cells" 127) := ⟨by kernel_rfl, rfl, rfl, rfl, by kernel_rfl⟩
theorem oll : DefOk faG fn tb 121 "law" (dd "law" "law" 141) := ⟨by kernel_rfl, rfl, rfl, rfl, by kernel_rfl⟩
theorem chc : cellsChk tb (defArgs (top 127)) (defScope (top 127)) (defBody (top 127)) = true := by decide +kernel
theorem chl : lawChk tb npL ndL (defArgs (top 141)) (defScope (top 141)) (defBody (top 141)) = true := by decide +kernel
theorem Runs.c {cal : Cal} {n : NS} {d : SS} {ns : List NS} {nd : NBk} (e : n.den = d) (h : isNx (d cal [.u] ⟨.e, 0⟩) = true) (r : Runs cal ns nd) : Runs cal (n :: ns) nd := ⟨by rw [e]; exact h, r⟩
theorem Runs.n {cal : Cal} {d : SS} {nd : NBk} (e : nd.den = d) (h : isRt (d cal [.u] ⟨.e, 0⟩) = true) : Runs cal [] nd := by
  show isRt (nd.den cal [.u] ⟨.e, 0⟩) = true
  rw [e]; exact h
theorem good : Runs (L3.run FTab 61) npL ndL := Runs.c ep0 good0 (Runs.c ep1 good1 (Runs.c ep2 good2 (Runs.c ep3 good3 (Runs.c ep4 good4 (Runs.c ep5 good5 (Runs.c ep6 good6 (Runs.c ep7 good7 (Runs.c ep8 good8 (Runs.c ep9 good9 (Runs.c ep10 good10 (Runs.c ep11 good11 (Runs.n epL goodL))))))))))))
end
end HD
open PySem PySem.W PySem.Calls PyProof.Rows
theorem PySem.Challenge.cw_walktallies_k82_names_of_parameters_roun_holds : PySem.Challenge.rw_walktallies_k82_names_of_parameters_roun.Holds := by
  w_on; o_law
  refine HandSHeadRun.head_imp (r := OpenLaw.row PySem.Challenge.rw_walktallies_k82_names_of_parameters_roun) (q := view (OpenLaw.row PySem.Challenge.rw_walktallies_k82_names_of_parameters_roun).prog [0, 141]) (H := HD.hk) (ob := HD.ob) (M := 100000) (loose := HD.loose) (d := HandSHeadRun.topDef (OpenLaw.row PySem.Challenge.rw_walktallies_k82_names_of_parameters_roun).prog 141) (kwd := []) HD.ob_eq HD.run
    (by kernel_rfl) (by kernel_rfl) (by kernel_rfl) (by rfl) (by first | assumption | decide +kernel) (by decide +kernel) ⟨rfl, rfl, rfl, rfl, rfl, by decide +kernel⟩ ?hw ?hc
  case hw => w_witness2
  case hc => exact L3.law_walk (l := PySem.Challenge.rw_walktallies_k82_names_of_parameters_roun) (k := 60) rfl (by kernel_rfl) (by kernel_rfl) ⟨rfl, by decide, by decide⟩ HD.rows HD.ocl HD.oll HD.chc HD.chl HD.good
