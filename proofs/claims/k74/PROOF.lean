import PyProof.Rows.All
import Wide.All
import OpenK.AllK
import Wide.FinOn
import PySem.Syntax
import HandS.ForMost
import HandS.ForExc
import HandS.IsInst
import HandS.TupMul
import HandS.TupAny
import HandS.Wide
import HandS.Flow
import HandS.Style
import HandS.Zip
import HandS.Conv
import HandS.Walk
import HandS.TryMany
import HandS.Small
import HandS.Defaults
import HandS.Nested
import HandS.EndTab
import HandS.HeadHook4
import KE.GoesMore
import KE.GoesZip
import KE.GoesEnum
import HandS.Deep
import HandS.Rev
import KE.SortKeyHeap
import HandS.SortKw
import HandS.ExcIs
import KE.KExcInit
import KE.DataMinMax
import HandS.Star
import KE.DataAny
import HandS.SetFor
import HandS.Strs
import KE.SortData
import HandS.TupSets
import HandS.Text
import HandS.FStr
import HandS.RaiseMore
import PyProof.StrOps2
import HandS.HeadWalk
import HandS.Head2
import PySem.Challenge.RW_sharesuntold_k74_texts_that_are_none
set_option linter.all false
set_option maxRecDepth 100000
/-! ItA: the evaluator. Values W, a heap of lists, combinators in continuation-passing style (the answer a Bool), kernel-reducible. -/
namespace It
open PySem

inductive W where
  | non | bl (b : Bool) | int (i : Int) | str (s : Str) | tup (l : List W) | ref (k : Nat) | fl (l : List W) | exv (c : Nat) (l : List W)

/-! ### the heap of lists: a trie by the bits of the address -/
inductive T where
  | e | v (l : List W) | n (l r : T)
noncomputable def T.getK (d : Nat) : T → Nat → (List W → Bool) → Bool :=
  Nat.rec (fun t _ c => T.casesOn t false c (fun _ _ => false))
    (fun _ ih t k c => T.casesOn t false (fun _ => false) (fun l r => cond (Nat.beq (Nat.mod k 2) 0) (ih l (Nat.div k 2) c) (ih r (Nat.div k 2) c))) d
noncomputable def T.setK (d : Nat) : T → Nat → List W → (T → Bool) → Bool :=
  Nat.rec (fun _ _ x c => c (.v x))
    (fun _ ih t k x c => T.casesOn t
      (cond (Nat.beq (Nat.mod k 2) 0) (ih .e (Nat.div k 2) x (fun l' => c (.n l' .e))) (ih .e (Nat.div k 2) x (fun r' => c (.n .e r'))))
      (fun _ => false)
      (fun l r => cond (Nat.beq (Nat.mod k 2) 0) (ih l (Nat.div k 2) x (fun l' => c (.n l' r))) (ih r (Nat.div k 2) x (fun r' => c (.n l r'))))) d
def depth : Nat := 12
def cap : Nat := 4096

inductive IH where
  | mk (n : Nat) (t : T)
abbrev KE := W → IH → Bool
abbrev KL := List W → IH → Bool
abbrev KB := Bool → IH → Bool
abbrev Orc := Nat → List W → IH → KE → KE → Bool
abbrev Loc := List (Option W)
abbrev KS := Loc → IH → Bool
abbrev E := Orc → Loc → IH → KE → KE → Bool
abbrev Es := Orc → Loc → IH → KL → KE → Bool
abbrev Tt := Orc → Loc → IH → KB → KE → Bool
abbrev S := Orc → Loc → IH → KS → KE → KS → KS → (Loc → KE) → Bool

@[irreducible] noncomputable def hget (h : IH) (k : Nat) (c : List W → Bool) : Bool := IH.casesOn h fun _ t => T.getK depth t k c
@[irreducible] noncomputable def hset (h : IH) (k : Nat) (x : List W) (c : IH → Bool) : Bool := IH.casesOn h fun n t => T.setK depth t k x fun t' => c (.mk n t')
@[irreducible] noncomputable def halloc (h : IH) (x : List W) (c : W → IH → Bool) : Bool :=
  IH.casesOn h fun n t => cond (Nat.blt n cap) (T.setK depth t n x fun t' => c (.ref n) (.mk (Nat.succ n) t')) false

noncomputable def lgetK (i : Nat) : Loc → (W → Bool) → Bool :=
  Nat.rec (fun l c => List.casesOn l false (fun x _ => Option.casesOn x false c))
    (fun _ ih l c => List.casesOn l false (fun _ l' => ih l' c)) i
noncomputable def lsetK (i : Nat) : Loc → W → (Loc → Bool) → Bool :=
  Nat.rec (fun l w c => List.casesOn l false (fun _ l' => c (some w :: l')))
    (fun _ ih l w c => List.casesOn l false (fun x l' => ih l' w (fun l'' => c (x :: l'')))) i

def line : Nat := 10000000
/-! ### ints -/
noncomputable def ieq (i j : Int) : Bool := Int.casesOn i (fun a => Int.casesOn j (fun b => Nat.beq a b) (fun _ => false)) (fun a => Int.casesOn j (fun _ => false) (fun b => Nat.beq a b))
noncomputable def ilt (i j : Int) : Bool := Int.casesOn i (fun a => Int.casesOn j (fun b => Nat.blt a b) (fun _ => false)) (fun a => Int.casesOn j (fun _ => true) (fun b => Nat.blt b a))
noncomputable def ile (i j : Int) : Bool := not (ilt j i)
noncomputable def iabs (i : Int) : Nat := Int.casesOn i (fun a => a) (fun a => Nat.succ a)
def big64 : Nat := 18446744073709551616
def big62 : Nat := 4611686018427387904
def big30 : Nat := 1073741824
/-- a divisor's bound -/
def bigD : Nat := Nat.pow 2 1000
@[irreducible] noncomputable def mulOk (i j : Int) : Bool := cond (Nat.blt (iabs i) big64) true (Nat.blt (iabs j) big64)

/-! ### lists -/
noncomputable def nthK (n : Nat) : List W → (W → Bool) → Bool :=
  Nat.rec (fun l c => List.casesOn l false (fun x _ => c x)) (fun _ ih l c => List.casesOn l false (fun _ l' => ih l' c)) n
noncomputable def isNil (l : List W) : Bool := List.casesOn l true (fun _ _ => false)
noncomputable def lenW (l : List W) : Nat := List.rec 0 (fun _ _ n => Nat.succ n) l
noncomputable def app (l r : List W) : List W := List.rec r (fun x _ ih => x :: ih) l
noncomputable def revA (l : List W) : List W → List W := List.rec (fun a => a) (fun x _ ih a => ih (x :: a)) l
noncomputable def rep (n : Nat) (l : List W) : List W := Nat.rec [] (fun _ ih => app l ih) n
noncomputable def setN (n : Nat) (y : W) : List W → (List W → Bool) → Bool :=
  Nat.rec (fun l c => List.casesOn l false (fun _ l' => c (y :: l'))) (fun _ ih l c => List.casesOn l false (fun x l' => ih l' (fun z => c (x :: z)))) n

/-! ### truth, equality, length -/
noncomputable def truthK (w : W) (h : IH) (c : Bool → Bool) : Bool :=
  W.casesOn w (c false) c (fun i => c (not (ieq i 0))) (fun s => cond (Nat.ble s.length line) (c (not (Nat.beq s.length 0))) false) (fun l => c (not (isNil l))) (fun k => hget h k fun l => c (not (isNil l))) (fun l => c (not (isNil l))) (fun _ _ => false)
noncomputable def eqL (f : W → W → (Bool → Bool) → Bool) (l : List W) : List W → (Bool → Bool) → Bool :=
  List.rec (fun r c => List.casesOn r (c true) (fun _ _ => c false))
    (fun x _ ih r c => List.casesOn r (c false) (fun y r' => f x y (fun b => cond b (ih r' c) (c false)))) l
def b2i (b : Bool) : Int := cond b 1 0
noncomputable def seqs (s t : List Nat) : Bool := List.rec (fun t => List.casesOn t true (fun _ _ => false)) (fun x _ ih t => List.casesOn t false (fun y t' => cond (Nat.beq x y) (ih t') false)) s t
noncomputable def eqK (n : Nat) (h : IH) : W → W → (Bool → Bool) → Bool :=
  Nat.rec (fun _ _ _ => false)
    (fun _ ih a b c => W.casesOn a
      (W.casesOn b (c true) (fun _ => c false) (fun _ => c false) (fun _ => c false) (fun _ => c false) (fun _ => c false) (fun _ => c false) (fun _ _ => false))
      (fun p => W.casesOn b (c false) (fun q => c (cond p q (not q))) (fun j => c (ieq (b2i p) j)) (fun _ => c false) (fun _ => c false) (fun _ => c false) (fun _ => c false) (fun _ _ => false))
      (fun i => W.casesOn b (c false) (fun q => c (ieq i (b2i q))) (fun j => c (ieq i j)) (fun _ => c false) (fun _ => c false) (fun _ => c false) (fun _ => c false) (fun _ _ => false))
      (fun s => W.casesOn b (c false) (fun _ => c false) (fun _ => c false) (fun t => c (seqs s.cps.toList t.cps.toList)) (fun _ => c false) (fun _ => c false) (fun _ => c false) (fun _ _ => false))
      (fun l => W.casesOn b (c false) (fun _ => c false) (fun _ => c false) (fun _ => c false) (fun r => eqL ih l r c) (fun _ => c false) (fun _ => c false) (fun _ _ => false))
      (fun k => W.casesOn b (c false) (fun _ => c false) (fun _ => c false) (fun _ => c false) (fun _ => c false) (fun k' => hget h k fun l => hget h k' fun r => eqL ih l r c) (fun r => hget h k fun l => eqL ih l r c) (fun _ _ => false))
      (fun l => W.casesOn b (c false) (fun _ => c false) (fun _ => c false) (fun _ => c false) (fun _ => c false) (fun k' => hget h k' fun r => eqL ih l r c) (fun r => eqL ih l r c) (fun _ _ => false))
      (fun _ _ => false)) n

/-! is it data, of depth below n -/
noncomputable def allB (f : W → Bool) (l : List W) : Bool := List.rec true (fun x _ ih => and (f x) ih) l
noncomputable def strB (s : Str) : Bool := List.rec true (fun x _ ih => and (Nat.blt x 1114112) ih) s.cps.toList
noncomputable def dK (n : Nat) (h : IH) : W → Bool :=
  Nat.rec (fun w => W.casesOn w true (fun _ => true) (fun _ => true) strB (fun _ => false) (fun _ => false) (fun _ => false) (fun _ _ => false))
    (fun _ ih w => W.casesOn w true (fun _ => true) (fun _ => true) strB (allB ih) (fun k => hget h k (allB ih)) (allB ih) (fun _ _ => false)) n
/-! ### expressions -/
def eStuck : E := fun _ _ _ _ _ => false
def kno : KE := fun _ _ => false
noncomputable def eVar (i : Nat) : E := fun _ l h k _ => lgetK i l (fun w => k w h)
def eInt (i : Int) : E := fun _ _ h k _ => k (.int i) h
def eBl (b : Bool) : E := fun _ _ h k _ => k (.bl b) h
def eNon : E := fun _ _ h k _ => k .non h
def eStr (s : Str) : E := fun _ _ h k _ => k (.str s) h
def eGlo (w : W) : E := fun _ _ h k _ => k w h
def asNil : Es := fun _ _ h k _ => k [] h
def asCons (a : E) (r : Es) : Es := fun c l h k x => a c l h (fun w h1 => r c l h1 (fun ws h2 => k (w :: ws) h2) x) x
def eTup (a : Es) : E := fun c l h k x => a c l h (fun ws h1 => k (.tup ws) h1) x
/-- a list-making expression's list laid -/
noncomputable def eLay (a : Es) : E := fun c l h k x => a c l h (fun ws h1 => halloc h1 ws k) x
def eTupL (a : Es) : E := fun c l h k x => a c l h (fun ws h1 => k (.tup ws) h1) x
/-- the items of a list or tuple -/
noncomputable def itemsK (w : W) (h : IH) (c : List W → Bool) : Bool :=
  W.casesOn w false (fun _ => false) (fun _ => false) (fun _ => false) c (fun k => hget h k c) c (fun _ _ => false)
/-- the items of a list -/
noncomputable def lstK (w : W) (h : IH) (c : List W → Bool) : Bool :=
  W.casesOn w false (fun _ => false) (fun _ => false) (fun _ => false) (fun _ => false) (fun k => hget h k c) c (fun _ _ => false)
noncomputable def sLists (a : E) : Es := fun c l h k x => a c l h (fun w h1 => lstK w h1 (fun ws => k ws h1)) x
/-- tuple(x) -/
noncomputable def tupK (w : W) (h : IH) (k : KE) : Bool := itemsK w h fun ws => k (.tup ws) h
noncomputable def sItems (a : E) : Es := fun c l h k x => a c l h (fun w h1 => itemsK w h1 (fun ws => k ws h1)) x
noncomputable def addK (a b : W) (h : IH) (k : KE) : Bool :=
  W.casesOn a false (fun p => false)
    (fun i => W.casesOn b false (fun q => k (.int (Int.add i (b2i q))) h) (fun j => k (.int (Int.add i j)) h) (fun _ => false) (fun _ => false) (fun _ => false) (fun _ => false) (fun _ _ => false))
    (fun s => W.casesOn b false (fun _ => false) (fun _ => false) (fun t => cond (Nat.ble (Nat.add s.length t.length) line) (k (.str (s ++ t)) h) false) (fun _ => false) (fun _ => false) (fun _ => false) (fun _ _ => false))
    (fun l => W.casesOn b false (fun _ => false) (fun _ => false) (fun _ => false) (fun r => cond (Nat.ble (Nat.add (lenW l) (lenW r)) line) (k (.tup (app l r)) h) false) (fun _ => false) (fun _ => false) (fun _ _ => false))
    (fun p => W.casesOn b false (fun _ => false) (fun _ => false) (fun _ => false) (fun _ => false) (fun q => hget h p fun l => hget h q fun r => cond (Nat.ble (Nat.add (lenW l) (lenW r)) line) (halloc h (app l r) k) false) (fun _ => false) (fun _ _ => false))
    (fun _ => false) (fun _ _ => false)
noncomputable def subK (a b : W) (h : IH) (k : KE) : Bool :=
  W.casesOn a false (fun _ => false)
    (fun i => W.casesOn b false (fun _ => false) (fun j => k (.int (Int.sub i j)) h) (fun _ => false) (fun _ => false) (fun _ => false) (fun _ => false) (fun _ _ => false))
    (fun _ => false) (fun _ => false) (fun _ => false) (fun _ => false) (fun _ _ => false)
noncomputable def mulK (a b : W) (h : IH) (k : KE) : Bool :=
  W.casesOn a false (fun _ => false)
    (fun i => W.casesOn b false (fun _ => false) (fun j => cond (mulOk i j) (k (.int (Int.mul i j)) h) false) (fun _ => false) (fun _ => false) (fun _ => false) (fun _ => false) (fun _ _ => false))
    (fun _ => false)
    (fun l => W.casesOn b false (fun _ => false) (fun j => cond (ilt j 1000) (cond (ilt (-1000) j) (cond (Nat.blt (lenW l) 1000) (k (.tup (rep j.toNat l)) h) false) false) false) (fun _ => false) (fun _ => false) (fun _ => false) (fun _ => false) (fun _ _ => false))
    (fun p => W.casesOn b false (fun _ => false) (fun j => cond (ilt j 1000) (cond (ilt (-1000) j) (hget h p fun l => cond (Nat.blt (lenW l) 1000) (halloc h (rep j.toNat l) k) false) false) false) (fun _ => false) (fun _ => false) (fun _ => false) (fun _ => false) (fun _ _ => false))
    (fun _ => false) (fun _ _ => false)
noncomputable def intsK (f : Int → Int → (W → Bool) → Bool) (a b : W) (h : IH) (k : KE) : Bool :=
  W.casesOn a false (fun _ => false)
    (fun i => W.casesOn b false (fun _ => false) (fun j => f i j (fun w => k w h)) (fun _ => false) (fun _ => false) (fun _ => false) (fun _ => false) (fun _ _ => false))
    (fun _ => false) (fun _ => false) (fun _ => false) (fun _ => false) (fun _ _ => false)
noncomputable def fdivK (i j : Int) (c : W → Bool) : Bool := cond (ieq j 0) false (cond (Nat.blt (iabs j) bigD) (c (.int (Int.fdiv i j))) false)
noncomputable def modK (i j : Int) (c : W → Bool) : Bool := cond (ieq j 0) false (c (.int (Int.fmod i j)))
noncomputable def powK (i j : Int) (c : W → Bool) : Bool := cond (ilt j 0) false (cond (ile j 1000) (cond (Nat.blt (iabs i) big64) (c (.int (Int.pow i j.toNat))) false) false)
noncomputable def dmK (i j : Int) (c : W → Bool) : Bool := cond (ilt 0 j) (cond (Nat.blt (iabs j) bigD) (c (.tup [.int (Int.fdiv i j), .int (Int.fmod i j)])) false) false
noncomputable def minK (i j : Int) (c : W → Bool) : Bool := c (.int (cond (ilt j i) j i))
noncomputable def maxK (i j : Int) (c : W → Bool) : Bool := c (.int (cond (ilt i j) j i))
def eBin (f : W → W → IH → KE → Bool) (a b : E) : E := fun c l h k x => a c l h (fun v h1 => b c l h1 (fun w h2 => f v w h2 k) x) x
noncomputable def negK (a : W) (h : IH) (k : KE) : Bool :=
  W.casesOn a false (fun _ => false) (fun i => k (.int (Int.neg i)) h) (fun _ => false) (fun _ => false) (fun _ => false) (fun _ => false) (fun _ _ => false)
noncomputable def absK (a : W) (h : IH) (k : KE) : Bool :=
  W.casesOn a false (fun _ => false) (fun i => k (.int (Int.ofNat (iabs i))) h) (fun _ => false) (fun _ => false) (fun _ => false) (fun _ => false) (fun _ _ => false)
noncomputable def intK (a : W) (h : IH) (k : KE) : Bool :=
  W.casesOn a false (fun b => k (.int (b2i b)) h) (fun i => k (.int i) h) (fun _ => false) (fun _ => false) (fun _ => false) (fun _ => false) (fun _ _ => false)
noncomputable def lenK (a : W) (h : IH) (k : KE) : Bool :=
  W.casesOn a false (fun _ => false) (fun _ => false) (fun s => cond (Nat.ble s.length line) (k (.int (Int.ofNat s.length)) h) false) (fun l => k (.int (Int.ofNat (lenW l))) h) (fun p => hget h p fun l => k (.int (Int.ofNat (lenW l))) h) (fun l => k (.int (Int.ofNat (lenW l))) h) (fun _ _ => false)
def eUn (f : W → IH → KE → Bool) (a : E) : E := fun c l h k x => a c l h (fun v h1 => f v h1 k) x
/-- the place of an index -/
noncomputable def ixK (i : Int) (l : List W) (c : Nat → Bool) : Bool :=
  Int.casesOn i c (fun a => cond (Nat.blt a (lenW l)) (c (Nat.sub (lenW l) (Nat.succ a))) false)
noncomputable def subscrK (a b : W) (h : IH) (k : KE) : Bool :=
  W.casesOn b false (fun _ => false) (fun i => itemsK a h fun l => ixK i l fun n => nthK n l fun w => k w h) (fun _ => false) (fun _ => false) (fun _ => false) (fun _ => false) (fun _ _ => false)
noncomputable def takeN (n : Nat) : List W → List W := Nat.rec (fun _ => []) (fun _ ih l => List.casesOn l [] (fun x l' => x :: ih l')) n
@[irreducible] noncomputable def dropN (n : Nat) : List W → List W := Nat.rec (fun l => l) (fun _ ih l => List.casesOn l [] (fun _ l' => ih l')) n
/-- a slice's end: lo or hi, cut to the length -/
noncomputable def sliceN (i : Int) (n : Nat) : Nat := Int.casesOn i (fun a => cond (Nat.ble a n) a n) (fun a => Nat.sub n (Nat.succ a))
noncomputable def cutL (lo hi : Option Int) (l : List W) : List W :=
  Option.casesOn lo
    (Option.casesOn hi l (fun j => takeN (sliceN j (lenW l)) l))
    (fun i => Option.casesOn hi (dropN (sliceN i (lenW l)) l) (fun j => dropN (sliceN i (lenW l)) (takeN (sliceN j (lenW l)) l)))
@[irreducible] noncomputable def cutK (a : W) (lo hi : Option Int) (h : IH) (k : KE) : Bool :=
  W.casesOn a false (fun _ => false) (fun _ => false) (fun _ => false) (fun l => k (.tup (cutL lo hi l)) h) (fun p => hget h p fun l => halloc h (cutL lo hi l) k) (fun l => halloc h (cutL lo hi l) k) (fun _ _ => false)
noncomputable def intOf (w : W) (c : Int → Bool) : Bool := W.casesOn w false (fun _ => false) c (fun _ => false) (fun _ => false) (fun _ => false) (fun _ => false) (fun _ _ => false)
abbrev Eo := Orc → Loc → IH → (Option Int → IH → Bool) → KE → Bool
def oNone : Eo := fun _ _ h k _ => k none h
noncomputable def oSome (a : E) : Eo := fun c l h k x => a c l h (fun w h1 => intOf w fun i => k (some i) h1) x
noncomputable def eSlice (a : E) (lo hi : Eo) : E := fun c l h k x => a c l h (fun w h1 => lo c l h1 (fun i h2 => hi c l h2 (fun j h3 => cutK w i j h3 k) x) x) x
noncomputable def revK (a : W) (h : IH) (k : KE) : Bool :=
  W.casesOn a false (fun _ => false) (fun _ => false) (fun _ => false) (fun l => k (.tup (revA l [])) h) (fun p => hget h p fun l => halloc h (revA l []) k) (fun l => halloc h (revA l []) k) (fun _ _ => false)

/-! ### tests -/
noncomputable def tVal (a : E) : Tt := fun c l h k x => a c l h (fun w h1 => truthK w h1 fun b => k b h1) x
def tAnd (a b : Tt) : Tt := fun c l h k x => a c l h (fun p h1 => cond p (b c l h1 k x) (k false h1)) x
def tOr (a b : Tt) : Tt := fun c l h k x => a c l h (fun p h1 => cond p (k true h1) (b c l h1 k x)) x
def tNot (a : Tt) : Tt := fun c l h k x => a c l h (fun p h1 => k (not p) h1) x
def eTst (a : Tt) : E := fun c l h k x => a c l h (fun p h1 => k (.bl p) h1) x
noncomputable def eNotV (a : E) : E := fun c l h k x => a c l h (fun w h1 => truthK w h1 fun p => k (.bl (not p)) h1) x
noncomputable def eAndV (a b : E) : E := fun c l h k x => a c l h (fun w h1 => truthK w h1 fun p => cond p (b c l h1 k x) (k w h1)) x
noncomputable def eOrV (a b : E) : E := fun c l h k x => a c l h (fun w h1 => truthK w h1 fun p => cond p (k w h1) (b c l h1 k x)) x
def eIf (t : Tt) (a b : E) : E := fun c l h k x => t c l h (fun p h1 => cond p (a c l h1 k x) (b c l h1 k x)) x
/-- a comparison of values -/
abbrev Cm := W → W → IH → (Bool → Bool) → Bool
noncomputable def cEq : Cm := fun a b h c => cond (dK 40 h a) (cond (dK 40 h b) (eqK 50 h a b c) false) false
noncomputable def cNe : Cm := fun a b h c => cond (dK 40 h a) (cond (dK 40 h b) (eqK 50 h a b fun p => c (not p)) false) false
noncomputable def cInt (f : Int → Int → Bool) : Cm := fun a b _ c => intOf a fun i => intOf b fun j => c (f i j)
noncomputable def cLt : Cm := cInt ilt
noncomputable def cLe : Cm := cInt ile
noncomputable def cGt : Cm := cInt fun i j => ilt j i
noncomputable def cGe : Cm := cInt fun i j => ile j i
noncomputable def inL (f : W → W → (Bool → Bool) → Bool) (x : W) (l : List W) (c : Bool → Bool) : Bool :=
  List.rec (c false) (fun y _ ih => f y x fun b => cond b (c true) ih) l
noncomputable def cIn : Cm := fun a b h c => cond (dK 40 h a) (itemsK b h fun l => cond (allB (dK 40 h) l) (inL (eqK 50 h) a l c) false) false
noncomputable def cNotIn : Cm := fun a b h c => cond (dK 40 h a) (itemsK b h fun l => cond (allB (dK 40 h) l) (inL (eqK 50 h) a l fun p => c (not p)) false) false
noncomputable def cIsN : Cm := fun a _ _ c => W.casesOn a (c true) (fun _ => c false) (fun _ => c false) (fun _ => c false) (fun _ => c false) (fun _ => c false) (fun _ => c false) (fun _ _ => c false)
noncomputable def cNotN : Cm := fun a _ _ c => W.casesOn a (c false) (fun _ => c true) (fun _ => c true) (fun _ => c true) (fun _ => c true) (fun _ => c true) (fun _ => c true) (fun _ _ => c true)
def tCmp (f : Cm) (a b : E) : Tt := fun c l h k x => a c l h (fun v h1 => b c l h1 (fun w h2 => f v w h2 fun p => k p h2) x) x
def tCh (f g : Cm) (a b d : E) : Tt := fun c l h k x => a c l h (fun v h1 => b c l h1 (fun w h2 => f v w h2 fun p => cond p (d c l h2 (fun u h3 => g w u h3 fun q => k q h3) x) (k false h2)) x) x
noncomputable def tIsN (a : E) : Tt := fun c l h k x => a c l h (fun v h1 => cIsN v v h1 fun p => k p h1) x
/-- isinstance by a mask: bool 1, int 2, str 4, list 8, tuple 16, own error classes above -/
structure Ty where
  bl : Bool := false
  int : Bool := false
  str : Bool := false
  lst : Bool := false
  tup : Bool := false
noncomputable def isiK (m : Ty) (w : W) (c : Bool → Bool) : Bool :=
  W.casesOn w (c false) (fun _ => c (or m.bl m.int)) (fun _ => c m.int) (fun _ => c m.str) (fun _ => c m.tup) (fun _ => c m.lst) (fun _ => c m.lst) (fun _ _ => false)
noncomputable def eIsi (m : Ty) (a : E) : E := fun c l h k x => a c l h (fun w h1 => isiK m w fun p => k (.bl p) h1) x

/-! ### calls -/
def eCall (i : Nat) (a : Es) : E := fun c l h k x => a c l h (fun ws h1 => c i ws h1 k x) x
/-- no list of the heap within -/
noncomputable def norefs (l : List W) : Bool := W.rec_1 (motive_1 := fun _ => Bool) (motive_2 := fun _ => Bool) true (fun _ => true) (fun _ => true) (fun _ => true) (fun _ b => b) (fun _ => false) (fun _ b => b) (fun _ _ b => b) true (fun _ _ a b => and a b) l
noncomputable def noref (w : W) : Bool := W.rec (motive_1 := fun _ => Bool) (motive_2 := fun _ => Bool) true (fun _ => true) (fun _ => true) (fun _ => true) (fun _ b => b) (fun _ => false) (fun _ b => b) (fun _ _ b => b) true (fun _ _ a b => and a b) w
def ih0 : IH := .mk 0 .e
/-- a call in a heap of its own: neither the arguments nor the answer hold a list of the heap -/
noncomputable def goG (c : Orc) (i : Nat) (ws : List W) (h : IH) (k x : KE) : Bool :=
  cond (norefs ws) (c (Nat.add i 1000) ws ih0 (fun w _ => cond (noref w) (k w h) false) (fun v _ => cond (noref v) (x v h) false)) (c i ws h k x)
noncomputable def eCallG (i : Nat) (a : Es) : E := fun c l h k x => a c l h (fun ws h1 => goG c i ws h1 k x) x
/-- a call by keywords: the places of the given values among the parameters -/
noncomputable def pickK (ps : List Nat) (ws : List W) (c : List W → Bool) : Bool :=
  List.rec (fun c => c []) (fun p _ ih c => nthK p ws fun w => ih fun r => c (w :: r)) ps c
noncomputable def eCallP (i : Nat) (ps : List Nat) (a : Es) : E := fun c l h k x => a c l h (fun ws h1 => pickK ps ws fun vs => c i vs h1 k x) x
noncomputable def eCallPG (i : Nat) (ps : List Nat) (a : Es) : E := fun c l h k x => a c l h (fun ws h1 => pickK ps ws fun vs => goG c i vs h1 k x) x
noncomputable def refOf (w : W) (c : Nat → Bool) : Bool := W.casesOn w false (fun _ => false) (fun _ => false) (fun _ => false) (fun _ => false) c (fun _ => false) (fun _ _ => false)
noncomputable def eAppend (a b : E) : E := fun c l h k x => a c l h (fun w h1 => refOf w fun p => b c l h1 (fun v h2 =>
  hget h2 p fun l => cond (Nat.blt (lenW l) line) (hset h2 p (app l [v]) fun h3 => k .non h3) false) x) x
noncomputable def eExtend (a : E) (b : Es) : E := fun c l h k x => a c l h (fun w h1 => refOf w fun p => b c l h1 (fun vs h2 =>
  hget h2 p fun l => cond (Nat.ble (Nat.add (lenW l) (lenW vs)) line) (hset h2 p (app l vs) fun h3 => k .non h3) false) x) x

noncomputable def eExtendV (a b : E) : E := fun c l h k x => a c l h (fun w h1 => refOf w fun p => b c l h1 (fun v h2 =>
  refOf v fun q => hget h2 q fun vs => hget h2 p fun l => cond (Nat.ble (Nat.add (lenW l) (lenW vs)) line) (hset h2 p (app l vs) fun h3 => k .non h3) false) x) x

/-! ### what loops walk -/
inductive Src where
  | tup (l : List W) | lst (k i : Nat) | rng (lo : Int) (n : Nat) | zip (a b : Src) | enum (i : Int) (a : Src) | zip3 (a b c : Src) | rev (k n j : Nat) | str (l : List Nat)
noncomputable def nextK (s : Src) : IH → Bool → (W → Src → Bool) → Bool :=
  Src.rec (fun l _ z c => List.casesOn l z (fun x r => c x (.tup r)))
    (fun k i h z c => hget h k fun l => List.casesOn (dropN i l) z (fun x _ => c x (.lst k (Nat.succ i))))
    (fun lo n _ z c => Nat.casesOn n z (fun m => c (.int lo) (.rng (Int.add lo 1) m)))
    (fun _ _ na nb h z c => na h z fun x a' => nb h z fun y b' => c (.tup [x, y]) (.zip a' b'))
    (fun i _ na h z c => na h z fun x a' => c (.tup [.int i, x]) (.enum (Int.add i 1) a'))
    (fun _ _ _ na nb nc h z c => na h z fun x a' => nb h z fun y b' => nc h z fun w c' => c (.tup [x, y, w]) (.zip3 a' b' c'))
    (fun k n j h z c => cond (Nat.blt j n) (hget h k fun l => nthK (Nat.sub (Nat.sub n 1) j) l fun x => c x (.rev k n (Nat.succ j))) z)
    (fun l _ z c => List.casesOn l z (fun x r => c (.str ⟨⟨[x]⟩⟩) (.str r))) s
abbrev Is := Orc → Loc → IH → (Src → IH → Bool) → KE → Bool
noncomputable def srcK (w : W) (c : Src → Bool) : Bool :=
  W.casesOn w false (fun _ => false) (fun _ => false) (fun _ => false) (fun l => c (.tup l)) (fun k => c (.lst k 0)) (fun l => c (.tup l)) (fun _ _ => false)
noncomputable def srcS (w : W) (c : Src → Bool) : Bool :=
  W.casesOn w false (fun _ => false) (fun _ => false) (fun s => c (.str s.cps.toList)) (fun l => c (.tup l)) (fun k => c (.lst k 0)) (fun l => c (.tup l)) (fun _ _ => false)
noncomputable def iVal (a : E) : Is := fun c l h k x => a c l h (fun w h1 => srcS w fun s => k s h1) x
/-- a list-making expression walked: its list is nobody's -/
def iFresh (a : Es) : Is := fun c l h k x => a c l h (fun ws h1 => k (.tup ws) h1) x
noncomputable def iRng1 (a : E) : Is := fun c l h k x => a c l h (fun w h1 => intOf w fun j => cond (Nat.blt (iabs j) big62) (k (.rng 0 j.toNat) h1) false) x
noncomputable def iRng2 (a b : E) : Is := fun c l h k x => a c l h (fun v h1 => b c l h1 (fun w h2 => intOf v fun i => intOf w fun j => cond (Nat.blt (iabs i) big62) (cond (Nat.blt (iabs j) big62) (k (.rng i (Int.sub j i).toNat) h2) false) false) x) x
noncomputable def iZip (a b : E) : Is := fun c l h k x => a c l h (fun v h1 => b c l h1 (fun w h2 => srcK v fun s => srcK w fun t => k (.zip s t) h2) x) x
noncomputable def iZip3 (a b d : E) : Is := fun c l h k x => a c l h (fun v h1 => b c l h1 (fun w h2 => d c l h2 (fun u h3 => srcK v fun s => srcK w fun t => srcK u fun r => k (.zip3 s t r) h3) x) x) x
noncomputable def revSrc (w : W) (h : IH) (c : Src → Bool) : Bool :=
  W.casesOn w false (fun _ => false) (fun _ => false) (fun _ => false) (fun l => c (.tup (revA l []))) (fun k => hget h k fun l => c (.rev k (lenW l) 0)) (fun _ => false) (fun _ _ => false)
noncomputable def iRev (a : E) : Is := fun c l h k x => a c l h (fun w h1 => revSrc w h1 fun s => k s h1) x
noncomputable def iEnum (a : E) : Is := fun c l h k x => a c l h (fun w h1 => srcK w fun s => k (.enum 0 s) h1) x

/-! ### targets -/
abbrev G := Orc → W → Loc → IH → KS → (Loc → KE) → Bool
abbrev Gs := Orc → List W → Loc → IH → KS → (Loc → KE) → Bool
noncomputable def gName (i : Nat) : G := fun _ w l h k _ => lsetK i l w fun l' => k l' h
noncomputable def gNil : Gs := fun _ ws l h k _ => List.casesOn ws (k l h) (fun _ _ => false)
noncomputable def gCons (g : G) (r : Gs) : Gs := fun c ws l h k x => List.casesOn ws false (fun w ws' => g c w l h (fun l1 h1 => r c ws' l1 h1 k x) x)
noncomputable def gTup (n : Nat) (g : Gs) : G := fun c w l h k x =>
  W.casesOn w false (fun _ => false) (fun _ => false) (fun _ => false) (fun ws => cond (Nat.beq (lenW ws) n) (g c ws l h k x) false) (fun p => hget h p fun ws => cond (Nat.beq (lenW ws) n) (g c ws l h k x) false) (fun ws => cond (Nat.beq (lenW ws) n) (g c ws l h k x) false) (fun _ _ => false)
noncomputable def gSub (a b : E) : G := fun c w l h k x => a c l h (fun o h1 => b c l h1 (fun i h2 =>
  W.casesOn o false (fun _ => false) (fun _ => false) (fun _ => false) (fun _ => false) (fun p => intOf i fun j => hget h2 p fun ws => ixK j ws fun n => setN n w ws fun ws' => hset h2 p ws' fun h3 => k l h3) (fun _ => false) (fun _ _ => false)) (x l)) (x l)

/-! ### comprehensions: [elt for g in it if t] -/
def fuel : Nat := 1000000
noncomputable def lcLoop (n : Nat) (g : G) (t : Tt) (e : E) (c : Orc) (k : KL) : Src → List W → Loc → IH → Bool :=
  Nat.rec (fun _ _ _ _ => false)
    (fun _ ih s acc l h => nextK s h (k (revA acc []) h) (fun w s' => g c w l h (fun l1 h1 => t c l1 h1 (fun p h2 => cond p (e c l1 h2 (fun y h3 => ih s' (y :: acc) l h3) kno) (ih s' acc l h2)) kno) (fun _ => kno))) n
noncomputable def lcIn (n : Nat) (g : G) (t : Tt) (e : E) (c : Orc) (fin : List W → IH → Bool) : Src → List W → Loc → IH → Bool :=
  Nat.rec (fun _ _ _ _ => false)
    (fun _ ih s acc l h => nextK s h (fin acc h) (fun w s' => g c w l h (fun l1 h1 => t c l1 h1 (fun p h2 => cond p (cond (Nat.blt (lenW acc) line) (e c l1 h2 (fun y h3 => ih s' (y :: acc) l h3) kno) false) (ih s' acc l h2)) kno) (fun _ => kno))) n
/-- the block's own names are not set at its start -/
noncomputable def lclrK (i : Nat) : Loc → (Loc → Bool) → Bool :=
  Nat.rec (fun l c => List.casesOn l false (fun _ l' => c (none :: l')))
    (fun _ ih l c => List.casesOn l false (fun x l' => ih l' (fun l'' => c (x :: l'')))) i
noncomputable def wipeK (vs : List Nat) (l : Loc) (c : Loc → Bool) : Bool := List.rec (fun c => c l) (fun v _ ih c => ih fun l' => lclrK v l' c) vs c
noncomputable def lcOut (n : Nat) (g : G) (t : Tt) (i1 : Is) (vs1 : List Nat) (g1 : G) (t1 : Tt) (e : E) (c : Orc) (k : KL) : Src → List W → Loc → IH → Bool :=
  Nat.rec (fun _ _ _ _ => false)
    (fun _ ih s acc l h => nextK s h (k (revA acc []) h) (fun w s' => g c w l h (fun l1 h1 => t c l1 h1 (fun p h2 => cond p (i1 c l1 h2 (fun s1 h3 => wipeK vs1 l1 fun l2 => lcIn fuel g1 t1 e c (fun acc' h4 => ih s' acc' l h4) s1 acc l2 h3) kno) (ih s' acc l h2)) kno) (fun _ => kno))) n
noncomputable def sLc2 (vs : List Nat) (i : Is) (g : G) (t : Tt) (i1 : Is) (vs1 : List Nat) (g1 : G) (t1 : Tt) (e : E) : Es := fun c l h k x => i c l h (fun s h1 => wipeK vs l fun l' => lcOut fuel g t i1 vs1 g1 t1 e c k s [] l' h1) x
noncomputable def sLc (vs : List Nat) (i : Is) (g : G) (t : Tt) (e : E) : Es := fun c l h k x => i c l h (fun s h1 => wipeK vs l fun l' => lcLoop fuel g t e c k s [] l' h1) x
def tYes : Tt := fun _ _ h k _ => k true h
/-- plus of list-making expressions -/
noncomputable def sCat (a b : Es) : Es := fun c l h k x => a c l h (fun v h1 => b c l h1 (fun w h2 => cond (Nat.ble (Nat.add (lenW v) (lenW w)) line) (k (app v w) h2) false) x) x
/-! all, any, sum of such -/
noncomputable def boolsK (f : Bool → Bool → Bool) (z : Bool) (l : List W) (c : Bool → Bool) : Bool :=
  List.rec (fun c => c z) (fun w _ ih c => W.casesOn w false (fun b => ih fun r => c (f b r)) (fun _ => false) (fun _ => false) (fun _ => false) (fun _ => false) (fun _ => false) (fun _ _ => false)) l c
noncomputable def sumK (l : List W) (c : Int → Bool) : Bool :=
  List.rec (fun a c => c a) (fun w _ ih a c => intOf w fun i => ih (Int.add a i) c) l 0 c
noncomputable def eAll (a : Es) : E := fun c l h k x => a c l h (fun ws h1 => boolsK and true ws fun b => k (.bl b) h1) x
noncomputable def eAny (a : Es) : E := fun c l h k x => a c l h (fun ws h1 => boolsK or false ws fun b => k (.bl b) h1) x
noncomputable def eSum (a : Es) : E := fun c l h k x => a c l h (fun ws h1 => sumK ws fun i => k (.int i) h1) x
noncomputable def eLenL (a : Es) : E := fun c l h k x => a c l h (fun ws h1 => k (.int (Int.ofNat (lenW ws))) h1) x

/-! ### sorted by |row[place]| (stable) -/
noncomputable def insBy (x : Nat × W) (l : List (Nat × W)) : List (Nat × W) :=
  List.rec [x] (fun y r ih => cond (Nat.ble x.1 y.1) (x :: y :: r) (y :: ih)) l
noncomputable def keyedK (i : Int) (l : List W) : (List (Nat × W) → Bool) → Bool :=
  List.rec (fun c => c []) (fun w _ ih c => W.casesOn w false (fun _ => false) (fun _ => false) (fun _ => false)
    (fun r => ixK i r fun n => nthK n r fun v => intOf v fun j => ih fun ps => c (insBy (iabs j, w) ps)) (fun _ => false) (fun _ => false) (fun _ _ => false)) l
noncomputable def sndL (l : List (Nat × W)) : List W := List.rec [] (fun p _ ih => p.2 :: ih) l
noncomputable def sSortAbs (a b : E) : Es := fun c l h k x => a c l h (fun v h1 => b c l h1 (fun w h2 => intOf w fun i => cond (Nat.blt (iabs i) big62) (lstK v h2 fun ws => keyedK i ws fun ps => k (sndL ps) h2) false) x) x

/-! ### statements -/
def sStuck : S := fun _ _ _ _ _ _ _ _ => false
def sNil : S := fun _ l h nx _ _ _ _ => nx l h
def sSeq (a b : S) : S := fun c l h nx rt bk ct ex => a c l h (fun l1 h1 => b c l1 h1 nx rt bk ct ex) rt bk ct ex
def sDrop (e : E) : S := fun c l h nx _ _ _ ex => e c l h (fun _ h1 => nx l h1) (ex l)
def sAsg (e : E) (g : G) : S := fun c l h nx _ _ _ ex => e c l h (fun w h1 => g c w l h1 nx ex) (ex l)
noncomputable def sPar (a : Es) (g : Gs) : S := fun c l h nx _ _ _ ex => a c l h (fun ws h1 => g c ws l h1 nx ex) (ex l)
def sRet (e : E) : S := fun c l h _ rt _ _ ex => e c l h rt (ex l)
def sRetN : S := fun _ _ h _ rt _ _ _ => rt .non h
def sIf (t : Tt) (a b : S) : S := fun c l h nx rt bk ct ex => t c l h (fun p h1 => cond p (a c l h1 nx rt bk ct ex) (b c l h1 nx rt bk ct ex)) (ex l)
def sBrk : S := fun _ l h _ _ bk _ _ => bk l h
def sCnt : S := fun _ l h _ _ _ ct _ => ct l h
@[irreducible] noncomputable def forLoop (n : Nat) (g : G) (b : S) (c : Orc) (nx : KS) (rt : KE) (ex : Loc → KE) : Src → Loc → IH → Bool :=
  Nat.rec (fun _ _ _ => false)
    (fun _ ih s l h => nextK s h (nx l h) (fun w s' => g c w l h (fun l1 h1 => b c l1 h1 (ih s') rt nx (ih s') ex) ex)) n
noncomputable def sFor (i : Is) (g : G) (b : S) : S := fun c l h nx rt _ _ ex => i c l h (fun s h1 => forLoop fuel g b c nx rt ex s l h1) (ex l)
noncomputable def whLoop (n : Nat) (t : Tt) (b : S) (c : Orc) (nx : KS) (rt : KE) (ex : Loc → KE) : Loc → IH → Bool :=
  Nat.rec (fun _ _ => false)
    (fun _ ih l h => t c l h (fun p h1 => cond p (b c l h1 ih rt nx ih ex) (nx l h1)) (ex l)) n
noncomputable def sWhile (t : Tt) (b : S) : S := fun c l h nx rt _ _ ex => whLoop fuel t b c nx rt ex l h
noncomputable def iaddK (i j : Int) (c : W → Bool) : Bool := c (.int (Int.add i j))
noncomputable def isubK (i j : Int) (c : W → Bool) : Bool := c (.int (Int.sub i j))
noncomputable def imulK (i j : Int) (c : W → Bool) : Bool := cond (mulOk i j) (c (.int (Int.mul i j))) false
noncomputable def sAug (i : Nat) (f : W → W → IH → KE → Bool) (e : E) : S := fun c l h nx _ _ _ ex => lgetK i l fun v => e c l h (fun w h1 => f v w h1 fun z h2 => lsetK i l z fun l1 => nx l1 h2) (ex l)
def sRaise (i : Nat) (a : Es) : S := fun c l h _ _ _ _ ex => a c l h (fun ws h1 => ex l (.exv i ws) h1) (ex l)
/-- except clauses: the class, the slot of its name, the suite -/
abbrev Hs := Nat → List W → Orc → Loc → IH → KS → KE → KS → KS → (Loc → KE) → Bool
def hNil : Hs := fun i ws _ l h _ _ _ _ ex => ex l (.exv i ws) h
noncomputable def hCons (j : Nat) (s : S) (r : Hs) : Hs := fun i ws c l h nx rt bk ct ex => cond (Nat.beq i j) (s c l h nx rt bk ct (fun _ => kno)) (r i ws c l h nx rt bk ct ex)
noncomputable def hConsAs (j n : Nat) (s : Nat → List W → S) (r : Hs) : Hs := fun i ws c l h nx rt bk ct ex => cond (Nat.beq i j)
  (lclrK n l fun l1 => s i ws c l1 h (fun l2 h2 => lclrK n l2 fun l3 => nx l3 h2) rt (fun l2 h2 => lclrK n l2 fun l3 => bk l3 h2) (fun l2 h2 => lclrK n l2 fun l3 => ct l3 h2) (fun _ => kno)) (r i ws c l h nx rt bk ct ex)
noncomputable def sTry (b : S) (hs : Hs) : S := fun c l h nx rt bk ct ex => b c l h nx rt bk ct (fun l1 w h1 =>
  W.casesOn w false (fun _ => false) (fun _ => false) (fun _ => false) (fun _ => false) (fun _ => false) (fun _ => false) (fun i ws => hs i ws c l1 h1 nx rt bk ct ex))
/-- isinstance of a caught error; its field -/
noncomputable def isOf (l : List Nat) (i : Nat) : Bool := List.rec false (fun j _ ih => cond (Nat.beq i j) true ih) l
noncomputable def eIsE (f : Nat → Bool) (i : Nat) : E := fun _ _ h k _ => k (.bl (f i)) h
noncomputable def eExF (ws : List W) : E := fun _ _ h k _ => List.casesOn ws false (fun y _ => k y h)
/-! ### defs -/
structure Def where
  np : Nat
  nl : Loc
  b : S
noncomputable def locK (n : Nat) (z : Loc) : List W → (Loc → Bool) → Bool :=
  Nat.rec (fun ws c => List.casesOn ws (c z) (fun _ _ => false)) (fun _ ih ws c => List.casesOn ws false (fun w r => ih r fun l => c (some w :: l))) n
noncomputable def runDef (d : Def) (c : Orc) (ws : List W) (h : IH) (k : KE) (x : KE) : Bool :=
  Def.casesOn d fun np nl b => locK np nl ws fun l => b c l h (fun _ h1 => k .non h1) k (fun _ _ => false) (fun _ _ => false) (fun _ => x)
inductive DT where
  | l (d : Def) | n (m : Nat) (a b : DT)
noncomputable def DT.getK (t : DT) : Nat → (Def → Bool) → Bool := DT.rec (fun d _ c => c d) (fun m _ _ fa fb i c => cond (Nat.blt i m) (fa i c) (fb i c)) t
/-- places from 1000 on: the same defs, run in the empty heap, whose heap is dropped at the end -/
noncomputable def orcS (t : DT) (c : Orc) : Orc := fun i ws h k x => cond (Nat.blt i 1000) (t.getK i fun d => runDef d c ws h k x) (t.getK (Nat.sub i 1000) fun d => runDef d c ws ih0 (fun w _ => k w ih0) (fun w _ => x w ih0))
noncomputable def orc (t : DT) (n : Nat) : Orc := Nat.rec (fun _ _ _ _ _ => false) (fun _ ih => orcS t ih) n
end It

set_option Elab.async false
set_option linter.all false
set_option maxRecDepth 100000
set_option maxHeartbeats 1000000
/-! ItB: what the evaluator's values and heap stand for; the readings. -/
namespace It
open PySem PySem.Spec PyProof.Rows L2

/-! ### the heap's laws -/
noncomputable def T.look (d : Nat) : T → Nat → Option (List W) :=
  Nat.rec (fun t _ => T.casesOn t none some (fun _ _ => none))
    (fun _ ih t k => T.casesOn t none (fun _ => none) (fun l r => cond (Nat.beq (Nat.mod k 2) 0) (ih l (Nat.div k 2)) (ih r (Nat.div k 2)))) d
theorem T.getK_ok : ∀ (d : Nat) (t : T) (k : Nat) (c : List W → Bool), T.getK d t k c = true → ∃ ws, T.look d t k = some ws ∧ c ws = true
  | 0, t, k, c, h => by
    cases t with
    | v l => exact ⟨l, rfl, h⟩
    | e => cases (show false = true from h)
    | n l r => cases (show false = true from h)
  | d + 1, t, k, c, h => by
    cases t with
    | v l => cases (show false = true from h)
    | e => cases (show false = true from h)
    | n l r =>
      have h' : cond (Nat.beq (Nat.mod k 2) 0) (T.getK d l (Nat.div k 2) c) (T.getK d r (Nat.div k 2) c) = true := h
      show ∃ ws, cond (Nat.beq (Nat.mod k 2) 0) (T.look d l (Nat.div k 2)) (T.look d r (Nat.div k 2)) = some ws ∧ c ws = true
      cases hb : Nat.beq (Nat.mod k 2) 0 with
      | true => rw [hb] at h'; exact T.getK_ok d l _ c h'
      | false => rw [hb] at h'; exact T.getK_ok d r _ c h'
theorem T.look_e : ∀ (d k : Nat), T.look d .e k = none
  | 0, _ => rfl
  | _ + 1, _ => rfl
theorem bit_of {k k' : Nat} (h : Nat.beq (Nat.mod k 2) 0 = Nat.beq (Nat.mod k' 2) 0) (h2 : Nat.div k 2 = Nat.div k' 2) : k = k' := by
  have e1 : Nat.mod k 2 = k % 2 := rfl
  have e2 : Nat.mod k' 2 = k' % 2 := rfl
  have e3 : Nat.div k 2 = k / 2 := rfl
  have e4 : Nat.div k' 2 = k' / 2 := rfl
  rw [e1, e2] at h
  rw [e3, e4] at h2
  have f1 : ∀ a : Nat, Nat.beq a 0 = decide (a = 0) := fun a => by
    cases a with
    | zero => rfl
    | succ n => rfl
  rw [f1, f1] at h
  by_cases z : k % 2 = 0
  · rw [decide_eq_true z] at h
    have := of_decide_eq_true h.symm
    omega
  · rw [decide_eq_false z] at h
    have := of_decide_eq_false h.symm
    omega
theorem T.setK_ok : ∀ (d : Nat) (t : T) (k : Nat) (x : List W) (c : T → Bool), k < 2 ^ d → T.setK d t k x c = true → ∃ t', c t' = true ∧ ∀ k', k' < 2 ^ d → T.look d t' k' = if k' = k then some x else T.look d t k'
  | 0, t, k, x, c, hk, h => ⟨.v x, h, fun k' hk' => by
      have e : k' = k := by
        have h1 : k' < 1 := hk'
        have h2 : k < 1 := hk
        omega
      rw [if_pos e]; rfl⟩
  | d + 1, t, k, x, c, hk, h => by
    have hd : ∀ j, j < 2 ^ (d + 1) → Nat.div j 2 < 2 ^ d := fun j hj => by
      have e : Nat.div j 2 = j / 2 := rfl
      have e2 : 2 ^ (d + 1) = 2 ^ d * 2 := rfl
      rw [e]; omega
    have key : ∀ (l r : T), (cond (Nat.beq (Nat.mod k 2) 0) (T.setK d l (Nat.div k 2) x (fun l' => c (.n l' r))) (T.setK d r (Nat.div k 2) x (fun r' => c (.n l r')))) = true →
        ∃ t', c t' = true ∧ ∀ k', k' < 2 ^ (d + 1) → T.look (d + 1) t' k' = if k' = k then some x else T.look (d + 1) (.n l r) k' := by
      intro l r q
      cases hb : Nat.beq (Nat.mod k 2) 0 with
      | true =>
        rw [hb] at q
        obtain ⟨l', hc, hl⟩ := T.setK_ok d l _ x _ (hd k hk) q
        refine ⟨.n l' r, hc, fun k' hk' => ?_⟩
        show cond (Nat.beq (Nat.mod k' 2) 0) (T.look d l' (Nat.div k' 2)) (T.look d r (Nat.div k' 2)) = if k' = k then some x else cond (Nat.beq (Nat.mod k' 2) 0) (T.look d l (Nat.div k' 2)) (T.look d r (Nat.div k' 2))
        cases hb' : Nat.beq (Nat.mod k' 2) 0 with
        | true =>
          show T.look d l' (Nat.div k' 2) = if k' = k then some x else T.look d l (Nat.div k' 2)
          rw [hl _ (hd k' hk')]
          by_cases z : k' = k
          · subst z; rw [if_pos rfl, if_pos rfl]
          · rw [if_neg z, if_neg (fun e => z (bit_of (hb'.trans hb.symm) e))]
        | false =>
          have z : k' ≠ k := fun e => by rw [e, hb] at hb'; cases hb'
          rw [if_neg z]
          rfl
      | false =>
        rw [hb] at q
        obtain ⟨l', hc, hl⟩ := T.setK_ok d r _ x _ (hd k hk) q
        refine ⟨.n l l', hc, fun k' hk' => ?_⟩
        show cond (Nat.beq (Nat.mod k' 2) 0) (T.look d l (Nat.div k' 2)) (T.look d l' (Nat.div k' 2)) = if k' = k then some x else cond (Nat.beq (Nat.mod k' 2) 0) (T.look d l (Nat.div k' 2)) (T.look d r (Nat.div k' 2))
        cases hb' : Nat.beq (Nat.mod k' 2) 0 with
        | true =>
          have z : k' ≠ k := fun e => by rw [e, hb] at hb'; cases hb'
          rw [if_neg z]
          rfl
        | false =>
          show T.look d l' (Nat.div k' 2) = if k' = k then some x else T.look d r (Nat.div k' 2)
          rw [hl _ (hd k' hk')]
          by_cases z : k' = k
          · subst z; rw [if_pos rfl, if_pos rfl]
          · rw [if_neg z, if_neg (fun e => z (bit_of (hb'.trans hb.symm) e))]
    have emp : ∀ k', T.look (d + 1) (.n .e .e) k' = T.look (d + 1) .e k' := fun k' => by
      show cond (Nat.beq (Nat.mod k' 2) 0) (T.look d .e (Nat.div k' 2)) (T.look d .e (Nat.div k' 2)) = none
      rw [T.look_e]
      cases Nat.beq (Nat.mod k' 2) 0 <;> rfl
    cases t with
    | v l => cases (show false = true from h)
    | e =>
      obtain ⟨t', hc, hl⟩ := key .e .e h
      exact ⟨t', hc, fun k' hk' => by rw [hl k' hk', emp]⟩
    | n l r => exact key l r h

def IH.n : IH → Nat | .mk n _ => n
def IH.t : IH → T | .mk _ t => t
noncomputable def hlook (h : IH) (k : Nat) : Option (List W) := T.look depth h.t k
theorem cap_eq : cap = 2 ^ depth := by decide
theorem hget_ok {h : IH} {k : Nat} {c : List W → Bool} (q : hget h k c = true) : ∃ ws, hlook h k = some ws ∧ c ws = true := by
  cases h with
  | mk n t => exact T.getK_ok depth t k c (by unfold hget at q; exact q)
theorem hset_ok {h : IH} {k : Nat} {x : List W} {c : IH → Bool} (hk : k < cap) (q : hset h k x c = true) : ∃ h', c h' = true ∧ h'.n = h.n ∧ ∀ k', k' < cap → hlook h' k' = if k' = k then some x else hlook h k' := by
  cases h with
  | mk n t =>
    obtain ⟨t', hc, hl⟩ := T.setK_ok depth t k x (fun t' => c (.mk n t')) (by rw [← cap_eq]; exact hk) (by unfold hset at q; exact q)
    exact ⟨.mk n t', hc, rfl, fun k' hk' => hl k' (by rw [← cap_eq]; exact hk')⟩
theorem halloc_ok {h : IH} {x : List W} {c : W → IH → Bool} (q : halloc h x c = true) : h.n < cap ∧ ∃ h', c (.ref h.n) h' = true ∧ h'.n = h.n + 1 ∧ ∀ k', k' < cap → hlook h' k' = if k' = h.n then some x else hlook h k' := by
  cases h with
  | mk n t =>
    have q' : cond (Nat.blt n cap) (T.setK depth t n x fun t' => c (.ref n) (.mk (Nat.succ n) t')) false = true := by unfold halloc at q; exact q
    cases hb : Nat.blt n cap with
    | false => rw [hb] at q'; cases q'
    | true =>
      rw [hb] at q'
      have hn : n < cap := by
        have := Nat.le_of_ble_eq_true hb
        exact this
      obtain ⟨t', hc, hl⟩ := T.setK_ok depth t n x (fun t' => c (.ref n) (.mk (Nat.succ n) t')) (by rw [← cap_eq]; exact hn) q'
      exact ⟨hn, .mk (Nat.succ n) t', hc, rfl, fun k' hk' => hl k' (by rw [← cap_eq]; exact hk')⟩

/-! ### what a value stands for -/
/-- the other objects' kinds: a list that may grow shorter, a dict, an instance of the class x -/
inductive Kd where
  | pl | dk | ins (x : Str)
/-- the lists, the other objects -/
structure Mp where
  f : Nat → Option Addr
  o : Nat → Option (Kd × Addr)
instance : CoeFun Mp (fun _ => Nat → Option Addr) := ⟨Mp.f⟩
/-- none of the evaluator's -/
def Mp.no (m : Mp) (a : Addr) : Prop := (∀ k, m.f k ≠ some a) ∧ ∀ k t, m.o k ≠ some (t, a)
/-- a list that no one writes -/
def FzL (K : PySem.W.Frag) (H : Hp) (a : Addr) (xs : List V) : Prop := (∃ o, H a = some (.frz o (.lst xs))) ∨
  ∃ (o : Obj) (its : Array Value) (n : Nat), K.lookup a = some o ∧ o.cls = .type "list" ∧ o.dict = none ∧ o.data = .seq its n ∧ its.size ≤ sizeLine ∧ Vals xs its.toList
mutual
inductive RV (K : PySem.W.Frag) (m : Mp) (H : Hp) : W → V → Prop
  | non : RV K m H .non .non
  | bl (b : Bool) : RV K m H (.bl b) (.bl b)
  | int (i : Int) : RV K m H (.int i) (.int i)
  | str (s : Str) : RV K m H (.str s) (.str s)
  | tup {ws : List W} {xs : List V} {a : Addr} : SqT K H a xs → RVs K m H ws xs → RV K m H (.tup ws) (.ref a)
  | ref {k : Nat} {a : Addr} : m k = some a → RV K m H (.ref k) (.ref a)
  | fl {ws : List W} {xs : List V} {a : Addr} : FzL K H a xs → RVs K m H ws xs → RV K m H (.fl ws) (.ref a)
  | fn {i : Nat} {x : Str} : RV K m H (.exv i [.str x]) (.ref (He.ga K x))
  | pl {k : Nat} {a : Addr} : m.o k = some (.pl, a) → RV K m H (.exv 0 [.ref k]) (.ref a)
  | dk {k : Nat} {a : Addr} : m.o k = some (.dk, a) → RV K m H (.exv 1 [.ref k]) (.ref a)
  | ins {k : Nat} {a : Addr} {x : Str} : m.o k = some (.ins x, a) → RV K m H (.exv 2 [.ref k, .str x]) (.ref a)
inductive RVs (K : PySem.W.Frag) (m : Mp) (H : Hp) : List W → List V → Prop
  | nil : RVs K m H [] []
  | cons {w : W} {ws : List W} {x : V} {xs : List V} : RV K m H w x → RVs K m H ws xs → RVs K m H (w :: ws) (x :: xs)
end
theorem RVs.length {K : PySem.W.Frag} {m : Mp} {H : Hp} : ∀ {ws : List W} {xs : List V}, RVs K m H ws xs → ws.length = xs.length
  | _, _, .nil => rfl
  | _, _, .cons _ t => congrArg Nat.succ (RVs.length t)
theorem RVs.append {K : PySem.W.Frag} {m : Mp} {H : Hp} : ∀ {ws ws' : List W} {xs xs' : List V}, RVs K m H ws xs → RVs K m H ws' xs' → RVs K m H (ws ++ ws') (xs ++ xs')
  | _, _, _, _, .nil, r => r
  | _, _, _, _, .cons a t, r => .cons a (RVs.append t r)
theorem RVs.get {K : PySem.W.Frag} {m : Mp} {H : Hp} : ∀ {ws : List W} {xs : List V} {i : Nat} {w : W}, RVs K m H ws xs → ws[i]? = some w → ∃ x, xs[i]? = some x ∧ RV K m H w x
  | _, _, _, _, .nil, e => by simp at e
  | _, _, 0, _, .cons r _, e => by simp at e; subst e; exact ⟨_, rfl, r⟩
  | _, _, i + 1, w, .cons _ t, e => by
    obtain ⟨u, h1, h2⟩ := RVs.get (i := i) (w := w) t (by simpa using e)
    exact ⟨u, by simpa using h1, h2⟩
theorem RVs.set {K : PySem.W.Frag} {m : Mp} {H : Hp} {w : W} {x : V} (r : RV K m H w x) : ∀ {ws : List W} {xs : List V} (i : Nat), RVs K m H ws xs → RVs K m H (ws.set i w) (xs.set i x)
  | _, _, _, .nil => .nil
  | _, _, 0, .cons _ t => .cons r t
  | _, _, i + 1, .cons q t => .cons q (RVs.set r i t)
theorem RVs.take {K : PySem.W.Frag} {m : Mp} {H : Hp} : ∀ {ws : List W} {xs : List V} (n : Nat), RVs K m H ws xs → RVs K m H (ws.take n) (xs.take n)
  | _, _, 0, _ => .nil
  | _, _, _ + 1, .nil => .nil
  | _, _, n + 1, .cons r t => .cons r (RVs.take n t)
theorem RVs.drop {K : PySem.W.Frag} {m : Mp} {H : Hp} : ∀ {ws : List W} {xs : List V} (n : Nat), RVs K m H ws xs → RVs K m H (ws.drop n) (xs.drop n)
  | _, _, 0, r => r
  | _, _, _ + 1, .nil => .nil
  | _, _, n + 1, .cons _ t => RVs.drop n t

/-- pairs under names -/
inductive RPs {κ : Type} (K : PySem.W.Frag) (m : Mp) (H : Hp) (kw : κ → W) : List W → List (κ × V) → Prop
  | nil : RPs K m H kw [] []
  | cons {q : κ} {w : W} {v : V} {ws : List W} {kvs : List (κ × V)} : RV K m H w v → RPs K m H kw ws kvs → RPs K m H kw (.tup [kw q, w] :: ws) ((q, v) :: kvs)
theorem RPs.map {κ : Type} {K : PySem.W.Frag} {m m' : Mp} {H H' : Hp} {kw : κ → W} (f : ∀ w v, RV K m H w v → RV K m' H' w v) : ∀ {ws : List W} {kvs : List (κ × V)}, RPs K m H kw ws kvs → RPs K m' H' kw ws kvs
  | _, _, .nil => .nil
  | _, _, .cons r t => .cons (f _ _ r) (RPs.map f t)
def keyW : Key → W
  | .inl i => .int i
  | .inr s => .str s
/-- what stands at another object -/
inductive RO (K : PySem.W.Frag) (m : Mp) (H : Hp) : Kd → List W → Addr → Prop
  | pl {ws : List W} {xs : List V} {a : Addr} : H a = some (.lst xs) → RVs K m H ws xs → RO K m H .pl ws a
  | dk {ws : List W} {kvs : List (Key × V)} {a : Addr} : H a = some (.dK kvs) → RPs K m H keyW ws kvs → RO K m H .dk ws a
  | ins {ws : List W} {fs : List (Str × V)} {a dx : Addr} {x : Str} : H a = some (.ins (He.ga K x) dx fs) → RPs K m H W.str ws fs → RO K m H (.ins x) ws a
/-- what may be another object's -/
def obB : HO → Bool
  | .lst _ => true
  | .dK _ => true
  | .ins .. => true
  | _ => false
theorem RO.is {K : PySem.W.Frag} {m : Mp} {H : Hp} {t : Kd} {ws : List W} {a : Addr} (r : RO K m H t ws a) : ∃ o, H a = some o ∧ obB o = true := by
  cases r with
  | pl e _ => exact ⟨_, e, rfl⟩
  | dk e _ => exact ⟨_, e, rfl⟩
  | ins e _ => exact ⟨_, e, rfl⟩
theorem RO.map {K : PySem.W.Frag} {m m' : Mp} {H H' : Hp} {t : Kd} {ws : List W} {a : Addr} (e : ∀ o, H a = some o → H' a = some o) (f : ∀ w v, RV K m H w v → RV K m' H' w v) (fs : ∀ us vs, RVs K m H us vs → RVs K m' H' us vs) (r : RO K m H t ws a) : RO K m' H' t ws a := by
  cases r with
  | pl h t => exact .pl (e _ h) (fs _ _ t)
  | dk h t => exact .dk (e _ h) (t.map f)
  | ins h t => exact .ins (e _ h) (t.map f)
/-- how the states lie to one another, the other objects -/
structure ExtO (m : Mp) (H : Hp) (m' : Mp) : Prop where
  sub : ∀ k p, m.o k = some p → m'.o k = some p
  new : ∀ k t a, m'.o k = some (t, a) → m.o k = some (t, a) ∨ H a = none
theorem ExtO.refl {m : Mp} {H : Hp} : ExtO m H m := ⟨fun _ _ h => h, fun _ _ _ h => .inl h⟩
/-- how the states lie to one another: the map only grows, by what is new; what the evaluator does not hold stays -/
structure Ext (m : Mp) (H : Hp) (m' : Mp) (H' : Hp) : Prop where
  sub : ∀ k a, m k = some a → m' k = some a
  new : ∀ k a, m' k = some a → m k = some a ∨ H a = none
  stay : ∀ a o, H a = some o → m.no a → (∀ ps, o ≠ .tbl ps) → H' a = some o
  there : ∀ a, H a ≠ none → H' a ≠ none
  len : ∀ k a xs, m k = some a → H a = some (.lst xs) → ∃ ys, H' a = some (.lst ys) ∧ xs.length ≤ ys.length
  ob : ExtO m H m'
theorem Ext.refl {m : Mp} {H : Hp} : Ext m H m H := ⟨fun _ _ h => h, fun _ _ h => .inl h, fun _ _ h _ _ => h, fun _ h => h, fun _ _ xs _ h => ⟨xs, h, Nat.le_refl _⟩, .refl⟩
theorem Ext.no {m m' : Mp} {H H' : Hp} (x : Ext m H m' H') {a : Addr} (n : m.no a) (h : H a ≠ none) : m'.no a := ⟨fun k e => (x.new k a e).elim (n.1 k) h, fun k t e => (x.ob.new k t a e).elim (n.2 k t) h⟩
theorem Ext.trans {m m1 m2 : Mp} {H H1 H2 : Hp} (a : Ext m H m1 H1) (b : Ext m1 H1 m2 H2) : Ext m H m2 H2 := by
  have old : ∀ c, H1 c = none → H c = none := fun c z => by
    cases q : H c with
    | none => rfl
    | some o => exact absurd z (a.there c (by rw [q]; exact fun z => nomatch z))
  refine ⟨fun k c h => b.sub k c (a.sub k c h), fun k c h => ?_, fun c o h n nt => ?_, fun c h => b.there c (a.there c h), fun k c xs hm h => ?_, ⟨fun k p h => b.ob.sub k p (a.ob.sub k p h), fun k t c h => ?_⟩⟩
  · rcases b.new k c h with z | z
    · exact a.new k c z
    · exact .inr (old c z)
  · exact b.stay c o (a.stay c o h n nt) (a.no n (by rw [h]; exact fun z => nomatch z)) nt
  · obtain ⟨ys, e, l⟩ := a.len k c xs hm h
    obtain ⟨zs, e', l'⟩ := b.len k c ys (a.sub k c hm) e
    exact ⟨zs, e', Nat.le_trans l l'⟩
  · rcases b.ob.new k t c h with z | z
    · exact a.ob.new k t c z
    · exact .inr (old c z)

def ledNm : Nat → Nat → Str := fun _ _ => "led_by" ++ ".<locals>." ++ "far_off"
/-- the defs that make functions, what these are called -/
def lamNm : List (Str × Str) := [("led_by", "far_off"), ("_law_stairs", "<lambda>"), ("_law_ways", "<lambda>"), ("count_line", "<lambda>"), ("fact_lots", "<lambda>"), ("led_to_one", "<lambda>"), ("lots_by_size", "<lambda>"), ("over_line", "<lambda>")]
def fnB (K : PySem.W.Frag) (x : Str) : Bool := match K.lookup (He.fAd K (x, none)) with
  | some ⟨_, _, .func fd, _⟩ => decide (fd.name = x)
  | _ => false
def tabOfN (K : PySem.W.Frag) (p : Str × Str) : NdefX.NTab := ((He.cT K (p.1, none)).2, fun _ _ => p.1 ++ ".<locals>." ++ p.2)
def tabsK (K : PySem.W.Frag) : List NdefX.NTab := (lamNm.filter fun p => fnB K p.1).map (tabOfN K)
/-- no two have one table -/
def tabU (K : PySem.W.Frag) : Bool := decide ((lamNm.filter fun p => fnB K p.1).map fun p => (He.cT K (p.1, none)).2).Nodup
theorem nodup_map_inj {α β : Type} {f : α → β} : ∀ {l : List α}, (l.map f).Nodup → ∀ a ∈ l, ∀ b ∈ l, f a = f b → a = b
  | [], _, _, h, _, _, _ => nomatch h
  | x :: l, nd, a, ha, b, hb, e => by
    rw [List.map_cons, List.nodup_cons] at nd
    rcases List.mem_cons.mp ha with rfl | h1 <;> rcases List.mem_cons.mp hb with rfl | h2
    · rfl
    · exact absurd (show f a ∈ l.map f by rw [e]; exact List.mem_map_of_mem h2) nd.1
    · exact absurd (show f b ∈ l.map f by rw [← e]; exact List.mem_map_of_mem h1) nd.1
    · exact nodup_map_inj nd.2 a h1 b h2 e
theorem tabU_ok {K : PySem.W.Frag} (h : tabU K = true) : ∀ p ∈ tabsK K, ∀ q ∈ tabsK K, p.1 = q.1 → p.2 = q.2 := fun p hp q hq e => by
  obtain ⟨a, ha, rfl⟩ := List.mem_map.mp hp
  obtain ⟨b, hb, rfl⟩ := List.mem_map.mp hq
  have z := nodup_map_inj (of_decide_eq_true h) a ha b hb e
  rw [z]
theorem tabs_mem {K : PySem.W.Frag} {p : Str × Str} (h : p ∈ lamNm) (hb : fnB K p.1 = true) : tabOfN K p ∈ tabsK K := List.mem_map_of_mem (List.mem_filter.mpr ⟨h, hb⟩)
theorem fnB_of {K : PySem.W.Frag} {x : Str} {oc : Value} {od : Option Addr} {osl : Array (Option Value)} {fd : FuncData} (lk : K.lookup (He.fAd K (x, none)) = some ⟨oc, od, .func fd, osl⟩) (e : fd.name = x) : fnB K x = true := by
  unfold fnB
  rw [lk]
  exact decide_eq_true e
theorem tabs_updG {T : List NdefX.NTab} {H : Hp} {a : Addr} {o u : HO} (t : NdefX.TabsN T H) (e : H a = some o) (h : obB o = true) : NdefX.TabsN T (upd H a u) := fun p hp => by
  obtain ⟨ps, h1, h2, h3⟩ := t p hp
  refine ⟨ps, by rw [upd_ne (fun z => by rw [z, e] at h1; cases h1; cases h)]; exact h1, h2, fun pos cv hc => ?_⟩
  obtain ⟨c, e1, e2⟩ := h3 pos cv hc
  refine ⟨c, e1, by rw [upd_ne (fun z => by rw [z, e] at e2; unfold LamX.CodeO at e2; cases e2; cases h)]; exact e2⟩
theorem tabs_upd {T : List NdefX.NTab} {H : Hp} {a : Addr} {xs ys : List V} (t : NdefX.TabsN T H) (e : H a = some (.lst xs)) : NdefX.TabsN T (upd H a (.lst ys)) := tabs_updG t e rfl
/-- the other objects -/
structure RepO (K : PySem.W.Frag) (m : Mp) (h : IH) (H : Hp) : Prop where
  get : ∀ k t a, m.o k = some (t, a) → k < cap ∧ ∃ ws, hlook h k = some ws ∧ RO K m H t ws a
  inj : ∀ k k' t t' a, m.o k = some (t, a) → m.o k' = some (t', a) → k = k'
  new : ∀ k, h.n ≤ k → m.o k = none
  dis : ∀ k k' t a, m.f k = some a → m.o k' = some (t, a) → False
  slot : ∀ k a p, m.f k = some a → m.o k = some p → False
structure RepH (K : PySem.W.Frag) (m : Mp) (h : IH) (H : Hp) : Prop where
  get : ∀ k a, m k = some a → k < cap ∧ ∃ ws xs, hlook h k = some ws ∧ H a = some (.lst xs) ∧ RVs K m H ws xs
  inj : ∀ k k' a, m k = some a → m k' = some a → k = k'
  new : ∀ k, h.n ≤ k → m k = none
  tab : NdefX.TabsN (tabsK K) H
  ob : RepO K m h H
section
variable {K : PySem.W.Frag} {m m' : Mp} {h h' : IH} {H H' : Hp}
theorem RepH.no (r : RepH K m h H) {a : Addr} {o : HO} (e : H a = some o) (d : obB o = false) : m.no a := by
  refine ⟨fun k q => ?_, fun k t q => ?_⟩
  · obtain ⟨_, ws, xs, _, e2, _⟩ := r.get k a q
    rw [e] at e2
    cases e2
    cases d
  · obtain ⟨_, ws, _, e2⟩ := r.ob.get k t a q
    obtain ⟨u, e3, e4⟩ := e2.is
    rw [e] at e3
    cases e3
    rw [d] at e4
    cases e4
theorem RepH.no0 (r : RepH K m h H) {a : Addr} (e : H a = none) : m.no a := by
  refine ⟨fun k q => ?_, fun k t q => ?_⟩
  · obtain ⟨_, ws, xs, _, e2, _⟩ := r.get k a q
    rw [e] at e2
    cases e2
  · obtain ⟨_, ws, _, e2⟩ := r.ob.get k t a q
    obtain ⟨u, e3, e4⟩ := e2.is
    rw [e] at e3
    cases e3
theorem RepH.sqT (r : RepH K m h H) (x : Ext m H m' H') {a : Addr} {xs : List V} (s : SqT K H a xs) : SqT K H' a xs := by
  rcases s with (e | ⟨o, e⟩) | e
  · exact .inl (.inl (x.stay a _ e (r.no e rfl) fun _ z => nomatch z))
  · exact .inl (.inr ⟨o, x.stay a _ e (r.no e rfl) fun _ z => nomatch z⟩)
  · exact .inr e
theorem RepH.fz (r : RepH K m h H) (x : Ext m H m' H') {a : Addr} {xs : List V} (s : FzL K H a xs) : FzL K H' a xs := by
  rcases s with ⟨o, e⟩ | e
  · exact .inl ⟨o, x.stay _ _ e (r.no e rfl) fun _ z => nomatch z⟩
  · exact .inr e
mutual
theorem RV.mono (r : RepH K m h H) (x : Ext m H m' H') : ∀ {w : W} {v : V}, RV K m H w v → RV K m' H' w v
  | _, _, .non => .non
  | _, _, .bl b => .bl b
  | _, _, .int i => .int i
  | _, _, .str s => .str s
  | _, _, .tup s t => .tup (r.sqT x s) (RVs.mono r x t)
  | _, _, .ref e => .ref (x.sub _ _ e)
  | _, _, .fl e t => .fl (r.fz x e) (RVs.mono r x t)
  | _, _, .fn => .fn
  | _, _, .pl e => .pl (x.ob.sub _ _ e)
  | _, _, .dk e => .dk (x.ob.sub _ _ e)
  | _, _, .ins e => .ins (x.ob.sub _ _ e)
theorem RVs.mono (r : RepH K m h H) (x : Ext m H m' H') : ∀ {ws : List W} {vs : List V}, RVs K m H ws vs → RVs K m' H' ws vs
  | _, _, .nil => .nil
  | _, _, .cons a t => .cons (RV.mono r x a) (RVs.mono r x t)
end
theorem RO.mono (r : RepH K m h H) (x : Ext m H m' H') {t : Kd} {ws : List W} {a : Addr} (e : ∀ o, H a = some o → H' a = some o) (q : RO K m H t ws a) : RO K m' H' t ws a := q.map e (fun _ _ => RV.mono r x) (fun _ _ => RVs.mono r x)
/-- something new that is not the evaluator's: a tuple just laid -/
theorem Ext.laid {p : Addr} {o : HO} (hp : H p = none) : Ext m H m (upd H p o) :=
  ⟨fun _ _ h => h, fun _ _ h => .inl h, fun a u e _ _ => by rw [upd_ne (ne_of_none e hp)]; exact e, fun a e => by
    by_cases z : a = p
    · subst z; rw [upd_same]; exact fun z => nomatch z
    · rw [upd_ne z]; exact e, fun _ a xs _ e => ⟨xs, by rw [upd_ne (ne_of_none e hp)]; exact e, Nat.le_refl _⟩, .refl⟩
theorem RepH.laid (r : RepH K m h H) {p : Addr} {o : HO} (hp : H p = none) : RepH K m h (upd H p o) :=
  ⟨fun k a e => by
    obtain ⟨z, ws, xs, e1, e2, e3⟩ := r.get k a e
    exact ⟨z, ws, xs, e1, by rw [upd_ne (ne_of_none e2 hp)]; exact e2, RVs.mono r (Ext.laid hp) e3⟩, r.inj, r.new, r.tab.ext fun b o e => by rw [upd_ne (ne_of_none e hp)]; exact e,
   ⟨fun k t a e => by
    obtain ⟨z, ws, e1, e2⟩ := r.ob.get k t a e
    exact ⟨z, ws, e1, e2.mono r (Ext.laid hp) fun u q => by rw [upd_ne (ne_of_none q hp)]; exact q⟩, r.ob.inj, r.ob.new, r.ob.dis, r.ob.slot⟩⟩
/-- a new list that is the evaluator's -/
noncomputable def put (m : Mp) (n : Nat) (p : Addr) : Mp := ⟨fun k => if k = n then some p else m.f k, m.o⟩
theorem put_same {n : Nat} {p : Addr} : put m n p n = some p := if_pos rfl
theorem put_ne {n k : Nat} {p : Addr} (z : k ≠ n) : put m n p k = m k := if_neg z
theorem Ext.put {m1 : Mp} {n : Nat} {p : Addr} (hn : m1 n = none) (hp : H p = none) (x : Ext m H m1 H') : Ext m H (It.put m1 n p) H' := by
  refine ⟨fun k a e => ?_, fun k a e => ?_, x.stay, x.there, x.len, ⟨x.ob.sub, x.ob.new⟩⟩
  · have e' := x.sub k a e
    rw [put_ne (fun z => by rw [z, hn] at e'; cases e')]; exact e'
  · by_cases z : k = n
    · subst z
      rw [put_same] at e
      cases e
      exact .inr hp
    · rw [put_ne z] at e; exact x.new k a e
theorem RepH.take (r : RepH K m h H) {p : Addr} {ws : List W} {xs : List V} (hH : H p = some (.lst xs)) (np : m.no p) (hn : h.n < cap) (en : h'.n = h.n + 1) (hl : ∀ k', k' < cap → hlook h' k' = if k' = h.n then some ws else hlook h k') (rs : RVs K m H ws xs)
    (lift : ∀ {us : List W} {vs : List V}, RVs K m H us vs → RVs K (put m h.n p) H us vs) : RepH K (put m h.n p) h' H := by
  have lift1 : ∀ w v, RV K m H w v → RV K (put m h.n p) H w v := fun w v q => by
    cases lift (.cons q .nil) with
    | cons a _ => exact a
  refine ⟨fun k a e => ?_, fun k k' a e e' => ?_, fun k e => ?_, r.tab, ⟨fun k t a e => ?_, r.ob.inj, fun k e => r.ob.new k (by omega), fun k k' t a e e' => ?_, fun k a q e e' => ?_⟩⟩
  · by_cases z : k = h.n
    · subst z
      rw [put_same] at e
      cases e
      exact ⟨hn, ws, xs, by rw [hl _ hn, if_pos rfl], hH, lift rs⟩
    · rw [put_ne z] at e
      obtain ⟨z1, ws', xs', e1, e2, e3⟩ := r.get k a e
      exact ⟨z1, ws', xs', by rw [hl _ z1, if_neg z]; exact e1, e2, lift e3⟩
  · by_cases z : k = h.n <;> by_cases z' : k' = h.n
    · rw [z, z']
    · subst z
      rw [put_same] at e
      rw [put_ne z'] at e'
      cases e
      exact absurd e' (np.1 k')
    · subst z'
      rw [put_same] at e'
      rw [put_ne z] at e
      cases e'
      exact absurd e (np.1 k)
    · rw [put_ne z] at e
      rw [put_ne z'] at e'
      exact r.inj k k' a e e'
  · rw [en] at e
    rw [put_ne (by omega)]
    exact r.new k (by omega)
  · obtain ⟨z1, ws', e1, e2⟩ := r.ob.get k t a e
    have z : k ≠ h.n := fun z => by
      have e9 : m.o k = some (t, a) := e
      rw [r.ob.new k (by omega)] at e9; cases e9
    exact ⟨z1, ws', by rw [hl _ z1, if_neg z]; exact e1, e2.map (fun _ q => q) lift1 fun _ _ q => lift q⟩
  · by_cases z : k = h.n
    · subst z
      replace e : put m h.n p h.n = some a := e
      rw [put_same] at e
      cases e
      exact np.2 k' t e'
    · replace e : put m h.n p k = some a := e
      rw [put_ne z] at e
      exact r.ob.dis k k' t a e e'
  · by_cases z : k = h.n
    · subst z
      replace e' : m.o h.n = some q := e'
      rw [r.ob.new _ (Nat.le_refl _)] at e'; cases e'
    · replace e : put m h.n p k = some a := e
      rw [put_ne z] at e
      exact r.ob.slot k a q e e'
/-- another new object that is the evaluator's -/
noncomputable def putO (m : Mp) (n : Nat) (t : Kd) (p : Addr) : Mp := ⟨m.f, fun k => if k = n then some (t, p) else m.o k⟩
theorem putO_same {n : Nat} {t : Kd} {p : Addr} : (putO m n t p).o n = some (t, p) := if_pos rfl
theorem putO_ne {n k : Nat} {t : Kd} {p : Addr} (z : k ≠ n) : (putO m n t p).o k = m.o k := if_neg z
theorem Ext.putO {m1 : Mp} {n : Nat} {t : Kd} {p : Addr} (hn : m1.o n = none) (hp : H p = none) (x : Ext m H m1 H') : Ext m H (It.putO m1 n t p) H' := by
  refine ⟨x.sub, x.new, x.stay, x.there, x.len, ⟨fun k q e => ?_, fun k t' a e => ?_⟩⟩
  · have e' := x.ob.sub k q e
    rw [putO_ne (fun z => by rw [z, hn] at e'; cases e')]; exact e'
  · by_cases z : k = n
    · subst z
      rw [putO_same] at e
      cases e
      exact .inr hp
    · rw [putO_ne z] at e; exact x.ob.new k t' a e
theorem RepH.takeO (r : RepH K m h H) {t : Kd} {p : Addr} {ws : List W} (np : m.no p) (hn : h.n < cap) (en : h'.n = h.n + 1) (hl : ∀ k', k' < cap → hlook h' k' = if k' = h.n then some ws else hlook h k') (ro : RO K m H t ws p)
    (lift : ∀ {us : List W} {vs : List V}, RVs K m H us vs → RVs K (putO m h.n t p) H us vs) : RepH K (putO m h.n t p) h' H := by
  have lift1 : ∀ w v, RV K m H w v → RV K (putO m h.n t p) H w v := fun w v q => by
    cases lift (.cons q .nil) with
    | cons a _ => exact a
  refine ⟨fun k a e => ?_, r.inj, fun k e => r.new k (by omega), r.tab, ⟨fun k t' a e => ?_, fun k k' t1 t2 a e e' => ?_, fun k e => ?_, fun k k' t' a e e' => ?_, fun k a q e e' => ?_⟩⟩
  · obtain ⟨z1, ws', xs', e1, e2, e3⟩ := r.get k a e
    have z : k ≠ h.n := fun z => by
      have e9 : m k = some a := e
      rw [r.new k (by omega)] at e9; cases e9
    exact ⟨z1, ws', xs', by rw [hl _ z1, if_neg z]; exact e1, e2, lift e3⟩
  · by_cases z : k = h.n
    · subst z
      rw [putO_same] at e
      cases e
      exact ⟨hn, ws, by rw [hl _ hn, if_pos rfl], ro.map (fun _ q => q) lift1 fun _ _ q => lift q⟩
    · rw [putO_ne z] at e
      obtain ⟨z1, ws', e1, e2⟩ := r.ob.get k t' a e
      exact ⟨z1, ws', by rw [hl _ z1, if_neg z]; exact e1, e2.map (fun _ q => q) lift1 fun _ _ q => lift q⟩
  · by_cases z : k = h.n <;> by_cases z' : k' = h.n
    · rw [z, z']
    · subst z
      rw [putO_same] at e
      rw [putO_ne z'] at e'
      cases e
      exact absurd e' (np.2 k' _)
    · subst z'
      rw [putO_same] at e'
      rw [putO_ne z] at e
      cases e'
      exact absurd e (np.2 k _)
    · rw [putO_ne z] at e
      rw [putO_ne z'] at e'
      exact r.ob.inj k k' t1 t2 a e e'
  · rw [en] at e
    rw [putO_ne (by omega)]
    exact r.ob.new k (by omega)
  · by_cases z : k' = h.n
    · subst z
      rw [putO_same] at e'
      cases e'
      exact np.1 k e
    · rw [putO_ne z] at e'
      exact r.ob.dis k k' t' a e e'
  · by_cases z : k = h.n
    · subst z
      replace e : m h.n = some a := e
      rw [r.new _ (Nat.le_refl _)] at e; cases e
    · rw [putO_ne z] at e'
      exact r.ob.slot k a q e e'
mutual
theorem RV.put {n : Nat} {p : Addr} (hn : m n = none) : ∀ {w : W} {v : V}, RV K m H w v → RV K (It.put m n p) H w v
  | _, _, .non => .non
  | _, _, .bl b => .bl b
  | _, _, .int i => .int i
  | _, _, .str s => .str s
  | _, _, .tup s t => .tup s (RVs.put hn t)
  | _, _, .ref e => .ref (by rw [put_ne (fun z => by rw [z, hn] at e; cases e)]; exact e)
  | _, _, .fl e t => .fl e (RVs.put hn t)
  | _, _, .fn => .fn
  | _, _, .pl e => .pl e
  | _, _, .dk e => .dk e
  | _, _, .ins e => .ins e
theorem RVs.put {n : Nat} {p : Addr} (hn : m n = none) : ∀ {ws : List W} {vs : List V}, RVs K m H ws vs → RVs K (It.put m n p) H ws vs
  | _, _, .nil => .nil
  | _, _, .cons a t => .cons (RV.put hn a) (RVs.put hn t)
end
mutual
theorem RV.putO {n : Nat} {t : Kd} {p : Addr} (hn : m.o n = none) : ∀ {w : W} {v : V}, RV K m H w v → RV K (It.putO m n t p) H w v
  | _, _, .non => .non
  | _, _, .bl b => .bl b
  | _, _, .int i => .int i
  | _, _, .str s => .str s
  | _, _, .tup s t => .tup s (RVs.putO hn t)
  | _, _, .ref e => .ref e
  | _, _, .fl e t => .fl e (RVs.putO hn t)
  | _, _, .fn => .fn
  | _, _, .pl e => .pl (by rw [putO_ne (fun z => by rw [z, hn] at e; cases e)]; exact e)
  | _, _, .dk e => .dk (by rw [putO_ne (fun z => by rw [z, hn] at e; cases e)]; exact e)
  | _, _, .ins e => .ins (by rw [putO_ne (fun z => by rw [z, hn] at e; cases e)]; exact e)
theorem RVs.putO {n : Nat} {t : Kd} {p : Addr} (hn : m.o n = none) : ∀ {ws : List W} {vs : List V}, RVs K m H ws vs → RVs K (It.putO m n t p) H ws vs
  | _, _, .nil => .nil
  | _, _, .cons a t => .cons (RV.putO hn a) (RVs.putO hn t)
end
/-- a list of the evaluator's is written -/
theorem Ext.write {k : Nat} {a : Addr} {vs xs : List V} (e : m k = some a) (ev : H a = some (.lst vs)) (hl : vs.length ≤ xs.length) : Ext m H m (upd H a (.lst xs)) :=
  ⟨fun _ _ h => h, fun _ _ h => .inl h, fun b u q n _ => by rw [upd_ne (fun z => by subst z; exact n.1 k e)]; exact q, fun b q => by
    by_cases z : b = a
    · subst z; rw [upd_same]; exact fun z => nomatch z
    · rw [upd_ne z]; exact q, fun _ b us _ q => by
    by_cases z : b = a
    · subst z; rw [ev] at q; cases q; exact ⟨xs, upd_same, hl⟩
    · exact ⟨us, by rw [upd_ne z]; exact q, Nat.le_refl _⟩, .refl⟩
theorem RepH.write (r : RepH K m h H) {k : Nat} {a : Addr} {ws : List W} {xs : List V} (e : m k = some a) (hn : h'.n = h.n) (hl : ∀ k', k' < cap → hlook h' k' = if k' = k then some ws else hlook h k') (rs : RVs K m H ws xs) {us : List V} (eu : H a = some (.lst us)) (le : us.length ≤ xs.length) : RepH K m h' (upd H a (.lst xs)) := by
  have X : Ext m H m (upd H a (.lst xs)) := Ext.write e eu le
  have up : ∀ {us : List W} {vs : List V}, RVs K m H us vs → RVs K m (upd H a (.lst xs)) us vs := fun {us vs} t => RVs.mono r X t
  refine ⟨fun k' a' e' => ?_, r.inj, fun k' q => r.new k' (by rw [← hn]; exact q), tabs_upd r.tab eu, ⟨fun k' t a' e' => ?_, r.ob.inj, fun k' q => r.ob.new k' (by rw [← hn]; exact q), r.ob.dis, r.ob.slot⟩⟩
  · obtain ⟨z1, ws', xs', e1, e2, e3⟩ := r.get k' a' e'
    by_cases z : k' = k
    · subst z
      rw [e] at e'
      cases e'
      exact ⟨z1, ws, xs, by rw [hl _ z1, if_pos rfl], upd_same, up rs⟩
    · have na : a' ≠ a := fun q => z (r.inj k' k a (by rw [← q]; exact e') e)
      exact ⟨z1, ws', xs', by rw [hl _ z1, if_neg z]; exact e1, by rw [upd_ne na]; exact e2, up e3⟩
  · obtain ⟨z1, ws', e1, e2⟩ := r.ob.get k' t a' e'
    have z : k' ≠ k := fun z => by subst z; exact r.ob.slot _ _ _ e e'
    have na : a' ≠ a := fun q => by subst q; exact r.ob.dis _ _ _ _ e e'
    exact ⟨z1, ws', by rw [hl _ z1, if_neg z]; exact e1, e2.mono r X fun u q => by rw [upd_ne na]; exact q⟩
/-- another object of the evaluator's is written -/
theorem Ext.writeO (r : RepH K m h H) {k : Nat} {t : Kd} {a : Addr} {o : HO} (e : m.o k = some (t, a)) : Ext m H m (upd H a o) :=
  ⟨fun _ _ h => h, fun _ _ h => .inl h, fun b u q n _ => by rw [upd_ne (fun z => by subst z; exact n.2 k t e)]; exact q, fun b q => by
    by_cases z : b = a
    · subst z; rw [upd_same]; exact fun z => nomatch z
    · rw [upd_ne z]; exact q, fun j b us hj q => by
    have z : b ≠ a := fun z => by subst z; exact r.ob.dis _ _ _ _ hj e
    exact ⟨us, by rw [upd_ne z]; exact q, Nat.le_refl _⟩, .refl⟩
theorem RepH.writeO (r : RepH K m h H) {k : Nat} {t : Kd} {a : Addr} {ws : List W} {o : HO} (e : m.o k = some (t, a)) (hn : h'.n = h.n) (hl : ∀ k', k' < cap → hlook h' k' = if k' = k then some ws else hlook h k') (ro : RO K m (upd H a o) t ws a) : RepH K m h' (upd H a o) := by
  have X : Ext m H m (upd H a o) := Ext.writeO r e
  obtain ⟨_, _, _, e0⟩ := r.ob.get k t a e
  obtain ⟨u, eu, hu⟩ := e0.is
  refine ⟨fun k' a' e' => ?_, r.inj, fun k' q => r.new k' (by rw [← hn]; exact q), tabs_updG r.tab eu hu, ⟨fun k' t' a' e' => ?_, r.ob.inj, fun k' q => r.ob.new k' (by rw [← hn]; exact q), r.ob.dis, r.ob.slot⟩⟩
  · obtain ⟨z1, ws', xs', e1, e2, e3⟩ := r.get k' a' e'
    have z : k' ≠ k := fun z => by subst z; exact r.ob.slot _ _ _ e' e
    have na : a' ≠ a := fun q => by subst q; exact r.ob.dis _ _ _ _ e' e
    exact ⟨z1, ws', xs', by rw [hl _ z1, if_neg z]; exact e1, by rw [upd_ne na]; exact e2, RVs.mono r X e3⟩
  · obtain ⟨z1, ws', e1, e2⟩ := r.ob.get k' t' a' e'
    by_cases z : k' = k
    · subst z
      rw [e] at e'
      cases e'
      exact ⟨z1, ws, by rw [hl _ z1, if_pos rfl], ro⟩
    · have na : a' ≠ a := fun q => z (r.ob.inj k' k t' t a (by rw [← q]; exact e') e)
      exact ⟨z1, ws', by rw [hl _ z1, if_neg z]; exact e1, e2.mono r X fun u q => by rw [upd_ne na]; exact q⟩
end
end It

set_option Elab.async false
set_option linter.all false
set_option maxRecDepth 100000
set_option maxHeartbeats 1000000
/-! ItC: readings of the combinators; names, constants, operators, comparisons, tests. -/
namespace It
open PySem PySem.Spec PyProof.Rows L2

structure Bag where
  ca : Nat → Addr
  cf : Nat → Str
  ex : Nat → Prop
  on : Nat → Prop
  c : Orc
/-- names' values -/
def RepL (K : PySem.W.Frag) (m : Mp) (H : Hp) (l : Loc) (σ : L2.St) : Prop := l.length = σ.length ∧ ∀ (i : Nat) (w : W), l[i]? = some (some w) → ∃ v, σ[i]? = some (some v) ∧ RV K m H w v
inductive RX (K : PySem.W.Frag) (B : Bag) (m : Mp) (H : Hp) : W → Value → Option Addr → Prop
  | plain (i : Nat) : B.ex i → RX K B m H (.exv i []) (.ref (B.ca i)) none
  | one (i : Nat) (dx : Addr) (w : W) (x : V) : B.on i → H dx = some (.xd [(B.cf i, x)]) → RV K m H w x → RX K B m H (.exv i [w]) (.ref (B.ca i)) (some dx)
def KOk (K : PySem.W.Frag) (m : Mp) (H : Hp) (k : KE) (Q : VK) : Prop := ∀ m' v w h' H', Ext m H m' H' → RepH K m' h' H' → RV K m' H' v w → k v h' = true → Q w H'
def LOk (K : PySem.W.Frag) (m : Mp) (H : Hp) (n : Nat) (k : KL) (Q : List V → Hp → Prop) : Prop := ∀ m' ws xs h' H', Ext m H m' H' → RepH K m' h' H' → RVs K m' H' ws xs → xs.length = n → k ws h' = true → Q xs H'
/-- a list-making expression's list: new, nobody's -/
def FOk (K : PySem.W.Frag) (m : Mp) (H : Hp) (k : KL) (Q : VK) : Prop := ∀ m' ws xs h' H' p, Ext m H m' H' → RepH K m' h' H' → H' p = some (.lst xs) → H p = none → m'.no p → RVs K m' H' ws xs → k ws h' = true → Q (.ref p) H'
def BOk (K : PySem.W.Frag) (m : Mp) (H : Hp) (k : KB) (Q : Bool → Hp → Prop) : Prop := ∀ m' b h' H', Ext m H m' H' → RepH K m' h' H' → k b h' = true → Q b H'
def XOk (K : PySem.W.Frag) (B : Bag) (m : Mp) (H : Hp) (σ : L2.St) (x : KE) (Wx : WX) : Prop := ∀ m' v cls d h' H', Ext m H m' H' → RepH K m' h' H' → RX K B m' H' v cls d → x v h' = true → Wx cls d σ H'
section
variable {K : PySem.W.Frag} {B : Bag} {m m' : Mp} {h h' : IH} {H H' : Hp} {σ : L2.St} {l : Loc} {Wx : WX}
theorem RepL.mono (r : RepL K m H l σ) (rh : RepH K m h H) (x : Ext m H m' H') : RepL K m' H' l σ := ⟨r.1, fun i w e => let ⟨v, e1, e2⟩ := r.2 i w e; ⟨v, e1, RV.mono rh x e2⟩⟩
theorem KOk.mono {k : KE} {Q : VK} (o : KOk K m H k Q) (x : Ext m H m' H') : KOk K m' H' k Q := fun m2 v w h2 H2 x2 r rv e => o m2 v w h2 H2 (x.trans x2) r rv e
theorem LOk.mono {n : Nat} {k : KL} {Q : List V → Hp → Prop} (o : LOk K m H n k Q) (x : Ext m H m' H') : LOk K m' H' n k Q := fun m2 v w h2 H2 x2 r rv hn e => o m2 v w h2 H2 (x.trans x2) r rv hn e
theorem FOk.mono {k : KL} {Q : VK} (o : FOk K m H k Q) (x : Ext m H m' H') : FOk K m' H' k Q := fun m2 ws xs h2 H2 p x2 r hp np nm rv e => o m2 ws xs h2 H2 p (x.trans x2) r hp (by
  cases q : H p with
  | none => rfl
  | some u => exact absurd np (x.there p (by rw [q]; exact fun z => nomatch z))) nm rv e
theorem BOk.mono {k : KB} {Q : Bool → Hp → Prop} (o : BOk K m H k Q) (x : Ext m H m' H') : BOk K m' H' k Q := fun m2 b h2 H2 x2 r e => o m2 b h2 H2 (x.trans x2) r e
theorem XOk.mono {x : KE} (o : XOk K B m H σ x Wx) (e : Ext m H m' H') : XOk K B m' H' σ x Wx := fun m2 v c d h2 H2 x2 r rx q => o m2 v c d h2 H2 (e.trans x2) r rx q
theorem XOk.no : XOk K B m H σ kno Wx := fun _ _ _ _ _ _ _ _ _ q => Bool.noConfusion q
end
def tE (K : PySem.W.Frag) (B : Bag) (Wx : WX) (f : E) : TE := fun σ H Q => ∃ m l h k x, RepH K m h H ∧ RepL K m H l σ ∧ f B.c l h k x = true ∧ KOk K m H k Q ∧ XOk K B m H σ x Wx
def tA (K : PySem.W.Frag) (B : Bag) (Wx : WX) (n : Nat) (f : Es) : TA := fun σ H Q => ∃ m l h k x, RepH K m h H ∧ RepL K m H l σ ∧ f B.c l h k x = true ∧ LOk K m H n k Q ∧ XOk K B m H σ x Wx
def tF (K : PySem.W.Frag) (B : Bag) (Wx : WX) (f : Es) : TE := fun σ H Q => ∃ m l h k x, RepH K m h H ∧ RepL K m H l σ ∧ f B.c l h k x = true ∧ FOk K m H k Q ∧ XOk K B m H σ x Wx
def tB (K : PySem.W.Frag) (B : Bag) (Wx : WX) (f : Tt) : TT := fun σ H Q => ∃ m l h k x, RepH K m h H ∧ RepL K m H l σ ∧ f B.c l h k x = true ∧ BOk K m H k Q ∧ XOk K B m H σ x Wx
section
variable {X : Cx} {e : Expr} {es : List Expr}
theorem peI {t t' : TE} (h : PE X e t) (i : ∀ σ H Q, t' σ H Q → t σ H Q) : PE X e t' := ⟨fun pins s σ H Q I q => h.run pins s σ H Q I (i σ H Q q)⟩
theorem paI {t t' : TA} (h : PA X es t) (i : ∀ σ H Q, t' σ H Q → t σ H Q) : PA X es t' := ⟨fun pos pins s σ H Q I q => h.run pos pins s σ H Q I (i σ H Q q)⟩
theorem ptI {t t' : TT} (h : PT X e t) (i : ∀ σ H Q, t' σ H Q → t σ H Q) : PT X e t' := ⟨fun pins s σ H Q I q => h.run pins s σ H Q I (i σ H Q q)⟩
theorem pwI {t t' : TT} (h : PW X e t) (i : ∀ σ H Q, t' σ H Q → t σ H Q) : PW X e t' := ⟨fun wh pins s σ H Q I q => h.run wh pins s σ H Q I (i σ H Q q)⟩
end
section
variable {X : Cx} {B : Bag} {Wx : WX} {pos : Pos}
theorem pe_stuck {e : Expr} : PE X e (tE X.K B Wx eStuck) := ⟨fun _ _ _ _ _ _ ⟨_, _, _, _, _, _, _, q, _⟩ => Bool.noConfusion q⟩
/-! ### names, constants -/
theorem lgetK_ok : ∀ (i : Nat) (l : Loc) (c : W → Bool), lgetK i l c = true → ∃ w, l[i]? = some (some w) ∧ c w = true
  | 0, [], _, h => by cases (show false = true from h)
  | 0, none :: _, _, h => by cases (show false = true from h)
  | 0, some w :: _, c, h => ⟨w, rfl, h⟩
  | i + 1, [], _, h => by cases (show false = true from h)
  | i + 1, _ :: l, c, h => by
    obtain ⟨w, e, q⟩ := lgetK_ok i l c h
    exact ⟨w, by simpa using e, q⟩
theorem lsetK_ok : ∀ (i : Nat) (l : Loc) (w : W) (c : Loc → Bool), lsetK i l w c = true → i < l.length ∧ c (l.set i (some w)) = true
  | 0, [], _, _, h => by cases (show false = true from h)
  | 0, _ :: l, w, c, h => ⟨Nat.succ_pos _, h⟩
  | i + 1, [], _, _, h => by cases (show false = true from h)
  | i + 1, x :: l, w, c, h => by
    obtain ⟨e, q⟩ := lsetK_ok i l w (fun l'' => c (x :: l'')) h
    exact ⟨Nat.succ_lt_succ e, q⟩
theorem RepL.set {K : PySem.W.Frag} {m : Mp} {H : Hp} {l : Loc} {σ : L2.St} (r : RepL K m H l σ) {i : Nat} {w : W} {v : V} (hi : i < l.length) (rv : RV K m H w v) : RepL K m H (l.set i (some w)) (σ.set i (some v)) := by
  refine ⟨by rw [List.length_set, List.length_set]; exact r.1, fun j u e => ?_⟩
  by_cases z : i = j
  · subst z
    rw [List.getElem?_set_self hi] at e
    cases e
    exact ⟨v, by rw [List.getElem?_set_self (by rw [← r.1]; exact hi)], rv⟩
  · rw [List.getElem?_set_ne z] at e
    rw [List.getElem?_set_ne z]
    exact r.2 j u e
theorem se_var {i : Nat} {x : Str} (h : PE X (.Name x pos) (tVar i)) : PE X (.Name x pos) (tE X.K B Wx (eVar i)) := peI h fun σ H Q ⟨m, l, h, k, x, rh, rl, e, hk, _⟩ => by
  obtain ⟨w, e1, q⟩ := lgetK_ok i l _ e
  obtain ⟨v, e2, rv⟩ := rl.2 i w e1
  exact ⟨v, e2, hk m w v h H .refl rh rv q⟩
theorem se_int {i : Int} {j : Nat} : PE X (.Constant (.int i) j pos) (tE X.K B Wx (eInt i)) := peI pe_int fun σ H Q ⟨m, l, h, k, x, rh, rl, e, hk, _⟩ => hk m _ _ h H .refl rh (.int i) e
theorem se_bl {b : Bool} {j : Nat} : PE X (.Constant (.bool b) j pos) (tE X.K B Wx (eBl b)) := peI pe_bl fun σ H Q ⟨m, l, h, k, x, rh, rl, e, hk, _⟩ => hk m _ _ h H .refl rh (.bl b) e
theorem se_non {j : Nat} : PE X (.Constant .none j pos) (tE X.K B Wx eNon) := peI pe_non fun σ H Q ⟨m, l, h, k, x, rh, rl, e, hk, _⟩ => hk m _ _ h H .refl rh .non e
theorem se_str {z : Str} {j : Nat} : PE X (.Constant (.str z) j pos) (tE X.K B Wx (eStr z)) := peI pe_str fun σ H Q ⟨m, l, h, k, x, rh, rl, e, hk, _⟩ => hk m _ _ h H .refl rh (.str z) e

/-! ### argument lists, displays -/
theorem sa_nil : PA X [] (tA X.K B Wx 0 asNil) := paI pa_nil fun σ H Q ⟨m, l, h, k, x, rh, rl, e, hk, _⟩ => hk m [] [] h H .refl rh .nil rfl e
theorem sa_cons {e : Expr} {es : List Expr} {f : E} {g : Es} {n : Nat} (a : PE X e (tE X.K B Wx f)) (r : PA X es (tA X.K B Wx n g)) (hs : starEach (e :: es) X.env = (false, eval e X.env) :: starEach es X.env) : PA X (e :: es) (tA X.K B Wx (n + 1) (asCons f g)) := by
  refine paI (pa_cons a r hs) fun σ H Q ⟨m, l, h, k, x, rh, rl, e, hk, hx⟩ => ?_
  refine ⟨m, l, h, _, x, rh, rl, e, fun m1 v w h1 H1 x1 r1 rv e1 => ?_, hx⟩
  refine ⟨m1, l, h1, _, x, r1, rl.mono rh x1, e1, fun m2 ws xs h2 H2 x2 r2 rvs hn e2 => ?_, hx.mono x1⟩
  exact hk m2 (v :: ws) (w :: xs) h2 H2 (x1.trans x2) r2 (.cons (RV.mono r1 x2 rv) rvs) (by rw [List.length_cons, hn]) e2
theorem line_le : line ≤ sizeLine := by rw [sizeLine_eq]; decide
theorem KOk.newT {K : PySem.W.Frag} {m : Mp} {H : Hp} {k : KE} {Q : VK} {h : IH} (hk : KOk K m H k Q) (rh : RepH K m h H) {ws : List W} {xs : List V} (rv : RVs K m H ws xs) (e : k (.tup ws) h = true) {p : Addr} (hp : H p = none) : Q (.ref p) (upd H p (.tup xs)) :=
  hk m _ _ h _ (.laid hp) (rh.laid hp) (.tup (.of upd_same) (RVs.mono rh (.laid hp) rv)) e
theorem se_tup {es : List Expr} {j n : Nat} {f : Es} (a : PA X es (tA X.K B Wx n f)) (hn : n ≤ line) : PE X (.Tuple es j pos) (tE X.K B Wx (eTup f)) := by
  refine peI (pe_tup a) fun σ H Q ⟨m, l, h, k, x, rh, rl, e, hk, hx⟩ => ?_
  refine ⟨m, l, h, _, x, rh, rl, e, fun m1 ws xs h1 H1 x1 r1 rv hl e1 => ⟨?_, fun p hp => (hk.mono x1).newT r1 rv e1 hp⟩, hx⟩
  rw [hl]; exact Nat.le_trans hn line_le
theorem sf_lst {es : List Expr} {n : Nat} {f : Es} (a : PA X es (tA X.K B Wx n f)) (hn : n ≤ line) : PE X (.List es pos) (tF X.K B Wx f) := by
  refine peI (pe_lst a) fun σ H Q ⟨m, l, h, k, x, rh, rl, e, hk, hx⟩ => ?_
  refine ⟨m, l, h, _, x, rh, rl, e, fun m1 ws xs h1 H1 x1 r1 rv hl e1 => ⟨?_, fun p hp => ?_⟩, hx⟩
  · rw [hl]; exact Nat.le_trans hn line_le
  · refine hk m1 ws xs h1 _ p (x1.trans (.laid hp)) (r1.laid hp) upd_same ?_ (r1.no0 hp) (RVs.mono r1 (.laid hp) rv) e1
    · cases q : H p with
      | none => rfl
      | some u => exact absurd hp (x1.there p (by rw [q]; exact fun z => nomatch z))
/-- a list-making expression's list is the evaluator's -/
theorem se_lay {e : Expr} {f : Es} (a : PE X e (tF X.K B Wx f)) : PE X e (tE X.K B Wx (eLay f)) := by
  refine peI a fun σ H Q ⟨m, l, h, k, x, rh, rl, e, hk, hx⟩ => ?_
  refine ⟨m, l, h, _, x, rh, rl, e, fun m1 ws xs h1 H1 p x1 r1 hp np nm rv e1 => ?_, hx⟩
  obtain ⟨hc, h2, e2, hn2, hl2⟩ := halloc_ok e1
  have z := r1.new h1.n (Nat.le_refl _)
  exact hk (put m1 h1.n p) _ _ h2 H1 (.put z np x1) (r1.take hp nm hc hn2 hl2 rv fun t => RVs.put z t) (.ref put_same) e2

/-! ### operators by values -/
/-- two values, an answer -/
def r2 (K : PySem.W.Frag) (g : W → W → IH → KE → Bool) : R2 := fun x y H Q => ∃ m v w h k, RepH K m h H ∧ RV K m H v x ∧ RV K m H w y ∧ g v w h k = true ∧ KOk K m H k Q
theorem bin_imp {K : PySem.W.Frag} {g : W → W → IH → KE → Bool} {fa fb : E} (σ : L2.St) (H : Hp) (Q : VK) : tE K B Wx (eBin g fa fb) σ H Q → tOp (r2 K g) (tE K B Wx fa) (tE K B Wx fb) σ H Q := fun ⟨m, l, h, k, x, rh, rl, e, hk, hx⟩ => by
  refine ⟨m, l, h, _, x, rh, rl, e, fun m1 v w h1 H1 x1 r1 rv e1 => ?_, hx⟩
  refine ⟨m1, l, h1, _, x, r1, rl.mono rh x1, e1, fun m2 v2 w2 h2 H2 x2 r2 rv2 e2 => ?_, hx.mono x1⟩
  exact ⟨m2, v, v2, h2, k, r2, RV.mono r1 x2 rv, rv2, e2, hk.mono (x1.trans x2)⟩
def r1 (K : PySem.W.Frag) (g : W → IH → KE → Bool) : V → Hp → VK → Prop := fun x H Q => ∃ m v h k, RepH K m h H ∧ RV K m H v x ∧ g v h k = true ∧ KOk K m H k Q
theorem un_imp {K : PySem.W.Frag} {g : W → IH → KE → Bool} {fa : E} (σ : L2.St) (H : Hp) (Q : VK) : tE K B Wx (eUn g fa) σ H Q → tUn (r1 K g) (tE K B Wx fa) σ H Q := fun ⟨m, l, h, k, x, rh, rl, e, hk, hx⟩ => by
  refine ⟨m, l, h, _, x, rh, rl, e, fun m1 v w h1 H1 x1 r1 rv e1 => ?_, hx⟩
  exact ⟨m1, v, h1, k, r1, rv, e1, hk.mono x1⟩
theorem opI {f : Value → Value → Sem Value} {r r' : R2} (h : OpR X f r) (i : ∀ x y H Q, r' x y H Q → r x y H Q) : OpR X f r' := fun pins s σ H x y v u Q I rx ry q => h pins s σ H x y v u Q I rx ry (i x y H Q q)
theorem unI {f : Value → Sem Value} {r r' : V → Hp → VK → Prop} (h : UnR X f r) (i : ∀ x H Q, r' x H Q → r x H Q) : UnR X f r' := fun pins s σ H x v Q I rx q => h pins s σ H x v Q I rx (i x H Q q)
theorem callI {f : Value} {r r' : List V → Hp → VK → Prop} (h : CallR X f r) (i : ∀ xs H Q, r' xs H Q → r xs H Q) : CallR X f r' := fun pins s σ H xs us Q I r q => h pins s σ H xs us Q I r (i xs H Q q)
theorem cond_t {b : Bool} {p q : Bool} (h : cond b p q = true) : (b = true ∧ p = true) ∨ (b = false ∧ q = true) := by
  cases b with
  | true => exact .inl ⟨rfl, h⟩
  | false => exact .inr ⟨rfl, h⟩
theorem cond_f {b : Bool} {p : Bool} (h : cond b p false = true) : b = true ∧ p = true := by
  cases b with
  | true => exact ⟨rfl, h⟩
  | false => cases h
/-! ints -/
theorem ieq_ok : ∀ i j : Int, ieq i j = decide (i = j)
  | .ofNat a, .ofNat b => by
    show Nat.beq a b = _
    rw [Bool.eq_iff_iff, decide_eq_true_iff, Nat.beq_eq]
    constructor
    · intro h; rw [h]
    · intro h; exact Int.ofNat.inj h
  | .ofNat a, .negSucc b => (decide_eq_false (fun z => nomatch z)).symm
  | .negSucc a, .ofNat b => (decide_eq_false (fun z => nomatch z)).symm
  | .negSucc a, .negSucc b => by
    show Nat.beq a b = _
    rw [Bool.eq_iff_iff, decide_eq_true_iff, Nat.beq_eq]
    constructor
    · intro h; rw [h]
    · intro h; exact Int.negSucc.inj h
theorem blt_ok (a b : Nat) : Nat.blt a b = decide (a < b) := by
  rw [Bool.eq_iff_iff, decide_eq_true_iff]
  rw [Nat.blt_eq]
theorem ble_ok (a b : Nat) : Nat.ble a b = decide (a ≤ b) := by
  rw [Bool.eq_iff_iff, decide_eq_true_iff]
  rw [Nat.ble_eq]
theorem ilt_ok : ∀ i j : Int, ilt i j = decide (i < j)
  | .ofNat a, .ofNat b => by
    show Nat.blt a b = _
    rw [blt_ok, Bool.eq_iff_iff, decide_eq_true_iff, decide_eq_true_iff]
    exact Int.ofNat_lt.symm
  | .ofNat a, .negSucc b => by
    show false = _
    rw [decide_eq_false]
    have := Int.negSucc_lt_zero b
    show ¬ ((a : Int) < _)
    omega
  | .negSucc a, .ofNat b => by
    show true = _
    rw [decide_eq_true]
    have := Int.negSucc_lt_zero a
    show _ < (b : Int)
    omega
  | .negSucc a, .negSucc b => by
    show Nat.blt b a = _
    rw [blt_ok, Bool.eq_iff_iff, decide_eq_true_iff, decide_eq_true_iff]
    rw [Int.negSucc_eq, Int.negSucc_eq]
    omega
theorem ile_ok (i j : Int) : ile i j = decide (i ≤ j) := by
  show not (ilt j i) = _
  rw [ilt_ok, Bool.eq_iff_iff, decide_eq_true_iff]
  simp
theorem iabs_ok : ∀ i : Int, iabs i = i.natAbs
  | .ofNat _ => rfl
  | .negSucc _ => rfl
theorem lenW_ok : ∀ l : List W, lenW l = l.length
  | [] => rfl
  | _ :: l => congrArg Nat.succ (lenW_ok l)
theorem app_ok' : ∀ l r : List W, app l r = l ++ r
  | [], _ => rfl
  | x :: l, r => congrArg (List.cons x) (app_ok' l r)
theorem rep_ok (l : List W) : ∀ n : Nat, rep n l = (List.replicate n l).flatten
  | 0 => rfl
  | n + 1 => by
    show app l (rep n l) = _
    rw [app_ok', rep_ok l n, List.replicate_succ, List.flatten_cons]
end
end It

set_option Elab.async false
set_option linter.all false
set_option maxRecDepth 100000
set_option maxHeartbeats 1000000
/-! ItD: operators by values. -/
namespace It
open PySem PySem.Spec PyProof.Rows L2
/-! ### tuple * int where it is the tuple itself, or empty -/
theorem tuple_mul_same (l : Addr) (items : Array Value) (n : Nat) (dd : Option Addr) (sl : Array (Option Value)) (x : Int) (u : Tok) (c0 : (decide (x < -(2 ^ 63)) || decide (x ≥ 2 ^ 63)) = false) (c1 : (items.isEmpty || x == 1) = true) :
    Meets (Builtin.«tuple.__mul__» ⟨[.ref l, .int x u], []⟩) (fun _ R s => s.heap.get? l = some { cls := .type "tuple", dict := dd, data := .seq items n, slots := sl } ∧
      R (.ok (.ret (Value.ref l))) s) :=
  .of_wp fun prog w A R s h => by
    obtain ⟨hp, g, d, tk, os⟩ := s
    obtain ⟨hl, h⟩ := h
    have f1 := AutoSeq1.idx_int
    wp_walk using wpAny_loadPart' hl
    repeat (first
      | (refine wpAny_ite_false (decide_eq_false (by rw [c0]; exact Bool.false_ne_true)) ?_; wp_walk using wpAny_loadPart' hl)
      | (refine wpAny_ite_true (decide_eq_true (by rw [c1])) ?_; wp_walk using wpAny_loadPart' hl))
    exact ⟨_, rfl, h⟩
theorem tuple_mul_none (l : Addr) (items : Array Value) (n : Nat) (dd : Option Addr) (sl : Array (Option Value)) (x : Int) (u : Tok) (c0 : (decide (x < -(2 ^ 63)) || decide (x ≥ 2 ^ 63)) = false) (c1 : (items.isEmpty || x == 1) = false) (c2 : (decide (x ≤ 0) || items.isEmpty) = true) :
    Meets (Builtin.«tuple.__mul__» ⟨[.ref l, .int x u], []⟩) (fun _ R s => s.heap.get? l = some { cls := .type "tuple", dict := dd, data := .seq items n, slots := sl } ∧
      R (.ok (.ret (Value.ref s.heap.objs.size))) { s with heap := s.heap.push { cls := Value.type "tuple", data := Data.seq #[] }, toks := s.toks }) :=
  .of_wp fun prog w A R s h => by
    obtain ⟨hp, g, d, tk, os⟩ := s
    obtain ⟨hl, h⟩ := h
    have f1 := AutoSeq1.idx_int
    wp_walk using wpAny_loadPart' hl
    repeat (first
      | (refine wpAny_ite_false (decide_eq_false (by rw [c0]; exact Bool.false_ne_true)) ?_; wp_walk using wpAny_loadPart' hl)
      | (refine wpAny_ite_false (decide_eq_false (by rw [c1]; exact Bool.false_ne_true)) ?_; wp_walk using wpAny_loadPart' hl)
      | (refine wpAny_ite_true (decide_eq_true (by rw [c2])) ?_; wp_walk using wpAny_loadPart' hl))
    exact ⟨_, rfl, h⟩
section
variable {X : Cx}
/-- t * k where it is t, or () -/
def rRepT1 (K : PySem.W.Frag) : R2 := fun x y H Q => ∃ l k xs, x = .ref l ∧ y = .int k ∧ SqT K H l xs ∧ -(2 ^ 62) < k ∧ k < 2 ^ 62 ∧ (((xs = [] ∨ k = 1) ∧ Q (.ref l) H) ∨ (¬ (xs = [] ∨ k = 1) ∧ k ≤ 0 ∧ ∀ p, H p = none → Q (.ref p) (upd H p (.tup []))))
theorem op_repT1 : OpR X (binaryOp .Mult) (rRepT1 X.K) := by
  intro pins s σ H x y v u Q I rx ry h
  obtain ⟨l, k, xs, rfl, rfl, hT, h1, h2, q⟩ := h
  cases rx
  obtain ⟨t, rfl⟩ := ry
  obtain ⟨its, r, ⟨⟨cls, dd, data, sl⟩, ho, hc, n, hd⟩, hs⟩ := I.tuple hT
  simp only at hc hd
  subst hc hd
  have hle : its.length = xs.length := r.length.symm
  have c0 : (decide (k < -(2 ^ 63)) || decide (k ≥ 2 ^ 63)) = false := by
    rw [decide_eq_false (by omega), decide_eq_false (by omega)] <;> rfl
  have hemp : its.toArray.isEmpty = decide (xs = []) := by
    cases r with
    | nil => rfl
    | cons _ _ => rfl
  rcases q with ⟨hz, q⟩ | ⟨hz, h0, q⟩
  · have c1 : (its.toArray.isEmpty || k == 1) = true := by
      rw [hemp]
      rcases hz with z | z
      · rw [decide_eq_true z]; rfl
      · subst z; simp
    exact wpAny_binaryOp_repeat_ref (T := "tuple") (U := "int") (by decide) ⟨_, ho, rfl⟩ (fun s' => typeIs_int s' k t) noFill_tuple_mul F.fills_int_mul F.slot_int_rmul repeat_tuple F.slot_int_index.lookup
      (call_meets F.slot_int_rmul (typeIs_int s k t) F.entry_int_rmul (F.args_int_rmul_2 _ _) (int_rmul_tuple k t l its.toArray n dd sl)
        ⟨ho, rfl, ⟨_, ho, rfl⟩, call_meets F.slot_tuple_mul ⟨_, ho, rfl⟩ F.entry_tuple_mul (F.args_tuple_mul_2 _ _) (tuple_mul_same l its.toArray n dd sl k t c0 c1) ⟨ho, ⟨.ref l, H, I, rfl, q⟩⟩⟩)
  · have c1 : (its.toArray.isEmpty || k == 1) = false := by
      rw [hemp, decide_eq_false (fun z => hz (.inl z)), Bool.false_or]
      exact beq_eq_false_iff_ne.mpr fun z => hz (.inr z)
    have c2 : (decide (k ≤ 0) || its.toArray.isEmpty) = true := by rw [decide_eq_true h0]; rfl
    refine wpAny_binaryOp_repeat_ref (T := "tuple") (U := "int") (by decide) ⟨_, ho, rfl⟩ (fun s' => typeIs_int s' k t) noFill_tuple_mul F.fills_int_mul F.slot_int_rmul repeat_tuple F.slot_int_index.lookup
      (call_meets F.slot_int_rmul (typeIs_int s k t) F.entry_int_rmul (F.args_int_rmul_2 _ _) (int_rmul_tuple k t l its.toArray n dd sl)
        ⟨ho, rfl, ⟨_, ho, rfl⟩, call_meets F.slot_tuple_mul ⟨_, ho, rfl⟩ F.entry_tuple_mul (F.args_tuple_mul_2 _ _) (tuple_mul_none l its.toArray n dd sl k t c0 c1 c2) ⟨ho, ?_⟩⟩)
    refine ⟨.ref s.heap.objs.size, _, I.laid (t' := s.toks) (o := .tup []) (fun b ob q => Heap.get?_push_of_some _ q) (Nat.le_refl _) ?_, rfl, q _ (I.hok.fresh (Nat.le_refl _))⟩
    exact ⟨Nat.zero_le _, [], .nil, IsTup.new _ _⟩
/-! ### the operators -/
variable {m : Mp}
theorem KOk.newL {K : PySem.W.Frag} {m : Mp} {H : Hp} {k : KE} {Q : VK} {h : IH} (hk : KOk K m H k Q) (rh : RepH K m h H) {ws : List W} {xs : List V} (rv : RVs K m H ws xs) (e : halloc h ws k = true) {p : Addr} (hp : H p = none) : Q (.ref p) (upd H p (.lst xs)) := by
  obtain ⟨hc, h2, e2, hn2, hl2⟩ := halloc_ok e
  have z := rh.new h.n (Nat.le_refl _)
  have rh' := rh.laid (o := .lst xs) hp
  have nm : m.no p := rh.no0 hp
  exact hk (put m h.n p) _ _ h2 _ (.put z hp (.laid hp)) (rh'.take upd_same nm hc hn2 hl2 (RVs.mono rh (.laid hp) rv) fun t => RVs.put z t) (.ref put_same) e2
theorem op_addK : OpR X (binaryOp .Add) (r2 X.K addK) := by
  intro pins s σ H x y v u Q I rx ry ⟨m, a, b, h, k, rh, ra, rb, e, hk⟩
  cases ra with
  | int i =>
    cases rb with
    | int j => exact op_add pins s σ H _ _ v u Q I rx ry ⟨i, j, rfl, rfl, hk m _ _ h H .refl rh (.int _) e⟩
    | bl p =>
      refine op_add_ib pins s σ H _ _ v u Q I rx ry ⟨i, p, rfl, rfl, ?_⟩
      have z : (PyProof.Rows.b2i p : Int) = It.b2i p := by cases p <;> rfl
      rw [z]
      exact hk m _ _ h H .refl rh (.int _) e
    | _ => cases (show false = true from e)
  | str p =>
    cases rb with
    | str q =>
      obtain ⟨e1, e2⟩ := cond_f e
      have e1' : p.length + q.length ≤ line := by rw [ble_ok] at e1; exact of_decide_eq_true e1
      exact op_add_str pins s σ H _ _ v u Q I rx ry ⟨p, q, rfl, rfl, Nat.le_trans e1' line_le, hk m _ _ h H .refl rh (.str _) e2⟩
    | _ => cases (show false = true from e)
  | @tup ws xs a sa ta =>
    cases rb with
    | @tup ws' xs' b sb tb =>
      obtain ⟨e1, e2⟩ := cond_f e
      rw [ble_ok] at e1
      have e1' := of_decide_eq_true e1
      rw [lenW_ok, lenW_ok, ta.length, tb.length] at e1'
      rw [app_ok'] at e2
      refine op_catA pins s σ H _ _ v u Q I rx ry ⟨a, b, xs, xs', rfl, rfl, sa, sb, Nat.le_trans e1' line_le, fun z => ?_, fun _ z => ?_, fun _ _ p hp => ?_⟩
      · subst z
        have z1 : ws = [] := by cases ta; rfl
        subst z1
        exact hk m _ _ h H .refl rh (.tup sb tb) e2
      · subst z
        have z1 : ws' = [] := by cases tb; rfl
        subst z1
        rw [List.append_nil] at e2
        exact hk m _ _ h H .refl rh (.tup sa ta) e2
      · exact hk.newT rh (ta.append tb) e2 hp
    | _ => cases (show false = true from e)
  | @ref p a ea =>
    cases rb with
    | @ref q b eb =>
      obtain ⟨l, e1, e2⟩ := hget_ok e
      obtain ⟨l', e3, e4⟩ := hget_ok e2
      obtain ⟨e5, e6⟩ := cond_f e4
      obtain ⟨_, ws, xs, f1, f2, f3⟩ := rh.get _ _ ea
      obtain ⟨_, ws', xs', g1, g2, g3⟩ := rh.get _ _ eb
      rw [f1] at e1; cases e1
      rw [g1] at e3; cases e3
      rw [ble_ok] at e5
      have e5' := of_decide_eq_true e5
      rw [lenW_ok, lenW_ok, f3.length, g3.length] at e5'
      rw [app_ok'] at e6
      exact op_cat pins s σ H _ _ v u Q I rx ry ⟨a, b, xs, xs', rfl, rfl, f2, g2, Nat.le_trans e5' line_le, fun p' hp => hk.newL rh (f3.append g3) e6 hp⟩
    | _ => cases (show false = true from e)
  | _ => cases (show false = true from e)
theorem op_subK : OpR X (binaryOp .Sub) (r2 X.K subK) := by
  intro pins s σ H x y v u Q I rx ry ⟨m, a, b, h, k, rh, ra, rb, e, hk⟩
  cases ra with
  | int i =>
    cases rb with
    | int j => exact op_sub pins s σ H _ _ v u Q I rx ry ⟨i, j, rfl, rfl, hk m _ _ h H .refl rh (.int _) e⟩
    | _ => cases (show false = true from e)
  | _ => cases (show false = true from e)
theorem big64_lt {i : Int} (h : Nat.blt (iabs i) big64 = true) : -(2 ^ 64) < i ∧ i < 2 ^ 64 := by
  rw [blt_ok, iabs_ok] at h
  have h' := of_decide_eq_true h
  have e : big64 = 2 ^ 64 := by decide
  rw [e] at h'
  omega
theorem mulOk_ok {i j : Int} (h : mulOk i j = true) : CMul i j := by
  unfold mulOk at h
  rcases cond_t h with ⟨a, _⟩ | ⟨_, a⟩
  · exact .inl (big64_lt a)
  · exact .inr (big64_lt a)
theorem rep_one (xs : List V) : (List.replicate 1 xs).flatten = xs := by simp
theorem RVs.rep {K : PySem.W.Frag} {m : Mp} {H : Hp} {ws : List W} {xs : List V} (r : RVs K m H ws xs) : ∀ n : Nat, RVs K m H (rep n ws) (List.replicate n xs).flatten
  | 0 => .nil
  | n + 1 => by
    rw [List.replicate_succ, List.flatten_cons]
    show RVs K m H (app ws (It.rep n ws)) _
    rw [app_ok']
    exact r.append (RVs.rep r n)
theorem op_mulK : OpR X (binaryOp .Mult) (r2 X.K mulK) := by
  intro pins s σ H x y v u Q I rx ry ⟨m, a, b, h, k, rh, ra, rb, e, hk⟩
  cases ra with
  | int i =>
    cases rb with
    | int j =>
      obtain ⟨e1, e2⟩ := cond_f e
      exact op_mul pins s σ H _ _ v u Q I rx ry ⟨i, j, rfl, rfl, mulOk_ok e1, hk m _ _ h H .refl rh (.int _) e2⟩
    | _ => cases (show false = true from e)
  | @tup ws xs a sa ta =>
    cases rb with
    | int j =>
      obtain ⟨e1, e2⟩ := cond_f e
      obtain ⟨e0, e2⟩ := cond_f e2
      obtain ⟨e3, e4⟩ := cond_f e2
      rw [ilt_ok] at e0 e1
      rw [blt_ok, lenW_ok, ta.length] at e3
      have h0 := of_decide_eq_true e0
      have h1 := of_decide_eq_true e1
      have h3 := of_decide_eq_true e3
      by_cases z : xs = [] ∨ j = 1
      · refine op_repT1 pins s σ H _ _ v u Q I rx ry ⟨a, j, xs, rfl, rfl, sa, by omega, by omega, .inl ⟨z, ?_⟩⟩
        have er : rep j.toNat ws = ws := by
          rcases z with z | z
          · subst z
            have z1 : ws = [] := by cases ta; rfl
            subst z1
            rw [rep_ok]
            simp
          · subst z
            rw [rep_ok]
            simp
        rw [er] at e4
        exact hk m _ _ h H .refl rh (.tup sa ta) e4
      · by_cases z0 : j ≤ 0
        · refine op_repT1 pins s σ H _ _ v u Q I rx ry ⟨a, j, xs, rfl, rfl, sa, by omega, by omega, .inr ⟨z, z0, fun p hp => ?_⟩⟩
          have er : j.toNat = 0 := by omega
          rw [er] at e4
          exact hk.newT rh .nil e4 hp
        · refine op_repT pins s σ H _ _ v u Q I rx ry ⟨a, j, xs, rfl, rfl, sa, fun q => z (.inl q), ?_, by omega, by omega, fun p hp => hk.newT rh (ta.rep _) e4 hp⟩
          have : j ≠ 1 := fun q => z (.inr q)
          omega
    | _ => cases (show false = true from e)
  | @ref p a ea =>
    cases rb with
    | int j =>
      obtain ⟨e1, e2⟩ := cond_f e
      obtain ⟨e0, e2⟩ := cond_f e2
      obtain ⟨l, e3, e4⟩ := hget_ok e2
      obtain ⟨e5, e6⟩ := cond_f e4
      obtain ⟨_, ws, xs, f1, f2, f3⟩ := rh.get _ _ ea
      rw [f1] at e3; cases e3
      rw [ilt_ok] at e0 e1
      rw [blt_ok, lenW_ok, f3.length] at e5
      have h0 := of_decide_eq_true e0
      have h1 := of_decide_eq_true e1
      have h3 := of_decide_eq_true e5
      refine op_rep pins s σ H _ _ v u Q I rx ry ⟨a, j, xs, rfl, rfl, f2, by omega, by omega, ?_, fun p' hp => hk.newL rh (f3.rep _) e6 hp⟩
      have : xs.length * j.toNat ≤ 1000 * 1000 := Nat.mul_le_mul (by omega) (by omega)
      rw [sizeLine_eq]
      omega
    | _ => cases (show false = true from e)
  | _ => cases (show false = true from e)
theorem op_intsK {op : Operator} {f : Int → Int → (W → Bool) → Bool} {C : Int → Int → Prop} {g : Int → Int → Int} (h : OpR X (binaryOp op) (rI C fun i j => .int (g i j))) (hf : ∀ i j c, f i j c = true → C i j ∧ c (.int (g i j)) = true) : OpR X (binaryOp op) (r2 X.K (intsK f)) := by
  intro pins s σ H x y v u Q I rx ry ⟨m, a, b, hh, k, rh, ra, rb, e, hk⟩
  cases ra with
  | int i =>
    cases rb with
    | int j =>
      obtain ⟨c1, c2⟩ := hf i j _ e
      exact h pins s σ H _ _ v u Q I rx ry ⟨i, j, rfl, rfl, c1, hk m _ _ hh H .refl rh (.int _) c2⟩
    | _ => cases (show false = true from e)
  | _ => cases (show false = true from e)
def CDivG (_ j : Int) : Prop := j ≠ 0 ∧ j.natAbs.log2 < 9000
theorem op_fdivG : OpR X (binaryOp .FloorDiv) (rI CDivG fun i j => .int (i.fdiv j)) := L2.opI fun _ _ _ _ _ _ _ hc q => floordiv_int hc.1 q (.inl (PyProof.noPylong_of_log2 hc.2))
theorem bigD_ok {j : Int} (h : Nat.blt (iabs j) bigD = true) : j.natAbs.log2 < 9000 := by
  rw [blt_ok, iabs_ok] at h
  have h' : j.natAbs < 2 ^ 1000 := of_decide_eq_true h
  have := PySem.Flt.log2_lt_of (by omega) h'
  omega
theorem fdivK_ok (i j : Int) (c : W → Bool) (h : fdivK i j c = true) : CDivG i j ∧ c (.int (i.fdiv j)) = true := by
  rcases cond_t h with ⟨_, e⟩ | ⟨e1, e2⟩
  · cases e
  · obtain ⟨e3, e4⟩ := cond_f e2
    rw [ieq_ok] at e1
    exact ⟨⟨of_decide_eq_false e1, bigD_ok e3⟩, e4⟩
theorem modK_ok (i j : Int) (c : W → Bool) (h : modK i j c = true) : j ≠ 0 ∧ c (.int (i.fmod j)) = true := by
  rcases cond_t h with ⟨_, e⟩ | ⟨e1, e2⟩
  · cases e
  · rw [ieq_ok] at e1
    exact ⟨of_decide_eq_false e1, e2⟩
theorem powK_ok (i j : Int) (c : W → Bool) (h : powK i j c = true) : CPow i j ∧ c (.int (i ^ j.toNat)) = true := by
  rcases cond_t h with ⟨_, e⟩ | ⟨e1, e2⟩
  · cases e
  · obtain ⟨e3, e4⟩ := cond_f e2
    obtain ⟨e5, e6⟩ := cond_f e4
    rw [ilt_ok] at e1
    rw [ile_ok] at e3
    rw [blt_ok, iabs_ok] at e5
    have h1 := of_decide_eq_false e1
    have h3 := of_decide_eq_true e3
    have h5 := of_decide_eq_true e5
    have e : big64 = 2 ^ 64 := by decide
    rw [e] at h5
    exact ⟨⟨by omega, by omega, h5⟩, e6⟩
theorem op_fdivK : OpR X (binaryOp .FloorDiv) (r2 X.K (intsK fdivK)) := op_intsK op_fdivG fdivK_ok
theorem op_modK : OpR X (binaryOp .Mod) (r2 X.K (intsK modK)) := op_intsK op_modN modK_ok
theorem op_powK : OpR X (binaryOp .Pow) (r2 X.K (intsK powK)) := op_intsK op_pow powK_ok
theorem un_negK : UnR X (unaryOp .USub) (r1 X.K negK) := by
  intro pins s σ H x v Q I rx ⟨m, a, h, k, rh, ra, e, hk⟩
  cases ra with
  | int i => exact un_neg pins s σ H _ v Q I rx ⟨i, rfl, hk m _ _ h H .refl rh (.int _) e⟩
  | _ => cases (show false = true from e)
/-! ### augmented -/
theorem iop_intsK {op : Operator} {f : Int → Int → (W → Bool) → Bool} {C : Int → Int → Prop} {g : Int → Int → Int} (h : OpR X (inplaceOp op) (rI C fun i j => .int (g i j))) (hf : ∀ i j c, f i j c = true → C i j ∧ c (.int (g i j)) = true) : OpR X (inplaceOp op) (r2 X.K (intsK f)) := by
  intro pins s σ H x y v u Q I rx ry ⟨m, a, b, hh, k, rh, ra, rb, e, hk⟩
  cases ra with
  | int i =>
    cases rb with
    | int j =>
      obtain ⟨c1, c2⟩ := hf i j _ e
      exact h pins s σ H _ _ v u Q I rx ry ⟨i, j, rfl, rfl, c1, hk m _ _ hh H .refl rh (.int _) c2⟩
    | _ => cases (show false = true from e)
  | _ => cases (show false = true from e)
end
end It

set_option Elab.async false
set_option linter.all false
set_option maxRecDepth 100000
set_option maxHeartbeats 1000000
/-! ItE: truth, equality, membership, tests. -/
namespace It
open PySem PySem.Spec PyProof.Rows L2
section
variable {K : PySem.W.Frag} {m : Mp} {h : IH} {H : Hp}
theorem isNil_ok (l : List W) : isNil l = l.isEmpty := by cases l <;> rfl
theorem RVs.isEmpty {ws : List W} {xs : List V} (r : RVs K m H ws xs) : ws.isEmpty = xs.isEmpty := by cases r <;> rfl
theorem sqL_ref (rh : RepH K m h H) {k : Nat} {a : Addr} (e : m k = some a) : ∃ ws xs, hlook h k = some ws ∧ SqL K H a xs ∧ RVs K m H ws xs ∧ H a = some (.lst xs) := by
  obtain ⟨_, ws, xs, e1, e2, e3⟩ := rh.get k a e
  exact ⟨ws, xs, e1, .of e2, e3, e2⟩
theorem sqL_fl {a : Addr} {xs : List V} (e : FzL K H a xs) : SqL K H a xs := by
  rcases e with ⟨o, e⟩ | e
  · exact .inl (.inr ⟨o, e⟩)
  · exact .inr e
theorem truthK_ok (rh : RepH K m h H) {w : W} {v : V} (r : RV K m H w v) {c : Bool → Bool} (q : truthK w h c = true) : ∃ b, TruV K v H b ∧ c b = true := by
  cases r with
  | non => exact ⟨false, rfl, q⟩
  | bl b => exact ⟨b, rfl, q⟩
  | int i =>
    refine ⟨i != 0, rfl, ?_⟩
    have q' : c (not (ieq i 0)) = true := q
    rw [ieq_ok] at q'
    have e : (i != 0) = !decide (i = 0) := rfl
    rw [e]; exact q'
  | str s =>
    obtain ⟨q1, q2⟩ := cond_f q
    rw [ble_ok] at q1
    refine ⟨((s.length : Int) != 0), ⟨Nat.le_trans (of_decide_eq_true q1) line_le, rfl⟩, ?_⟩
    have e : ((s.length : Int) != 0) = not (Nat.beq s.length 0) := by
      show (!decide ((s.length : Int) = 0)) = _
      cases e : s.length with
      | zero => rfl
      | succ n => rfl
    rw [e]; exact q2
  | @tup ws xs a s t =>
    refine ⟨!xs.isEmpty, .inr (.inl ⟨xs, s, rfl⟩), ?_⟩
    have q' : c (not (isNil ws)) = true := q
    rw [isNil_ok, t.isEmpty] at q'
    exact q'
  | @ref k a e =>
    obtain ⟨l, e1, e2⟩ := hget_ok q
    obtain ⟨ws, xs, f1, f2, f3, _⟩ := sqL_ref rh e
    rw [f1] at e1; cases e1
    rw [isNil_ok, f3.isEmpty] at e2
    exact ⟨!xs.isEmpty, .inl ⟨xs, f2, rfl⟩, e2⟩
  | @fl ws xs a e t =>
    refine ⟨!xs.isEmpty, .inl ⟨xs, sqL_fl e, rfl⟩, ?_⟩
    have q' : c (not (isNil ws)) = true := q
    rw [isNil_ok, t.isEmpty] at q'
    exact q'
  | _ => cases (show false = true from q)

/-! ### data -/
mutual
inductive DV (h : IH) : W → PyData → Prop
  | non : DV h .non .none
  | bl (b : Bool) : DV h (.bl b) (.bool b)
  | int (i : Int) : DV h (.int i) (.int i)
  | str (s : Str) : DV h (.str s) (.str s)
  | tup {ws : List W} {ds : List PyData} : DVs h ws ds → DV h (.tup ws) (.tuple ds)
  | ref {k : Nat} {ws : List W} {ds : List PyData} : hlook h k = some ws → DVs h ws ds → DV h (.ref k) (.list ds)
  | fl {ws : List W} {ds : List PyData} : DVs h ws ds → DV h (.fl ws) (.list ds)
inductive DVs (h : IH) : List W → List PyData → Prop
  | nil : DVs h [] []
  | cons {w : W} {ws : List W} {d : PyData} {ds : List PyData} : DV h w d → DVs h ws ds → DVs h (w :: ws) (d :: ds)
end
mutual
theorem DV.dp (rh : RepH K m h H) : ∀ {w : W} {d : PyData} {v : V}, DV h w d → RV K m H w v → Dp K H v d
  | _, _, _, .non, .non => .non
  | _, _, _, .bl b, .bl _ => .bl b
  | _, _, _, .int i, .int _ => .int i
  | _, _, _, .str s, .str _ => .str s
  | _, _, _, .tup t, .tup s r => .tup s (DVs.dp rh t r)
  | _, _, _, .ref e t, .ref q => by
    obtain ⟨ws, xs, f1, f2, f3, _⟩ := sqL_ref rh q
    rw [f1] at e; cases e
    exact .lst f2 (DVs.dp rh t f3)
  | _, _, _, .fl t, .fl e r => .lst (sqL_fl e) (DVs.dp rh t r)
theorem DVs.dp (rh : RepH K m h H) : ∀ {ws : List W} {ds : List PyData} {vs : List V}, DVs h ws ds → RVs K m H ws vs → DpAll K H vs ds
  | _, _, _, .nil, .nil => .nil
  | _, _, _, .cons a t, .cons r s => .cons (DV.dp rh a r) (DVs.dp rh t s)
end
theorem strB_ok (s : Str) (e : strB s = true) : PyData.strOk s = true := by
  have go : ∀ l : List Nat, (List.rec true (fun x _ ih => and (Nat.blt x 1114112) ih) l : Bool) = true → l.all (· < 0x110000) = true := by
    intro l
    induction l with
    | nil => intro _; rfl
    | cons x l ih =>
      intro q
      have q' : and (Nat.blt x 1114112) (List.rec true (fun x _ ih => and (Nat.blt x 1114112) ih) l : Bool) = true := q
      rw [Bool.and_eq_true] at q'
      rw [List.all_cons, Bool.and_eq_true]
      refine ⟨?_, ih q'.2⟩
      rw [← blt_ok]; exact q'.1
  unfold PyData.strOk
  have := go s.cps.toList e
  rw [Array.all_toList] at this
  exact this
theorem allB_ok {f : W → Bool} : ∀ {l : List W}, allB f l = true → ∀ w ∈ l, f w = true
  | [], _, w, hw => by cases hw
  | x :: l, q, w, hw => by
    have q' : and (f x) (allB f l) = true := q
    rw [Bool.and_eq_true] at q'
    rcases List.mem_cons.mp hw with e | e
    · rw [e]; exact q'.1
    · exact allB_ok q'.2 w e
theorem dKs (n : Nat) (ih : ∀ w, dK n h w = true → ∃ d, DV h w d ∧ d.depth ≤ n ∧ d.canLay0 = true) : ∀ l : List W, allB (dK n h) l = true → ∃ ds, DVs h l ds ∧ PyData.depthAll ds ≤ n ∧ PyData.canLayAll0 ds = true
  | [], _ => ⟨[], .nil, Nat.zero_le _, by unfold PyData.canLayAll0; rfl⟩
  | x :: l, q => by
    have q' : and (dK n h x) (allB (dK n h) l) = true := q
    rw [Bool.and_eq_true] at q'
    obtain ⟨d, a1, a2, a3⟩ := ih x q'.1
    obtain ⟨ds, b1, b2, b3⟩ := dKs n ih l q'.2
    refine ⟨d :: ds, .cons a1 b1, ?_, ?_⟩
    · unfold PyData.depthAll; exact Nat.max_le.mpr ⟨a2, b2⟩
    · unfold PyData.canLayAll0; rw [a3, b3]; rfl
theorem dK_ok : ∀ (n : Nat) (w : W), dK n h w = true → ∃ d, DV h w d ∧ d.depth ≤ n ∧ d.canLay0 = true := by
  have base : ∀ n (w : W) (d : PyData), DV h w d → d.depth = 0 → d.canLay0 = true → ∃ d, DV h w d ∧ d.depth ≤ n ∧ d.canLay0 = true := fun n w d a b c => ⟨d, a, by omega, c⟩
  intro n
  induction n with
  | zero =>
    intro w q
    cases w with
    | non => exact base _ _ _ .non (by unfold PyData.depth; rfl) (by unfold PyData.canLay0; rfl)
    | bl b => exact base _ _ _ (.bl b) (by unfold PyData.depth; rfl) (by unfold PyData.canLay0; rfl)
    | int i => exact base _ _ _ (.int i) (by unfold PyData.depth; rfl) (by unfold PyData.canLay0; rfl)
    | str s => exact base _ _ _ (.str s) (by unfold PyData.depth; rfl) (by unfold PyData.canLay0; exact strB_ok s q)
    | _ => cases (show false = true from q)
  | succ n ih =>
    intro w q
    cases w with
    | non => exact base _ _ _ .non (by unfold PyData.depth; rfl) (by unfold PyData.canLay0; rfl)
    | bl b => exact base _ _ _ (.bl b) (by unfold PyData.depth; rfl) (by unfold PyData.canLay0; rfl)
    | int i => exact base _ _ _ (.int i) (by unfold PyData.depth; rfl) (by unfold PyData.canLay0; rfl)
    | str s => exact base _ _ _ (.str s) (by unfold PyData.depth; rfl) (by unfold PyData.canLay0; exact strB_ok s q)
    | tup l =>
      obtain ⟨ds, a, b, c⟩ := dKs n ih l q
      exact ⟨.tuple ds, .tup a, by unfold PyData.depth; omega, by unfold PyData.canLay0; exact c⟩
    | ref k =>
      obtain ⟨l, e1, e2⟩ := hget_ok (show hget h k (allB (dK n h)) = true from q)
      obtain ⟨ds, a, b, c⟩ := dKs n ih l e2
      exact ⟨.list ds, .ref e1 a, by unfold PyData.depth; omega, by unfold PyData.canLay0; exact c⟩
    | fl l =>
      obtain ⟨ds, a, b, c⟩ := dKs n ih l q
      exact ⟨.list ds, .fl a, by unfold PyData.depth; omega, by unfold PyData.canLay0; exact c⟩
    | exv i l => cases (show false = true from q)
theorem seqs_ok : ∀ s t : List Nat, seqs s t = decide (s = t)
  | [], [] => rfl
  | [], _ :: _ => (decide_eq_false (fun z => nomatch z)).symm
  | _ :: _, [] => (decide_eq_false (fun z => nomatch z)).symm
  | x :: s, y :: t => by
    show cond (Nat.beq x y) (seqs s t) false = _
    rw [seqs_ok s t]
    by_cases z : x = y
    · subst z
      rw [show Nat.beq x x = true from Nat.beq_refl x]
      show decide (s = t) = _
      rw [Bool.eq_iff_iff, decide_eq_true_iff, decide_eq_true_iff]
      exact ⟨fun q => by rw [q], fun q => (List.cons.inj q).2⟩
    · have e : Nat.beq x y = false := by
        cases q : Nat.beq x y with
        | false => rfl
        | true => exact absurd (Nat.eq_of_beq_eq_true q) z
      rw [e]
      exact (decide_eq_false fun q => z (List.cons.inj q).1).symm
theorem seqs_str (s t : Str) : seqs s.cps.toList t.cps.toList = (s == t) := by
  rw [seqs_ok, Bool.eq_iff_iff, decide_eq_true_iff, beq_iff_eq]
  constructor
  · intro q
    cases s; cases t
    exact congrArg Str.mk (Array.toList_inj.mp q)
  · intro q; rw [q]
theorem eqL_ok {f : W → W → (Bool → Bool) → Bool} (ih : ∀ a b d e c, DV h a d → DV h b e → f a b c = true → c (PyData.eqv d e) = true) : ∀ (l r : List W) (ds es : List PyData) (c : Bool → Bool), DVs h l ds → DVs h r es → eqL f l r c = true → c (PyData.eqvAll ds es) = true
  | [], [], _, _, c, .nil, .nil, q => by unfold PyData.eqvAll; exact q
  | [], _ :: _, _, _, c, .nil, .cons _ _, q => by unfold PyData.eqvAll; exact q
  | _ :: _, [], _, _, c, .cons _ _, .nil, q => by unfold PyData.eqvAll; exact q
  | x :: l, y :: r, _, _, c, .cons (d := d) (ds := ds) a1 a2, .cons (d := e) (ds := es) b1 b2, q => by
    have q' : f x y (fun b => cond b (eqL f l r c) (c false)) = true := q
    have q2 := ih x y d e _ a1 b1 q'
    unfold PyData.eqvAll
    cases z : PyData.eqv d e with
    | true =>
      rw [z] at q2
      exact eqL_ok ih l r ds es c a2 b2 q2
    | false =>
      rw [z] at q2
      exact q2
theorem b2i_eq (b : Bool) : It.b2i b = (if b then 1 else 0 : Int) := by cases b <;> rfl
theorem eqK_ok : ∀ (n : Nat) (a b : W) (d e : PyData) (c : Bool → Bool), DV h a d → DV h b e → eqK n h a b c = true → c (PyData.eqv d e) = true := by
  intro n
  induction n with
  | zero => intro a b d e c _ _ q; cases (show false = true from q)
  | succ n ih =>
    intro a b d e c ha hb q
    cases ha with
    | non => cases hb <;> (unfold PyData.eqv; exact q)
    | bl p =>
      cases hb with
      | bl p' =>
        unfold PyData.eqv
        have q' : c (cond p p' (not p')) = true := q
        have z : (p == p') = cond p p' (not p') := by cases p <;> cases p' <;> rfl
        rw [z]; exact q'
      | int j =>
        unfold PyData.eqv
        have q' : c (ieq (It.b2i p) j) = true := q
        rw [ieq_ok, b2i_eq] at q'
        exact q'
      | _ => (unfold PyData.eqv; exact q)
    | int i =>
      cases hb with
      | bl p' =>
        unfold PyData.eqv
        have q' : c (ieq i (It.b2i p')) = true := q
        rw [ieq_ok, b2i_eq] at q'
        exact q'
      | int j =>
        unfold PyData.eqv
        have q' : c (ieq i j) = true := q
        rw [ieq_ok] at q'
        exact q'
      | _ => (unfold PyData.eqv; exact q)
    | str s =>
      cases hb with
      | str t =>
        unfold PyData.eqv
        have q' : c (seqs s.cps.toList t.cps.toList) = true := q
        rw [seqs_str] at q'
        exact q'
      | _ => (unfold PyData.eqv; exact q)
    | tup t =>
      cases hb with
      | tup t' =>
        unfold PyData.eqv
        exact eqL_ok (fun a b d e c x y z => ih a b d e c x y z) _ _ _ _ c t t' q
      | _ => (unfold PyData.eqv; exact q)
    | ref e1 t =>
      cases hb with
      | ref e2 t' =>
        obtain ⟨l, f1, f2⟩ := hget_ok q
        obtain ⟨l', f3, f4⟩ := hget_ok f2
        rw [e1] at f1; cases f1
        rw [e2] at f3; cases f3
        unfold PyData.eqv
        exact eqL_ok (fun a b d e c x y z => ih a b d e c x y z) _ _ _ _ c t t' f4
      | fl t' =>
        obtain ⟨l, f1, f2⟩ := hget_ok q
        rw [e1] at f1; cases f1
        unfold PyData.eqv
        exact eqL_ok (fun a b d e c x y z => ih a b d e c x y z) _ _ _ _ c t t' f2
      | _ => (unfold PyData.eqv; exact q)
    | fl t =>
      cases hb with
      | ref e2 t' =>
        obtain ⟨l', f3, f4⟩ := hget_ok q
        rw [e2] at f3; cases f3
        unfold PyData.eqv
        exact eqL_ok (fun a b d e c x y z => ih a b d e c x y z) _ _ _ _ c t t' f4
      | fl t' =>
        unfold PyData.eqv
        exact eqL_ok (fun a b d e c x y z => ih a b d e c x y z) _ _ _ _ c t t' q
      | _ => (unfold PyData.eqv; exact q)
end
/-! ### comparisons -/
/-- a comparison of two values -/
def rC (K : PySem.W.Frag) (f : Cm) : R2 := fun x y H Q => ∃ m v w h c, RepH K m h H ∧ RV K m H v x ∧ RV K m H w y ∧ f v w h c = true ∧ ∀ b, c b = true → Q (.bl b) H
section
variable {X : Cx} {B : Bag} {Wx : WX} {pos : Pos} {a b d : Expr} {fa fb fd : E}
theorem shaped_of {d : PyData} (h1 : d.depth ≤ 40) (h2 : d.canLay0 = true) : SeqAt.shaped d = true := by
  unfold SeqAt.shaped
  rw [h2, decide_eq_true (by omega)]; rfl
theorem op_cEq (hu : X.A.units + 64 < cLine) : OpR X (compareOp .Eq) (rC X.K cEq) := opI (op_eqD hu) fun x y H Q ⟨m, v, w, h, c, rh, rv, rw, e, hk⟩ => by
  obtain ⟨e1, e2⟩ := cond_f e
  obtain ⟨e3, e4⟩ := cond_f e2
  obtain ⟨d, a1, a2, a3⟩ := dK_ok _ _ e1
  obtain ⟨d', b1, b2, b3⟩ := dK_ok _ _ e3
  exact ⟨d, d', a1.dp rh rv, b1.dp rh rw, shaped_of a2 a3, shaped_of b2 b3, hk _ (eqK_ok _ _ _ _ _ _ a1 b1 e4)⟩
theorem op_cNe (hu : X.A.units + 64 < cLine) : OpR X (compareOp .NotEq) (rC X.K cNe) := opI (op_neD hu) fun x y H Q ⟨m, v, w, h, c, rh, rv, rw, e, hk⟩ => by
  obtain ⟨e1, e2⟩ := cond_f e
  obtain ⟨e3, e4⟩ := cond_f e2
  obtain ⟨d, a1, a2, a3⟩ := dK_ok _ _ e1
  obtain ⟨d', b1, b2, b3⟩ := dK_ok _ _ e3
  exact ⟨d, d', a1.dp rh rv, b1.dp rh rw, shaped_of a2 a3, shaped_of b2 b3, hk _ (eqK_ok _ _ _ _ _ _ a1 b1 e4)⟩
theorem intOf_ok {K : PySem.W.Frag} {m : Mp} {H : Hp} {w : W} {v : V} (r : RV K m H w v) {c : Int → Bool} (q : intOf w c = true) : ∃ i, w = .int i ∧ v = .int i ∧ c i = true := by
  cases r with
  | int i => exact ⟨i, rfl, rfl, q⟩
  | _ => cases (show false = true from q)
theorem op_cInt {op : CmpOp} {f g : Int → Int → Bool} (h : OpR X (compareOp op) (rI0 fun i j => .bl (g i j))) (hf : ∀ i j, f i j = g i j) : OpR X (compareOp op) (rC X.K (cInt f)) := opI h fun x y H Q ⟨m, v, w, hh, c, rh, rv, rw, e, hk⟩ => by
  obtain ⟨i, rfl, rfl, e1⟩ := intOf_ok rv e
  obtain ⟨j, rfl, rfl, e2⟩ := intOf_ok rw e1
  rw [hf] at e2
  exact ⟨i, j, rfl, rfl, hk _ e2⟩
end
end It

set_option Elab.async false
set_option linter.all false
set_option maxRecDepth 100000
set_option maxHeartbeats 1000000
/-! ItF: tests, and/or/not, subscripts, slices, calls of built-ins. -/
namespace It
open PySem PySem.Spec PyProof.Rows L2
section
variable {X : Cx} {B : Bag} {Wx : WX} {pos : Pos} {a b d : Expr} {fa fb fd : E}
/-! ### comparisons as tests and values -/
theorem cmp_imp {K : PySem.W.Frag} {f : Cm} (σ : L2.St) (H : Hp) (Q : Bool → Hp → Prop) : tB K B Wx (tCmp f fa fb) σ H Q → tTest (tOp (rC K f) (tE K B Wx fa) (tE K B Wx fb)) σ H Q := fun ⟨m, l, h, k, x, rh, rl, e, hk, hx⟩ => by
  refine ⟨m, l, h, _, x, rh, rl, e, fun m1 v w h1 H1 x1 r1 rv e1 => ?_, hx⟩
  refine ⟨m1, l, h1, _, x, r1, rl.mono rh x1, e1, fun m2 v2 w2 h2 H2 x2 r2 rv2 e2 => ?_, hx.mono x1⟩
  exact ⟨m2, v, v2, h2, _, r2, RV.mono r1 x2 rv, rv2, e2, fun p hp => ⟨p, rfl, hk m2 p h2 H2 (x1.trans x2) r2 hp⟩⟩
theorem cmpV_imp {K : PySem.W.Frag} {f : Cm} (σ : L2.St) (H : Hp) (Q : VK) : tE K B Wx (eTst (tCmp f fa fb)) σ H Q → tOp (rC K f) (tE K B Wx fa) (tE K B Wx fb) σ H Q := fun ⟨m, l, h, k, x, rh, rl, e, hk, hx⟩ => by
  refine ⟨m, l, h, _, x, rh, rl, e, fun m1 v w h1 H1 x1 r1 rv e1 => ?_, hx⟩
  refine ⟨m1, l, h1, _, x, r1, rl.mono rh x1, e1, fun m2 v2 w2 h2 H2 x2 r2 rv2 e2 => ?_, hx.mono x1⟩
  exact ⟨m2, v, v2, h2, _, r2, RV.mono r1 x2 rv, rv2, e2, fun p hp => hk m2 _ _ h2 H2 (x1.trans x2) r2 (.bl p) hp⟩
theorem st_cmp {op : CmpOp} {f : Cm} (ho : OpR X (compareOp op) (rC X.K f)) (ha : PE X a (tE X.K B Wx fa)) (hb : PE X b (tE X.K B Wx fb)) (hm : behindInMarks op b = false) : PT X (.Compare a [op] [b] pos) (tB X.K B Wx (tCmp f fa fb)) := ptI (pt_cmpR ho ha hb hm) cmp_imp
theorem se_cmp {op : CmpOp} {f : Cm} (ho : OpR X (compareOp op) (rC X.K f)) (ha : PE X a (tE X.K B Wx fa)) (hb : PE X b (tE X.K B Wx fb)) (hm : behindInMarks op b = false) : PE X (.Compare a [op] [b] pos) (tE X.K B Wx (eTst (tCmp f fa fb))) := peI (pe_cmpR ho ha hb hm) cmpV_imp
theorem ch_imp {K : PySem.W.Frag} {f g : Cm} (σ : L2.St) (H : Hp) (Q : Bool → Hp → Prop) : tB K B Wx (tCh f g fa fb fd) σ H Q → tTest (tChain (rC K f) (rC K g) (tE K B Wx fa) (tE K B Wx fb) (tE K B Wx fd)) σ H Q := fun ⟨m, l, h, k, x, rh, rl, e, hk, hx⟩ => by
  refine ⟨m, l, h, _, x, rh, rl, e, fun m1 v w h1 H1 x1 r1 rv e1 => ?_, hx⟩
  refine ⟨m1, l, h1, _, x, r1, rl.mono rh x1, e1, fun m2 v2 w2 h2 H2 x2 r2 rv2 e2 => ?_, hx.mono x1⟩
  refine ⟨m2, v, v2, h2, _, r2, RV.mono r1 x2 rv, rv2, e2, fun p hp => ⟨p, rfl, ?_⟩⟩
  cases p with
  | false => exact iteF ⟨false, rfl, hk m2 false h2 H2 (x1.trans x2) r2 hp⟩
  | true =>
    refine iteT ⟨m2, l, h2, _, x, r2, (rl.mono rh x1).mono r1 x2, hp, fun m3 v3 w3 h3 H3 x3 r3 rv3 e3 => ?_, hx.mono (x1.trans x2)⟩
    exact ⟨m3, v2, v3, h3, _, r3, RV.mono r2 x3 rv2, rv3, e3, fun q hq => ⟨q, rfl, hk m3 q h3 H3 ((x1.trans x2).trans x3) r3 hq⟩⟩
theorem chV_imp {K : PySem.W.Frag} {f g : Cm} (σ : L2.St) (H : Hp) (Q : VK) : tE K B Wx (eTst (tCh f g fa fb fd)) σ H Q → tChain (rC K f) (rC K g) (tE K B Wx fa) (tE K B Wx fb) (tE K B Wx fd) σ H Q := fun ⟨m, l, h, k, x, rh, rl, e, hk, hx⟩ => by
  refine ⟨m, l, h, _, x, rh, rl, e, fun m1 v w h1 H1 x1 r1 rv e1 => ?_, hx⟩
  refine ⟨m1, l, h1, _, x, r1, rl.mono rh x1, e1, fun m2 v2 w2 h2 H2 x2 r2 rv2 e2 => ?_, hx.mono x1⟩
  refine ⟨m2, v, v2, h2, _, r2, RV.mono r1 x2 rv, rv2, e2, fun p hp => ⟨p, rfl, ?_⟩⟩
  cases p with
  | false => exact iteF (hk m2 _ _ h2 H2 (x1.trans x2) r2 (.bl false) hp)
  | true =>
    refine iteT ⟨m2, l, h2, _, x, r2, (rl.mono rh x1).mono r1 x2, hp, fun m3 v3 w3 h3 H3 x3 r3 rv3 e3 => ?_, hx.mono (x1.trans x2)⟩
    exact ⟨m3, v2, v3, h3, _, r3, RV.mono r2 x3 rv2, rv3, e3, fun q hq => hk m3 _ _ h3 H3 ((x1.trans x2).trans x3) r3 (.bl q) hq⟩
theorem st_ch {op op' : CmpOp} {f g : Cm} (ho : OpR X (compareOp op) (rC X.K f)) (ho' : OpR X (compareOp op') (rC X.K g)) (ha : PE X a (tE X.K B Wx fa)) (hb : PE X b (tE X.K B Wx fb)) (hd : PE X d (tE X.K B Wx fd)) (hm : lastMarks [op, op'] [b, d] = false) :
    PT X (.Compare a [op, op'] [b, d] pos) (tB X.K B Wx (tCh f g fa fb fd)) := ptI (pt_chain ho ho' ha hb hd hm) ch_imp
theorem se_ch {op op' : CmpOp} {f g : Cm} (ho : OpR X (compareOp op) (rC X.K f)) (ho' : OpR X (compareOp op') (rC X.K g)) (ha : PE X a (tE X.K B Wx fa)) (hb : PE X b (tE X.K B Wx fb)) (hd : PE X d (tE X.K B Wx fd)) (hm : lastMarks [op, op'] [b, d] = false) :
    PE X (.Compare a [op, op'] [b, d] pos) (tE X.K B Wx (eTst (tCh f g fa fb fd))) := peI (pe_chain ho ho' ha hb hd hm) chV_imp
theorem cIsN_ok {K : PySem.W.Frag} {m : Mp} {H : Hp} {w w' : W} {v : V} {h : IH} (r : RV K m H w v) {c : Bool → Bool} (q : cIsN w w' h c = true) : c (decide (v = .non)) = true := by
  cases r with
  | non => exact q
  | _ => (rw [decide_eq_false (fun z => nomatch z)]; exact q)
theorem st_isN {j : Nat} {p' : Pos} (ha : PE X a (tE X.K B Wx fa)) : PT X (.Compare a [.Is] [.Constant .none j p'] pos) (tB X.K B Wx (tIsN fa)) := ptI (pt_cmp (pc_isN ha) (by rfl)) fun σ H Q ⟨m, l, h, k, x, rh, rl, e, hk, hx⟩ => by
  refine ⟨m, l, h, _, x, rh, rl, e, fun m1 v w h1 H1 x1 r1 rv e1 => ?_, hx⟩
  exact ⟨_, rfl, hk m1 _ h1 H1 x1 r1 (cIsN_ok rv e1)⟩
theorem st_notN {j : Nat} {p' : Pos} (ha : PE X a (tE X.K B Wx fa)) : PT X (.Compare a [.IsNot] [.Constant .none j p'] pos) (tB X.K B Wx (tNot (tIsN fa))) := ptI (pt_cmp (pc_notN ha) (by rfl)) fun σ H Q ⟨m, l, h, k, x, rh, rl, e, hk, hx⟩ => by
  refine ⟨m, l, h, _, x, rh, rl, e, fun m1 v w h1 H1 x1 r1 rv e1 => ?_, hx⟩
  exact ⟨_, rfl, hk m1 _ h1 H1 x1 r1 (cIsN_ok rv e1)⟩
theorem se_isN {j : Nat} {p' : Pos} (ha : PE X a (tE X.K B Wx fa)) : PE X (.Compare a [.Is] [.Constant .none j p'] pos) (tE X.K B Wx (eTst (tIsN fa))) := peI (pe_cmp (pc_isN ha) (by rfl)) fun σ H Q ⟨m, l, h, k, x, rh, rl, e, hk, hx⟩ => by
  refine ⟨m, l, h, _, x, rh, rl, e, fun m1 v w h1 H1 x1 r1 rv e1 => ?_, hx⟩
  exact hk m1 _ _ h1 H1 x1 r1 (.bl _) (cIsN_ok rv e1)
theorem se_notN {j : Nat} {p' : Pos} (ha : PE X a (tE X.K B Wx fa)) : PE X (.Compare a [.IsNot] [.Constant .none j p'] pos) (tE X.K B Wx (eTst (tNot (tIsN fa)))) := peI (pe_cmp (pc_notN ha) (by rfl)) fun σ H Q ⟨m, l, h, k, x, rh, rl, e, hk, hx⟩ => by
  refine ⟨m, l, h, _, x, rh, rl, e, fun m1 v w h1 H1 x1 r1 rv e1 => ?_, hx⟩
  exact hk m1 _ _ h1 H1 x1 r1 (.bl _) (cIsN_ok rv e1)
/-! ### truth -/
/-- is its test its value's truth -/
def plainT : Expr → Bool
  | .UnaryOp .Not _ _ => false
  | .BoolOp .. => false
  | .IfExp .. => false
  | .Compare .. => false
  | _ => true
theorem plainT_ok {e : Expr} (h : plainT e = true) (env : Env) (whole : Sem Value) : isTrue e env whole = (do let v ← whole; standAt e.pos; holding [v] (truthy v)) := by
  cases e with
  | UnaryOp op x p => cases op <;> first | rfl | cases h
  | BoolOp => cases h
  | IfExp => cases h
  | Compare => cases h
  | _ => rfl
theorem st_val (ha : PE X a (tE X.K B Wx fa)) (hp : plainT a = true) : PT X a (tB X.K B Wx (tVal fa)) := ptI (pt_truth ha (plainT_ok hp _)) fun σ H Q ⟨m, l, h, k, x, rh, rl, e, hk, hx⟩ => by
  refine ⟨m, l, h, _, x, rh, rl, e, fun m1 v w h1 H1 x1 r1 rv e1 => ?_, hx⟩
  obtain ⟨c, t, q⟩ := truthK_ok r1 rv e1
  exact ⟨c, t, hk m1 c h1 H1 x1 r1 q⟩
variable {ta tb : Tt} {rest : List Expr}
theorem st_not (ha : PT X a (tB X.K B Wx ta)) : PT X (.UnaryOp .Not a pos) (tB X.K B Wx (tNot ta)) := ptI (pt_not ha) fun σ H Q ⟨m, l, h, k, x, rh, rl, e, hk, hx⟩ =>
  ⟨m, l, h, _, x, rh, rl, e, fun m1 c h1 H1 x1 r1 e1 => hk m1 _ h1 H1 x1 r1 e1, hx⟩
theorem sw_and (ha : PT X a (tB X.K B Wx ta)) (hb : PW X (.BoolOp .And (b :: rest) pos) (tB X.K B Wx tb)) : PW X (.BoolOp .And (a :: b :: rest) pos) (tB X.K B Wx (tAnd ta tb)) := pwI (pw_and ha hb) fun σ H Q ⟨m, l, h, k, x, rh, rl, e, hk, hx⟩ => by
  refine ⟨m, l, h, _, x, rh, rl, e, fun m1 c h1 H1 x1 r1 e1 => ?_, hx⟩
  cases c with
  | true => exact iteT ⟨m1, l, h1, k, x, r1, rl.mono rh x1, e1, hk.mono x1, hx.mono x1⟩
  | false => exact iteF (hk m1 false h1 H1 x1 r1 e1)
theorem sw_or (ha : PT X a (tB X.K B Wx ta)) (hb : PW X (.BoolOp .Or (b :: rest) pos) (tB X.K B Wx tb)) : PW X (.BoolOp .Or (a :: b :: rest) pos) (tB X.K B Wx (tOr ta tb)) := pwI (pw_or ha hb) fun σ H Q ⟨m, l, h, k, x, rh, rl, e, hk, hx⟩ => by
  refine ⟨m, l, h, _, x, rh, rl, e, fun m1 c h1 H1 x1 r1 e1 => ?_, hx⟩
  cases c with
  | true => exact iteT (hk m1 true h1 H1 x1 r1 e1)
  | false => exact iteF ⟨m1, l, h1, k, x, r1, rl.mono rh x1, e1, hk.mono x1, hx.mono x1⟩
theorem se_andV (ha : PE X a (tE X.K B Wx fa)) (hb : PE X (.BoolOp .And (b :: rest) pos) (tE X.K B Wx fb)) : PE X (.BoolOp .And (a :: b :: rest) pos) (tE X.K B Wx (eAndV fa fb)) := peI (pe_andT ha hb) fun σ H Q ⟨m, l, h, k, x, rh, rl, e, hk, hx⟩ => by
  refine ⟨m, l, h, _, x, rh, rl, e, fun m1 v w h1 H1 x1 r1 rv e1 => ?_, hx⟩
  obtain ⟨c, t, q⟩ := truthK_ok r1 rv e1
  refine ⟨c, t, ?_⟩
  cases c with
  | true => exact iteT ⟨m1, l, h1, k, x, r1, rl.mono rh x1, q, hk.mono x1, hx.mono x1⟩
  | false => exact iteF (hk m1 v w h1 H1 x1 r1 rv q)
theorem se_orV (ha : PE X a (tE X.K B Wx fa)) (hb : PE X (.BoolOp .Or (b :: rest) pos) (tE X.K B Wx fb)) : PE X (.BoolOp .Or (a :: b :: rest) pos) (tE X.K B Wx (eOrV fa fb)) := peI (pe_orT ha hb) fun σ H Q ⟨m, l, h, k, x, rh, rl, e, hk, hx⟩ => by
  refine ⟨m, l, h, _, x, rh, rl, e, fun m1 v w h1 H1 x1 r1 rv e1 => ?_, hx⟩
  obtain ⟨c, t, q⟩ := truthK_ok r1 rv e1
  refine ⟨c, t, ?_⟩
  cases c with
  | true => exact iteT (hk m1 v w h1 H1 x1 r1 rv q)
  | false => exact iteF ⟨m1, l, h1, k, x, r1, rl.mono rh x1, q, hk.mono x1, hx.mono x1⟩
theorem se_notV (ha : PE X a (tE X.K B Wx fa)) : PE X (.UnaryOp .Not a pos) (tE X.K B Wx (eNotV fa)) := peI (pe_notT ha) fun σ H Q ⟨m, l, h, k, x, rh, rl, e, hk, hx⟩ => by
  refine ⟨m, l, h, _, x, rh, rl, e, fun m1 v w h1 H1 x1 r1 rv e1 => ?_, hx⟩
  obtain ⟨c, t, q⟩ := truthK_ok r1 rv e1
  exact ⟨c, t, hk m1 _ _ h1 H1 x1 r1 (.bl _) q⟩
theorem se_if {c : Expr} {tc : Tt} (hc : PT X c (tB X.K B Wx tc)) (ha : PE X a (tE X.K B Wx fa)) (hb : PE X b (tE X.K B Wx fb)) : PE X (.IfExp c a b pos) (tE X.K B Wx (eIf tc fa fb)) := peI (pe_ifExp hc ha hb) fun σ H Q ⟨m, l, h, k, x, rh, rl, e, hk, hx⟩ => by
  refine ⟨m, l, h, _, x, rh, rl, e, fun m1 c h1 H1 x1 r1 e1 => ?_, hx⟩
  cases c with
  | true => exact iteT ⟨m1, l, h1, k, x, r1, rl.mono rh x1, e1, hk.mono x1, hx.mono x1⟩
  | false => exact iteF ⟨m1, l, h1, k, x, r1, rl.mono rh x1, e1, hk.mono x1, hx.mono x1⟩
theorem se_bin {op : Operator} {g : W → W → IH → KE → Bool} (ho : OpR X (binaryOp op) (r2 X.K g)) (ha : PE X a (tE X.K B Wx fa)) (hb : PE X b (tE X.K B Wx fb)) : PE X (.BinOp a op b pos) (tE X.K B Wx (eBin g fa fb)) := peI (pe_op ho ha hb) bin_imp
theorem se_un {op : UnaryOp} {g : W → IH → KE → Bool} (ho : UnR X (unaryOp op) (r1 X.K g)) (ha : PE X a (tE X.K B Wx fa)) : PE X (.UnaryOp op a pos) (tE X.K B Wx (eUn g fa)) := peI (pe_un ho ha) un_imp

/-! ### subscripts, slices -/
theorem itemsK_ok {K : PySem.W.Frag} {m : Mp} {h : IH} {H : Hp} (rh : RepH K m h H) {w : W} {v : V} (r : RV K m H w v) {c : List W → Bool} (q : itemsK w h c = true) :
    ∃ ws xs p, v = .ref p ∧ (SqL K H p xs ∨ SqT K H p xs) ∧ RVs K m H ws xs ∧ c ws = true := by
  cases r with
  | @tup ws xs p s t => exact ⟨ws, xs, p, rfl, .inr s, t, q⟩
  | @ref k p e =>
    obtain ⟨l, e1, e2⟩ := hget_ok q
    obtain ⟨ws, xs, f1, f2, f3, _⟩ := sqL_ref rh e
    rw [f1] at e1; cases e1
    exact ⟨_, xs, p, rfl, .inl f2, f3, e2⟩
  | @fl ws xs p e t => exact ⟨ws, xs, p, rfl, .inl (sqL_fl e), t, q⟩
  | _ => cases (show false = true from q)
theorem lstK_ok {K : PySem.W.Frag} {m : Mp} {h : IH} {H : Hp} (rh : RepH K m h H) {w : W} {v : V} (r : RV K m H w v) {c : List W → Bool} (q : lstK w h c = true) :
    ∃ ws xs p, v = .ref p ∧ SqL K H p xs ∧ RVs K m H ws xs ∧ c ws = true := by
  cases r with
  | @ref k p e =>
    obtain ⟨l, e1, e2⟩ := hget_ok q
    obtain ⟨ws, xs, f1, f2, f3, _⟩ := sqL_ref rh e
    rw [f1] at e1; cases e1
    exact ⟨_, xs, p, rfl, f2, f3, e2⟩
  | @fl ws xs p e t => exact ⟨ws, xs, p, rfl, sqL_fl e, t, q⟩
  | _ => cases (show false = true from q)
theorem nthK_ok : ∀ (n : Nat) (l : List W) (c : W → Bool), nthK n l c = true → ∃ w, l[n]? = some w ∧ c w = true
  | 0, [], _, h => by cases (show false = true from h)
  | 0, w :: _, c, h => ⟨w, rfl, h⟩
  | n + 1, [], _, h => by cases (show false = true from h)
  | n + 1, _ :: l, c, h => by
    obtain ⟨w, e, q⟩ := nthK_ok n l c h
    exact ⟨w, by simpa using e, q⟩
theorem ixK_ok : ∀ (i : Int) (l : List W) (c : Nat → Bool), ixK i l c = true → ∃ n, c n = true ∧ (n < l.length → ixN l.length i = some n)
  | .ofNat a, l, c, h => ⟨a, h, fun hn => by
      show (if 0 ≤ (a : Int) then _ else _) = _
      rw [if_pos (Int.natCast_nonneg a)]
      exact if_pos (Int.ofNat_lt.mpr hn)⟩
  | .negSucc a, l, c, h => by
    obtain ⟨e1, e2⟩ := cond_f h
    rw [blt_ok, lenW_ok] at e1
    rw [lenW_ok] at e2
    have h1 := of_decide_eq_true e1
    refine ⟨_, e2, fun hn => ?_⟩
    have hneg := Int.negSucc_lt_zero a
    unfold ixN
    rw [if_neg (by omega), if_pos (by rw [Int.negSucc_eq]; omega)]
    congr 1
    rw [Int.negSucc_eq]
    show _ = l.length - (a + 1)
    omega
/-- what may stand as an index -/
def plainI : Expr → Bool
  | .Slice .. => false
  | _ => true
theorem plainI_ok {b : Expr} (h : plainI b = true) : PlainIx b := fun o i => by
  cases b <;> first | rfl | cases h
theorem ix_subscr : IxR X (r2 X.K subscrK) := by
  intro value slice pins s σ H x y v u Q I rx ry ⟨m, wa, wb, h, k, rh, ra, rb, e, hk⟩ hs
  cases rb with
  | int i =>
    obtain ⟨ws, xs, p, rfl, hq, t, e1⟩ := itemsK_ok rh ra (show itemsK wa h (fun l => ixK i l fun n => nthK n l fun w => k w h) = true from e)
    obtain ⟨n, e2, hn⟩ := ixK_ok _ _ _ e1
    obtain ⟨w, e3, e4⟩ := nthK_ok _ _ _ e2
    obtain ⟨z, e5, rz⟩ := t.get e3
    have hlt : n < ws.length := (List.getElem?_eq_some_iff.mp e3).1
    have hix := hn hlt
    rw [t.length] at hix
    have hat : atI xs i = some z := by
      unfold atI
      rw [hix]
      exact e5
    have hQ : Q z H := hk m w z h H .refl rh rz e4
    rcases hq with hq | hq
    · exact ix_list value slice pins s σ H _ _ v u Q I rx ry ⟨p, xs, i, z, rfl, rfl, hq, hat, hQ⟩ hs
    · exact ix_tup value slice pins s σ H _ _ v u Q I rx ry ⟨p, xs, i, z, rfl, rfl, hq, hat, hQ⟩ hs
  | _ => cases (show false = true from e)
theorem se_subscr (ha : PE X a (tE X.K B Wx fa)) (hb : PE X b (tE X.K B Wx fb)) (hi : plainI b = true) : PE X (.Subscript a b pos) (tE X.K B Wx (eBin subscrK fa fb)) := peI (pe_ix ix_subscr ha hb (plainI_ok hi)) bin_imp
theorem takeN_ok : ∀ (n : Nat) (l : List W), takeN n l = l.take n
  | 0, _ => rfl
  | n + 1, [] => rfl
  | n + 1, x :: l => congrArg (List.cons x) (takeN_ok n l)
theorem dropN_ok (n : Nat) : ∀ (l : List W), dropN n l = l.drop n := by
  unfold dropN
  induction n with
  | zero => intro l; rfl
  | succ n ih =>
    intro l
    cases l with
    | nil => rfl
    | cons x l => exact ih l
theorem sliceN_ok : ∀ (i : Int) (n d : Nat), sliceN i n = HT.sIx n d (some i)
  | .ofNat a, n, d => by
    show cond (Nat.ble a n) a n = if (a : Int) < 0 then ((a : Int) + (n : Int)).toNat else min (a : Int).toNat n
    rw [if_neg (by omega), ble_ok]
    by_cases z : a ≤ n
    · rw [decide_eq_true z]; show a = _; simp; omega
    · rw [decide_eq_false z]; show n = _; simp; omega
  | .negSucc a, n, d => by
    have := Int.negSucc_lt_zero a
    show Nat.sub n (a + 1) = if Int.negSucc a < 0 then (Int.negSucc a + (n : Int)).toNat else min (Int.negSucc a).toNat n
    rw [if_pos this, Int.negSucc_eq]
    show n - (a + 1) = _
    omega
theorem cutL_ok (lo hi : Option Int) (l : List W) : cutL lo hi l = (l.drop (HT.sIx l.length 0 lo)).take (HT.sIx l.length l.length hi - HT.sIx l.length 0 lo) := by
  cases lo with
  | none =>
    cases hi with
    | none =>
      show l = _
      rw [HT.sIx_none, HT.sIx_none, List.drop_zero, Nat.sub_zero, List.take_length]
    | some j =>
      show takeN (sliceN j (lenW l)) l = _
      rw [takeN_ok, lenW_ok, sliceN_ok j l.length l.length, HT.sIx_none, List.drop_zero, Nat.sub_zero]
  | some i =>
    cases hi with
    | none =>
      show dropN (sliceN i (lenW l)) l = _
      rw [dropN_ok, lenW_ok, sliceN_ok i l.length 0, HT.sIx_none]
      rw [List.take_of_length_le]
      rw [List.length_drop]; omega
    | some j =>
      show dropN (sliceN i (lenW l)) (takeN (sliceN j (lenW l)) l) = _
      rw [dropN_ok, takeN_ok, lenW_ok, sliceN_ok i l.length 0, sliceN_ok j l.length l.length, List.drop_take]
theorem cutV_rv {K : PySem.W.Frag} {m : Mp} {H : Hp} {ws : List W} {xs : List V} (r : RVs K m H ws xs) (lo hi : Option Int) : RVs K m H (cutL lo hi ws) (cutV xs lo hi) := by
  rw [cutL_ok, r.length]
  exact (r.drop _).take _
/-- a slice by values -/
def rS (K : PySem.W.Frag) : V → Option Int → Option Int → Hp → VK → Prop := fun x lo hi H Q => ∃ m w h k, RepH K m h H ∧ RV K m H w x ∧ cutK w lo hi h k = true ∧ KOk K m H k Q
theorem sl_cut : SlR X (rS X.K) := by
  intro pins s σ H x v vl vu lo hi sl Q I rx hs pl pu ⟨m, w, h, k, rh, rw', e, hk⟩
  unfold cutK at e
  cases rw' with
  | @tup ws xs p st t =>
    refine sl_tupA pins s σ H _ v vl vu lo hi sl Q I rx hs pl pu ⟨p, xs, rfl, st, fun ⟨z1, z2⟩ => ?_, fun _ q hq => ?_⟩
    · have e' : k (.tup (cutL lo hi ws)) h = true := e
      have hr := cutV_rv t lo hi
      have : cutV xs lo hi = xs := by
        unfold cutV
        rw [z1, z2, List.drop_zero, Nat.sub_zero, List.take_length]
      rw [this] at hr
      exact hk m _ _ h H .refl rh (.tup st hr) e'
    · exact hk.newT rh (cutV_rv t lo hi) e hq
  | @ref j p ee =>
    obtain ⟨l, e1, e2⟩ := hget_ok (show hget h j (fun l => halloc h (cutL lo hi l) k) = true from e)
    obtain ⟨ws, xs, f1, f2, f3, _⟩ := sqL_ref rh ee
    rw [f1] at e1; cases e1
    exact sl_list pins s σ H _ v vl vu lo hi sl Q I rx hs pl pu ⟨p, xs, rfl, f2, fun q hq => hk.newL rh (cutV_rv f3 lo hi) e2 hq⟩
  | @fl ws xs p ee t =>
    exact sl_list pins s σ H _ v vl vu lo hi sl Q I rx hs pl pu ⟨p, xs, rfl, sqL_fl ee, fun q hq => hk.newL rh (cutV_rv t lo hi) (show halloc h (cutL lo hi ws) k = true from e) hq⟩
  | _ => cases (show false = true from e)
def OOk (K : PySem.W.Frag) (m : Mp) (H : Hp) (k : Option Int → IH → Bool) (Q : Option Int → Hp → Prop) : Prop := ∀ m' o h' H', Ext m H m' H' → RepH K m' h' H' → k o h' = true → Q o H'
def tO (K : PySem.W.Frag) (B : Bag) (Wx : WX) (f : Eo) : TO := fun σ H Q => ∃ m l h k x, RepH K m h H ∧ RepL K m H l σ ∧ f B.c l h k x = true ∧ OOk K m H k Q ∧ XOk K B m H σ x Wx
theorem poI {e : Option Expr} {t t' : TO} (h : PO X e t) (i : ∀ σ H Q, t' σ H Q → t σ H Q) : PO X e t' := ⟨fun pins s σ H Q I q => h.run pins s σ H Q I (i σ H Q q)⟩
theorem so_none : PO X none (tO X.K B Wx oNone) := poI po_none fun σ H Q ⟨m, l, h, k, x, rh, rl, e, hk, hx⟩ => hk m none h H .refl rh e
theorem so_some (ha : PE X a (tE X.K B Wx fa)) : PO X (some a) (tO X.K B Wx (oSome fa)) := poI (po_some ha) fun σ H Q ⟨m, l, h, k, x, rh, rl, e, hk, hx⟩ => by
  refine ⟨m, l, h, _, x, rh, rl, e, fun m1 v w h1 H1 x1 r1 rv e1 => ?_, hx⟩
  obtain ⟨i, rfl, rfl, e2⟩ := intOf_ok rv e1
  exact ⟨i, rfl, hk m1 _ h1 H1 x1 r1 e2⟩
theorem se_slice {lo hi : Option Expr} {fl fh : Eo} {p2 : Pos} (ha : PE X a (tE X.K B Wx fa)) (hl : PO X lo (tO X.K B Wx fl)) (hh : PO X hi (tO X.K B Wx fh)) : PE X (.Subscript a (.Slice lo hi none p2) pos) (tE X.K B Wx (eSlice fa fl fh)) := peI (pe_slice sl_cut ha hl hh) fun σ H Q ⟨m, l, h, k, x, rh, rl, e, hk, hx⟩ => by
  refine ⟨m, l, h, _, x, rh, rl, e, fun m1 v w h1 H1 x1 r1 rv e1 => ?_, hx⟩
  refine ⟨m1, l, h1, _, x, r1, rl.mono rh x1, e1, fun m2 i h2 H2 x2 r2 e2 => ?_, hx.mono x1⟩
  refine ⟨m2, l, h2, _, x, r2, (rl.mono rh x1).mono r1 x2, e2, fun m3 j h3 H3 x3 r3 e3 => ?_, hx.mono (x1.trans x2)⟩
  exact ⟨m3, v, h3, k, r3, RV.mono r2 x3 (RV.mono r1 x2 rv), e3, hk.mono ((x1.trans x2).trans x3)⟩
end
end It

set_option Elab.async false
set_option linter.all false
set_option maxRecDepth 100000
set_option maxHeartbeats 1000000
/-! ItG: calls of built-ins, append, isinstance. -/
namespace It
open PySem PySem.Spec PyProof.Rows L2
def notStar : Expr → Bool
  | .Starred .. => false
  | _ => true
theorem star_cons {e : Expr} (h : notStar e = true) (es : List Expr) (env : Env) : starEach (e :: es) env = (false, eval e env) :: starEach es env := by
  cases e <;> first | rfl | cases h
theorem star_none : ∀ (es : List Expr) (pos : Pos) (env : Env), es.all notStar = true → (backTo pos (starEach es env)).any (·.1) = false
  | [], _, _, _ => rfl
  | e :: es, pos, env, h => by
    rw [List.all_cons, Bool.and_eq_true] at h
    rw [star_cons h.1]
    show (false || (backTo pos (starEach es env)).any (·.1)) = false
    rw [star_none es pos env h.2]; rfl
theorem star_all : ∀ (es : List Expr) (pos : Pos) (env : Env), es.all notStar = true → (backTo pos (starEach es env)).all (fun x => !x.1) = true
  | [], _, _, _ => rfl
  | e :: es, pos, env, h => by
    rw [List.all_cons, Bool.and_eq_true] at h
    rw [star_cons h.1]
    show (!false && (backTo pos (starEach es env)).all (fun x => !x.1)) = true
    rw [star_all es pos env h.2]; rfl
section
variable {X : Cx} {B : Bag} {Wx : WX} {pos p : Pos} {a b : Expr} {fa fb F : E} {t tb : TE} {x : Str} {id : String} {r : List V → Hp → VK → Prop}
/-- one argument -/
theorem se_call1 (hc : CallR X (.builtin id) r) (hg : Gl X x) (hm : X.mg x = none) (hv : bootBuiltins x = some (.builtin id)) (hn : x ≠ "__name__") (hd : (x == ("__debug__" : Str)) = false) (ha : PE X a t) (ns : notStar a = true)
    (imp : ∀ σ H Q, tE X.K B Wx F σ H Q → t σ H (fun y H1 => r [y] H1 Q)) : PE X (.Call (.Name x p) [a] [] pos) (tE X.K B Wx F) :=
  peI (pe_callB hc hg hm hv (pa_cons ha pa_nil (star_cons ns _ _)) hn hd (star_cons ns _ _) rfl) imp
theorem se_callT1 {T : String} (hc : CallR X (.type T) r) (hg : Gl X x) (hm : X.mg x = none) (hv : bootBuiltins x = some (.type T)) (hn : x ≠ "__name__") (hd : (x == ("__debug__" : Str)) = false) (ha : PE X a t) (ns : notStar a = true)
    {t' : TE} (imp : ∀ σ H Q, t' σ H Q → t σ H (fun y H1 => r [y] H1 Q)) : PE X (.Call (.Name x p) [a] [] pos) t' :=
  peI (pe_callTy hc hg hm hv (pa_cons ha pa_nil (star_cons ns _ _)) hn hd (star_cons ns _ _) rfl) imp
theorem se_call2 (hc : CallR X (.builtin id) r) (hg : Gl X x) (hm : X.mg x = none) (hv : bootBuiltins x = some (.builtin id)) (hn : x ≠ "__name__") (hd : (x == ("__debug__" : Str)) = false) (ha : PE X a t) (hb : PE X b tb) (ns : notStar a = true) (ns' : notStar b = true)
    (imp : ∀ σ H Q, tE X.K B Wx F σ H Q → t σ H (fun y H1 => tb σ H1 fun z H2 => r [y, z] H2 Q)) : PE X (.Call (.Name x p) [a, b] [] pos) (tE X.K B Wx F) :=
  peI (pe_callB hc hg hm hv (pa_cons ha (pa_cons hb pa_nil (star_cons ns' _ _)) (star_cons ns _ _)) hn hd (star_cons ns _ _) (by rw [star_cons ns']; rfl)) imp
theorem lenK_ok {K : PySem.W.Frag} {m : Mp} {h : IH} {H : Hp} (rh : RepH K m h H) {w : W} {v : V} (r : RV K m H w v) {k : KE} (q : lenK w h k = true) : ∃ n : Nat, LenV K v H n ∧ k (.int n) h = true := by
  cases r with
  | str s =>
    obtain ⟨q1, q2⟩ := cond_f q
    rw [ble_ok] at q1
    exact ⟨s.length, ⟨Nat.le_trans (of_decide_eq_true q1) line_le, rfl⟩, q2⟩
  | @tup ws xs a s t =>
    have q' : k (.int (Int.ofNat (lenW ws))) h = true := q
    rw [lenW_ok, t.length] at q'
    exact ⟨xs.length, .inr ⟨xs, s, rfl⟩, q'⟩
  | @ref j a e =>
    obtain ⟨l, e1, e2⟩ := hget_ok q
    obtain ⟨ws, xs, f1, f2, f3, _⟩ := sqL_ref rh e
    rw [f1] at e1; cases e1
    rw [lenW_ok, f3.length] at e2
    exact ⟨xs.length, .inl ⟨xs, f2, rfl⟩, e2⟩
  | @fl ws xs a e t =>
    have q' : k (.int (Int.ofNat (lenW ws))) h = true := q
    rw [lenW_ok, t.length] at q'
    exact ⟨xs.length, .inl ⟨xs, sqL_fl e, rfl⟩, q'⟩
  | _ => cases (show false = true from q)
theorem se_len (hg : Gl X "len") (hm : X.mg "len" = none) (ha : PE X a (tE X.K B Wx fa)) (ns : notStar a = true) : PE X (.Call (.Name "len" p) [a] [] pos) (tE X.K B Wx (eUn lenK fa)) :=
  se_call1 call_len hg hm PySem.boot_len (by decide) (by decide) ha ns fun σ H Q q => by
    obtain ⟨m, l, h, k, x, rh, rl, e, hk, hx⟩ := q
    refine ⟨m, l, h, _, x, rh, rl, e, fun m1 v w h1 H1 x1 r1 rv e1 => ?_, hx⟩
    obtain ⟨n, ln, q⟩ := lenK_ok r1 rv e1
    exact ⟨w, n, rfl, ln, hk m1 _ _ h1 H1 x1 r1 (.int _) q⟩
theorem se_abs (hg : Gl X "abs") (hm : X.mg "abs" = none) (ha : PE X a (tE X.K B Wx fa)) (ns : notStar a = true) : PE X (.Call (.Name "abs" p) [a] [] pos) (tE X.K B Wx (eUn absK fa)) :=
  se_call1 call_abs hg hm boot_abs (by decide) (by decide) ha ns fun σ H Q q => by
    obtain ⟨m, l, h, k, x, rh, rl, e, hk, hx⟩ := q
    refine ⟨m, l, h, _, x, rh, rl, e, fun m1 v w h1 H1 x1 r1 rv e1 => ?_, hx⟩
    cases rv with
    | int i =>
      refine ⟨i, rfl, ?_⟩
      have e1' : k (.int (Int.ofNat (iabs i))) h1 = true := e1
      rw [iabs_ok] at e1'
      have z : (if i < 0 then -i else i) = Int.ofNat i.natAbs := by
        show _ = ((i.natAbs : Nat) : Int)
        by_cases z : i < 0
        · rw [if_pos z]; omega
        · rw [if_neg z]; omega
      rw [z]
      exact hk m1 _ _ h1 H1 x1 r1 (.int _) e1'
    | _ => cases (show false = true from e1)
theorem se_int1 (hg : Gl X "int") (hm : X.mg "int" = none) (ha : PE X a (tE X.K B Wx fa)) (ns : notStar a = true) : PE X (.Call (.Name "int" p) [a] [] pos) (tE X.K B Wx (eUn intK fa)) :=
  se_callT1 call_int1 hg hm PyProof.Rows.boot_int (by decide) (by decide) ha ns fun σ H Q q => by
    obtain ⟨m, l, h, k, x, rh, rl, e, hk, hx⟩ := q
    refine ⟨m, l, h, _, x, rh, rl, e, fun m1 v w h1 H1 x1 r1 rv e1 => ?_, hx⟩
    cases rv with
    | int i => exact .inl ⟨i, rfl, hk m1 _ _ h1 H1 x1 r1 (.int _) e1⟩
    | bl b =>
      refine .inr ⟨b, rfl, ?_⟩
      have z : (if b = true then (1 : Int) else 0) = It.b2i b := by cases b <;> rfl
      rw [z]
      exact hk m1 _ _ h1 H1 x1 r1 (.int _) e1
    | _ => cases (show false = true from e1)
theorem two_ints {K : PySem.W.Frag} {f : Int → Int → (W → Bool) → Bool} (r : List V → Hp → VK → Prop) (hr : ∀ m h H i j k Q, RepH K m h H → f i j (fun w => k w h) = true → KOk K m H k Q → r [.int i, .int j] H Q) (σ : L2.St) (H : Hp) (Q : VK) (q : tE K B Wx (eBin (intsK f) fa fb) σ H Q) :
    tE K B Wx fa σ H (fun y H1 => tE K B Wx fb σ H1 fun z H2 => r [y, z] H2 Q) := by
  obtain ⟨m, l, h, k, x, rh, rl, e, hk, hx⟩ := q
  refine ⟨m, l, h, _, x, rh, rl, e, fun m1 v w h1 H1 x1 r1 rv e1 => ?_, hx⟩
  refine ⟨m1, l, h1, _, x, r1, rl.mono rh x1, e1, fun m2 v2 w2 h2 H2 x2 r2 rv2 e2 => ?_, hx.mono x1⟩
  have rv' := RV.mono r1 x2 rv
  cases rv' with
  | int i =>
    cases rv2 with
    | int j => exact hr m2 h2 H2 i j k Q r2 e2 (hk.mono (x1.trans x2))
    | _ => cases (show false = true from e2)
  | _ => cases (show false = true from e2)
def CDivP (_ j : Int) : Prop := 0 < j ∧ j.natAbs.log2 < 9000
theorem call_divmodG : CallR X (.builtin "divmod") (fun xs H Q => ∃ i j, xs = [.int i, .int j] ∧ CDivP i j ∧ ∀ p, H p = none → Q (.ref p) (upd H p (.tup [.int (i / j), .int (i % j)]))) := by
  intro pins s σ H xs us Q I r h
  obtain ⟨i, j, rfl, ⟨h1, h2⟩, q⟩ := h
  obtain ⟨u, w', rfl, ⟨t, rfl⟩, ⟨t', rfl⟩⟩ := vals2 r
  refine divmod_int (by omega) ?_ (.inl (PyProof.noPylong_of_log2 h2))
  rw [Int.fdiv_eq_ediv_of_nonneg i (by omega), Int.fmod_eq_emod_of_nonneg i (by omega)]
  have hn : H s.heap.objs.size = none := I.hok.fresh (Nat.le_refl _)
  refine ⟨.ref s.heap.objs.size, _, ?_, rfl, q _ hn⟩
  refine I.laid (fun b o e => Heap.get?_push_of_some _ e) (Nat.le_refl _) ⟨by simp only [List.length_cons, List.length_nil]; rw [sizeLine_eq]; decide, [.int (i / j) s.toks, .int (i % j) (s.toks + 1)], .cons ⟨_, rfl⟩ (.cons ⟨_, rfl⟩ .nil), ?_⟩
  exact ⟨_, Heap.get?_push_size s.heap rfl, rfl, 0, rfl⟩
theorem se_divmod (hg : Gl X "divmod") (hm : X.mg "divmod" = none) (ha : PE X a (tE X.K B Wx fa)) (hb : PE X b (tE X.K B Wx fb)) (ns : notStar a = true) (ns' : notStar b = true) : PE X (.Call (.Name "divmod" p) [a, b] [] pos) (tE X.K B Wx (eBin (intsK dmK) fa fb)) :=
  se_call2 call_divmodG hg hm boot_divmod (by decide) (by decide) ha hb ns ns' (two_ints (fun xs H Q => ∃ i j, xs = [.int i, .int j] ∧ CDivP i j ∧ ∀ p, H p = none → Q (.ref p) (upd H p (.tup [.int (i / j), .int (i % j)]))) fun m h H i j k Q rh e hk => by
    obtain ⟨e1, e2⟩ := cond_f e
    obtain ⟨e3, e4⟩ := cond_f e2
    rw [ilt_ok] at e1
    have h1 := of_decide_eq_true e1
    have z1 : Int.fdiv i j = i / j := Int.fdiv_eq_ediv_of_nonneg i (by omega)
    have z2 : Int.fmod i j = i % j := Int.fmod_eq_emod_of_nonneg i (by omega)
    rw [z1, z2] at e4
    exact ⟨i, j, rfl, ⟨h1, bigD_ok e3⟩, fun q hq => hk.newT rh (.cons (.int _) (.cons (.int _) .nil)) e4 hq⟩)
theorem se_min2 (hc : X.calm = true) (hg : Gl X "min") (hm : X.mg "min" = none) (ha : PE X a (tE X.K B Wx fa)) (hb : PE X b (tE X.K B Wx fb)) (ns : notStar a = true) (ns' : notStar b = true) : PE X (.Call (.Name "min" p) [a, b] [] pos) (tE X.K B Wx (eBin (intsK minK) fa fb)) :=
  se_call2 (call_min2 hc) hg hm (by decide +kernel) (by decide) (by decide) ha hb ns ns' (two_ints (fun xs H Q => ∃ i j, xs = [.int i, .int j] ∧ Q (.int (if j < i then j else i)) H) fun m h H i j k Q rh e hk => by
    have e' : k (.int (cond (ilt j i) j i)) h = true := e
    rw [ilt_ok] at e'
    refine ⟨i, j, rfl, ?_⟩
    have z : (if j < i then j else i) = cond (decide (j < i)) j i := by
      by_cases z : j < i
      · rw [if_pos z, decide_eq_true z]; rfl
      · rw [if_neg z, decide_eq_false z]; rfl
    rw [z]
    exact hk m _ _ h H .refl rh (.int _) e')
theorem se_max2 (hc : X.calm = true) (hg : Gl X "max") (hm : X.mg "max" = none) (ha : PE X a (tE X.K B Wx fa)) (hb : PE X b (tE X.K B Wx fb)) (ns : notStar a = true) (ns' : notStar b = true) : PE X (.Call (.Name "max" p) [a, b] [] pos) (tE X.K B Wx (eBin (intsK maxK) fa fb)) :=
  se_call2 (call_max2 hc) hg hm (by decide +kernel) (by decide) (by decide) ha hb ns ns' (two_ints (fun xs H Q => ∃ i j, xs = [.int i, .int j] ∧ Q (.int (if j > i then j else i)) H) fun m h H i j k Q rh e hk => by
    have e' : k (.int (cond (ilt i j) j i)) h = true := e
    rw [ilt_ok] at e'
    refine ⟨i, j, rfl, ?_⟩
    have z : (if j > i then j else i) = cond (decide (i < j)) j i := by
      by_cases z : i < j
      · rw [if_pos z, decide_eq_true z]; rfl
      · rw [if_neg z, decide_eq_false z]; rfl
    rw [z]
    exact hk m _ _ h H .refl rh (.int _) e')
/-! ### all, any, sum of a list: of a list-making expression, of a list that stands -/
theorem boolsK_ok {K : PySem.W.Frag} {m : Mp} {H : Hp} {f : Bool → Bool → Bool} {z : Bool} : ∀ {ws : List W} {xs : List V} {c : Bool → Bool}, RVs K m H ws xs → boolsK f z ws c = true → ∃ bs : List Bool, xs = bs.map V.bl ∧ c (bs.foldr f z) = true
  | _, _, c, .nil, q => ⟨[], rfl, q⟩
  | _, _, c, .cons r t, q => by
    cases r with
    | bl b =>
      obtain ⟨bs, e, q'⟩ := boolsK_ok t q
      exact ⟨b :: bs, by rw [e]; rfl, q'⟩
    | _ => cases (show false = true from q)
theorem sumK_ok {K : PySem.W.Frag} {m : Mp} {H : Hp} {c : Int → Bool} : ∀ {ws : List W} {xs : List V} (a : Int), RVs K m H ws xs → (List.rec (fun a c => c a) (fun w _ ih a c => intOf w fun i => ih (Int.add a i) c) ws : Int → (Int → Bool) → Bool) a c = true → ∃ ns : List Int, xs = ns.map V.int ∧ c (a + ns.sum) = true
  | _, _, a, .nil, q => ⟨[], rfl, by
    show c (a + 0) = true
    rw [Int.add_zero]; exact q⟩
  | _, _, a, .cons r t, q => by
    cases r with
    | int i =>
      obtain ⟨ns, e, q'⟩ := sumK_ok (Int.add a i) t q
      refine ⟨i :: ns, by rw [e]; rfl, ?_⟩
      rw [List.sum_cons, ← Int.add_assoc]
      exact q'
    | _ => cases (show false = true from q)
theorem foldr_and : ∀ bs : List Bool, bs.foldr and true = bs.all _root_.id
  | [] => rfl
  | b :: bs => by rw [List.foldr_cons, foldr_and bs, List.all_cons]; rfl
theorem foldr_or : ∀ bs : List Bool, bs.foldr or false = bs.any _root_.id
  | [] => rfl
  | b :: bs => by rw [List.foldr_cons, foldr_or bs, List.any_cons]; rfl
/-- how a list comes -/
theorem fresh_imp {K : PySem.W.Frag} {f : Es} {F : E} {r : List V → Hp → VK → Prop} {g : List W → IH → KE → Bool} (hF : ∀ c l h k x, F c l h k x = f c l h (fun ws h1 => g ws h1 k) x)
    (hr : ∀ m h H a ws xs k Q, RepH K m h H → SqL K H a xs → RVs K m H ws xs → g ws h k = true → KOk K m H k Q → r [.ref a] H Q) (σ : L2.St) (H : Hp) (Q : VK) (q : tE K B Wx F σ H Q) : tF K B Wx f σ H (fun y H1 => r [y] H1 Q) := by
  obtain ⟨m, l, h, k, x, rh, rl, e, hk, hx⟩ := q
  rw [hF] at e
  exact ⟨m, l, h, _, x, rh, rl, e, fun m1 ws xs h1 H1 p x1 r1 hp np nm rv e1 => hr m1 h1 H1 p ws xs k Q r1 (.of hp) rv e1 (hk.mono x1), hx⟩
theorem stand_imp {K : PySem.W.Frag} {f : E} {F : E} {r : List V → Hp → VK → Prop} {g : List W → IH → KE → Bool} (hF : ∀ c l h k x, F c l h k x = f c l h (fun w h1 => lstK w h1 fun ws => g ws h1 k) x)
    (hr : ∀ m h H a ws xs k Q, RepH K m h H → SqL K H a xs → RVs K m H ws xs → g ws h k = true → KOk K m H k Q → r [.ref a] H Q) (σ : L2.St) (H : Hp) (Q : VK) (q : tE K B Wx F σ H Q) : tE K B Wx f σ H (fun y H1 => r [y] H1 Q) := by
  obtain ⟨m, l, h, k, x, rh, rl, e, hk, hx⟩ := q
  rw [hF] at e
  refine ⟨m, l, h, _, x, rh, rl, e, fun m1 w v h1 H1 x1 r1 rv e1 => ?_, hx⟩
  obtain ⟨ws, xs, p, rfl, hq, t, e2⟩ := lstK_ok r1 rv e1
  exact hr m1 h1 H1 p ws xs k Q r1 hq t e2 (hk.mono x1)
theorem all_r {K : PySem.W.Frag} (m : Mp) (h : IH) (H : Hp) (a : Addr) (ws : List W) (xs : List V) (k : KE) (Q : VK) (rh : RepH K m h H) (hq : SqL K H a xs) (t : RVs K m H ws xs) (e : boolsK and true ws (fun b => k (.bl b) h) = true) (hk : KOk K m H k Q) : rAll K [.ref a] H Q := by
  obtain ⟨bs, rfl, q⟩ := boolsK_ok t e
  rw [foldr_and] at q
  exact ⟨a, bs, rfl, hq, hk m _ _ h H .refl rh (.bl _) q⟩
theorem any_r {K : PySem.W.Frag} (m : Mp) (h : IH) (H : Hp) (a : Addr) (ws : List W) (xs : List V) (k : KE) (Q : VK) (rh : RepH K m h H) (hq : SqL K H a xs) (t : RVs K m H ws xs) (e : boolsK or false ws (fun b => k (.bl b) h) = true) (hk : KOk K m H k Q) : rAny K [.ref a] H Q := by
  obtain ⟨bs, rfl, q⟩ := boolsK_ok t e
  rw [foldr_or] at q
  exact ⟨a, bs, rfl, hq, hk m _ _ h H .refl rh (.bl _) q⟩
theorem sum_r {K : PySem.W.Frag} (m : Mp) (h : IH) (H : Hp) (a : Addr) (ws : List W) (xs : List V) (k : KE) (Q : VK) (rh : RepH K m h H) (hq : SqL K H a xs) (t : RVs K m H ws xs) (e : sumK ws (fun b => k (.int b) h) = true) (hk : KOk K m H k Q) : rSum K [.ref a] H Q := by
  obtain ⟨ns, rfl, q⟩ := sumK_ok 0 t e
  rw [Int.zero_add] at q
  exact ⟨a, ns, rfl, hq, hk m _ _ h H .refl rh (.int _) q⟩
variable {f : Es}
theorem se_all (hc : X.calm = true) (hg : Gl X "all") (hm : X.mg "all" = none) (ha : PE X a (tF X.K B Wx f)) (ns : notStar a = true) : PE X (.Call (.Name "all" p) [a] [] pos) (tE X.K B Wx (eAll f)) :=
  se_call1 (cr_all hc) hg hm (by decide +kernel) (by decide) (by decide) ha ns (fresh_imp (g := fun ws h k => boolsK and true ws (fun b => k (.bl b) h)) (fun _ _ _ _ _ => rfl) all_r)
theorem se_any (hc : X.calm = true) (hg : Gl X "any") (hm : X.mg "any" = none) (ha : PE X a (tF X.K B Wx f)) (ns : notStar a = true) : PE X (.Call (.Name "any" p) [a] [] pos) (tE X.K B Wx (eAny f)) :=
  se_call1 (cr_any hc) hg hm (by decide +kernel) (by decide) (by decide) ha ns (fresh_imp (g := fun ws h k => boolsK or false ws (fun b => k (.bl b) h)) (fun _ _ _ _ _ => rfl) any_r)
theorem se_sum (hc : X.calm = true) (hg : Gl X "sum") (hm : X.mg "sum" = none) (ha : PE X a (tF X.K B Wx f)) (ns : notStar a = true) : PE X (.Call (.Name "sum" p) [a] [] pos) (tE X.K B Wx (eSum f)) :=
  se_call1 (cr_sum hc) hg hm (by decide +kernel) (by decide) (by decide) ha ns (fresh_imp (g := fun ws h k => sumK ws (fun b => k (.int b) h)) (fun _ _ _ _ _ => rfl) sum_r)
theorem se_allV (hc : X.calm = true) (hg : Gl X "all") (hm : X.mg "all" = none) (ha : PE X a (tE X.K B Wx fa)) (ns : notStar a = true) : PE X (.Call (.Name "all" p) [a] [] pos) (tE X.K B Wx (eAll (sLists fa))) :=
  se_call1 (cr_all hc) hg hm (by decide +kernel) (by decide) (by decide) ha ns (stand_imp (g := fun ws h k => boolsK and true ws (fun b => k (.bl b) h)) (fun _ _ _ _ _ => rfl) all_r)
theorem se_anyV (hc : X.calm = true) (hg : Gl X "any") (hm : X.mg "any" = none) (ha : PE X a (tE X.K B Wx fa)) (ns : notStar a = true) : PE X (.Call (.Name "any" p) [a] [] pos) (tE X.K B Wx (eAny (sLists fa))) :=
  se_call1 (cr_any hc) hg hm (by decide +kernel) (by decide) (by decide) ha ns (stand_imp (g := fun ws h k => boolsK or false ws (fun b => k (.bl b) h)) (fun _ _ _ _ _ => rfl) any_r)
theorem se_sumV (hc : X.calm = true) (hg : Gl X "sum") (hm : X.mg "sum" = none) (ha : PE X a (tE X.K B Wx fa)) (ns : notStar a = true) : PE X (.Call (.Name "sum" p) [a] [] pos) (tE X.K B Wx (eSum (sLists fa))) :=
  se_call1 (cr_sum hc) hg hm (by decide +kernel) (by decide) (by decide) ha ns (stand_imp (g := fun ws h k => sumK ws (fun b => k (.int b) h)) (fun _ _ _ _ _ => rfl) sum_r)
theorem se_lenL (hg : Gl X "len") (hm : X.mg "len" = none) (ha : PE X a (tF X.K B Wx f)) (ns : notStar a = true) : PE X (.Call (.Name "len" p) [a] [] pos) (tE X.K B Wx (eLenL f)) :=
  se_call1 call_len hg hm PySem.boot_len (by decide) (by decide) ha ns (fresh_imp (r := fun xs H Q => ∃ x n, xs = [x] ∧ LenV X.K x H n ∧ Q (.int n) H) (g := fun ws h k => k (.int (Int.ofNat (lenW ws))) h) (fun _ _ _ _ _ => rfl) fun m h H a ws xs k Q rh hq t e hk => by
    rw [lenW_ok, t.length] at e
    exact ⟨_, xs.length, rfl, .inl ⟨xs, hq, rfl⟩, hk m _ _ h H .refl rh (.int _) e⟩)
theorem se_tupL (hg : Gl X "tuple") (hm : X.mg "tuple" = none) (ha : PE X a (tF X.K B Wx f)) (ns : notStar a = true) : PE X (.Call (.Name "tuple" p) [a] [] pos) (tE X.K B Wx (eTupL f)) :=
  se_callT1 call_tuple_of hg hm PyProof.Rows.boot_tuple (by decide) (by decide) ha ns (fresh_imp (r := fun xs H Q => ∃ p ys, xs = [.ref p] ∧ ((SqL X.K H p ys ∧ ∀ l, H l = none → Q (.ref l) (upd H l (.tup ys))) ∨ (SqT X.K H p ys ∧ Q (.ref p) H))) (g := fun ws h k => k (.tup ws) h) (fun _ _ _ _ _ => rfl) fun m h H a ws xs k Q rh hq t e hk =>
    ⟨a, xs, rfl, .inl ⟨hq, fun l hl => hk.newT rh t e hl⟩⟩)
theorem se_tupV (hg : Gl X "tuple") (hm : X.mg "tuple" = none) (ha : PE X a (tE X.K B Wx fa)) (ns : notStar a = true) : PE X (.Call (.Name "tuple" p) [a] [] pos) (tE X.K B Wx (eUn tupK fa)) :=
  se_callT1 call_tuple_of hg hm PyProof.Rows.boot_tuple (by decide) (by decide) ha ns fun σ H Q q => by
    obtain ⟨m, l, h, k, x, rh, rl, e, hk, hx⟩ := q
    refine ⟨m, l, h, _, x, rh, rl, e, fun m1 v w h1 H1 x1 r1 rv e1 => ?_, hx⟩
    obtain ⟨ws, xs, p, rfl, hq, t, e2⟩ := itemsK_ok r1 rv (show itemsK v h1 (fun ws => k (.tup ws) h1) = true from e1)
    rcases hq with hq | hq
    · exact ⟨p, xs, rfl, .inl ⟨hq, fun l hl => (hk.mono x1).newT r1 t e2 hl⟩⟩
    · exact ⟨p, xs, rfl, .inr ⟨hq, hk m1 _ _ h1 H1 x1 r1 (.tup hq t) e2⟩⟩
/-- list(x) -/
theorem sf_listV (hg : Gl X "list") (hm : X.mg "list" = none) (ha : PE X a (tE X.K B Wx fa)) (ns : notStar a = true) : PE X (.Call (.Name "list" p) [a] [] pos) (tF X.K B Wx (sItems fa)) :=
  se_callT1 call_list_of hg hm PyProof.Rows.boot_list (by decide) (by decide) ha ns fun σ H Q q => by
    obtain ⟨m, l, h, k, x, rh, rl, e, hk, hx⟩ := q
    refine ⟨m, l, h, _, x, rh, rl, e, fun m1 v w h1 H1 x1 r1 rv e1 => ?_, hx⟩
    obtain ⟨ws, xs, p, rfl, hq, t, e2⟩ := itemsK_ok r1 rv e1
    refine ⟨p, xs, rfl, hq, fun l hl => hk m1 ws xs h1 _ l (x1.trans (.laid hl)) (r1.laid hl) upd_same ?_ (r1.no0 hl) (RVs.mono r1 (.laid hl) t) e2⟩
    · cases q : H l with
      | none => rfl
      | some u => exact absurd hl (x1.there l (by rw [q]; exact fun z => nomatch z))
/-- a + b of list-making expressions -/
theorem sf_cat {g : Es} {q : Pos} (ha : PE X a (tF X.K B Wx f)) (hb : PE X b (tF X.K B Wx g)) : PE X (.BinOp a .Add b pos) (tF X.K B Wx (sCat f g)) := peI (pe_op op_cat ha hb) fun σ H Q q => by
    obtain ⟨m, l, h, k, x, rh, rl, e, hk, hx⟩ := q
    refine ⟨m, l, h, _, x, rh, rl, e, fun m1 ws xs h1 H1 p x1 r1 hp np nm rv e1 => ?_, hx⟩
    refine ⟨m1, l, h1, _, x, r1, rl.mono rh x1, e1, fun m2 ws2 xs2 h2 H2 p2 x2 r2 hp2 np2 nm2 rv2 e2 => ?_, hx.mono x1⟩
    obtain ⟨e3, e4⟩ := cond_f e2
    rw [ble_ok, lenW_ok, lenW_ok, rv.length, rv2.length] at e3
    rw [app_ok'] at e4
    refine ⟨p, p2, xs, xs2, rfl, rfl, x2.stay _ _ hp nm (fun _ z => nomatch z), hp2, Nat.le_trans (of_decide_eq_true e3) line_le, fun l hl => hk m2 _ _ h2 _ l ((x1.trans x2).trans (.laid hl)) (r2.laid hl) upd_same ?_ (r2.no0 hl) ?_ e4⟩
    · cases q : H l with
      | none => rfl
      | some u => exact absurd hl ((x1.trans x2).there l (by rw [q]; exact fun z => nomatch z))
    · exact (RVs.mono r2 (.laid hl) (RVs.mono r1 x2 rv)).append (RVs.mono r2 (.laid hl) rv2)
/-! ### append -/
theorem se_append {apos cpos : Pos} (hbase : attributeBase a "append" X.env (eval a X.env) = eval a X.env) (hline : (apos.endLine == cpos.line) = true) (ha : PE X a (tE X.K B Wx fa)) (hb : PE X b (tE X.K B Wx fb)) (ns : notStar b = true) :
    PE X (.Call (.Attribute a "append" apos) [b] [] cpos) (tE X.K B Wx (eAppend fa fb)) := by
  refine peI (pe_bm PySem.F.plainAttrs_list PySem.F.slot_list_append PySem.F.type_list_append mt_append ha (pa_cons hb pa_nil (star_cons ns _ _)) hbase ?_ hline (star_cons ns _ _) rfl) fun σ H Q q => ?_
  · rw [star_cons ns]; rfl
  · obtain ⟨m, l, h, k, x, rh, rl, e, hk, hx⟩ := q
    refine ⟨m, l, h, _, x, rh, rl, e, fun m1 v w h1 H1 x1 r1 rv e1 => ?_, hx⟩
    cases rv with
    | @ref j p ej =>
      obtain ⟨ws, xs, f1, f2, f3, f4⟩ := sqL_ref r1 ej
      refine ⟨.inl ⟨rfl, xs, f2⟩, m1, l, h1, _, x, r1, rl.mono rh x1, e1, fun m2 v2 w2 h2 H2 x2 r2 rv2 e2 => ?_, hx.mono x1⟩
      have ej2 := x2.sub _ _ ej
      obtain ⟨hc, ws2, xs2, g1, g2, g3⟩ := r2.get _ _ ej2
      obtain ⟨l2, e3, e4⟩ := hget_ok e2
      rw [g1] at e3; cases e3
      obtain ⟨e5, e6⟩ := cond_f e4
      rw [blt_ok, lenW_ok, g3.length] at e5
      rw [app_ok'] at e6
      obtain ⟨h3, e7, e8, e9⟩ := hset_ok hc e6
      refine ⟨p, xs2, w2, rfl, rfl, g2, Nat.lt_of_lt_of_le (of_decide_eq_true e5) line_le, ?_⟩
      have le : xs2.length ≤ (xs2 ++ [w2]).length := by rw [List.length_append]; exact Nat.le_add_right _ _
      exact hk m2 _ _ h3 _ ((x1.trans x2).trans (.write ej2 g2 le)) (r2.write ej2 e8 e9 (g3.append (.cons rv2 .nil)) g2 le) .non e7
    | _ => cases (show false = true from e1)
theorem se_extend {g : Es} {apos cpos : Pos} (hbase : attributeBase a "extend" X.env (eval a X.env) = eval a X.env) (hline : (apos.endLine == cpos.line) = true) (ha : PE X a (tE X.K B Wx fa)) (hb : PE X b (tF X.K B Wx g)) (ns : notStar b = true) :
    PE X (.Call (.Attribute a "extend" apos) [b] [] cpos) (tE X.K B Wx (eExtend fa g)) := by
  refine peI (pe_bm PySem.F.plainAttrs_list PySem.F.slot_list_extend PySem.F.type_list_extend mt_extend ha (pa_cons hb pa_nil (star_cons ns _ _)) hbase ?_ hline (star_cons ns _ _) rfl) fun σ H Q q => ?_
  · rw [star_cons ns]; rfl
  · obtain ⟨m, l, h, k, x, rh, rl, e, hk, hx⟩ := q
    refine ⟨m, l, h, _, x, rh, rl, e, fun m1 v w h1 H1 x1 r1 rv e1 => ?_, hx⟩
    cases rv with
    | @ref j p ej =>
      obtain ⟨ws, xs, f1, f2, f3, f4⟩ := sqL_ref r1 ej
      refine ⟨.inl ⟨rfl, xs, f2⟩, m1, l, h1, _, x, r1, rl.mono rh x1, e1, fun m2 vs zs h2 H2 pz x2 r2 hz nz nmz rvs e2 => ?_, hx.mono x1⟩
      have ej2 := x2.sub _ _ ej
      obtain ⟨hc, ws2, xs2, g1, g2, g3⟩ := r2.get _ _ ej2
      obtain ⟨l2, e3, e4⟩ := hget_ok e2
      rw [g1] at e3; cases e3
      obtain ⟨e5, e6⟩ := cond_f e4
      rw [ble_ok, lenW_ok, lenW_ok, g3.length, rvs.length] at e5
      rw [app_ok'] at e6
      obtain ⟨h3, e7, e8, e9⟩ := hset_ok hc e6
      refine ⟨p, pz, xs2, zs, rfl, rfl, g2, hz, Nat.le_trans (of_decide_eq_true e5) line_le, ?_⟩
      have le : xs2.length ≤ (xs2 ++ zs).length := by rw [List.length_append]; exact Nat.le_add_right _ _
      exact hk m2 _ _ h3 _ ((x1.trans x2).trans (.write ej2 g2 le)) (r2.write ej2 e8 e9 (g3.append rvs) g2 le) .non e7
    | _ => cases (show false = true from e1)
theorem se_extendV {apos cpos : Pos} (hbase : attributeBase a "extend" X.env (eval a X.env) = eval a X.env) (hline : (apos.endLine == cpos.line) = true) (ha : PE X a (tE X.K B Wx fa)) (hb : PE X b (tE X.K B Wx fb)) (ns : notStar b = true) :
    PE X (.Call (.Attribute a "extend" apos) [b] [] cpos) (tE X.K B Wx (eExtendV fa fb)) := by
  refine peI (pe_bm PySem.F.plainAttrs_list PySem.F.slot_list_extend PySem.F.type_list_extend mt_extend ha (pa_cons hb pa_nil (star_cons ns _ _)) hbase ?_ hline (star_cons ns _ _) rfl) fun σ H Q q => ?_
  · rw [star_cons ns]; rfl
  · obtain ⟨m, l, h, k, x, rh, rl, e, hk, hx⟩ := q
    refine ⟨m, l, h, _, x, rh, rl, e, fun m1 v w h1 H1 x1 r1 rv e1 => ?_, hx⟩
    cases rv with
    | @ref j p ej =>
      obtain ⟨ws, xs, f1, f2, f3, f4⟩ := sqL_ref r1 ej
      refine ⟨.inl ⟨rfl, xs, f2⟩, m1, l, h1, _, x, r1, rl.mono rh x1, e1, fun m2 v2 w2 h2 H2 x2 r2 rv2 e2 => ?_, hx.mono x1⟩
      cases rv2 with
      | @ref j2 p2 ej2' =>
        have e2 : hget h2 j2 (fun vs => hget h2 j fun l => cond (Nat.ble (Nat.add (lenW l) (lenW vs)) line) (hset h2 j (app l vs) fun h3 => k .non h3) false) = true := e2
        obtain ⟨hc2, vs, zs, d1, d2, d3⟩ := r2.get _ _ ej2'
        obtain ⟨l1, e3, e4⟩ := hget_ok e2
        rw [d1] at e3; cases e3
        have ej2 := x2.sub _ _ ej
        obtain ⟨hc, ws2, xs2, g1, g2, g3⟩ := r2.get _ _ ej2
        obtain ⟨l2, e3, e4⟩ := hget_ok e4
        rw [g1] at e3; cases e3
        obtain ⟨e5, e6⟩ := cond_f e4
        have e5 : Nat.ble (lenW ws2 + lenW vs) line = true := e5
        rw [ble_ok, lenW_ok, lenW_ok, g3.length, d3.length] at e5
        rw [app_ok'] at e6
        obtain ⟨h3, e7, e8, e9⟩ := hset_ok hc e6
        refine ⟨p, p2, xs2, zs, rfl, rfl, g2, d2, Nat.le_trans (of_decide_eq_true e5) line_le, ?_⟩
        have le : xs2.length ≤ (xs2 ++ zs).length := by rw [List.length_append]; exact Nat.le_add_right _ _
        exact hk m2 _ _ h3 _ ((x1.trans x2).trans (.write ej2 g2 le)) (r2.write ej2 e8 e9 (g3.append d3) g2 le) .non e7
      | _ => cases (show false = true from e2)
    | _ => cases (show false = true from e1)
end
end It

set_option Elab.async false
set_option linter.all false
set_option maxRecDepth 100000
set_option maxHeartbeats 1000000
/-! ItH: x[::-1], isinstance. -/
namespace HT
open PySem PySem.Spec PyProof.Rows
section
variable {prog : Program} {w : World} {A : Around} {E : Value → Shared → Prop} {s : Shared}
theorem places_rev (n : Nat) : Builtin.Slice.slicePlaces ((n : Int) - 1) (-1) (-1) = n := by
  unfold Builtin.Slice.slicePlaces
  have h1 : ¬ ((-1 : Int) > 0) := by omega
  simp only [h1, if_false]
  split <;> simp <;> omega
theorem adjust_rev (n : Nat) : Builtin.Slice.sliceAdjust none none (-1) (n : Int) = ((n : Int) - 1, -1) := by
  unfold Builtin.Slice.sliceAdjust
  have h1 : (-1 : Int) < 0 := by omega
  simp only [h1, if_true]
theorem sliceApplied_rev {sl : Addr} {vs : Value} {n : Nat} {Q : Int × Int × Nat → Shared → Prop} (hs : s.heap.IsSliceOf sl .none .none vs) (ps : IsPart vs (some (-1)))
    (h : Q ((n : Int) - 1, -1, n) s) : wpAny (model prog w) A (Builtin.Slice.sliceApplied (.ref sl) (pure (n : Int))) Q E s := by
  obtain ⟨os, hos, hcs, hds⟩ := id hs
  unfold Builtin.Slice.sliceApplied Builtin.Slice.sliceFields
  refine wpAny_bind (wpAny_bind (wpAny_field hos hds (x := .none) rfl (wpAny_bind (wpAny_field hos hds (x := .none) rfl (wpAny_bind (wpAny_field hos hds (x := vs) rfl (wpAny_pure ?_)))))))
  refine wpAny_bind (slicePart_ ps ?_)
  show wpAny _ _ (if ((-1 : Int) == 0) = true then _ else _) _ _ s
  rw [if_neg (by decide)]
  refine wpAny_bind (slicePart_none (wpAny_bind (slicePart_none (wpAny_bind (wpAny_pure ?_)))))
  show wpAny _ _ (match Builtin.Slice.sliceAdjust none none (-1) (n : Int) with | (lo, hi) => pure (lo, (-1 : Int), Builtin.Slice.slicePlaces lo hi (-1))) _ _ s
  rw [adjust_rev n]
  show wpAny _ _ (pure ((n : Int) - 1, (-1 : Int), Builtin.Slice.slicePlaces ((n : Int) - 1) (-1) (-1))) _ _ s
  rw [places_rev]
  exact wpAny_pure h
theorem fm_congr {α β : Type} {f g : α → Option β} : ∀ {l : List α}, (∀ x ∈ l, f x = g x) → l.filterMap f = l.filterMap g
  | [], _ => rfl
  | x :: l, h => by
    rw [List.filterMap_cons, List.filterMap_cons, h x List.mem_cons_self, fm_congr fun y hy => h y (List.mem_cons_of_mem _ hy)]
theorem pick_rev (xs : Array Value) : ((List.range xs.size).filterMap fun (m : Nat) => xs[((xs.size : Int) - 1 + (m : Int) * (-1)).toNat]?).toArray = xs.toList.reverse.toArray := by
  have e : (List.range xs.size).filterMap (fun (m : Nat) => xs[((xs.size : Int) - 1 + (m : Int) * (-1)).toNat]?) = ((List.range xs.size).map fun k => xs.size - 1 - k).filterMap (xs[·]?) := by
    rw [List.filterMap_map]
    refine fm_congr fun m hm => ?_
    have := List.mem_range.mp hm
    have z : ((xs.size : Int) - 1 + (m : Int) * (-1)).toNat = xs.size - 1 - m := by omega
    show _ = xs[xs.size - 1 - m]?
    rw [z]
  rw [e, PySem.W.krv_range, List.filterMap_reverse, PySem.W.krv_all]
theorem getItem_tuple_rev {t sl : Addr} {items : Array Value} {vs : Value} {Q : Value → Shared → Prop} (ht : IsTup s.heap t items) (hs : s.heap.IsSliceOf sl .none .none vs) (ps : IsPart vs (some (-1)))
    (h : Q (.ref s.heap.objs.size) { s with heap := s.heap.push { cls := .type "tuple", data := .seq items.toList.reverse.toArray } })
    (hsz : items.size ≤ sizeLine) : wpAny (model prog w) A (getItem (.ref t) (.ref sl)) Q E s := by
  have htake : sizeOk (.seq items.toList.reverse.toArray) := by
    show items.toList.reverse.toArray.size ≤ sizeLine
    rw [List.size_toArray, List.length_reverse, Array.length_toList]
    omega
  obtain ⟨os, hos, hcs, hds⟩ := id hs
  have hTs : s.TypeIs (.ref sl) "slice" := ⟨os, hos, hcs⟩
  unfold getItem
  try with_reducible refine wpAny_holding ?_
  first | refine wpAny_bind (wpAny_pure ?_) | skip
  refine wpAny_bind (wpAny_sequenceKey ht.typeIs (by decide) ?_)
  refine wpAny_bind (wpAny_callSpecial?_slot (name := Str.ofString "__getitem__") ht.typeIs PyProof.Rows.slot_tuple_getitem
    (wpAny_call_entry PyProof.Rows.slot_tuple_getitem ht.typeIs entry_tuple_getitem ?_ (args_tuple_getitem _ _)))
  show wpAny _ _ (Builtin.Tuple.tupleItemsOf (.ref t) >>= _) _ _ s
  refine wpAny_bind (tupleItemsOf_ ht ?_)
  refine wpAny_bind (wpAny_typeOf hTs ?_)
  rw [if_pos (by decide)]
  refine wpAny_bind (sliceApplied_rev hs ps ?_)
  show wpAny _ _ (if (((items.size : Int) - 1) == 0 && (-1 : Int) == 1 && items.size == items.size) = true then _ else _) _ _ s
  rw [if_neg (by rw [show ((-1 : Int) == 1) = false by decide, Bool.and_false, Bool.false_and]; exact Bool.false_ne_true), pick_rev]
  first
    | exact wpAny_bind (m := Builtin.Tuple.tupleExact _) (wpAny_newObj_type (wpAny_pure ⟨_, rfl, wpAny_pure h⟩) htake)
    | exact wpAny_bind (m := Builtin.Tuple.tupleExact _) (wpAny_newObj_type (wpAny_bind (wpAny_pure (wpAny_pure ⟨_, rfl, wpAny_pure h⟩))) htake)
    | exact wpAny_bind (wpAny_bind (m := Builtin.Tuple.tupleExact _) (wpAny_newObj_type (wpAny_pure (wpAny_pure ⟨_, rfl, wpAny_pure h⟩)) htake))
    | exact wpAny_bind (wpAny_bind (m := Builtin.Tuple.tupleExact _) (wpAny_newObj_type (wpAny_pure ⟨_, rfl, wpAny_pure h⟩) htake))
end
end HT
namespace It
open PySem PySem.Spec PyProof.Rows L2
section
variable {X : Cx} {B : Bag} {Wx : WX} {pos p : Pos} {a b : Expr} {fa fb F : E}
def tRevA (K : PySem.W.Frag) (te : TE) : TE := fun σ H Q => te σ H fun x H1 => ∃ a xs, x = .ref a ∧ ((SqL K H1 a xs ∧ ∀ p, H1 p = none → Q (.ref p) (upd H1 p (.lst xs.reverse))) ∨ (SqT K H1 a xs ∧ ∀ p, H1 p = none → Q (.ref p) (upd H1 p (.tup xs.reverse))))
theorem pe_revA {e : Expr} {te : TE} {k : Nat} {p1 p2 p3 pos : Pos} (he : PE X e te) : PE X (.Subscript e (.Slice none none (some (.UnaryOp .USub (.Constant (.int 1) k p1) p2)) p3) pos) (tRevA X.K te) := by
  refine ⟨fun pins s σ H Q I h => ?_⟩
  refine Subscript_ (thn (he.run pins s σ H _ I h) fun v s1 ⟨x, H1, I1, r1, q1⟩ => ?_)
  obtain ⟨a, xs, ex, q⟩ := q1
  subst ex
  cases r1
  have hst : PO X (some (.UnaryOp .USub (.Constant (.int 1) k p1) p2)) (tPart (tUn (rU fun i => .int (-i)) (tC (.int 1)))) := po_some (pe_un un_neg pe_int)
  refine wpAny_Slice (thn (po_none.run pins s1 σ H1 (fun o H2 => o = none ∧ H2 = H1) I1 ⟨rfl, rfl⟩) fun vl s2 ⟨l, H2, I2, pl, el, e2⟩ => ?_)
  subst el e2
  refine thn (po_none.run pins s2 σ H2 (fun o H3 => o = none ∧ H3 = H2) I2 ⟨rfl, rfl⟩) fun vu s3 ⟨u, H3, I3, pu, eu, e3⟩ => ?_
  subst eu e3
  refine thn (hst.run pins s3 σ H3 (fun o H4 => o = some (-1) ∧ H4 = H3) I3 ⟨1, rfl, -1, rfl, rfl, rfl⟩) fun vs s4 ⟨o, H4, I4, ps, eo, e4⟩ => ?_
  subst eo e4
  have I5 : Inv X pins σ H4 { s4 with heap := s4.heap.push { cls := .type "slice", data := .fields #[vl, vu, vs] } } := I4.kept (t' := s4.toks) fun b ob q => Heap.get?_push_of_some _ q
  rcases q with ⟨hx, q⟩ | ⟨hx, q⟩
  · obtain ⟨its, r, ht, hz⟩ := I5.list hx
    have hlen := r.length
    show wpAny (model X.prog X.w) X.A (subscriptTail e (.Slice none none (some (.UnaryOp .USub (.Constant (.int 1) k p1) p2)) p3) (.ref a) (.ref s4.heap.objs.size)) (EP X pins σ Q) X.xe { s4 with heap := s4.heap.push { cls := .type "slice", data := .fields #[vl, vu, vs] } }
    refine tail_any (ops := [.ref a, .ref s4.heap.objs.size]) ht.isList.typeIs (PySem.slot_list_getitem.lookup) ?_ (by with_unfolding_all rfl)
    refine wpAny_getItem_list_slice ht.isList (Heap.IsSliceOf.new _ vl vu vs) pl pu ps (by decide) ?_ (by rw [List.size_toArray]; omega)
    rw [PySem.W.krv_pick]
    refine ⟨.ref _, _, I5.laid (t' := s4.toks) (o := .lst xs.reverse) (fun b ob q => Heap.get?_push_of_some _ q) (Nat.le_refl _) ?_, rfl, q _ (I5.hok.fresh (Nat.le_refl _))⟩
    exact ⟨by rw [List.length_reverse]; exact hz, _, 0, r.reverse, Heap.get?_push_size _ rfl⟩
  · obtain ⟨its, r, ht, hz⟩ := I5.tuple hx
    have hlen := r.length
    show wpAny (model X.prog X.w) X.A (subscriptTail e (.Slice none none (some (.UnaryOp .USub (.Constant (.int 1) k p1) p2)) p3) (.ref a) (.ref s4.heap.objs.size)) (EP X pins σ Q) X.xe { s4 with heap := s4.heap.push { cls := .type "slice", data := .fields #[vl, vu, vs] } }
    refine tail_any (ops := [.ref a, .ref s4.heap.objs.size]) ht.typeIs (PyProof.Rows.slot_tuple_getitem.lookup) ?_ (by with_unfolding_all rfl)
    cases pl
    cases pu
    refine HT.getItem_tuple_rev ht (Heap.IsSliceOf.new _ .none .none vs) ps ?_ (by rw [List.size_toArray]; omega)
    refine ⟨.ref _, _, I5.laid (t' := s4.toks) (o := .tup xs.reverse) (fun b ob q => Heap.get?_push_of_some _ q) (Nat.le_refl _) ?_, rfl, q _ (I5.hok.fresh (Nat.le_refl _))⟩
    exact ⟨by rw [List.length_reverse]; exact hz, _, r.reverse, IsTup.new _ _⟩
theorem revA_ok : ∀ (l a : List W), revA l a = l.reverse ++ a
  | [], _ => rfl
  | x :: l, a => by
    show revA l (x :: a) = _
    rw [revA_ok l (x :: a), List.reverse_cons, List.append_assoc]; rfl
theorem RVs.reverse {K : PySem.W.Frag} {m : Mp} {H : Hp} : ∀ {ws : List W} {xs : List V}, RVs K m H ws xs → RVs K m H ws.reverse xs.reverse
  | _, _, .nil => .nil
  | _, _, .cons a t => by
    rw [List.reverse_cons, List.reverse_cons]
    exact (RVs.reverse t).append (.cons a .nil)
theorem se_rev {k : Nat} {p1 p2 p3 pos : Pos} (ha : PE X a (tE X.K B Wx fa)) : PE X (.Subscript a (.Slice none none (some (.UnaryOp .USub (.Constant (.int 1) k p1) p2)) p3) pos) (tE X.K B Wx (eUn revK fa)) := peI (pe_revA ha) fun σ H Q q => by
  obtain ⟨m, l, h, k, x, rh, rl, e, hk, hx⟩ := q
  refine ⟨m, l, h, _, x, rh, rl, e, fun m1 v w h1 H1 x1 r1 rv e1 => ?_, hx⟩
  cases rv with
  | @tup ws xs p s t =>
    have e1' : k (.tup (revA ws [])) h1 = true := e1
    rw [revA_ok, List.append_nil] at e1'
    exact ⟨p, xs, rfl, .inr ⟨s, fun q hq => (hk.mono x1).newT r1 t.reverse e1' hq⟩⟩
  | @ref j p ej =>
    obtain ⟨l, e2, e3⟩ := hget_ok (show hget h1 j (fun l => halloc h1 (revA l []) k) = true from e1)
    obtain ⟨ws, xs, f1, f2, f3, _⟩ := sqL_ref r1 ej
    rw [f1] at e2; cases e2
    rw [revA_ok, List.append_nil] at e3
    exact ⟨p, xs, rfl, .inl ⟨f2, fun q hq => (hk.mono x1).newL r1 f3.reverse e3 hq⟩⟩
  | @fl ws xs p ej t =>
    have e1' : halloc h1 (revA ws []) k = true := e1
    rw [revA_ok, List.append_nil] at e1'
    exact ⟨p, xs, rfl, .inl ⟨sqL_fl ej, fun q hq => (hk.mono x1).newL r1 t.reverse e1' hq⟩⟩
  | _ => cases (show false = true from e1)
/-! ### isinstance -/
inductive Tn where
  | bool | int | str | list | tuple
  deriving DecidableEq
def Tn.s : Tn → String
  | .bool => "bool" | .int => "int" | .str => "str" | .list => "list" | .tuple => "tuple"
def tyN : W → String
  | .non => "NoneType" | .bl _ => "bool" | .int _ => "int" | .str _ => "str" | .tup _ => "tuple" | .ref _ => "list" | .fl _ => "list" | .exv _ _ => ""
def kitT (t : String) (n : Tn) : Bool := t == n.s || (t == "bool" && n == .int)
theorem kitB_ok : ∀ (w : W) (n : Tn), (∀ i l, w ≠ .exv i l) → kitB (tyN w) n.s = some (kitT (tyN w) n) := by
  have hk : ["NoneType", "bool", "int", "str", "tuple", "list"].all (fun t => [Tn.bool, .int, .str, .list, .tuple].all fun n => kitB t n.s == some (kitT t n)) = true := by decide +kernel
  intro w n hw
  have ht : tyN w ∈ ["NoneType", "bool", "int", "str", "tuple", "list"] := by
    cases w with
    | exv i l => exact absurd rfl (hw i l)
    | _ => simp [tyN]
  have hn : n ∈ [Tn.bool, .int, .str, .list, .tuple] := by cases n <;> simp
  exact eq_of_beq (List.all_eq_true.mp (List.all_eq_true.mp hk _ ht) _ hn)
theorem RV.tyX {K : PySem.W.Frag} {m : Mp} {h : IH} {H : Hp} (rh : RepH K m h H) {w : W} {v : V} (r : RV K m H w v) (hw : ∀ i l, w ≠ .exv i l) : TyX K H v (.type (tyN w)) := by
  cases r with
  | non => exact .base .non
  | bl b => exact .base (.bl b)
  | int i => exact .base (.int i)
  | str s => exact .base (.str s)
  | tup s t =>
    rcases s with (e | ⟨o, e⟩) | ⟨o, its, n, e, c, _⟩
    · exact .base (.tup e)
    · exact .fTuple e
    · exact .kTuple e c
  | ref e =>
    obtain ⟨_, _, _, _, e2, _⟩ := rh.get _ _ e
    exact .base (.lst e2)
  | fl e t =>
    rcases e with ⟨o, e⟩ | ⟨o, its, n, e, c, _⟩
    · exact .base (.frz e)
    · exact .kList e c
  | _ => exact absurd rfl (hw _ _)
theorem isi_noexv {m : Ty} {w : W} {c : Bool → Bool} (q : isiK m w c = true) : ∀ i l, w ≠ .exv i l := by
  intro i l e
  subst e
  cases (show false = true from q)
/-- the mask of some types -/
def Ty.of (l : List Tn) : Ty := ⟨l.any (· == .bool), l.any (· == .int), l.any (· == .str), l.any (· == .list), l.any (· == .tuple)⟩
theorem any_or {α : Type} (f g : α → Bool) : ∀ l : List α, l.any (fun n => f n || g n) = (l.any f || l.any g)
  | [] => rfl
  | n :: l => by rw [List.any_cons, List.any_cons, List.any_cons, any_or f g l]; cases f n <;> cases g n <;> simp
theorem any_no {α : Type} : ∀ l : List α, l.any (fun _ => false) = false
  | [] => rfl
  | n :: l => by rw [List.any_cons, any_no l]; rfl
theorem isiK_ok {l : List Tn} {w : W} {c : Bool → Bool} (q : isiK (Ty.of l) w c = true) (hw : ∀ i l, w ≠ .exv i l) : c (l.any (kitT (tyN w))) = true := by
  have key : ∀ (t : String) (f : Tn → Bool), tyN w = t → (∀ n, kitT t n = f n) → c (l.any f) = true → c (l.any (kitT (tyN w))) = true := fun t f ht hf q => by
    rw [ht, show kitT t = f from funext hf]; exact q
  cases w with
  | non =>
    refine key "NoneType" (fun _ => false) rfl (fun n => by cases n <;> decide) ?_
    rw [any_no]; exact q
  | bl b =>
    refine key "bool" (fun n => (n == .bool) || (n == .int)) rfl (fun n => by cases n <;> decide) ?_
    rw [any_or]; exact q
  | int i => exact key "int" (fun n => n == .int) rfl (fun n => by cases n <;> decide) q
  | str i => exact key "str" (fun n => n == .str) rfl (fun n => by cases n <;> decide) q
  | tup i => exact key "tuple" (fun n => n == .tuple) rfl (fun n => by cases n <;> decide) q
  | ref i => exact key "list" (fun n => n == .list) rfl (fun n => by cases n <;> decide) q
  | fl i => exact key "list" (fun n => n == .list) rfl (fun n => by cases n <;> decide) q
  | exv i l => exact absurd rfl (hw i l)
/-- a class's name -/
def tnOf (x : Str) : Option Tn := if x = "bool" then some .bool else if x = "int" then some .int else if x = "str" then some .str else if x = "list" then some .list else if x = "tuple" then some .tuple else none
theorem tnOf_ok {x : Str} {n : Tn} (h : tnOf x = some n) : x = Str.ofString n.s ∧ bootBuiltins x = some (.type n.s) ∧ x ≠ "__name__" ∧ (x == ("__debug__" : Str)) = false := by
  unfold tnOf at h
  have go : ∀ m : Tn, x = Str.ofString m.s → some m = some n → x = Str.ofString n.s ∧ bootBuiltins x = some (.type n.s) ∧ x ≠ "__name__" ∧ (x == ("__debug__" : Str)) = false := fun m e h => by
    cases h; subst e; cases n <;> exact ⟨rfl, by decide +kernel, by decide +kernel, by decide +kernel⟩
  by_cases h1 : x = "bool"
  · rw [if_pos h1] at h; exact go .bool h1 h
  by_cases h2 : x = "int"
  · rw [if_neg h1, if_pos h2] at h; exact go .int h2 h
  by_cases h3 : x = "str"
  · rw [if_neg h1, if_neg h2, if_pos h3] at h; exact go .str h3 h
  by_cases h4 : x = "list"
  · rw [if_neg h1, if_neg h2, if_neg h3, if_pos h4] at h; exact go .list h4 h
  by_cases h5 : x = "tuple"
  · rw [if_neg h1, if_neg h2, if_neg h3, if_neg h4, if_pos h5] at h; exact go .tuple h5 h
  · rw [if_neg h1, if_neg h2, if_neg h3, if_neg h4, if_neg h5] at h; cases h
theorem pe_cls {x : Str} {n : Tn} (h : tnOf x = some n) (hg : Gl X x) (hm : X.mg x = none) : PE X (.Name x p) (tC (.ty n.s)) := by
  obtain ⟨_, e2, e3, e4⟩ := tnOf_ok h
  exact pe_bltn hg hm e2 (show Value.type n.s = .type n.s from rfl) e3 e4
theorem isi_imp {K : PySem.W.Frag} {l : List Tn} (σ : L2.St) (H : Hp) (Q : VK) (q : tE K B Wx (eIsi (Ty.of l) fa) σ H Q) : tE K B Wx fa σ H (fun y H1 => ∃ w m h, RepH K m h H1 ∧ RV K m H1 w y ∧ (∀ i l, w ≠ .exv i l) ∧ ∀ m' h' H', Ext m H1 m' H' → RepH K m' h' H' → h' = h → Q (.bl (l.any (kitT (tyN w)))) H') := by
  obtain ⟨m, ll, h, k, x, rh, rl, e, hk, hx⟩ := q
  refine ⟨m, ll, h, _, x, rh, rl, e, fun m1 v w h1 H1 x1 r1 rv e1 => ⟨v, m1, h1, r1, rv, isi_noexv e1, fun m' h' H' x' r' eh => ?_⟩, hx⟩
  have q := isiK_ok (c := fun p => k (.bl p) h1) e1 (isi_noexv e1)
  subst eh
  exact hk m' _ _ _ H' (x1.trans x') r' (.bl _) q
theorem se_isi1 {x : Str} {n : Tn} (hg : Gl X "isinstance") (hm : X.mg "isinstance" = none) (h : tnOf x = some n) (hgx : Gl X x) (hmx : X.mg x = none) (ha : PE X a (tE X.K B Wx fa)) (ns : notStar a = true) : PE X (.Call (.Name "isinstance" p) [a, .Name x q] [] pos) (tE X.K B Wx (eIsi (Ty.of [n]) fa)) :=
  se_call2 call_isi hg hm boot_isinstance (by decide) (by decide) ha (pe_cls h hgx hmx) ns rfl fun σ H Q q => by
    obtain ⟨m, ll, hh, k, x, rh, rl, e, hk, hx⟩ := isi_imp σ H Q q
    refine ⟨m, ll, hh, k, x, rh, rl, e, fun m1 v w h1 H1 x1 r1 rv e1 => ?_, hx⟩
    obtain ⟨w', m2, h2, r2, rv2, nx, q2⟩ := hk m1 v w h1 H1 x1 r1 rv e1
    refine ⟨w, .ty n.s, .type (tyN w'), .type n.s, _, rfl, .ty _, rv2.tyX r2 nx, kit_ty (kitB_ok w' n nx), ?_⟩
    have := q2 m2 h2 H1 .refl r2 rfl
    rw [List.any_cons, List.any_nil, Bool.or_false] at this
    exact this
/-- a written tuple of classes -/
def tCls (l : List Tn) : TA := fun _ H Q => Q (l.map fun n => V.ty n.s) H
def clsOk (X : Cx) : List Expr → List Tn → Prop
  | [], [] => True
  | .Name x _ :: es, n :: l => tnOf x = some n ∧ Gl X x ∧ X.mg x = none ∧ clsOk X es l
  | _, _ => False
theorem pa_cls : ∀ (es : List Expr) (l : List Tn), clsOk X es l → PA X es (tCls l)
  | [], [], _ => paI pa_nil fun _ _ _ q => q
  | .Name x _ :: es, n :: l, ⟨h1, h2, h3, h4⟩ => paI (pa_cons (pe_cls h1 h2 h3) (pa_cls es l h4) rfl) fun _ _ _ q => q
theorem kitAny_ok {K : PySem.W.Frag} (w : W) (hw : ∀ i l, w ≠ .exv i l) : ∀ l : List Tn, PySem.W.kitAny K (.type (tyN w)) (l.map fun n => Value.type n.s) = some (l.any (kitT (tyN w)))
  | [] => rfl
  | n :: l => kitAny_cons (kit_ty (kitB_ok w n hw)) (fun e => by rw [List.any_cons, e, Bool.false_or]; exact kitAny_ok w hw l) (fun e => by rw [List.any_cons, e]; rfl)
theorem cls_pair : ∀ l : List Tn, Paired ClsV (l.map fun n => V.ty n.s) (l.map fun n => Value.type n.s)
  | [] => .nil
  | n :: l => .cons (.ty _) (cls_pair l)
theorem se_isiT {es : List Expr} {l : List Tn} {j : Nat} {q : Pos} (hg : Gl X "isinstance") (hm : X.mg "isinstance" = none) (h : clsOk X es l) (hl : l.length ≤ line) (ha : PE X a (tE X.K B Wx fa)) (ns : notStar a = true) : PE X (.Call (.Name "isinstance" p) [a, .Tuple es j q] [] pos) (tE X.K B Wx (eIsi (Ty.of l) fa)) :=
  se_call2 call_isiT hg hm boot_isinstance (by decide) (by decide) ha (pe_tup (pa_cls es l h)) ns rfl fun σ H Q q => by
    obtain ⟨m, ll, hh, k, x, rh, rl, e, hk, hx⟩ := isi_imp σ H Q q
    refine ⟨m, ll, hh, k, x, rh, rl, e, fun m1 v w h1 H1 x1 r1 rv e1 => ?_, hx⟩
    obtain ⟨w', m2, h2, r2, rv2, nx, q2⟩ := hk m1 v w h1 H1 x1 r1 rv e1
    refine ⟨by rw [List.length_map]; exact Nat.le_trans hl line_le, fun tp htp => ?_⟩
    refine ⟨w, tp, l.map fun n => V.ty n.s, .type (tyN w'), l.map fun n => Value.type n.s, _, rfl, upd_same, cls_pair l, (RV.mono r2 (.laid htp) rv2).tyX (r2.laid htp) nx, kitAny_ok w' nx l, q2 m2 h2 _ (.laid htp) (r2.laid htp) rfl⟩
end
end It

set_option Elab.async false
set_option linter.all false
set_option maxRecDepth 100000
set_option maxHeartbeats 1000000
/-! ItI: calls of the text's functions. -/
namespace It
open PySem PySem.Spec PyProof.Rows L2
def XkOk (K : PySem.W.Frag) (B : Bag) (m : Mp) (H : Hp) (x : KE) (E : XK) : Prop := ∀ m' v cls d h' H', Ext m H m' H' → RepH K m' h' H' → RX K B m' H' v cls d → x v h' = true → E cls d H'
/-- a function's promise: what the oracle says -/
def spF (K : PySem.W.Frag) (B : Bag) (i n : Nat) : Sp := fun vs H Q E => vs.length = n ∧ ∃ m h ws k x, RepH K m h H ∧ RVs K m H ws vs ∧ B.c i ws h k x = true ∧ KOk K m H k Q ∧ XkOk K B m H x E
section
variable {K : PySem.W.Frag} {B : Bag} {m m' : Mp} {h h' : IH} {H H' : Hp}
mutual
theorem RV.noref : ∀ {w : W} {v : V}, RV K m H w v → noref w = true → RV K m' H w v
  | _, _, .non, _ => .non
  | _, _, .bl b, _ => .bl b
  | _, _, .int i, _ => .int i
  | _, _, .str s, _ => .str s
  | _, _, .tup s t, e => .tup s (RVs.norefs t e)
  | _, _, .ref q, e => by cases (show false = true from e)
  | _, _, .fl q t, e => .fl q (RVs.norefs t e)
  | _, _, .fn, _ => .fn
  | _, _, .pl q, e => by cases (show false = true from e)
  | _, _, .dk q, e => by cases (show false = true from e)
  | _, _, .ins q, e => by cases (show false = true from e)
theorem RVs.norefs : ∀ {ws : List W} {vs : List V}, RVs K m H ws vs → norefs ws = true → RVs K m' H ws vs
  | _, _, .nil, _ => .nil
  | w :: ws, _, .cons a t, e => by
    have e' : and (It.noref w) (It.norefs ws) = true := e
    rw [Bool.and_eq_true] at e'
    exact .cons (RV.noref a e'.1) (RVs.norefs t e'.2)
end
def m0 : Mp := ⟨fun _ => none, fun _ => none⟩
theorem m0_no (a : Addr) : m0.no a := ⟨fun _ z => (nomatch z), fun _ _ z => (nomatch z)⟩
theorem rep00 (q : NdefX.TabsN (tabsK K) H) : RepH K m0 ih0 H := ⟨fun _ _ e => (nomatch e), fun _ _ _ e _ => (nomatch e), fun _ _ => rfl, q, ⟨fun _ _ _ e => (nomatch e), fun _ _ _ _ _ e _ => (nomatch e), fun _ _ => rfl, fun _ _ _ _ e _ => (nomatch e), fun _ _ _ e _ => (nomatch e)⟩⟩
theorem rep0 (r : RepH K m h H) : RepH K m0 ih0 H := rep00 r.tab
theorem Ext.back (r : RepH K m h H) (x : Ext m0 H m' H') : Ext m H m H' := ⟨fun _ _ e => e, fun _ _ e => .inl e, fun a o e _ nt => x.stay a o e (m0_no a) nt, x.there, fun k a xs _ e => ⟨xs, x.stay a _ e (m0_no a) (fun _ z => nomatch z), Nat.le_refl _⟩, .refl⟩
theorem RepH.back (r : RepH K m h H) (r' : RepH K m' h' H') (x : Ext m0 H m' H') : RepH K m h H' := ⟨fun k a e => by
  obtain ⟨z, ws, xs, e1, e2, e3⟩ := r.get k a e
  exact ⟨z, ws, xs, e1, x.stay a _ e2 (m0_no a) (fun _ z => nomatch z), RVs.mono r (Ext.back r x) e3⟩, r.inj, r.new, r'.tab, ⟨fun k t a e => by
  obtain ⟨z, ws, e1, e2⟩ := r.ob.get k t a e
  obtain ⟨u, hu, hb⟩ := e2.is
  exact ⟨z, ws, e1, e2.mono r (Ext.back r x) fun o q => x.stay a o q (m0_no a) (fun ps z => by
    rw [hu] at q; cases q; rw [z] at hb; cases hb)⟩, r.ob.inj, r.ob.new, r.ob.dis, r.ob.slot⟩⟩
/-- what a place from 1000 on says, its def says -/
def NG (c : Orc) (i : Nat) : Prop := ∀ ws k x, c (Nat.add i 1000) ws ih0 k x = true → c i ws ih0 (fun w _ => k w ih0) (fun w _ => x w ih0) = true
theorem goG_ok {n i : Nat} {ws : List W} {vs : List V} {k x : KE} {Q : VK} {E : XK} (ng : NG B.c i) (rh : RepH K m h H) (rv : RVs K m H ws vs) (hl : vs.length = n) (e : goG B.c i ws h k x = true) (hk : KOk K m H k Q) (hx : XkOk K B m H x E) : spF K B i n vs H Q E := by
  unfold goG at e
  rcases cond_t e with ⟨e1, e2⟩ | ⟨_, e2⟩
  · refine ⟨hl, m0, ih0, ws, _, _, rep0 rh, RVs.norefs rv e1, ng _ _ _ e2, fun m1 v w h1 H1 x1 r1 rv1 e3 => ?_, fun m1 v cls d h1 H1 x1 r1 rx e3 => ?_⟩
    · obtain ⟨f1, f2⟩ := cond_f e3
      exact hk m v w h H1 (Ext.back rh x1) (RepH.back rh r1 x1) (RV.noref rv1 f1) f2
    · obtain ⟨f1, f2⟩ := cond_f e3
      refine hx m v cls d h H1 (Ext.back rh x1) (RepH.back rh r1 x1) ?_ f2
      cases rx with
      | plain j hj => exact .plain j hj
      | one j dx w x hj hd rw1 =>
        refine .one j dx w x hj hd (RV.noref rw1 ?_)
        have f1' : and (noref w) true = true := f1
        rw [Bool.and_true] at f1'
        exact f1'
  · exact ⟨hl, m, h, ws, k, x, rh, rv, e2, hk, hx⟩
end
/-- a function that may be called: its place in the program, its parameters -/
structure FnA (X : Cx) (B : Bag) (x : Str) (i n : Nat) : Prop where
  ex : ∃ (k : Nat) (f : Addr) (fd : FuncData) (ps : List Str), FnOk X.prog X.w X.K X.mg X.base (L2.CX X.prog X.w) k f fd ps (spF X.K B i n) ∧ Room k X.A ∧ X.mg x = some (.ref f) ∧ PySem.W.keepIn X.K (.ref f) = true ∧ Binds X.K fd ps []
  ng : NG B.c i
section
variable {X : Cx} {B : Bag} {Wx : WX} {pos p : Pos} {a b : Expr} {fa fb F : E}
theorem xk_of {K : PySem.W.Frag} {m : Mp} {H : Hp} {σ : L2.St} {x : KE} (hx : XOk K B m H σ x Wx) : XkOk K B m H x (WE Wx σ) := fun m' v cls d h' H' x1 r rx e => hx m' v cls d h' H' x1 r rx e
theorem se_fn {x : Str} {i n : Nat} {e : Expr} {es : List Expr} {g : Es} (F : FnA X B x i n) (hg : Gl X x) (tk : Takes X Wx) (ha : PA X (e :: es) (tA X.K B Wx n g)) (hdb : (x == ("__debug__" : Str)) = false)
    (he : starEach (e :: es) X.env = (false, eval e X.env) :: starEach es X.env) (hpl : (backTo pos (starEach es X.env)).any (·.1) = false) : PE X (.Call (.Name x p) (e :: es) [] pos) (tE X.K B Wx (eCall i g)) := by
  obtain ⟨k, f, fd, ps, F, hr, hm, hk, hb⟩ := F.ex
  refine peI (pe_callS F hr hg hm hk hb (fun σ => passAt tk σ) ha hdb he hpl) fun σ H Q ⟨m, l, h, k, x, rh, rl, e, hk, hx⟩ => ?_
  refine ⟨m, l, h, _, x, rh, rl, e, fun m1 ws xs h1 H1 x1 r1 rv hl e1 => ?_, hx⟩
  exact ⟨hl, m1, h1, ws, k, x, r1, rv, e1, hk.mono x1, xk_of (hx.mono x1)⟩
theorem se_fnG {x : Str} {i n : Nat} {e : Expr} {es : List Expr} {g : Es} (F : FnA X B x i n) (hg : Gl X x) (tk : Takes X Wx) (ha : PA X (e :: es) (tA X.K B Wx n g)) (hdb : (x == ("__debug__" : Str)) = false)
    (he : starEach (e :: es) X.env = (false, eval e X.env) :: starEach es X.env) (hpl : (backTo pos (starEach es X.env)).any (·.1) = false) : PE X (.Call (.Name x p) (e :: es) [] pos) (tE X.K B Wx (eCallG i g)) := by
  have G := F.ng
  obtain ⟨k, f, fd, ps, F, hr, hm, hk, hb⟩ := F.ex
  refine peI (pe_callS F hr hg hm hk hb (fun σ => passAt tk σ) ha hdb he hpl) fun σ H Q ⟨m, l, h, k, x, rh, rl, e, hk, hx⟩ => ?_
  refine ⟨m, l, h, _, x, rh, rl, e, fun m1 ws xs h1 H1 x1 r1 rv hl e1 => ?_, hx⟩
  exact goG_ok G r1 rv hl e1 (hk.mono x1) (xk_of (hx.mono x1))
/-- f() -/
theorem pe_callS0 {CX : CXT} {k : Nat} {f : Addr} {fd : FuncData} {ps : List Str} {sp : Sp} {E : L2.St → XK} {x : Str} (F : FnOk X.prog X.w X.K X.mg X.base CX k f fd ps sp) (hr : Room k X.A) (hg : Gl X x) (hm : X.mg x = some (.ref f)) (hk : PySem.W.keepIn X.K (.ref f) = true) (hb : Binds X.K fd ps []) (hx : ∀ σ, PassesAt CX X σ (E σ))
    (hdb : (x == ("__debug__" : Str)) = false) : PE X (.Call (.Name x p) [] [] pos) (fun σ H Q => sp [] H Q (E σ)) := by
  refine ⟨fun pins s σ H Q I h => ?_⟩
  refine wpAny_Call_Name_kw (ld_glob I hg hm ?_ hdb)
  exact PySem.W.callWith_K0 I.kIn hk (run_fnS (us := []) F hr hb (hx σ) I .nil h)
theorem se_fnG0 {x : Str} {i : Nat} (F : FnA X B x i 0) (hg : Gl X x) (tk : Takes X Wx) (hdb : (x == ("__debug__" : Str)) = false) : PE X (.Call (.Name x p) [] [] pos) (tE X.K B Wx (eCallG i asNil)) := by
  have G := F.ng
  obtain ⟨k, f, fd, ps, F, hr, hm, hk, hb⟩ := F.ex
  refine peI (pe_callS0 F hr hg hm hk hb (fun σ => passAt tk σ) hdb) fun σ H Q ⟨m, l, h, k, x, rh, rl, e, hk, hx⟩ => ?_
  exact goG_ok G rh .nil rfl e hk (xk_of hx)
theorem se_fn0 {x : Str} {i : Nat} (F : FnA X B x i 0) (hg : Gl X x) (tk : Takes X Wx) (hdb : (x == ("__debug__" : Str)) = false) : PE X (.Call (.Name x p) [] [] pos) (tE X.K B Wx (eCall i asNil)) := by
  obtain ⟨k, f, fd, ps, F, hr, hm, hk, hb⟩ := F.ex
  refine peI (pe_callS0 F hr hg hm hk hb (fun σ => passAt tk σ) hdb) fun σ H Q ⟨m, l, h, k, x, rh, rl, e, hk, hx⟩ => ?_
  exact ⟨rfl, m, h, [], k, x, rh, .nil, e, hk, xk_of hx⟩
/-! ### globals that hold tuples of ints and texts -/
theorem se_glo {x : Str} {w : W} {v : V} {u : Value} (hg : Gl X x) (hm : X.mg x = some u) (r : RelV v u) (hd : (x == ("__debug__" : Str)) = false) (rv : ∀ H, RV X.K m0 H w v) (hw : noref w = true) : PE X (.Name x pos) (tE X.K B Wx (eGlo w)) :=
  peI (pe_glob hg hm r hd) fun σ H Q ⟨m, l, h, k, x, rh, rl, e, hk, hx⟩ => hk m _ _ h H .refl rh (RV.noref (rv H) hw) e
end
end It

set_option Elab.async false
set_option linter.all false
set_option maxRecDepth 100000
set_option maxHeartbeats 1000000
/-! ItJ: iterators over lists and tuples: zip and enumerate of either. -/
namespace It
open PySem PySem.Spec PyProof.Rows L2
def SqB (K : PySem.W.Frag) : Bool → Hp → Addr → List V → Prop
  | true, H, a, xs => SqL K H a xs
  | false, H, a, xs => SqT K H a xs
def itAt : Bool → Heap → Addr → Addr → Nat → Prop
  | true, h, it, a, i => h.IsListIter it a i
  | false, h, it, a, i => h.IsTupleIter it a i
theorem itAt.obj : ∀ {L : Bool} {h : Heap} {it a : Addr} {i : Nat}, itAt L h it a i → ∃ o, h.get? it = some o ∧ ∀ v, o.data ≠ .cell v
  | true, _, _, _, _, ⟨o, e, _, d⟩ => ⟨o, e, fun v q => by rw [d] at q; cases q⟩
  | false, _, _, _, _, ⟨o, e, _, d⟩ => ⟨o, e, fun v q => by rw [d] at q; cases q⟩
theorem itAt.at : ∀ {L : Bool} {h h' : Heap} {it a : Addr} {i : Nat}, itAt L h it a i → (∀ o, h.get? it = some o → h'.get? it = some o) → itAt L h' it a i
  | true, _, _, _, _, _, q, k => Heap.IsListIter.at q k
  | false, _, _, _, _, _, q, k => Heap.IsTupleIter.at q k
section
variable {X : Cx} {pins : List (Addr × Obj)} {σ : L2.St} {H : Hp} {s : Shared} {a it : Addr} {xs ys : List V} {i : Nat}
theorem sqB_inj (I : Inv X pins σ H s) : ∀ {L : Bool}, SqB X.K L H a xs → SqB X.K L H a ys → xs = ys
  | true, p, q => I.list_inj p q
  | false, p, q => I.tuple_inj p q
theorem sqB_lt (I : Inv X pins σ H s) : ∀ {L : Bool}, SqB X.K L H a xs → a < s.heap.objs.size
  | true, p => by obtain ⟨_, _, q, _⟩ := I.list p; exact q.lt
  | false, p => by obtain ⟨_, _, q, _⟩ := I.tuple p; exact q.lt
theorem drawsB (I : Inv X pins σ H s) (hc : X.calm = true) (hne : a ≠ it) : ∀ {L : Bool}, SqB X.K L H a xs → itAt L s.heap it a i →
    ∃ (its : List Value) (St : Nat → Heap → Prop), Vals xs its ∧ Draws X.prog X.w X.A.in1 it [it, a] its.length (fun i v => its[i]? = some v) St ∧ St i s.heap ∧ ∀ j h', St j h' → itAt L h' it a j
  | true, p, hit => by
    obtain ⟨its, rv, q, _⟩ := I.list p
    refine ⟨its, fun i h => h.IsListIter it a i ∧ h.IsList a its.toArray, rv, ?_, ⟨hit, q.isList⟩, fun j h' z => z.1⟩
    have D := Draws.list (prog := X.prog) (w := X.w) (A := X.A.in1) (I.ok.hd hc) it a hne its.toArray
    simpa only [List.size_toArray, List.getElem?_toArray] using D
  | false, p, hit => by
    obtain ⟨its, rv, q, _⟩ := I.tuple p
    refine ⟨its, fun i h => h.IsTupleIter it a i ∧ h.IsTuple a its.toArray, rv, ?_, ⟨hit, q⟩, fun j h' z => z.1⟩
    have D := Draws.tuple (prog := X.prog) (w := X.w) (A := X.A.in1) (I.ok.hd hc) it a hne its.toArray
    simpa only [List.size_toArray, List.getElem?_toArray] using D
theorem beginsB (I : Inv X pins σ H s) : ∀ {L : Bool}, SqB X.K L H a xs → ∃ (o : Obj) (Hs : Heap → Prop), Begins (.ref a) o Hs ∧ Hs s.heap ∧ ∀ h' it, h'.get? it = some o → itAt L h' it a 0
  | true, p => by
    obtain ⟨its, rv, q, _⟩ := I.list p
    exact ⟨_, _, begins_list a its.toArray, q.isList, fun h' it e => ⟨_, e, rfl, rfl⟩⟩
  | false, p => by
    obtain ⟨its, rv, q, _⟩ := I.tuple p
    exact ⟨_, _, begins_tuple a its.toArray, q, fun h' it e => ⟨_, e, rfl, rfl⟩⟩
end
/-! ### zip -/
def ItZ (K : PySem.W.Frag) (La : Bool) (a : Addr) (Lb : Bool) (b : Addr) : It :=
  ⟨fun i H => ∃ (xs ys : List V) (x y : V), SqB K La H a xs ∧ SqB K Lb H b ys ∧ xs[i]? = some x ∧ ys[i]? = some y,
    fun i H v H' => ∃ T x y, v = .ref T ∧ H T = none ∧ H' = upd H T (.tup [x, y]) ∧ (∀ xs, SqB K La H a xs → xs[i]? = some x) ∧ ∀ ys, SqB K Lb H b ys → ys[i]? = some y,
    fun i H => ∃ xs ys : List V, SqB K La H a xs ∧ SqB K Lb H b ys ∧ i ≤ xs.length ∧ i ≤ ys.length ∧ (xs.length ≤ i ∨ ys.length ≤ i)⟩
theorem turn_zipB {P : Program} {w : World} {K : PySem.W.Frag} {elts : List Expr} {kk : Nat} {tpos : Pos} {La Lb : Bool} {a b z TI TO i1 i2 : Addr} (S : ZipSep2 z TI TO i1 i2 [i1, a] [i2, b]) (na : a ≠ i1) (nb : b ≠ i2) :
    Turn P w K (.Tuple elts kk tpos) (ItZ K La a Lb b) [z, TI, TO, i1, i2] z (fun i h => IsZip h z TI TO .none ∧ IsTupOf2 h TI (.ref i1) (.ref i2) ∧ (∃ x y, IsTupOf2 h TO x y) ∧ itAt La h i1 a i ∧ itAt Lb h i2 b i) where
  mem := by simp
  obj := fun i h st c hc => by
    obtain ⟨hz, hTI, ⟨x, y, hTO⟩, h1, h2⟩ := st
    have e' : c = z ∨ c = TI ∨ c = TO ∨ c = i1 ∨ c = i2 := by simpa using hc
    rcases e' with q | q | q | q | q
    · rw [q]; exact ⟨_, hz, fun v q => nomatch q⟩
    · rw [q]; exact ⟨_, hTI, fun v q => nomatch q⟩
    · rw [q]; exact ⟨_, hTO, fun v q => nomatch q⟩
    · rw [q]; exact h1.obj
    · rw [q]; exact h2.obj
  keep := fun i h h' st k => by
    obtain ⟨hz, hTI, ⟨x, y, hTO⟩, h1, h2⟩ := st
    exact ⟨k z (by simp) _ hz, k TI (by simp) _ hTI, ⟨x, y, k TO (by simp) _ hTO⟩, h1.at fun o q => k i1 (by simp) o q, h2.at fun o q => k i2 (by simp) o q⟩
  item := by
    intro X hP hw hK hc i pins s σ H E I hf st hg
    subst hP hw hK
    obtain ⟨hz, hTI, ⟨x0, y0, hTO⟩, h1, h2⟩ := st
    obtain ⟨xs, ys, x, y, hqx, hqy, hx, hy⟩ := hg
    obtain ⟨its, St1, rv, D1, s1, k1⟩ := drawsB I hc na hqx h1
    obtain ⟨its2, St2, rv2, D2, s2, k2⟩ := drawsB I hc nb hqy h2
    obtain ⟨u, hu, ru⟩ := rv.get hx
    obtain ⟨u2, hu2, ru2⟩ := rv2.get hy
    have hzl : z < s.heap.objs.size := Heap.lt_size hz
    have l1 : i < its.length := (List.getElem?_eq_some_iff.mp hu).1
    have l2 : i < its2.length := (List.getElem?_eq_some_iff.mp hu2).1
    refine wpAny_pyNext_zipD2_item S D1 D2 hz hTI hTO s1 s2 l1 l2 fun v1 v2 h' tk p1 p2 z' TO' s1' s2' hT hsz hk => ?_
    have e1 : v1 = u := by rw [hu] at p1; exact (Option.some.inj p1).symm
    have e2 : v2 = u2 := by rw [hu2] at p2; exact (Option.some.inj p2).symm
    subst e1 e2
    refine ⟨_, rfl, wpAny_letOwnedTupleGo_zip (s := { s with heap := h', toks := tk }) z' fun h'' z'' sb => ?_⟩
    have hT2 : h''.get? s.heap.objs.size = some { cls := .type "tuple", data := .seq #[v1, v2] } := (sb.2 _ (Nat.ne_of_gt hzl)).trans hT
    have new : ObjOk X.prog X.w (upd H s.heap.objs.size (.tup [x, y])) h'' s.heap.objs.size (.tup [x, y]) :=
      ⟨by show 2 ≤ sizeLine; decide, [v1, v2], .cons ru (.cons ru2 .nil), ⟨_, hT2, rfl, _, rfl⟩⟩
    have I1 : Inv X pins σ (upd H s.heap.objs.size (.tup [x, y])) { s with heap := h'', toks := tk } :=
      I.turnedNew (t' := tk) (ch := [z, TI, TO, i1, i2]) (fun c o hb q => (sb.2 c (fun q' => hb (by simp [q']))).trans (hk c o (fun q' => hb (by simp [q'])) (fun q' => hb (by simp [q'])) (fun q' => hb (by simp [q'])) (fun q' => hb (by simp [q'])) q)) hf (Nat.le_refl _) new
    have i1z : i1 ≠ z := fun e => S.zi1 e.symm
    have i2z : i2 ≠ z := fun e => S.zi2 e.symm
    refine ⟨.ref s.heap.objs.size, _, I1, rfl, ⟨_, x, y, rfl, I.hok.fresh (Nat.le_refl _), rfl, fun l hl => by rw [sqB_inj I hl hqx]; exact hx, fun l hl => by rw [sqB_inj I hl hqy]; exact hy⟩, ⟨z'', ?_, ⟨v1, v2, ?_⟩, ?_, ?_⟩, fun c hcm => ?_⟩
    · exact (sb.2 _ S.TIz).trans (hk _ _ S.TIz S.TITO S.TIi1 S.TIi2 hTI)
    · exact (sb.2 _ S.TOz).trans TO'
    · exact (k1 _ _ s1').at fun o q => (sb.2 _ i1z).trans q
    · exact (k2 _ _ s2').at fun o q => (sb.2 _ i2z).trans q
    · have hlt : c < s.heap.objs.size := by
        have e' : c = z ∨ c = TI ∨ c = TO ∨ c = i1 ∨ c = i2 := by simpa using hcm
        rcases e' with q | q | q | q | q
        · rw [q]; exact hzl
        · rw [q]; exact Heap.lt_size hTI
        · rw [q]; exact Heap.lt_size hTO
        · rw [q]; obtain ⟨_, e1, _⟩ := h1.obj; exact Heap.lt_size e1
        · rw [q]; obtain ⟨_, e2, _⟩ := h2.obj; exact Heap.lt_size e2
      rw [upd_ne (Nat.ne_of_lt hlt)]
      exact (hf c hcm).1
  done := by
    intro X hP hw hK hc i pins s σ H E I hf st hg
    subst hP hw hK
    obtain ⟨hz, hTI, ⟨x0, y0, hTO⟩, h1, h2⟩ := st
    obtain ⟨xs, ys, hqx, hqy, hi1, hi2, hend⟩ := hg
    obtain ⟨its, St1, rv, D1, s1, k1⟩ := drawsB I hc na hqx h1
    obtain ⟨its2, St2, rv2, D2, s2, k2⟩ := drawsB I hc nb hqy h2
    have l1 := rv.length
    have l2 := rv2.length
    exact wpAny_pyNext_zipD2_end S D1 D2 hz hTI hTO s1 s2 (by omega) (by omega) (by omega) fun h' tk hk => ⟨rfl, I.turnedL (t' := tk) (ch := [z, TI, TO, i1, i2]) (fun c o hb q =>
      hk c o (fun q' => hb (by simp [q'])) (fun q' => hb (by simp [q'])) (fun q' => hb (by simp [q'])) (fun q' => hb (by simp [q'])) q) hf⟩
  self := fun A i s Q E st h => wpAny_pyIter_zip st.1 h
/-! ### enumerate -/
def ItE (K : PySem.W.Frag) (L : Bool) (a : Addr) : It :=
  ⟨fun i H => ∃ (xs : List V) (x : V), SqB K L H a xs ∧ xs[i]? = some x, fun i H v H' => ∃ T x, v = .ref T ∧ H T = none ∧ H' = upd H T (.tup [.int (i : Nat), x]) ∧ ∀ xs, SqB K L H a xs → xs[i]? = some x,
    fun i H => ∃ xs : List V, SqB K L H a xs ∧ xs.length = i⟩
theorem turn_enumB {P : Program} {w : World} {K : PySem.W.Frag} {elts : List Expr} {kk : Nat} {tpos : Pos} {L : Bool} {a e it : Addr} (na : a ≠ it) (nae : e ≠ a) :
    Turn P w K (.Tuple elts kk tpos) (ItE K L a) [e, it] e (fun i h => (∃ old, IsEnum h e it ((i : Nat) : Int) old) ∧ itAt L h it a i ∧ e ≠ it) where
  mem := by simp
  obj := fun i h st b hb => by
    obtain ⟨⟨old, he⟩, h1, _⟩ := st
    have e' : b = e ∨ b = it := by simpa using hb
    rcases e' with z | z
    · rw [z]; exact ⟨_, he, fun v q => nomatch q⟩
    · rw [z]; exact h1.obj
  keep := fun i h h' st k => let ⟨⟨old, he⟩, hi, hne⟩ := st; ⟨⟨old, k e (by simp) _ he⟩, hi.at fun o q => k it (by simp) o q, hne⟩
  item := by
    intro X hP hw hK hc i pins s σ H E I hf st hg
    subst hP hw hK
    obtain ⟨⟨old, he⟩, hit, hne⟩ := st
    obtain ⟨xs, x, hq, hx⟩ := hg
    obtain ⟨its, St1, rv, D1, s1, k1⟩ := drawsB I hc na hq hit
    obtain ⟨u, hu, ru⟩ := rv.get hx
    have l1 : i < its.length := (List.getElem?_eq_some_iff.mp hu).1
    have hel : e < s.heap.objs.size := Heap.lt_size he
    have hil : it < s.heap.objs.size := by obtain ⟨_, q, _⟩ := hit.obj; exact Heap.lt_size q
    refine wpAny_pyNext_enum_itemD D1 he s1 l1 hne (by simp [hne, nae]) fun v h' tk p1 ho s1' hT hsz hk => ?_
    have e1 : v = u := by rw [hu] at p1; exact (Option.some.inj p1).symm
    subst e1
    refine ⟨_, rfl, wpAny_letOwnedTupleGo_enum (s := { s with heap := h', toks := tk + 1 }) ho fun h'' he' sb => ?_⟩
    have hT2 : h''.get? s.heap.objs.size = some { cls := .type "tuple", data := .seq #[.int i tk, v] } := (sb.2 _ (Nat.ne_of_gt hel)).trans hT
    have new : ObjOk X.prog X.w (upd H s.heap.objs.size (.tup [.int (i : Nat), x])) h'' s.heap.objs.size (.tup [.int (i : Nat), x]) :=
      ⟨by show 2 ≤ sizeLine; decide, [.int i tk, v], .cons ⟨_, rfl⟩ (.cons ru .nil), ⟨_, hT2, rfl, _, rfl⟩⟩
    have I1 : Inv X pins σ (upd H s.heap.objs.size (.tup [.int (i : Nat), x])) { s with heap := h'', toks := tk + 1 } :=
      I.turnedNew (t' := tk + 1) (ch := [e, it]) (fun b ob hb q => (sb.2 b (fun z => hb (by simp [z]))).trans (hk b ob (fun z => hb (by simp [z])) (fun z => hb (by simp [z])) q)) hf (Nat.le_refl _) new
    refine ⟨.ref s.heap.objs.size, _, I1, rfl, ⟨_, x, rfl, I.hok.fresh (Nat.le_refl _), rfl, fun ys hy => by rw [sqB_inj I hy hq]; exact hx⟩, ⟨⟨v, ?_⟩, (k1 _ _ s1').at fun o q => (sb.2 it (Ne.symm hne)).trans q, hne⟩, fun b hb => ?_⟩
    · have e1 : ((i + 1 : Nat) : Int) = (i : Int) + 1 := by omega
      rw [e1]; exact he'
    · have hb' : b < s.heap.objs.size := by
        have e' : b = e ∨ b = it := by simpa using hb
        rcases e' with z | z
        · rw [z]; exact hel
        · rw [z]; exact hil
      rw [upd_ne (Nat.ne_of_lt hb')]
      exact (hf b hb).1
  done := by
    intro X hP hw hK hc i pins s σ H E I hf st hg
    subst hP hw hK
    obtain ⟨⟨old, he⟩, hit, hne⟩ := st
    obtain ⟨xs, hq, hx⟩ := hg
    obtain ⟨its, St1, rv, D1, s1, k1⟩ := drawsB I hc na hq hit
    have hl := rv.length
    obtain ⟨f0, f1, f2, f3, f4, f5⟩ := hf it (by simp)
    exact wpAny_pyNext_enum_endD D1 he (by rw [← hl, hx]; exact s1) fun h' eb => ⟨rfl, I.turned (t' := s.toks) (fun b o hb q => eb b o hb q) f0 f1 f3 f4 f5⟩
  self := fun A i s Q E st h => let ⟨⟨_, he⟩, _⟩ := st; wpAny_pyIter_enum he h
set_option maxHeartbeats 2000000 in
theorem meets_enum1 {v : Value} {o : Obj} {H : Heap → Prop} (B : Begins v o H) :
    Meets (Builtin.«enumerate.__new__» ⟨[.type "enumerate", v], []⟩) (fun _ R s => H s.heap ∧
      R (.ok (.ret (.ref (s.heap.push o).objs.size))) { s with heap := (s.heap.push o).push { cls := .type "enumerate", data := .fields #[.none, .bool false, .ref s.heap.objs.size, rawInt 0, .none, .none] } }) :=
  .of_wp fun prog w A R s h => by
    obtain ⟨hp, g, d, tk, os⟩ := s; obtain ⟨h1, h⟩ := h
    have hsub := sub_enumerate
    have q1 : ∀ {A' : Around} {E : Value → Shared → Prop} {Q : Value → Shared → Prop}, Q (.ref hp.objs.size) ⟨hp.push o, g, d, tk, os⟩ → wpAny (model prog w) A' (pyIter v) Q E ⟨hp, g, d, tk, os⟩ :=
      fun q => B.iter prog w _ _ ⟨hp, g, d, tk, os⟩ _ h1 q
    wp_walk using q1
    refine wpAny_stack_any fun st => wpAny_pure ?_
    split
    · rename_i c _ _ _ _ _
      cases (c == Value.type "enumerate")
      · wp_walk using q1
        exact ⟨_, rfl, h⟩
      · wp_walk using q1
        exact ⟨_, rfl, h⟩
    · wp_walk using q1
      exact ⟨_, rfl, h⟩
theorem enum_begins1 {prog : Program} {w : World} {A : Around} {E : Value → Shared → Prop} {s : Shared} {v : Value} {o : Obj} {H : Heap → Prop} {Q : Value → Shared → Prop} (B : Begins v o H) (h1 : H s.heap)
    (h : ∀ h', IsEnum h' (s.heap.objs.size + 1) s.heap.objs.size 0 .none → h'.get? s.heap.objs.size = some o → h'.objs.size = s.heap.objs.size + 2 →
      (∀ b o, s.heap.get? b = some o → h'.get? b = some o) → Q (.ref (s.heap.objs.size + 1)) { s with heap := h' }) :
    wpAny (model prog w) A (call (.type "enumerate") [v]) Q E s := by
  refine callType_new F.called_enumerate (by decide) (F.typeCall_enumerate_1 _) (F.newCall_enumerate_1 _) (fun obj => F.args_object_init_2 obj _) F.entry_enumerate_new
    (meets_enum1 B) ⟨h1, ?_⟩
  have hz : (s.heap.push o).objs.size = s.heap.objs.size + 1 := Heap.size_push ..
  show _ ∧ _
  rw [hz]
  have he : IsEnum ((s.heap.push o).push { cls := .type "enumerate", data := .fields #[.none, .bool false, .ref s.heap.objs.size, rawInt 0, .none, .none] }) (s.heap.objs.size + 1) s.heap.objs.size 0 .none := by
    have := Heap.get?_push_size (s.heap.push o) (o := { cls := .type "enumerate", data := .fields #[.none, .bool false, .ref s.heap.objs.size, rawInt 0, .none, .none] }) rfl
    rw [hz] at this; exact this
  refine ⟨⟨_, he, rfl⟩, h _ he (Heap.get?_push_of_some _ (Heap.get?_push_size _ B.free)) (by rw [Heap.size_push, hz]) fun b o x => Heap.get?_push_of_some _ (Heap.get?_push_of_some _ x)⟩
/-! ### the iterators come -/
theorem zsep (n a b : Nat) (ha : a < n) (hb : b < n) : ZipSep2 (n + 4) (n + 2) (n + 3) n (n + 1) [n, a] [n + 1, b] := by
  have no : ∀ {x y z : Nat}, x ≠ y → x ≠ z → x ∉ [y, z] := fun h1 h2 h => by
    rcases List.mem_cons.mp h with e | h
    · exact h1 e
    · exact h2 (List.mem_singleton.mp h)
  exact ⟨fun (e : n + 2 = n + 4) => by omega, fun (e : n + 3 = n + 4) => by omega, fun (e : n + 2 = n + 3) => by omega, fun (e : n + 2 = n) => by omega, List.mem_cons_self, no (by omega) (by omega), no (by omega) (by omega),
    fun (e : n + 2 = n + 1) => by omega, List.mem_cons_self, no (by omega) (by omega), no (by omega) (by omega), no (by omega) (by omega), no (by omega) (by omega)⟩
theorem ne_lt {n a : Nat} (h : a < n) : a ≠ n := Nat.ne_of_lt h
section
variable {X : Cx} {e e2 : Expr} {p pos tpos : Pos} {elts : List Expr} {kk : Nat}
def iZB (K : PySem.W.Frag) (ta : TA) : TI := fun σ H R => ta σ H fun vs H1 => ∃ La a Lb b xs ys, vs = [.ref a, .ref b] ∧ SqB K La H1 a xs ∧ SqB K Lb H1 b ys ∧ R (ItZ K La a Lb b) H1
theorem pi_zipB {ta : TA} (hg : Gl X "zip") (hm : X.mg "zip" = none) (ha : PA X [e, e2] ta)
    (hs : starEach [e, e2] X.env = (false, eval e X.env) :: starEach [e2] X.env) (hpl : (backTo pos (starEach [e2] X.env)).any (·.1) = false) :
    PI X (.Tuple elts kk tpos) (.Call (.Name "zip" p) [e, e2] [] pos) (iZB X.K ta) := by
  refine ⟨fun pins s σ H R I h => ?_⟩
  refine Call_ (ld_blt I hg hm PyProof.Rows.boot_zip (PyProof.Rows.callWith_type1 (thn (ha.run pos pins s σ H _ I h) fun us s1 ⟨vs, H1, I1, r1, q1⟩ => ?_) hs hpl))
  obtain ⟨La, a, Lb, b, xs, ys, ex, hqx, hqy, q⟩ := q1
  subst ex
  cases r1 with
  | cons r rr =>
    cases rr with
    | cons r' rr =>
      cases rr
      cases r
      cases r'
      have la := sqB_lt I1 hqx
      have lb := sqB_lt I1 hqy
      obtain ⟨o1, H1s, B1, b1, f1⟩ := beginsB I1 hqx
      obtain ⟨o2, H2s, B2, b2, f2⟩ := beginsB I1 hqy
      have fresh5 : ∀ c, c ∈ [s1.heap.objs.size + 4, s1.heap.objs.size + 2, s1.heap.objs.size + 3, s1.heap.objs.size, s1.heap.objs.size + 1] → FpOk X pins H1 c := fun c hcm => by
        have e' : c = s1.heap.objs.size + 4 ∨ c = s1.heap.objs.size + 2 ∨ c = s1.heap.objs.size + 3 ∨ c = s1.heap.objs.size ∨ c = s1.heap.objs.size + 1 := by simpa using hcm
        have hle : s1.heap.objs.size ≤ c := by
          rcases e' with z | z | z | z | z
          · rw [z]; exact Nat.le_add_right _ _
          · rw [z]; exact Nat.le_add_right _ _
          · rw [z]; exact Nat.le_add_right _ _
          · rw [z]; exact Nat.le_refl _
          · rw [z]; exact Nat.le_add_right _ _
        exact I1.fpOk hle (I1.hok.fresh hle)
      refine zip_begins2 B1 B2 b1 b2 fun h' hz hTI hTO g1 g2 hsz hk => wpAny_pyIter_zip hz ?_
      have I2 : Inv X pins σ H1 { s1 with heap := h' } := I1.kept (t' := s1.toks) hk
      refine ⟨s1.heap.objs.size + 4, [s1.heap.objs.size + 4, s1.heap.objs.size + 2, s1.heap.objs.size + 3, s1.heap.objs.size, s1.heap.objs.size + 1], _, _, H1, rfl, I2, turn_zipB (zsep _ _ _ la lb) (ne_lt la) (ne_lt (Nat.lt_succ_of_lt lb)), ⟨hz, hTI, ⟨_, _, hTO⟩, f1 _ _ g1, f2 _ _ g2⟩, fresh5, q⟩
def iEB (K : PySem.W.Frag) (ta : TA) : TI := fun σ H R => ta σ H fun vs H1 => ∃ L a xs, vs = [.ref a] ∧ SqB K L H1 a xs ∧ R (ItE K L a) H1
theorem pi_enumB {ta : TA} (hg : Gl X "enumerate") (hm : X.mg "enumerate" = none) (ha : PA X [e] ta) (hs : starEach [e] X.env = [(false, eval e X.env)]) :
    PI X (.Tuple elts kk tpos) (.Call (.Name "enumerate" p) [e] [] pos) (iEB X.K ta) := by
  refine ⟨fun pins s σ H R I h => ?_⟩
  refine Call_ (ld_blt I hg hm boot_enumerate (PyProof.Rows.callWith_type1 (thn (ha.run pos pins s σ H _ I h) fun us s1 ⟨vs, H1, I1, r1, q1⟩ => ?_) hs rfl))
  obtain ⟨L, a, xs, ex, hq, q⟩ := q1
  subst ex
  cases r1 with
  | cons r rr =>
    cases rr
    cases r
    have la := sqB_lt I1 hq
    obtain ⟨o1, H1s, B1, b1, f1⟩ := beginsB I1 hq
    refine enum_begins1 B1 b1 fun h' he hit hsz hk => wpAny_pyIter_enum he ?_
    have I2 : Inv X pins σ H1 { s1 with heap := h' } := I1.kept (t' := s1.toks) hk
    refine ⟨s1.heap.objs.size + 1, [s1.heap.objs.size + 1, s1.heap.objs.size], _, _, H1, rfl, I2, turn_enumB (ne_lt la) (fun e => ne_lt (Nat.lt_succ_of_lt la) e.symm), ⟨⟨.none, he⟩, f1 _ _ hit, Nat.succ_ne_self _⟩, fun b hb => ?_, q⟩
    have e' : b = s1.heap.objs.size + 1 ∨ b = s1.heap.objs.size := by simpa using hb
    have hle : s1.heap.objs.size ≤ b := by
      rcases e' with z | z
      · rw [z]; exact Nat.le_add_right _ _
      · rw [z]; exact Nat.le_refl _
    exact I1.fpOk hle (I1.hok.fresh hle)
/-- a list or a tuple -/
def iSq (K : PySem.W.Frag) (tl : TE) : TI := fun σ H R => tl σ H fun x H1 => (∃ L a, x = .ref a ∧ (∃ xs, SqB K L H1 a xs) ∧ R (cond L (Itl K a) (Itt K a)) H1) ∨ ∃ z, x = .str z ∧ R (Its z) H1
theorem pi_sq {tg l : Expr} {tl : TE} (hl : PE X l tl) : PI X tg l (iSq X.K tl) := by
  refine ⟨fun pins s σ H R I h => ?_⟩
  refine thn (hl.run pins s σ H _ I h) fun v s1 ⟨x, H1, I1, r1, q1⟩ => ?_
  rcases q1 with ⟨L, a, ex, ⟨xs, hq⟩, q⟩ | ⟨z, ex, q⟩
  rotate_left
  · subst ex
    obtain ⟨t, rfl⟩ := r1
    cases ha : z.cps.all (· < 128)
    · exact wpAny_pyIter_wide ha (pi_one (tk := s1.toks) I1 _ (turn_str _ z t "str_iterator" (.inr rfl)) ⟨_, Heap.get?_push_size _ rfl, rfl, rfl⟩ q)
    · exact wpAny_pyIter_ascii ha (pi_one (tk := s1.toks) I1 _ (turn_str _ z t "str_ascii_iterator" (.inl rfl)) ⟨_, Heap.get?_push_size _ rfl, rfl, rfl⟩ q)
  subst ex
  cases r1
  cases L with
  | true =>
    obtain ⟨its, rv, p, hz⟩ := I1.list hq
    refine wpAny_pyIter_list p.isList ?_
    refine ⟨s1.heap.objs.size, [s1.heap.objs.size], _, _, H1, rfl, I1.kept (t' := s1.toks) fun b o e => Heap.get?_push_of_some _ e, turn_list a _, ⟨_, Heap.get?_push_size _ rfl, rfl, rfl⟩, fun b hb => ?_, q⟩
    have e : b = s1.heap.objs.size := by simpa using hb
    subst e
    exact I1.fpOk (Nat.le_refl _) (I1.hok.fresh (Nat.le_refl _))
  | false =>
    obtain ⟨its, rv, p, hz⟩ := I1.tuple hq
    refine wpAny_pyIter_tuple (show s1.heap.IsTuple a its.toArray from p) ?_
    refine ⟨s1.heap.objs.size, [s1.heap.objs.size], _, _, H1, rfl, I1.kept (t' := s1.toks) fun b o e => Heap.get?_push_of_some _ e, turn_tuple a _, ⟨_, Heap.get?_push_size _ rfl, rfl, rfl⟩, fun b hb => ?_, q⟩
    have e : b = s1.heap.objs.size := by simpa using hb
    subst e
    exact I1.fpOk (Nat.le_refl _) (I1.hok.fresh (Nat.le_refl _))
end
end It

set_option Elab.async false
set_option linter.all false
set_option maxRecDepth 100000
set_option maxHeartbeats 1000000
namespace It
open PySem PySem.Spec PyProof.Rows L2
/-! ### zip of three -/
def ItZ3 (K : PySem.W.Frag) (La : Bool) (a : Addr) (Lb : Bool) (b : Addr) (Lc : Bool) (d : Addr) : It :=
  ⟨fun i H => ∃ (xs ys zs : List V) (x y v : V), SqB K La H a xs ∧ SqB K Lb H b ys ∧ SqB K Lc H d zs ∧ xs[i]? = some x ∧ ys[i]? = some y ∧ zs[i]? = some v,
    fun i H v H' => ∃ T x y u, v = .ref T ∧ H T = none ∧ H' = upd H T (.tup [x, y, u]) ∧ (∀ xs, SqB K La H a xs → xs[i]? = some x) ∧ (∀ ys, SqB K Lb H b ys → ys[i]? = some y) ∧ ∀ zs, SqB K Lc H d zs → zs[i]? = some u,
    fun i H => ∃ xs ys zs : List V, SqB K La H a xs ∧ SqB K Lb H b ys ∧ SqB K Lc H d zs ∧ i ≤ xs.length ∧ i ≤ ys.length ∧ i ≤ zs.length ∧ (xs.length ≤ i ∨ ys.length ≤ i ∨ zs.length ≤ i)⟩
theorem turn_zipC {P : Program} {w : World} {K : PySem.W.Frag} {elts : List Expr} {kk : Nat} {tpos : Pos} {La Lb Lc : Bool} {a b d z TI TO i1 i2 i3 : Addr} (S : ZipSep3 z TI TO i1 i2 i3 [i1, a] [i2, b] [i3, d]) (na : a ≠ i1) (nb : b ≠ i2) (nd : d ≠ i3) :
    Turn P w K (.Tuple elts kk tpos) (ItZ3 K La a Lb b Lc d) [z, TI, TO, i1, i2, i3] z (fun i h => IsZip h z TI TO .none ∧ IsTupOf3 h TI (.ref i1) (.ref i2) (.ref i3) ∧ (∃ x y u, IsTupOf3 h TO x y u) ∧ itAt La h i1 a i ∧ itAt Lb h i2 b i ∧ itAt Lc h i3 d i) where
  mem := by simp
  obj := fun i h st c hc => by
    obtain ⟨hz, hTI, ⟨x, y, u, hTO⟩, h1, h2, h3⟩ := st
    have e' : c = z ∨ c = TI ∨ c = TO ∨ c = i1 ∨ c = i2 ∨ c = i3 := by simpa using hc
    rcases e' with q | q | q | q | q | q
    · rw [q]; exact ⟨_, hz, fun v q => nomatch q⟩
    · rw [q]; exact ⟨_, hTI, fun v q => nomatch q⟩
    · rw [q]; exact ⟨_, hTO, fun v q => nomatch q⟩
    · rw [q]; exact h1.obj
    · rw [q]; exact h2.obj
    · rw [q]; exact h3.obj
  keep := fun i h h' st k => by
    obtain ⟨hz, hTI, ⟨x, y, u, hTO⟩, h1, h2, h3⟩ := st
    exact ⟨k z (by simp) _ hz, k TI (by simp) _ hTI, ⟨x, y, u, k TO (by simp) _ hTO⟩, h1.at fun o q => k i1 (by simp) o q, h2.at fun o q => k i2 (by simp) o q, h3.at fun o q => k i3 (by simp) o q⟩
  item := by
    intro X hP hw hK hc i pins s σ H E I hf st hg
    subst hP hw hK
    obtain ⟨hz, hTI, ⟨x0, y0, u0, hTO⟩, h1, h2, h3⟩ := st
    obtain ⟨xs, ys, zs, x, y, v, hqx, hqy, hqz, hx, hy, hv⟩ := hg
    obtain ⟨its, St1, rv, D1, s1, k1⟩ := drawsB I hc na hqx h1
    obtain ⟨its2, St2, rv2, D2, s2, k2⟩ := drawsB I hc nb hqy h2
    obtain ⟨its3, St3, rv3, D3, s3, k3⟩ := drawsB I hc nd hqz h3
    obtain ⟨u, hu, ru⟩ := rv.get hx
    obtain ⟨u2, hu2, ru2⟩ := rv2.get hy
    obtain ⟨u3, hu3, ru3⟩ := rv3.get hv
    have hzl : z < s.heap.objs.size := Heap.lt_size hz
    have l1 : i < its.length := (List.getElem?_eq_some_iff.mp hu).1
    have l2 : i < its2.length := (List.getElem?_eq_some_iff.mp hu2).1
    have l3 : i < its3.length := (List.getElem?_eq_some_iff.mp hu3).1
    refine wpAny_pyNext_zipD3_item S D1 D2 D3 hz hTI hTO s1 s2 s3 l1 l2 l3 fun v1 v2 v3 h' tk p1 p2 p3 z' TO' s1' s2' s3' hT hsz hk => ?_
    have e1 : v1 = u := by rw [hu] at p1; exact (Option.some.inj p1).symm
    have e2 : v2 = u2 := by rw [hu2] at p2; exact (Option.some.inj p2).symm
    have e3 : v3 = u3 := by rw [hu3] at p3; exact (Option.some.inj p3).symm
    subst e1 e2 e3
    refine ⟨_, rfl, wpAny_letOwnedTupleGo_zip (s := { s with heap := h', toks := tk }) z' fun h'' z'' sb => ?_⟩
    have hT2 : h''.get? s.heap.objs.size = some { cls := .type "tuple", data := .seq #[v1, v2, v3] } := (sb.2 _ (Nat.ne_of_gt hzl)).trans hT
    have new : ObjOk X.prog X.w (upd H s.heap.objs.size (.tup [x, y, v])) h'' s.heap.objs.size (.tup [x, y, v]) :=
      ⟨by show 3 ≤ sizeLine; decide, [v1, v2, v3], .cons ru (.cons ru2 (.cons ru3 .nil)), ⟨_, hT2, rfl, _, rfl⟩⟩
    have I1 : Inv X pins σ (upd H s.heap.objs.size (.tup [x, y, v])) { s with heap := h'', toks := tk } :=
      I.turnedNew (t' := tk) (ch := [z, TI, TO, i1, i2, i3]) (fun c o hb q => (sb.2 c (fun q' => hb (by simp [q']))).trans (hk c o (fun q' => hb (by simp [q'])) (fun q' => hb (by simp [q'])) (fun q' => hb (by simp [q'])) (fun q' => hb (by simp [q'])) (fun q' => hb (by simp [q'])) q)) hf (Nat.le_refl _) new
    have i1z : i1 ≠ z := fun e => S.zi1 e.symm
    have i2z : i2 ≠ z := fun e => S.zi2 e.symm
    have i3z : i3 ≠ z := fun e => S.zi3 e.symm
    refine ⟨.ref s.heap.objs.size, _, I1, rfl, ⟨_, x, y, v, rfl, I.hok.fresh (Nat.le_refl _), rfl, fun l hl => by rw [sqB_inj I hl hqx]; exact hx, fun l hl => by rw [sqB_inj I hl hqy]; exact hy, fun l hl => by rw [sqB_inj I hl hqz]; exact hv⟩, ⟨z'', ?_, ⟨v1, v2, v3, ?_⟩, ?_, ?_, ?_⟩, fun c hcm => ?_⟩
    · exact (sb.2 _ S.TIz).trans (hk _ _ S.TIz S.TITO S.TIi1 S.TIi2 S.TIi3 hTI)
    · exact (sb.2 _ S.TOz).trans TO'
    · exact (k1 _ _ s1').at fun o q => (sb.2 _ i1z).trans q
    · exact (k2 _ _ s2').at fun o q => (sb.2 _ i2z).trans q
    · exact (k3 _ _ s3').at fun o q => (sb.2 _ i3z).trans q
    · have hlt : c < s.heap.objs.size := by
        have e' : c = z ∨ c = TI ∨ c = TO ∨ c = i1 ∨ c = i2 ∨ c = i3 := by simpa using hcm
        rcases e' with q | q | q | q | q | q
        · rw [q]; exact hzl
        · rw [q]; exact Heap.lt_size hTI
        · rw [q]; exact Heap.lt_size hTO
        · rw [q]; obtain ⟨_, e1, _⟩ := h1.obj; exact Heap.lt_size e1
        · rw [q]; obtain ⟨_, e2, _⟩ := h2.obj; exact Heap.lt_size e2
        · rw [q]; obtain ⟨_, e2, _⟩ := h3.obj; exact Heap.lt_size e2
      rw [upd_ne (Nat.ne_of_lt hlt)]
      exact (hf c hcm).1
  done := by
    intro X hP hw hK hc i pins s σ H E I hf st hg
    subst hP hw hK
    obtain ⟨hz, hTI, ⟨x0, y0, u0, hTO⟩, h1, h2, h3⟩ := st
    obtain ⟨xs, ys, zs, hqx, hqy, hqz, hi1, hi2, hi3, hend⟩ := hg
    obtain ⟨its, St1, rv, D1, s1, k1⟩ := drawsB I hc na hqx h1
    obtain ⟨its2, St2, rv2, D2, s2, k2⟩ := drawsB I hc nb hqy h2
    obtain ⟨its3, St3, rv3, D3, s3, k3⟩ := drawsB I hc nd hqz h3
    have l1 := rv.length
    have l2 := rv2.length
    have l3 := rv3.length
    exact wpAny_pyNext_zipD3_end S D1 D2 D3 hz hTI hTO s1 s2 s3 (by omega) (by omega) (by omega) (by omega) fun h' tk hk => ⟨rfl, I.turnedL (t' := tk) (ch := [z, TI, TO, i1, i2, i3]) (fun c o hb q =>
      hk c o (fun q' => hb (by simp [q'])) (fun q' => hb (by simp [q'])) (fun q' => hb (by simp [q'])) (fun q' => hb (by simp [q'])) (fun q' => hb (by simp [q'])) q) hf⟩
  self := fun A i s Q E st h => wpAny_pyIter_zip st.1 h
theorem zsep3 (n a b d : Nat) (ha : a < n) (hb : b < n) (hd : d < n) : ZipSep3 (n + 5) (n + 3) (n + 4) n (n + 1) (n + 2) [n, a] [n + 1, b] [n + 2, d] := by
  have no : ∀ {x y z : Nat}, x ≠ y → x ≠ z → x ∉ [y, z] := fun h1 h2 h => by
    rcases List.mem_cons.mp h with e | h
    · exact h1 e
    · exact h2 (List.mem_singleton.mp h)
  exact {
    TIz := fun (e : n + 3 = n + 5) => by omega
    TOz := fun (e : n + 4 = n + 5) => by omega
    TITO := fun (e : n + 3 = n + 4) => by omega
    TIi1 := fun (e : n + 3 = n) => by omega
    mem1 := List.mem_cons_self
    zf1 := no (by omega) (by omega)
    Tf1 := no (by omega) (by omega)
    TIi2 := fun (e : n + 3 = n + 1) => by omega
    mem2 := List.mem_cons_self
    zf2 := no (by omega) (by omega)
    Tf2 := no (by omega) (by omega)
    TIi3 := fun (e : n + 3 = n + 2) => by omega
    mem3 := List.mem_cons_self
    zf3 := no (by omega) (by omega)
    Tf3 := no (by omega) (by omega)
    sep1_2 := no (by omega) (by omega)
    sep1_3 := no (by omega) (by omega)
    sep2_1 := no (by omega) (by omega)
    sep2_3 := no (by omega) (by omega)
    sep3_1 := no (by omega) (by omega)
    sep3_2 := no (by omega) (by omega) }
section
variable {X : Cx} {e e2 e3 : Expr} {p pos tpos : Pos} {elts : List Expr} {kk : Nat}
def iZC (K : PySem.W.Frag) (ta : TA) : TI := fun σ H R => ta σ H fun vs H1 => ∃ La a Lb b Lc d xs ys zs, vs = [.ref a, .ref b, .ref d] ∧ SqB K La H1 a xs ∧ SqB K Lb H1 b ys ∧ SqB K Lc H1 d zs ∧ R (ItZ3 K La a Lb b Lc d) H1
theorem pi_zipC {ta : TA} (hg : Gl X "zip") (hm : X.mg "zip" = none) (ha : PA X [e, e2, e3] ta)
    (hs : starEach [e, e2, e3] X.env = (false, eval e X.env) :: starEach [e2, e3] X.env) (hpl : (backTo pos (starEach [e2, e3] X.env)).any (·.1) = false) :
    PI X (.Tuple elts kk tpos) (.Call (.Name "zip" p) [e, e2, e3] [] pos) (iZC X.K ta) := by
  refine ⟨fun pins s σ H R I h => ?_⟩
  refine Call_ (ld_blt I hg hm PyProof.Rows.boot_zip (PyProof.Rows.callWith_type1 (thn (ha.run pos pins s σ H _ I h) fun us s1 ⟨vs, H1, I1, r1, q1⟩ => ?_) hs hpl))
  obtain ⟨La, a, Lb, b, Lc, d, xs, ys, zs, ex, hqx, hqy, hqz, q⟩ := q1
  subst ex
  cases r1 with
  | cons r rr =>
    cases rr with
    | cons r' rr =>
      cases rr with
      | cons r'' rr =>
      cases rr
      cases r
      cases r'
      cases r''
      have la := sqB_lt I1 hqx
      have lb := sqB_lt I1 hqy
      have ld := sqB_lt I1 hqz
      obtain ⟨o1, H1s, B1, b1, f1⟩ := beginsB I1 hqx
      obtain ⟨o2, H2s, B2, b2, f2⟩ := beginsB I1 hqy
      obtain ⟨o3, H3s, B3, b3, f3⟩ := beginsB I1 hqz
      have fresh5 : ∀ c, c ∈ [s1.heap.objs.size + 5, s1.heap.objs.size + 3, s1.heap.objs.size + 4, s1.heap.objs.size, s1.heap.objs.size + 1, s1.heap.objs.size + 2] → FpOk X pins H1 c := fun c hcm => by
        have e' : c = s1.heap.objs.size + 5 ∨ c = s1.heap.objs.size + 3 ∨ c = s1.heap.objs.size + 4 ∨ c = s1.heap.objs.size ∨ c = s1.heap.objs.size + 1 ∨ c = s1.heap.objs.size + 2 := by simpa using hcm
        have hle : s1.heap.objs.size ≤ c := by
          rcases e' with z | z | z | z | z | z
          · rw [z]; exact Nat.le_add_right _ _
          · rw [z]; exact Nat.le_add_right _ _
          · rw [z]; exact Nat.le_add_right _ _
          · rw [z]; exact Nat.le_refl _
          · rw [z]; exact Nat.le_add_right _ _
          · rw [z]; exact Nat.le_add_right _ _
        exact I1.fpOk hle (I1.hok.fresh hle)
      refine zip_begins3 B1 B2 B3 b1 b2 b3 fun h' hz hTI hTO g1 g2 g3 hsz hk => wpAny_pyIter_zip hz ?_
      have I2 : Inv X pins σ H1 { s1 with heap := h' } := I1.kept (t' := s1.toks) hk
      refine ⟨s1.heap.objs.size + 5, [s1.heap.objs.size + 5, s1.heap.objs.size + 3, s1.heap.objs.size + 4, s1.heap.objs.size, s1.heap.objs.size + 1, s1.heap.objs.size + 2], _, _, H1, rfl, I2, turn_zipC (zsep3 _ _ _ _ la lb ld) (ne_lt la) (ne_lt (Nat.lt_succ_of_lt lb)) (ne_lt (Nat.lt_succ_of_lt (Nat.lt_succ_of_lt ld))), ⟨hz, hTI, ⟨_, _, _, hTO⟩, f1 _ _ g1, f2 _ _ g2, f3 _ _ g3⟩, fresh5, q⟩
end
end It

set_option Elab.async false
set_option linter.all false
set_option maxRecDepth 100000
set_option maxHeartbeats 1000000
/-! ItK: what loops and comprehensions walk, against the iterators. -/
namespace It
open PySem PySem.Spec PyProof.Rows L2
/-- a source that walks the list (true) or tuple (false) at a, ahead of its i-th item; av: what came later -/
inductive RW (K : PySem.W.Frag) (av : Addr → Prop) (m : Mp) (H : Hp) : Src → Addr → Bool → Nat → Prop
  | tup {ws : List W} {xs : List V} {a : Addr} {i : Nat} : SqT K H a xs → RVs K m H ws xs → i ≤ xs.length → RW K av m H (.tup (ws.drop i)) a false i
  | fl {ws : List W} {xs : List V} {a : Addr} {i : Nat} : FzL K H a xs → RVs K m H ws xs → i ≤ xs.length → RW K av m H (.tup (ws.drop i)) a true i
  | new {ws : List W} {xs : List V} {a : Addr} {i : Nat} : H a = some (.lst xs) → m.no a → ¬ av a → RVs K m H ws xs → i ≤ xs.length → RW K av m H (.tup (ws.drop i)) a true i
  | ref {k : Nat} {a : Addr} {i : Nat} {xs : List V} : m k = some a → H a = some (.lst xs) → i ≤ xs.length → RW K av m H (.lst k i) a true i
section
variable {K : PySem.W.Frag} {av : Addr → Prop} {m m' : Mp} {h h' : IH} {H H' : Hp} {s : Src} {a : Addr} {L : Bool} {i : Nat}
theorem RW.mono (rh : RepH K m h H) (x : Ext m H m' H') (r : RW K av m H s a L i) : RW K av m' H' s a L i := by
  cases r with
  | tup p q l => exact .tup (rh.sqT x p) (RVs.mono rh x q) l
  | fl p q l => exact .fl (rh.fz x p) (RVs.mono rh x q) l
  | new p n v q l =>
    exact .new (x.stay _ _ p n fun _ z => nomatch z) (x.no n (by rw [p]; exact fun z => nomatch z)) v (RVs.mono rh x q) l
  | ref p q l =>
    obtain ⟨ys, e, l'⟩ := x.len _ _ _ p q
    exact .ref (x.sub _ _ p) e (Nat.le_trans l l')
theorem RW.sq (r : RW K av m H s a L i) : ∃ xs, SqB K L H a xs ∧ i ≤ xs.length := by
  cases r with
  | tup p q l => exact ⟨_, p, l⟩
  | fl p q l => exact ⟨_, sqL_fl p, l⟩
  | new p n v q l => exact ⟨_, .inl (.inl p), l⟩
  | ref p q l => exact ⟨_, .inl (.inl q), l⟩
theorem next_tup {ws : List W} {xs : List V} (q : RVs K m H ws xs) (l : i ≤ xs.length) {z : Bool} {c : W → Src → Bool} (e : nextK (.tup (ws.drop i)) h z c = true) :
    (xs.length = i ∧ z = true) ∨ ∃ x w, xs[i]? = some x ∧ RV K m H w x ∧ i + 1 ≤ xs.length ∧ c w (.tup (ws.drop (i + 1))) = true := by
  have hl := q.length
  have e' : (List.casesOn (motive := fun _ => Bool) (ws.drop i) z fun x r => c x (.tup r)) = true := e
  by_cases hi : i < ws.length
  · rw [List.drop_eq_getElem_cons hi] at e'
    obtain ⟨x, e1, r1⟩ := q.get (i := i) (w := ws[i]) (by rw [List.getElem?_eq_getElem hi])
    exact .inr ⟨x, _, e1, r1, by omega, e'⟩
  · rw [List.drop_eq_nil_of_le (by omega)] at e'
    exact .inl ⟨by omega, e'⟩
theorem nextW (rh : RepH K m h H) (r : RW K av m H s a L i) {z : Bool} {c : W → Src → Bool} (e : nextK s h z c = true) :
    ∃ xs, SqB K L H a xs ∧ i ≤ xs.length ∧ ((xs.length = i ∧ z = true) ∨ ∃ x w s', xs[i]? = some x ∧ RV K m H w x ∧ RW K av m H s' a L (i + 1) ∧ c w s' = true) := by
  cases r with
  | tup p q l =>
    refine ⟨_, p, l, ?_⟩
    rcases next_tup q l e with z | ⟨x, w, e1, r1, l1, e2⟩
    · exact .inl z
    · exact .inr ⟨x, w, _, e1, r1, .tup p q l1, e2⟩
  | fl p q l =>
    refine ⟨_, sqL_fl p, l, ?_⟩
    rcases next_tup q l e with z | ⟨x, w, e1, r1, l1, e2⟩
    · exact .inl z
    · exact .inr ⟨x, w, _, e1, r1, .fl p q l1, e2⟩
  | new p n v q l =>
    refine ⟨_, .inl (.inl p), l, ?_⟩
    rcases next_tup q l e with z | ⟨x, w, e1, r1, l1, e2⟩
    · exact .inl z
    · exact .inr ⟨x, w, _, e1, r1, .new p n v q l1, e2⟩
  | @ref k a i xs p q l =>
    obtain ⟨_, ws, xs', g1, g2, g3⟩ := rh.get _ _ p
    rw [q] at g2; cases g2
    obtain ⟨l2, e3, e4⟩ := hget_ok (show hget h k (fun l => List.casesOn (motive := fun _ => Bool) (dropN i l) z fun x _ => c x (.lst k (Nat.succ i))) = true from e)
    rw [g1] at e3; cases e3
    rw [dropN_ok] at e4
    have hl := g3.length
    refine ⟨_, .inl (.inl q), l, ?_⟩
    by_cases hi : i < ws.length
    · rw [List.drop_eq_getElem_cons hi] at e4
      obtain ⟨x, e1, r1⟩ := g3.get (i := i) (w := ws[i]) (by rw [List.getElem?_eq_getElem hi])
      exact .inr ⟨x, _, _, e1, r1, .ref p q (by omega), e4⟩
    · rw [List.drop_eq_nil_of_le (by omega)] at e4
      exact .inl ⟨by omega, e4⟩
/-- a source against what HandS walks -/
inductive RI (K : PySem.W.Frag) (av : Addr → Prop) (m : Mp) (H : Hp) : Src → It → Nat → Prop
  | sq {t : Src} {a : Addr} {L : Bool} {j : Nat} : RW K av m H t a L j → RI K av m H t (cond L (Itl K a) (Itt K a)) j
  | rng {lo lo' : Int} {n n' j : Nat} : lo' = lo + j → n' + j = n → RI K av m H (.rng lo' n') (Itr lo n) j
  | zip {t u : Src} {a b : Addr} {La Lb : Bool} {j : Nat} : RW K av m H t a La j → RW K av m H u b Lb j → RI K av m H (.zip t u) (ItZ K La a Lb b) j
  | enum {t : Src} {a : Addr} {L : Bool} {j : Nat} {z : Int} : z = j → RW K av m H t a L j → RI K av m H (.enum z t) (ItE K L a) j
  | zip3 {t u r : Src} {a b d : Addr} {La Lb Lc : Bool} {j : Nat} : RW K av m H t a La j → RW K av m H u b Lb j → RW K av m H r d Lc j → RI K av m H (.zip3 t u r) (ItZ3 K La a Lb b Lc d) j
  | str {z : Str} {j : Nat} : RI K av m H (.str (z.cps.toList.drop j)) (Its z) j
  | rev {k n j : Nat} {a : Addr} : m k = some a → RI K av m H (.rev k n j) (Itv K a n) j
  | revT {ws : List W} {xs : List V} {a : Addr} {j : Nat} : SqT K H a xs → RVs K m H ws xs → j ≤ xs.length → RI K av m H (.tup (ws.reverse.drop j)) (RT.ItvT K a xs.length) j
theorem RI.mono (rh : RepH K m h H) (x : Ext m H m' H') {J : It} (r : RI K av m H s J i) : RI K av m' H' s J i := by
  cases r with
  | sq p => exact .sq (p.mono rh x)
  | rng p q => exact .rng p q
  | zip p q => exact .zip (p.mono rh x) (q.mono rh x)
  | enum e p => exact .enum e (p.mono rh x)
  | zip3 p q r => exact .zip3 (p.mono rh x) (q.mono rh x) (r.mono rh x)
  | str => exact .str
  | rev p => exact .rev (x.sub _ _ p)
  | revT p q l => exact .revT (rh.sqT x p) (RVs.mono rh x q) l
theorem nextI (rh : RepH K m h H) {J : It} (r : RI K av m H s J i) {z : Bool} {c : W → Src → Bool} (e : nextK s h z c = true) :
    (J.stop i H ∧ z = true) ∨ (J.go i H ∧ ∃ w s', c w s' = true ∧ ∀ x H', J.yld i H x H' → Ext m H m H' ∧ RepH K m h H' ∧ RV K m H' w x ∧ RI K av m H' s' J (i + 1)) := by
  cases r with
  | @sq _ a L _ p =>
    obtain ⟨xs, q, l, r⟩ := nextW rh p e
    rcases r with ⟨e1, hz⟩ | ⟨x, w, s', e1, r1, p', e2⟩
    · refine .inl ⟨?_, hz⟩
      cases L with
      | true => exact ⟨xs, q, Nat.le_of_eq e1⟩
      | false => exact ⟨xs, q, Nat.le_of_eq e1⟩
    · refine .inr ⟨?_, w, s', e2, fun y H' hy => ?_⟩
      · cases L with
        | true => exact ⟨xs, x, q, e1⟩
        | false => exact ⟨xs, x, q, e1⟩
      · have key : H' = H ∧ xs[i]? = some y := by
          cases L with
          | true => exact ⟨hy.1, hy.2 xs q⟩
          | false => exact ⟨hy.1, hy.2 xs q⟩
        obtain ⟨rfl, e3⟩ := key
        rw [e1] at e3; cases e3
        exact ⟨.refl, rh, r1, .sq p'⟩
  | @rng lo lo' n n' i e1 e2 =>
    have e' : (Nat.casesOn (motive := fun _ => Bool) n' z fun m => c (.int lo') (.rng (Int.add lo' 1) m)) = true := e
    cases n' with
    | zero => exact .inl ⟨show n ≤ i by omega, e'⟩
    | succ k =>
      refine .inr ⟨show i < n by omega, _, _, e', fun y H' hy => ?_⟩
      obtain ⟨rfl, rfl⟩ := hy
      subst e1
      refine ⟨.refl, rh, .int _, .rng ?_ (by omega)⟩
      show lo + (i : Int) + 1 = lo + ((i + 1 : Nat) : Int)
      omega
  | @zip s t a b La Lb _ p q =>
    have e' : nextK s h z (fun x a' => nextK t h z fun y b' => c (.tup [x, y]) (.zip a' b')) = true := e
    obtain ⟨xs, qx, lx, r⟩ := nextW rh p e'
    rcases r with ⟨e1, hz⟩ | ⟨x, w, s', e1, r1, p', e2⟩
    · obtain ⟨ys, qy, ly⟩ := q.sq
      exact .inl ⟨⟨xs, ys, qx, qy, lx, ly, .inl (Nat.le_of_eq e1)⟩, hz⟩
    · obtain ⟨ys, qy, ly, r'⟩ := nextW rh q e2
      rcases r' with ⟨e3, hz⟩ | ⟨y, w', t', e3, r2, q', e4⟩
      · exact .inl ⟨⟨xs, ys, qx, qy, lx, ly, .inr (Nat.le_of_eq e3)⟩, hz⟩
      · refine .inr ⟨⟨xs, ys, x, y, qx, qy, e1, e3⟩, _, _, e4, fun v H' hy => ?_⟩
        obtain ⟨T, x', y', rfl, hT, rfl, f1, f2⟩ := hy
        have g1 := f1 xs qx
        have g2 := f2 ys qy
        rw [e1] at g1; cases g1
        rw [e3] at g2; cases g2
        have X1 : Ext m H m (upd H T (.tup [x, y])) := .laid hT
        exact ⟨X1, rh.laid hT, .tup (.of upd_same) (.cons (RV.mono rh X1 r1) (.cons (RV.mono rh X1 r2) .nil)), .zip (p'.mono rh X1) (q'.mono rh X1)⟩
  | @enum s a L i j ej p =>
    have e' : nextK s h z (fun x a' => c (.tup [.int j, x]) (.enum (Int.add j 1) a')) = true := e
    obtain ⟨xs, qx, lx, r⟩ := nextW rh p e'
    rcases r with ⟨e1, hz⟩ | ⟨x, w, s', e1, r1, p', e2⟩
    · exact .inl ⟨⟨xs, qx, e1⟩, hz⟩
    · refine .inr ⟨⟨xs, x, qx, e1⟩, _, _, e2, fun v H' hy => ?_⟩
      obtain ⟨T, x', rfl, hT, rfl, f1⟩ := hy
      have g1 := f1 xs qx
      rw [e1] at g1; cases g1
      have X1 : Ext m H m (upd H T (.tup [.int (i : Nat), x])) := .laid hT
      subst ej
      refine ⟨X1, rh.laid hT, .tup (.of upd_same) (.cons (.int _) (.cons (RV.mono rh X1 r1) .nil)), .enum ?_ (p'.mono rh X1)⟩
      show (i : Int) + 1 = ((i + 1 : Nat) : Int)
      omega
  | @zip3 s t u a b d La Lb Lc _ p q r0 =>
    have e' : nextK s h z (fun x a' => nextK t h z fun y b' => nextK u h z fun v c' => c (.tup [x, y, v]) (.zip3 a' b' c')) = true := e
    obtain ⟨zs, qz, lz⟩ := r0.sq
    obtain ⟨ys, qy, ly⟩ := q.sq
    obtain ⟨xs, qx, lx, r⟩ := nextW rh p e'
    rcases r with ⟨e1, hz⟩ | ⟨x, w, s', e1, r1, p', e2⟩
    · exact .inl ⟨⟨xs, ys, zs, qx, qy, qz, lx, ly, lz, .inl (Nat.le_of_eq e1)⟩, hz⟩
    · obtain ⟨ys, qy, ly, r'⟩ := nextW rh q e2
      rcases r' with ⟨e3, hz⟩ | ⟨y, w', t', e3, r2, q', e4⟩
      · exact .inl ⟨⟨xs, ys, zs, qx, qy, qz, lx, ly, lz, .inr (.inl (Nat.le_of_eq e3))⟩, hz⟩
      · obtain ⟨zs, qz, lz, r''⟩ := nextW rh r0 e4
        rcases r'' with ⟨e5, hz⟩ | ⟨v, w'', u', e5, r3, r0', e6⟩
        · exact .inl ⟨⟨xs, ys, zs, qx, qy, qz, lx, ly, lz, .inr (.inr (Nat.le_of_eq e5))⟩, hz⟩
        · refine .inr ⟨⟨xs, ys, zs, x, y, v, qx, qy, qz, e1, e3, e5⟩, _, _, e6, fun v0 H' hy => ?_⟩
          obtain ⟨T, x', y', u', rfl, hT, rfl, f1, f2, f3⟩ := hy
          have g1 := f1 xs qx
          have g2 := f2 ys qy
          have g3 := f3 zs qz
          rw [e1] at g1; cases g1
          rw [e3] at g2; cases g2
          rw [e5] at g3; cases g3
          have X1 : Ext m H m (upd H T (.tup [x, y, v])) := .laid hT
          exact ⟨X1, rh.laid hT, .tup (.of upd_same) (.cons (RV.mono rh X1 r1) (.cons (RV.mono rh X1 r2) (.cons (RV.mono rh X1 r3) .nil))), .zip3 (p'.mono rh X1) (q'.mono rh X1) (r0'.mono rh X1)⟩
  | @str z0 _ =>
    have e' : (List.casesOn (motive := fun _ => Bool) (z0.cps.toList.drop i) z fun x r => c (.str ⟨⟨[x]⟩⟩) (.str r)) = true := e
    by_cases hi : i < z0.cps.size
    · have hi' : i < z0.cps.toList.length := by rw [Array.length_toList]; exact hi
      rw [List.drop_eq_getElem_cons hi'] at e'
      refine .inr ⟨hi, _, _, e', fun y H' hy => ?_⟩
      obtain ⟨rfl, d, hd, rfl⟩ := hy
      have q : z0.cps.toList[i] = d := by
        rw [Array.getElem?_eq_getElem hi] at hd
        exact Option.some.inj hd
      rw [q]
      exact ⟨.refl, rh, .str _, .str⟩
    · rw [List.drop_eq_nil_of_le (by rw [Array.length_toList]; omega)] at e'
      exact .inl ⟨by show z0.cps.size ≤ i; omega, e'⟩
  | @rev k n _ a p =>
    have e' : cond (Nat.blt i n) (hget h k fun l => nthK (n - 1 - i) l fun x => c x (.rev k n (i + 1))) z = true := e
    rcases cond_t e' with ⟨e1, e2⟩ | ⟨e1, hz⟩
    · obtain ⟨l, e3, e4⟩ := hget_ok e2
      obtain ⟨_, ws, xs, f1, f2, f3⟩ := rh.get _ _ p
      rw [f1] at e3; cases e3
      obtain ⟨w, e5, e6⟩ := nthK_ok _ _ _ e4
      obtain ⟨x, e7, r1⟩ := f3.get e5
      have hi : i < n := by rw [blt_ok] at e1; exact of_decide_eq_true e1
      refine .inr ⟨⟨hi, xs, x, .of f2, e7⟩, w, _, e6, fun y H' hy => ?_⟩
      have key : H' = H ∧ xs[n - 1 - i]? = some y := ⟨hy.1, hy.2 xs (.of f2)⟩
      obtain ⟨rfl, e8⟩ := key
      rw [e7] at e8; cases e8
      exact ⟨.refl, rh, r1, .rev p⟩
    · refine .inl ⟨?_, hz⟩
      show n ≤ i
      rw [blt_ok] at e1
      have := of_decide_eq_false e1
      omega
  | @revT ws xs a _ s q l =>
    rcases next_tup (ws := ws.reverse) (xs := xs.reverse) q.reverse (by rw [List.length_reverse]; exact l) e with ⟨e1, hz⟩ | ⟨x, w, e1, r1, l1, e2⟩
    · refine .inl ⟨?_, hz⟩
      show xs.length ≤ i
      rw [List.length_reverse] at e1
      omega
    · rw [List.length_reverse] at l1
      rw [List.getElem?_reverse (by omega)] at e1
      refine .inr ⟨⟨by omega, xs, x, s, e1⟩, w, _, e2, fun y H' hy => ?_⟩
      have key : H' = H ∧ xs[xs.length - 1 - i]? = some y := ⟨hy.1, hy.2 xs s⟩
      obtain ⟨rfl, e8⟩ := key
      rw [e1] at e8; cases e8
      exact ⟨.refl, rh, r1, .revT s q l1⟩
/-- the list that a comprehension fills is the evaluator's no more than anyone's -/
theorem RVs.out {D : Addr} {as bs : List V} (hD : H D = some (.lst as)) : ∀ {ws : List W} {xs : List V}, RVs K m H ws xs → RVs K m (upd H D (.lst bs)) ws xs := by
  have ne : ∀ {a : Addr} {o : HO}, H a = some o → (∀ xs, o ≠ .lst xs) → a ≠ D := fun e d z => by subst z; rw [hD] at e; cases e; exact d _ rfl
  have sq : ∀ {a : Addr} {xs : List V}, SqT K H a xs → SqT K (upd H D (.lst bs)) a xs := fun s => by
    rcases s with (e | ⟨o, e⟩) | e
    · exact .inl (.inl (by rw [upd_ne (ne e fun _ z => nomatch z)]; exact e))
    · exact .inl (.inr ⟨o, by rw [upd_ne (ne e fun _ z => nomatch z)]; exact e⟩)
    · exact .inr e
  have fz : ∀ {a : Addr} {xs : List V}, FzL K H a xs → FzL K (upd H D (.lst bs)) a xs := fun s => by
    rcases s with ⟨o, e⟩ | e
    · exact .inl ⟨o, by rw [upd_ne (ne e fun _ z => nomatch z)]; exact e⟩
    · exact .inr e
  intro ws xs r
  exact RVs.rec (motive_1 := fun w v _ => RV K m (upd H D (.lst bs)) w v) (motive_2 := fun ws vs _ => RVs K m (upd H D (.lst bs)) ws vs) .non .bl .int .str
    (fun s _ ih => .tup (sq s) ih) (fun e => .ref e) (fun e _ ih => .fl (fz e) ih) .fn (fun e => .pl e) (fun e => .dk e) (fun e => .ins e) .nil (fun _ _ a b => .cons a b) r
theorem RepH.out {D : Addr} {as bs : List V} (rh : RepH K m h H) (hD : H D = some (.lst as)) (nD : m.no D) : RepH K m h (upd H D (.lst bs)) :=
  ⟨fun k a e => by
    obtain ⟨z, ws, xs, e1, e2, e3⟩ := rh.get k a e
    exact ⟨z, ws, xs, e1, by rw [upd_ne (fun q => by subst q; exact nD.1 k e)]; exact e2, RVs.out hD e3⟩, rh.inj, rh.new, tabs_upd rh.tab hD, ⟨fun k t a e => by
    obtain ⟨z, ws, e1, e2⟩ := rh.ob.get k t a e
    exact ⟨z, ws, e1, e2.map (fun o q => by rw [upd_ne (fun q => by subst q; exact nD.2 k t e)]; exact q) (fun w v q => by
      cases RVs.out (bs := bs) hD (.cons q .nil) with
      | cons a _ => exact a) fun _ _ q => RVs.out hD q⟩, rh.ob.inj, rh.ob.new, rh.ob.dis, rh.ob.slot⟩⟩
theorem RW.out {D : Addr} {as bs : List V} (hD : H D = some (.lst as)) (nD : m.no D) (vD : av D) (r : RW K av m H s a L i) : RW K av m (upd H D (.lst bs)) s a L i := by
  have ne : ∀ {a : Addr} {o : HO}, H a = some o → (∀ xs, o ≠ .lst xs) → a ≠ D := fun e d z => by subst z; rw [hD] at e; cases e; exact d _ rfl
  cases r with
  | tup p q l =>
    refine .tup ?_ (RVs.out hD q) l
    rcases p with (e | ⟨o, e⟩) | e
    · exact .inl (.inl (by rw [upd_ne (ne e fun _ z => nomatch z)]; exact e))
    · exact .inl (.inr ⟨o, by rw [upd_ne (ne e fun _ z => nomatch z)]; exact e⟩)
    · exact .inr e
  | fl p q l =>
    refine .fl ?_ (RVs.out hD q) l
    rcases p with ⟨o, e⟩ | e
    · exact .inl ⟨o, by rw [upd_ne (ne e fun _ z => nomatch z)]; exact e⟩
    · exact .inr e
  | new p n v q l => exact .new (by rw [upd_ne (fun z => by subst z; exact v vD)]; exact p) n v (RVs.out hD q) l
  | ref p q l => exact .ref p (by rw [upd_ne (fun z => by subst z; exact nD.1 _ p)]; exact q) l
theorem RI.out {D : Addr} {as bs : List V} (hD : H D = some (.lst as)) (nD : m.no D) (vD : av D) {J : It} (r : RI K av m H s J i) : RI K av m (upd H D (.lst bs)) s J i := by
  cases r with
  | sq p => exact .sq (p.out hD nD vD)
  | rng p q => exact .rng p q
  | zip p q => exact .zip (p.out hD nD vD) (q.out hD nD vD)
  | enum e p => exact .enum e (p.out hD nD vD)
  | zip3 p q r => exact .zip3 (p.out hD nD vD) (q.out hD nD vD) (r.out hD nD vD)
  | str => exact .str
  | rev p => exact .rev p
  | revT p q l =>
    have ne : ∀ {a : Addr} {o : HO}, H a = some o → (∀ xs, o ≠ .lst xs) → a ≠ D := fun e d z => by subst z; rw [hD] at e; cases e; exact d _ rfl
    refine .revT ?_ (RVs.out hD q) l
    rcases p with (e | ⟨o, e⟩) | e
    · exact .inl (.inl (by rw [upd_ne (ne e fun _ z => nomatch z)]; exact e))
    · exact .inl (.inr ⟨o, by rw [upd_ne (ne e fun _ z => nomatch z)]; exact e⟩)
    · exact .inr e
end
/-- what comes later than H -/
abbrev avH (H : Hp) : Addr → Prop := fun p => H p = none
/-- what comes later than H', and what stood in H as nobody's -/
def avM (m : Mp) (H H' : Hp) : Addr → Prop := fun p => H' p = none ∨ (H p ≠ none ∧ m.no p)
theorem RW.weak {K : PySem.W.Frag} {av av' : Addr → Prop} {m : Mp} {H : Hp} {s : Src} {a : Addr} {L : Bool} {i : Nat} (f : ∀ p, av' p → av p) (r : RW K av m H s a L i) : RW K av' m H s a L i := by
  cases r with
  | tup p q l => exact .tup p q l
  | fl p q l => exact .fl p q l
  | new p n v q l => exact .new p n (fun z => v (f _ z)) q l
  | ref p q l => exact .ref p q l
theorem RI.weak {K : PySem.W.Frag} {av av' : Addr → Prop} {m : Mp} {H : Hp} {s : Src} {J : It} {i : Nat} (f : ∀ p, av' p → av p) (r : RI K av m H s J i) : RI K av' m H s J i := by
  cases r with
  | sq p => exact .sq (p.weak f)
  | rng p q => exact .rng p q
  | zip p q => exact .zip (p.weak f) (q.weak f)
  | enum e p => exact .enum e (p.weak f)
  | zip3 p q r => exact .zip3 (p.weak f) (q.weak f) (r.weak f)
  | str => exact .str
  | rev p => exact .rev p
  | revT p q l => exact .revT p q l
theorem RI.avH {K : PySem.W.Frag} {m m1 : Mp} {H H1 : Hp} {s : Src} {J : It} {i : Nat} (r : RI K (avM m H H1) m1 H1 s J i) : RI K (avH H1) m1 H1 s J i := r.weak fun _ z => .inl z
def IOk (K : PySem.W.Frag) (m : Mp) (H : Hp) (k : Src → IH → Bool) (R : It → Hp → Prop) : Prop := ∀ m' s J h' H', Ext m H m' H' → RepH K m' h' H' → RI K (avM m H H') m' H' s J 0 → k s h' = true → R J H'
def tI (K : PySem.W.Frag) (B : Bag) (Wx : WX) (f : Is) : TI := fun σ H R => ∃ m l h k x, RepH K m h H ∧ RepL K m H l σ ∧ f B.c l h k x = true ∧ IOk K m H k R ∧ XOk K B m H σ x Wx
theorem IOk.mono {K : PySem.W.Frag} {m m' : Mp} {H H' : Hp} {k : Src → IH → Bool} {R : It → Hp → Prop} (o : IOk K m H k R) (x : Ext m H m' H') : IOk K m' H' k R := fun m2 s J h2 H2 x2 r ri e => o m2 s J h2 H2 (x.trans x2) r (ri.weak fun p hp => hp.elim .inl fun z => .inr ⟨x.there p z.1, x.no z.2 z.1⟩) e
section
variable {X : Cx} {B : Bag} {Wx : WX} {pos p tpos : Pos} {a b tg l : Expr} {fa fb : E} {f : Es} {elts : List Expr} {kk : Nat}
theorem piI {tg e : Expr} {t t' : TI} (h : PI X tg e t) (i : ∀ σ H R, t' σ H R → t σ H R) : PI X tg e t' := ⟨fun pins s σ H R I q => h.run pins s σ H R I (i σ H R q)⟩
/-- a list or tuple to walk -/
theorem src_ok {K : PySem.W.Frag} {av : Addr → Prop} {m : Mp} {h : IH} {H : Hp} {w : W} {v : V} {c : Src → Bool} (rh : RepH K m h H) (rv : RV K m H w v) (e : srcK w c = true) :
    ∃ L a s, v = .ref a ∧ RW K av m H s a L 0 ∧ c s = true := by
  cases rv with
  | @tup ws xs p s t => exact ⟨false, p, .tup (ws.drop 0), rfl, .tup s t (Nat.zero_le _), e⟩
  | @ref j p ej =>
    obtain ⟨_, ws, xs, e1, e2, e3⟩ := rh.get _ _ ej
    exact ⟨true, p, .lst j 0, rfl, .ref ej e2 (Nat.zero_le _), e⟩
  | @fl ws xs p ej t => exact ⟨true, p, .tup (ws.drop 0), rfl, .fl ej t (Nat.zero_le _), e⟩
  | _ => cases (show false = true from e)
theorem srcS_ok {K : PySem.W.Frag} {av : Addr → Prop} {m : Mp} {h : IH} {H : Hp} {w : W} {v : V} {c : Src → Bool} (rh : RepH K m h H) (rv : RV K m H w v) (e : srcS w c = true) :
    (∃ L a s, v = .ref a ∧ RW K av m H s a L 0 ∧ c s = true) ∨ ∃ z, v = .str z ∧ c (.str z.cps.toList) = true := by
  have key : (∃ z, w = .str z) ∨ srcK w c = true := by
    cases w <;> first | exact .inl ⟨_, rfl⟩ | exact .inr e
  rcases key with ⟨z, rfl⟩ | q
  · cases rv
    exact .inr ⟨z, rfl, e⟩
  · exact .inl (src_ok rh rv q)
theorem RW.sqB {K : PySem.W.Frag} {av : Addr → Prop} {m : Mp} {H : Hp} {s : Src} {a : Addr} {L : Bool} {i : Nat} (r : RW K av m H s a L i) : ∃ xs, SqB K L H a xs := let ⟨xs, q, _⟩ := r.sq; ⟨xs, q⟩
theorem si_val (ha : PE X l (tE X.K B Wx fa)) : PI X tg l (tI X.K B Wx (iVal fa)) := piI (pi_sq ha) fun σ H R ⟨m, ll, h, k, x, rh, rl, e, hk, hx⟩ => by
  refine ⟨m, ll, h, _, x, rh, rl, e, fun m1 v w h1 H1 x1 r1 rv e1 => ?_, hx⟩
  rcases srcS_ok r1 rv e1 with ⟨L, p, s, rfl, q, e2⟩ | ⟨z, rfl, e2⟩
  · exact .inl ⟨L, p, rfl, q.sqB, hk _ _ _ _ _ x1 r1 (.sq q) e2⟩
  · exact .inr ⟨z, rfl, hk _ _ _ _ _ x1 r1 (.str (j := 0)) e2⟩
theorem si_fresh (ha : PE X l (tF X.K B Wx f)) : PI X tg l (tI X.K B Wx (iFresh f)) := piI (pi_sq ha) fun σ H R ⟨m, ll, h, k, x, rh, rl, e, hk, hx⟩ => by
  refine ⟨m, ll, h, _, x, rh, rl, e, fun m1 ws xs h1 H1 p x1 r1 hp np nm rv e1 => ?_, hx⟩
  refine .inl ⟨true, p, rfl, ⟨xs, .inl (.inl hp)⟩, hk _ (.tup (ws.drop 0)) _ _ _ x1 r1 (.sq (.new hp nm (fun z => by
    rcases z with z | z
    · rw [hp] at z; cases z
    · exact z.1 np) rv (Nat.zero_le _))) e1⟩
theorem si_rng1 (hg : Gl X "range") (hm : X.mg "range" = none) (ha : PE X a (tE X.K B Wx fa)) (ns : notStar a = true) : PI X tg (.Call (.Name "range" p) [a] [] pos) (tI X.K B Wx (iRng1 fa)) :=
  piI (pi_range1 hg hm (pa_cons ha pa_nil (star_cons ns _ _)) (star_cons ns _ _)) fun σ H R ⟨m, ll, h, k, x, rh, rl, e, hk, hx⟩ => by
    refine ⟨m, ll, h, _, x, rh, rl, e, fun m1 v w h1 H1 x1 r1 rv e1 => ?_, hx⟩
    obtain ⟨j, rfl, rfl, e2⟩ := intOf_ok rv e1
    obtain ⟨e3, e4⟩ := cond_f e2
    rw [blt_ok, iabs_ok] at e3
    have e3 := of_decide_eq_true e3
    have hb : big62 = 2 ^ 62 := by decide
    rw [hb] at e3
    exact ⟨j, rfl, by omega, by omega, hk _ _ _ _ _ x1 r1 (.rng (by omega) (by omega)) e4⟩
theorem si_rng2 (hg : Gl X "range") (hm : X.mg "range" = none) (ha : PE X a (tE X.K B Wx fa)) (hb : PE X b (tE X.K B Wx fb)) (na : notStar a = true) (nb : notStar b = true) : PI X tg (.Call (.Name "range" p) [a, b] [] pos) (tI X.K B Wx (iRng2 fa fb)) :=
  piI (pi_range2 hg hm (pa_cons ha (pa_cons hb pa_nil (star_cons nb _ _)) (star_cons na _ _)) (by rw [star_cons na, star_cons nb]; rfl) (star_cons nb _ _)) fun σ H R ⟨m, ll, h, k, x, rh, rl, e, hk, hx⟩ => by
    refine ⟨m, ll, h, _, x, rh, rl, e, fun m1 v w h1 H1 x1 r1 rv e1 => ?_, hx⟩
    refine ⟨m1, ll, h1, _, x, r1, rl.mono rh x1, e1, fun m2 v2 w2 h2 H2 x2 r2 rv2 e2 => ?_, hx.mono x1⟩
    obtain ⟨i, rfl, rfl, e3⟩ := intOf_ok rv e2
    obtain ⟨j, rfl, rfl, e4⟩ := intOf_ok rv2 e3
    obtain ⟨e5, e6⟩ := cond_f e4
    obtain ⟨e7, e8⟩ := cond_f e6
    rw [blt_ok, iabs_ok] at e5 e7
    have e5 := of_decide_eq_true e5
    have e7 := of_decide_eq_true e7
    have hb : big62 = 2 ^ 62 := by decide
    rw [hb] at e5 e7
    exact ⟨i, j, rfl, ⟨by omega, by omega, by omega, by omega⟩, hk _ _ _ _ _ (x1.trans x2) r2 (.rng (by omega) (rfl)) e8⟩
theorem si_zip (hg : Gl X "zip") (hm : X.mg "zip" = none) (ha : PE X a (tE X.K B Wx fa)) (hb : PE X b (tE X.K B Wx fb)) (na : notStar a = true) (nb : notStar b = true) : PI X (.Tuple elts kk tpos) (.Call (.Name "zip" p) [a, b] [] pos) (tI X.K B Wx (iZip fa fb)) :=
  piI (pi_zipB hg hm (pa_cons ha (pa_cons hb pa_nil (star_cons nb _ _)) (star_cons na _ _)) (star_cons na _ _) (by rw [star_cons nb]; rfl)) fun σ H R ⟨m, ll, h, k, x, rh, rl, e, hk, hx⟩ => by
    refine ⟨m, ll, h, _, x, rh, rl, e, fun m1 v w h1 H1 x1 r1 rv e1 => ?_, hx⟩
    refine ⟨m1, ll, h1, _, x, r1, rl.mono rh x1, e1, fun m2 v2 w2 h2 H2 x2 r2 rv2 e2 => ?_, hx.mono x1⟩
    obtain ⟨La, pa, sa, rfl, qa, e3⟩ := src_ok r2 (RV.mono r1 x2 rv) e2
    obtain ⟨Lb, pb, sb, rfl, qb, e4⟩ := src_ok r2 rv2 e3
    obtain ⟨xs, sx⟩ := qa.sqB
    obtain ⟨ys, sy⟩ := qb.sqB
    exact ⟨La, pa, Lb, pb, xs, ys, rfl, sx, sy, hk _ _ _ _ _ (x1.trans x2) r2 (.zip qa qb) e4⟩
theorem si_zip3 {b2 : Expr} {fd : E} (hg : Gl X "zip") (hm : X.mg "zip" = none) (ha : PE X a (tE X.K B Wx fa)) (hb : PE X b (tE X.K B Wx fb)) (hd : PE X b2 (tE X.K B Wx fd)) (na : notStar a = true) (nb : notStar b = true) (nd : notStar b2 = true) : PI X (.Tuple elts kk tpos) (.Call (.Name "zip" p) [a, b, b2] [] pos) (tI X.K B Wx (iZip3 fa fb fd)) :=
  piI (pi_zipC hg hm (pa_cons ha (pa_cons hb (pa_cons hd pa_nil (star_cons nd _ _)) (star_cons nb _ _)) (star_cons na _ _)) (star_cons na _ _) (by rw [star_cons nb, star_cons nd]; rfl)) fun σ H R ⟨m, ll, h, k, x, rh, rl, e, hk, hx⟩ => by
    refine ⟨m, ll, h, _, x, rh, rl, e, fun m1 v w h1 H1 x1 r1 rv e1 => ?_, hx⟩
    refine ⟨m1, ll, h1, _, x, r1, rl.mono rh x1, e1, fun m2 v2 w2 h2 H2 x2 r2 rv2 e2 => ?_, hx.mono x1⟩
    refine ⟨m2, ll, h2, _, x, r2, rl.mono rh (x1.trans x2), e2, fun m3 v3 w3 h3 H3 x3 r3 rv3 e3 => ?_, hx.mono (x1.trans x2)⟩
    obtain ⟨La, pa, sa, rfl, qa, e3⟩ := src_ok r3 (RV.mono r1 (x2.trans x3) rv) e3
    obtain ⟨Lb, pb, sb, rfl, qb, e4⟩ := src_ok r3 (RV.mono r2 x3 rv2) e3
    obtain ⟨Lc, pc, sc, rfl, qc, e5⟩ := src_ok r3 rv3 e4
    obtain ⟨xs, sx⟩ := qa.sqB
    obtain ⟨ys, sy⟩ := qb.sqB
    obtain ⟨zs, sz⟩ := qc.sqB
    exact ⟨La, pa, Lb, pb, Lc, pc, xs, ys, zs, rfl, sx, sy, sz, hk _ _ _ _ _ ((x1.trans x2).trans x3) r3 (.zip3 qa qb qc) e5⟩
theorem si_enum (hg : Gl X "enumerate") (hm : X.mg "enumerate" = none) (ha : PE X a (tE X.K B Wx fa)) (na : notStar a = true) : PI X (.Tuple elts kk tpos) (.Call (.Name "enumerate" p) [a] [] pos) (tI X.K B Wx (iEnum fa)) :=
  piI (pi_enumB hg hm (pa_cons ha pa_nil (star_cons na _ _)) (star_cons na _ _)) fun σ H R ⟨m, ll, h, k, x, rh, rl, e, hk, hx⟩ => by
    refine ⟨m, ll, h, _, x, rh, rl, e, fun m1 v w h1 H1 x1 r1 rv e1 => ?_, hx⟩
    obtain ⟨La, pa, sa, rfl, qa, e3⟩ := src_ok r1 rv e1
    obtain ⟨xs, sx⟩ := qa.sqB
    exact ⟨La, pa, xs, rfl, sx, hk _ _ _ _ _ x1 r1 (.enum rfl qa) e3⟩
theorem si_rev (hg : Gl X "reversed") (hm : X.mg "reversed" = none) (ha : PE X a (tE X.K B Wx fa)) (na : notStar a = true) : PI X tg (.Call (.Name "reversed" p) [a] [] pos) (tI X.K B Wx (iRev fa)) :=
  piI (RT.pi_revA hg hm ha (star_cons na _ _)) fun σ H R ⟨m, ll, h, k, x, rh, rl, e, hk, hx⟩ => by
    refine ⟨m, ll, h, _, x, rh, rl, e, fun m1 v w h1 H1 x1 r1 rv e1 => ?_, hx⟩
    cases rv with
    | @tup ws xs q s t =>
      have e2 : k (.tup (revA ws [])) h1 = true := e1
      rw [revA_ok, List.append_nil] at e2
      exact ⟨q, xs, rfl, .inr ⟨s, hk _ _ _ _ _ x1 r1 (.revT (j := 0) s t (Nat.zero_le _)) e2⟩⟩
    | @ref j q ej =>
      obtain ⟨_, ws, xs, f1, f2, f3⟩ := r1.get _ _ ej
      have e2 : hget h1 j (fun l => k (.rev j (lenW l) 0) h1) = true := e1
      obtain ⟨l, e3, e4⟩ := hget_ok e2
      rw [f1] at e3; cases e3
      rw [lenW_ok, f3.length] at e4
      exact ⟨q, xs, rfl, .inl ⟨.of f2, hk _ _ _ _ _ x1 r1 (.rev ej) e4⟩⟩
    | _ => cases (show false = true from e1)
end
end It

set_option Elab.async false
set_option linter.all false
set_option maxRecDepth 100000
set_option maxHeartbeats 1000000
/-! ItL: targets, comprehensions. -/
namespace It
open PySem PySem.Spec PyProof.Rows L2
def wsOk (o : Option (List Nat)) (σ σ' : L2.St) : Prop := match o with
  | none => True
  | some ws => wipe σ' ws = wipe σ ws
def XLOk (K : PySem.W.Frag) (B : Bag) (m : Mp) (H : Hp) (ex : Loc → KE) (Wx : WX) : Prop := ∀ m' l' σ' h' H' v cls d, Ext m H m' H' → RepH K m' h' H' → RepL K m' H' l' σ' → RX K B m' H' v cls d → ex l' v h' = true → Wx cls d σ' H'
def SOk (K : PySem.W.Frag) (m : Mp) (H : Hp) (k : KS) (Q : L2.St → Hp → Prop) : Prop := ∀ m' l' σ' h' H', Ext m H m' H' → RepH K m' h' H' → RepL K m' H' l' σ' → k l' h' = true → Q σ' H'
def GOk (K : PySem.W.Frag) (m : Mp) (H : Hp) (o : Option (List Nat)) (σ : L2.St) (k : KS) (Q : L2.St → Hp → Prop) : Prop := ∀ m' l' σ' h' H', Ext m H m' H' → RepH K m' h' H' → RepL K m' H' l' σ' → wsOk o σ σ' → k l' h' = true → Q σ' H'
section
variable {K : PySem.W.Frag} {B : Bag} {m m' : Mp} {h h' : IH} {H H' : Hp} {σ σ' : L2.St} {l : Loc} {Wx : WX} {o : Option (List Nat)}
theorem wsOk.refl : wsOk o σ σ := by
  cases o with
  | none => trivial
  | some ws => exact rfl
theorem wsOk.trans {σ2 : L2.St} (a : wsOk o σ σ') (b : wsOk o σ' σ2) : wsOk o σ σ2 := by
  cases o with
  | none => trivial
  | some ws => exact Eq.trans b a
theorem XLOk.mono {ex : Loc → KE} (q : XLOk K B m H ex Wx) (x : Ext m H m' H') : XLOk K B m' H' ex Wx := fun m2 l2 σ2 h2 H2 v c d x2 r rl rx e => q m2 l2 σ2 h2 H2 v c d (x.trans x2) r rl rx e
theorem XLOk.at {ex : Loc → KE} (q : XLOk K B m H ex Wx) (rh : RepH K m h H) (rl : RepL K m H l σ) : XOk K B m H σ (ex l) Wx := fun m2 v c d h2 H2 x2 r rx e => q m2 l σ h2 H2 v c d x2 r (rl.mono rh x2) rx e
theorem XLOk.no : XLOk K B m H (fun _ => kno) Wx := fun _ _ _ _ _ _ _ _ _ _ _ _ e => Bool.noConfusion e
theorem SOk.mono {k : KS} {Q : L2.St → Hp → Prop} (q : SOk K m H k Q) (x : Ext m H m' H') : SOk K m' H' k Q := fun m2 l2 σ2 h2 H2 x2 r rl e => q m2 l2 σ2 h2 H2 (x.trans x2) r rl e
theorem GOk.mono {k : KS} {Q : L2.St → Hp → Prop} (q : GOk K m H o σ k Q) (x : Ext m H m' H') : GOk K m' H' o σ k Q := fun m2 l2 σ2 h2 H2 x2 r rl w e => q m2 l2 σ2 h2 H2 (x.trans x2) r rl w e
theorem GOk.step {k : KS} {Q : L2.St → Hp → Prop} (q : GOk K m H o σ k Q) (w : wsOk o σ σ') : GOk K m H o σ' k Q := fun m2 l2 σ2 h2 H2 x2 r rl w2 e => q m2 l2 σ2 h2 H2 x2 r rl (w.trans w2) e
theorem SOk.g {k : KS} {Q : L2.St → Hp → Prop} (q : SOk K m H k Q) : GOk K m H o σ k Q := fun m2 l2 σ2 h2 H2 x2 r rl _ e => q m2 l2 σ2 h2 H2 x2 r rl e
end
def tG (K : PySem.W.Frag) (B : Bag) (Wx : WX) (o : Option (List Nat)) (g : G) : TG := fun v σ H Q => ∃ m l h w k ex, RepH K m h H ∧ RepL K m H l σ ∧ RV K m H w v ∧ g B.c w l h k ex = true ∧ GOk K m H o σ k Q ∧ XLOk K B m H ex Wx
def tGs (K : PySem.W.Frag) (B : Bag) (Wx : WX) (o : Option (List Nat)) (g : Gs) : TGs := fun vs σ H Q => ∃ m l h ws k ex, RepH K m h H ∧ RepL K m H l σ ∧ RVs K m H ws vs ∧ g B.c ws l h k ex = true ∧ GOk K m H o σ k Q ∧ XLOk K B m H ex Wx
section
variable {X : Cx} {B : Bag} {Wx : WX} {pos p tpos : Pos} {a b tg : Expr} {ts : List Expr} {fa fb : E} {g : G} {gs : Gs} {o : Option (List Nat)}
theorem pgI {t t' : TG} (h : PG X tg t) (i : ∀ v σ H Q, t' v σ H Q → t v σ H Q) : PG X tg t' := ⟨fun pins s σ H v u Q I r q => h.run pins s σ H v u Q I r (i v σ H Q q)⟩
theorem pgsI {t t' : TGs} (h : PGs X ts t) (i : ∀ v σ H Q, t' v σ H Q → t v σ H Q) : PGs X ts t' := ⟨fun pins s σ H v u Q I r q => h.run pins s σ H v u Q I r (i v σ H Q q)⟩
theorem wipe_get {σ : L2.St} {i : Nat} : ∀ {ws : List Nat}, (wipe σ ws)[i]? = if i ∈ ws then (σ[i]?).map (fun _ => none) else σ[i]?
  | [] => by rw [if_neg (by simp)]; rfl
  | v :: vs => by
    show ((wipe σ vs).set v none)[i]? = _
    rw [List.getElem?_set]
    by_cases e : v = i
    · subst e
      rw [if_pos rfl, if_pos List.mem_cons_self, wipe_length]
      by_cases h : v < σ.length
      · rw [if_pos h, List.getElem?_eq_getElem h]; rfl
      · rw [if_neg h, List.getElem?_eq_none (by omega)]; rfl
    · rw [if_neg e, wipe_get (ws := vs)]
      by_cases h : i ∈ vs
      · rw [if_pos h, if_pos (List.mem_cons_of_mem _ h)]
      · rw [if_neg h, if_neg (by simp [h, Ne.symm e])]
theorem wipe_set {σ : L2.St} {i : Nat} {x : Option V} {ws : List Nat} (hi : i ∈ ws) : wipe (σ.set i x) ws = wipe σ ws := by
  refine List.ext_getElem? fun j => ?_
  rw [wipe_get, wipe_get]
  by_cases h : j ∈ ws
  · rw [if_pos h, if_pos h, List.getElem?_set]
    by_cases e : i = j
    · subst e
      rw [if_pos rfl]
      by_cases h2 : i < σ.length
      · rw [if_pos h2, List.getElem?_eq_getElem h2]; rfl
      · rw [if_neg h2, List.getElem?_eq_none (by omega)]
    · rw [if_neg e]
  · rw [if_neg h, if_neg h, List.getElem?_set_ne (fun (e : i = j) => h (e ▸ hi))]
theorem wipe_idem {σ : L2.St} {ws : List Nat} : wipe (wipe σ ws) ws = wipe σ ws := by
  refine List.ext_getElem? fun j => ?_
  rw [wipe_get]
  by_cases h : j ∈ ws
  · rw [if_pos h, wipe_get, if_pos h]
    cases σ[j]? <;> rfl
  · rw [if_neg h]
theorem sg_name {i : Nat} {x : Str} (hN : X.N.Nodup) (hi : X.N[i]? = some x) (hx : L2.Loc X.env.scope x) (hf : X.fn x = true ∨ X.env.scope.names.lookup x = some .local) (ho : ∀ ws, o = some ws → i ∈ ws) : PG X (.Name x pos) (tG X.K B Wx o (gName i)) :=
  pgI (pg_name hN hi hx hf) fun v σ H Q ⟨m, l, h, w, k, ex, rh, rl, rv, e, hk, hx⟩ => by
    obtain ⟨e1, e2⟩ := lsetK_ok i l w _ e
    refine hk m _ _ h H .refl rh (rl.set e1 rv) ?_ e2
    cases o with
    | none => trivial
    | some ws => exact wipe_set (ho ws rfl)
theorem sgs_nil : PGs X [] (tGs X.K B Wx o It.gNil) := pgsI pgs_nil fun vs σ H Q ⟨m, l, h, ws, k, ex, rh, rl, rv, e, hk, hx⟩ => by
  cases rv with
  | nil => exact ⟨rfl, hk m l σ h H .refl rh rl .refl e⟩
  | cons a t => cases (show false = true from e)
theorem sgs_cons {e : Expr} {es : List Expr} (h1 : PG X e (tG X.K B Wx o g)) (h2 : PGs X es (tGs X.K B Wx o gs)) (hs : (assignEach (e :: es) X.env).map (·.2) = assign e X.env :: (assignEach es X.env).map (·.2)) : PGs X (e :: es) (tGs X.K B Wx o (It.gCons g gs)) :=
  pgsI (pgs_cons h1 h2 hs) fun vs σ H Q ⟨m, l, h, ws, k, ex, rh, rl, rv, e, hk, hx⟩ => by
    cases rv with
    | nil => cases (show false = true from e)
    | @cons w ws x xs r1 t =>
      refine ⟨x, xs, rfl, m, l, h, w, _, ex, rh, rl, r1, e, fun m1 l1 σ1 h1 H1 x1 rh1 rl1 w1 e1 => ?_, hx⟩
      exact ⟨m1, l1, h1, ws, k, ex, rh1, rl1, RVs.mono rh x1 t, e1, (hk.mono x1).step w1, hx.mono x1⟩
theorem sg_tup {n : Nat} {k : Nat} (hc : X.calm = true) (h : PGs X ts (tGs X.K B Wx o gs)) (hn : (assignEach ts X.env).length = n) (hst : (assignEach ts X.env).findIdx? (·.1) = none)
    : PG X (.Tuple ts k pos) (tG X.K B Wx o (It.gTup n gs)) :=
  ⟨fun pins s σ H v u Q I r ⟨m, l, h', w, k, ex, rh, rl, rv, e, hk, hx⟩ => by
    have key : ∀ ws : List W, cond (Nat.beq (lenW ws) n) (gs B.c ws l h' k ex) false = true → ws.length = n ∧ gs B.c ws l h' k ex = true := fun ws e => by
      obtain ⟨e1, e2⟩ := cond_f e
      have e3 := Nat.eq_of_beq_eq_true e1
      rw [lenW_ok] at e3
      exact ⟨e3, e2⟩
    cases rv with
    | @tup ws xs p st t =>
      obtain ⟨e3, e2⟩ := key ws e
      exact (pg_tup hc h hn hst).run pins s σ H _ u Q I r ⟨p, xs, rfl, st, by rw [← t.length]; exact e3, m, l, h', ws, k, ex, rh, rl, t, e2, hk, hx⟩
    | @ref j p ej =>
      obtain ⟨l2, e1, e2⟩ := hget_ok (show hget h' j (fun ws => cond (Nat.beq (lenW ws) n) (gs B.c ws l h' k ex) false) = true from e)
      obtain ⟨ws, xs, f1, f2, f3, _⟩ := sqL_ref rh ej
      rw [f1] at e1; cases e1
      obtain ⟨e3, e4⟩ := key _ e2
      exact (pg_lst hc h hn hst).run pins s σ H _ u Q I r ⟨p, xs, rfl, f2, by rw [← f3.length]; exact e3, m, l, h', _, k, ex, rh, rl, f3, e4, hk, hx⟩
    | @fl ws xs p ej t =>
      obtain ⟨e3, e2⟩ := key ws e
      exact (pg_lst hc h hn hst).run pins s σ H _ u Q I r ⟨p, xs, rfl, sqL_fl ej, by rw [← t.length]; exact e3, m, l, h', ws, k, ex, rh, rl, t, e2, hk, hx⟩
    | _ => cases (show false = true from e)⟩
theorem ixK_ixN {i : Int} {l : List W} {c : Nat → Bool} (q : ixK i l c = true) : ∃ j, c j = true ∧ (j < l.length → ixN l.length i = some j) := by
  cases i with
  | ofNat a => exact ⟨a, q, fun h => by
      unfold ixN
      simp only [Int.ofNat_eq_natCast]
      have h1 : (0 : Int) ≤ (a : Int) := Int.natCast_nonneg a
      simp [h1, h]⟩
  | negSucc a =>
    obtain ⟨q1, q2⟩ := cond_f q
    rw [blt_ok, lenW_ok] at q1
    have q1 := of_decide_eq_true q1
    rw [lenW_ok] at q2
    exact ⟨_, q2, fun h => by
      unfold ixN
      have e : (Int.negSucc a) = -((a : Int) + 1) := Int.negSucc_eq a
      rw [e]
      have h1 : ¬ (0 : Int) ≤ -((a : Int) + 1) := by omega
      have h2 : -(l.length : Int) ≤ -((a : Int) + 1) := by omega
      rw [if_neg h1, if_pos h2]
      have e2 : Nat.sub l.length a.succ = l.length - (a + 1) := rfl
      rw [e2]
      have h3 : (-((a : Int) + 1) + (l.length : Int)).toNat = l.length - (a + 1) := by omega
      rw [h3]⟩
theorem setN_ok : ∀ (n : Nat) (y : W) (l : List W) (c : List W → Bool), setN n y l c = true → n < l.length ∧ c (l.set n y) = true
  | 0, y, [], c, q => by cases (show false = true from q)
  | 0, y, x :: l, c, q => ⟨Nat.succ_pos _, q⟩
  | n + 1, y, [], c, q => by cases (show false = true from q)
  | n + 1, y, x :: l, c, q => by
    obtain ⟨h1, h2⟩ := setN_ok n y l (fun z => c (x :: z)) q
    exact ⟨Nat.succ_lt_succ h1, h2⟩
theorem sg_sub {i : Expr} (ha : PE X a (tE X.K B Wx fa)) (hb : PE X b (tE X.K B Wx fb)) (has : ∀ v, assign (.Subscript a b pos) X.env v = (do
      let ov ← holding [v] (eval a X.env)
      let iv ← holding [v, ov] (eval b X.env)
      standAt pos
      holding [v, ov, iv] (setItem ov iv v)
      release [v, ov, iv] [])) : PG X (.Subscript a b pos) (tG X.K B Wx o (It.gSub fa fb)) :=
  pgI (pg_sub ha hb set_list has) fun v σ H Q ⟨m, l, h, w, k, ex, rh, rl, rv, e, hk, hx⟩ => by
    have hX := hx.at rh rl
    refine ⟨m, l, h, _, _, rh, rl, e, fun m1 w1 o1 h1 H1 x1 r1 rv1 e1 => ?_, hX⟩
    refine ⟨m1, l, h1, _, _, r1, rl.mono rh x1, e1, fun m2 w2 i2 h2 H2 x2 r2 rv2 e2 => ?_, hX.mono x1⟩
    have rv1 := RV.mono r1 x2 rv1
    cases rv1 with
    | @ref j p ej =>
      obtain ⟨z, rfl, rfl, e3⟩ := intOf_ok rv2 (show intOf w2 (fun z => hget h2 j fun ws => ixK z ws fun n => setN n w ws fun ws' => hset h2 j ws' fun h3 => k l h3) = true from e2)
      obtain ⟨hc, ws, xs, f1, f2, f3⟩ := r2.get _ _ ej
      obtain ⟨l2, e4, e5⟩ := hget_ok e3
      rw [f1] at e4; cases e4
      obtain ⟨n, e6, e7⟩ := ixK_ixN e5
      obtain ⟨e8, e9⟩ := setN_ok _ _ _ _ e6
      obtain ⟨h3, e10, e11, e12⟩ := hset_ok hc e9
      have hl := f3.length
      refine ⟨p, xs, z, n, rfl, rfl, f2, by rw [← hl]; exact e7 e8, ?_⟩
      have le : xs.length ≤ (xs.set n v).length := by rw [List.length_set]; exact Nat.le_refl _
      have rvv := RV.mono rh (x1.trans x2) rv
      have X3 := (x1.trans x2).trans (.write ej f2 le)
      exact hk m2 l σ h3 _ X3 (r2.write ej e11 e12 (RVs.set rvv n f3) f2 le) (rl.mono rh X3) .refl e10
    | _ => cases (show false = true from e2)
end
/-! ### comprehensions -/
theorem RepH.nofree {K : PySem.W.Frag} {m : Mp} {h : IH} {H : Hp} (r : RepH K m h H) {D : Addr} (hD : H D = none) : m.no D := r.no0 hD
theorem fuel_lt {n : Nat} (h : n < fuel) : n < sizeLine := Nat.lt_of_lt_of_le h (Nat.le_trans (by decide : fuel ≤ line) line_le)
theorem Ext.outD {m m' : Mp} {H H' : Hp} {D : Addr} {as bs : List V} (x : Ext m H m' H') (hn : H D = none) (hD : H' D = some (.lst as)) : Ext m H m' (upd H' D (.lst bs)) := by
  have ne : ∀ {a : Addr}, H a ≠ none → a ≠ D := fun h z => by subst z; exact h hn
  refine ⟨x.sub, x.new, fun a o e n nt => ?_, fun a e => ?_, fun k a xs hk e => ?_, x.ob⟩
  · rw [upd_ne (ne (by rw [e]; exact fun z => nomatch z))]; exact x.stay a o e n nt
  · rw [upd_ne (ne e)]; exact x.there a e
  · rw [upd_ne (ne (by rw [e]; exact fun z => nomatch z))]; exact x.len k a xs hk e
abbrev wNo : WX := fun _ _ _ _ => False
theorem lclrK_ok : ∀ (i : Nat) (l : Loc) (c : Loc → Bool), lclrK i l c = true → c (l.set i none) = true
  | 0, [], _, q => by cases (show false = true from q)
  | 0, _ :: _, _, q => q
  | i + 1, [], _, q => by cases (show false = true from q)
  | i + 1, x :: l, c, q => lclrK_ok i l (fun z => c (x :: z)) q
theorem RepL.clr {K : PySem.W.Frag} {m : Mp} {H : Hp} {l : Loc} {σ : L2.St} (r : RepL K m H l σ) (i : Nat) : RepL K m H (l.set i none) (σ.set i none) := by
  refine ⟨by rw [List.length_set, List.length_set]; exact r.1, fun j w e => ?_⟩
  by_cases z : i = j
  · subst z
    by_cases hi : i < l.length
    · rw [List.getElem?_set_self hi] at e; cases e
    · rw [List.getElem?_eq_none (by rw [List.length_set]; omega)] at e; cases e
  · rw [List.getElem?_set_ne z] at e
    rw [List.getElem?_set_ne z]
    exact r.2 j w e
theorem wipeK_ok {K : PySem.W.Frag} {m : Mp} {H : Hp} {l : Loc} {σ : L2.St} (r : RepL K m H l σ) : ∀ (vs : List Nat) (c : Loc → Bool), wipeK vs l c = true → ∃ l', RepL K m H l' (wipe σ vs) ∧ c l' = true
  | [], c, q => ⟨l, r, q⟩
  | v :: vs, c, q => by
    obtain ⟨l', r', q'⟩ := wipeK_ok r vs (fun l' => lclrK v l' c) q
    exact ⟨_, r'.clr v, lclrK_ok _ _ _ q'⟩
section
variable {K : PySem.W.Frag} {B : Bag} {Wx : WX} {fi : Is} {g : G} {t : Tt} {fe : E} {vs : List Nat}
theorem lcLoop_ok {c : Orc} {k : KL} {n : Nat} {s : Src} {acc : List W} {l : Loc} {h : IH} (e : lcLoop n g t fe c k s acc l h = true) : ∃ n', n = n' + 1 ∧ nextK s h (k (revA acc []) h) (fun w s' => g c w l h (fun l1 h1 => t c l1 h1 (fun p h2 => cond p (fe c l1 h2 (fun y h3 => lcLoop n' g t fe c k s' (y :: acc) l h3) kno) (lcLoop n' g t fe c k s' acc l h2)) kno) (fun _ => kno)) = true := by
  cases n with
  | zero => cases (show false = true from e)
  | succ n => exact ⟨n, rfl, e⟩
theorem lc_imp (σ : L2.St) (H : Hp) (Q : VK) (q : tF K B Wx (sLc vs fi g t fe) σ H Q) : tLc (tI K B Wx fi) (tG K B wNo (some vs) g) (tB K B wNo t) (tE K B wNo fe) vs σ H Q := by
  obtain ⟨m, l, h, k, x, rh, rl, e, hk, hx⟩ := q
  refine ⟨m, l, h, _, x, rh, rl, e, fun m1 s J h1 H1 x1 r1 ri e1 D hD => ?_, hx⟩
  replace ri := RI.avH ri
  obtain ⟨l', rl', e2⟩ := wipeK_ok (rl.mono rh x1) vs _ e1
  -- the turns
  refine ⟨fun i n H' => ∃ m' h' s' acc as, Ext m1 H1 m' H' ∧ RepH K m' h' H' ∧ RI K (avH H1) m' H' s' J i ∧ H' D = some (.lst as) ∧ m'.no D ∧ RVs K m' H' acc.reverse as ∧ as.length + n ≤ fuel ∧ lcLoop n g t fe B.c k s' acc l' h' = true, ⟨fuel, ?_⟩, ?_⟩
  · have X1 : Ext m1 H1 m1 (upd H1 D (.lst [])) := .laid hD
    exact ⟨m1, h1, s, [], [], X1, r1.laid hD, ri.mono r1 X1, upd_same, r1.nofree hD, .nil, Nat.le_of_eq (Nat.zero_add _), e2⟩
  · rintro i n H' ⟨m', h', s', acc, as, X1, rh', ri', hD', nD, racc, hf, e3⟩
    obtain ⟨n', rfl, e4⟩ := lcLoop_ok e3
    rcases nextI rh' ri' e4 with ⟨stop, e5⟩ | ⟨go, w, s2, e5, step⟩
    · refine .inl ⟨stop, ?_⟩
      rw [revA_ok, List.append_nil] at e5
      refine hk m' _ as h' H' D (x1.trans X1) rh' hD' ?_ nD racc e5
      cases q : H D with
      | none => rfl
      | some u => exact absurd hD (x1.there D (by rw [q]; exact fun z => nomatch z))
    · refine .inr ⟨go, fun H'' => ∃ m' h' acc as, Ext m1 H1 m' H'' ∧ RepH K m' h' H'' ∧ RI K (avH H1) m' H'' s2 J (i + 1) ∧ H'' D = some (.lst as) ∧ m'.no D ∧ RVs K m' H'' acc.reverse as ∧ as.length + n' ≤ fuel ∧ lcLoop n' g t fe B.c k s2 acc l' h' = true, fun H'' ⟨m', h', acc, as, z⟩ => ⟨n', Nat.lt_succ_self _, m', h', s2, acc, as, z⟩, fun v H2 hy => ?_⟩
      obtain ⟨X2, rh2, rv2, ri2⟩ := step v H2 hy
      have no : ∀ {m2 : Mp} {H3 : Hp}, Ext m' H' m2 H3 → m2.no D := fun {m2 H3} x => x.no nD (by rw [hD']; exact fun z => nomatch z)
      have keepD : ∀ {m2 : Mp} {H3 : Hp}, Ext m' H' m2 H3 → H3 D = some (.lst as) := fun x => x.stay D _ hD' nD fun _ z => nomatch z
      refine ⟨m', l', h', w, _, _, rh2, (rl'.mono r1 X1).mono rh' X2, rv2, e5, fun m3 l3 σ3 h3 H3 X3 rh3 rl3 w3 e6 => ⟨?_, ?_⟩, XLOk.no⟩
      · have z : wipe σ3 vs = wipe (wipe σ vs) vs := w3
        rw [z, wipe_idem]
      · refine ⟨m3, l3, h3, _, _, rh3, rl3, e6, fun m4 b h4 H4 X4 rh4 e7 => ?_, XOk.no⟩
        have X24 := (X2.trans X3).trans X4
        rcases cond_t e7 with ⟨rfl, e8⟩ | ⟨rfl, e8⟩
        · refine (if_pos rfl).mpr ?_
          refine ⟨m4, l3, h4, _, _, rh4, rl3.mono rh3 X4, e8, fun m5 y v5 h5 H5 X5 rh5 rv5 e9 => ?_, XOk.no⟩
          have X25 := X24.trans X5
          have hD5 := keepD X25
          have nD5 := no X25
          have racc5 := RVs.mono rh' X25 racc
          refine ⟨as, hD5, fuel_lt (by omega), m5, h5, y :: acc, as ++ [v5], ?_, rh5.out hD5 nD5, ?_, upd_same, nD5, ?_, ?_, e9⟩
          · exact (X1.trans X25).outD hD hD5
          · exact RI.out hD5 nD5 hD (((ri2.mono rh2 X3).mono rh3 X4).mono rh4 X5)
          · rw [List.reverse_cons]
            exact RVs.out hD5 (racc5.append (.cons rv5 .nil))
          · rw [List.length_append]
            show as.length + 1 + n' ≤ fuel
            omega
        · refine (if_neg Bool.false_ne_true).mpr ?_
          exact ⟨m4, h4, acc, as, X1.trans X24, rh4, (ri2.mono rh2 X3).mono rh3 X4, keepD X24, no X24, RVs.mono rh' X24 racc, by omega, e8⟩
end
end It

set_option Elab.async false
set_option linter.all false
set_option maxRecDepth 100000
set_option maxHeartbeats 1000000
/-! ItM: comprehensions as values, statements. -/
namespace It
open PySem PySem.Spec PyProof.Rows L2
section
variable {X : Cx} {B : Bag} {Wx : WX} {pos p tpos spos : Pos} {a b tg : Expr} {ts : List Expr} {fa fb fe : E} {g : G} {gs : Gs} {o : Option (List Nat)} {fi : Is} {t : Tt}
theorem sf_lc {elt iter : Expr} {ifs : List Expr} {scope : Scope} {own : List (Str × Nat)} (hc : X.calm = true) (hN : X.N.Nodup) (hi : PI X tg iter (tI X.K B Wx fi)) (ok : BlkOk X.N X.env.scope scope own)
    (hg : ∀ (s : Shared) (H : Hp) (C : Addr) (cl : List (Str × Addr)) (fp : List Addr), PG (X.blk s H scope (compEnvC scope cl C X.env) fp) tg (tG X.K B wNo (some (own.map (·.2))) g)) (ht : ∀ (s : Shared) (H : Hp) (C : Addr) (cl : List (Str × Addr)) (fp : List Addr), PTs (X.blk s H scope (compEnvC scope cl C X.env) fp) ifs (tB X.K B wNo t))
    (he : ∀ (s : Shared) (H : Hp) (C : Addr) (cl : List (Str × Addr)) (fp : List Addr), PE (X.blk s H scope (compEnvC scope cl C X.env) fp) elt (tE X.K B wNo fe)) (hs : ∀ x, foldedSetIterable iter X.env x = pure x) :
    PE X (.ListComp elt [⟨tg, iter, ifs, 0⟩] scope pos) (tF X.K B Wx (sLc (own.map (·.2)) fi g t fe)) := peI (pe_lc hc hN hi ok hg ht he hs) lc_imp
theorem spts_nil : PTs X [] (tB X.K B Wx tYes) := ⟨fun pins s σ H Q I ⟨m, l, h, k, x, rh, rl, e, hk, hx⟩ => pts_nil.run pins s σ H Q I (hk m _ h H .refl rh e)⟩
theorem spts_one {c : Expr} (h : PT X c (tB X.K B Wx t)) : PTs X [c] (tB X.K B Wx t) := pts_one h
end
/-- a statement -/
structure SR (K : PySem.W.Frag) (B : Bag) (Wx : WX) (m : Mp) (H : Hp) (D : Ends) (nx : KS) (rt : KE) (bk ct : KS) (ex : Loc → KE) : Prop where
  nx : SOk K m H nx D.nx
  rt : KOk K m H rt D.rt
  bk : SOk K m H bk D.bk
  ct : SOk K m H ct D.ct
  ex : XLOk K B m H ex Wx
def tS (K : PySem.W.Frag) (B : Bag) (Wx : WX) (s : S) : TS := fun D σ H => ∃ m l h nx rt bk ct ex, RepH K m h H ∧ RepL K m H l σ ∧ s B.c l h nx rt bk ct ex = true ∧ SR K B Wx m H D nx rt bk ct ex
theorem SR.mono {K : PySem.W.Frag} {B : Bag} {Wx : WX} {m m' : Mp} {H H' : Hp} {D : Ends} {nx : KS} {rt : KE} {bk ct : KS} {ex : Loc → KE} (r : SR K B Wx m H D nx rt bk ct ex) (x : Ext m H m' H') : SR K B Wx m' H' D nx rt bk ct ex :=
  ⟨r.nx.mono x, r.rt.mono x, r.bk.mono x, r.ct.mono x, r.ex.mono x⟩
section
variable {X : Cx} {B : Bag} {Wx : WX} {pos p tpos : Pos} {a b tg e : Expr} {ts : List Expr} {st : Stmt} {sts sts' : List Stmt} {fa fb fe : E} {g : G} {gs : Gs} {fi : Is} {t : Tt} {s s' : S} {f : Es}
theorem psI {t t' : TS} (h : PS X st t) (i : ∀ D σ H, t' D σ H → t D σ H) : PS X st t' := ⟨fun pins s σ H D I q => h.run pins s σ H D I (i D σ H q)⟩
theorem pssI {t t' : TS} (h : PSs X sts t) (i : ∀ D σ H, t' D σ H → t D σ H) : PSs X sts t' := ⟨fun pins s σ H D I q => h.run pins s σ H D I (i D σ H q)⟩
theorem ss_stuck : PS X st (tS X.K B Wx sStuck) := ⟨fun _ _ _ _ _ _ ⟨_, _, _, _, _, _, _, _, _, _, q, _⟩ => Bool.noConfusion q⟩
theorem sss_stuck : PSs X sts (tS X.K B Wx sStuck) := ⟨fun _ _ _ _ _ _ ⟨_, _, _, _, _, _, _, _, _, _, q, _⟩ => Bool.noConfusion q⟩
theorem nil_imp (D : Ends) (σ : L2.St) (H : Hp) (q : tS X.K B Wx sNil D σ H) : tNext D σ H := by
  obtain ⟨m, l, h, nx, rt, bk, ct, ex, rh, rl, e, r⟩ := q
  exact r.nx m l σ h H .refl rh rl e
theorem ss_pass : PS X (.Pass pos) (tS X.K B Wx sNil) := psI ps_pass nil_imp
theorem ss_doc {x : Str} {j : Nat} {pos' : Pos} : PS X (.Expr (.Constant (.str x) j pos) pos') (tS X.K B Wx sNil) := psI ps_doc nil_imp
theorem ss_brk : PS X (.Break pos) (tS X.K B Wx sBrk) := psI ps_break fun D σ H ⟨m, l, h, nx, rt, bk, ct, ex, rh, rl, e, r⟩ => r.bk m l σ h H .refl rh rl e
theorem ss_cnt : PS X (.Continue pos) (tS X.K B Wx sCnt) := psI ps_continue fun D σ H ⟨m, l, h, nx, rt, bk, ct, ex, rh, rl, e, r⟩ => r.ct m l σ h H .refl rh rl e
theorem sss_nil : PSs X [] (tS X.K B Wx sNil) := pssI pss_nil nil_imp
theorem seq_imp (D : Ends) (σ : L2.St) (H : Hp) (q : tS X.K B Wx (sSeq s s') D σ H) : tSeq (tS X.K B Wx s) (tS X.K B Wx s') D σ H := by
  obtain ⟨m, l, h, nx, rt, bk, ct, ex, rh, rl, e, r⟩ := q
  exact ⟨m, l, h, _, rt, bk, ct, ex, rh, rl, e, fun m1 l1 σ1 h1 H1 x1 r1 rl1 e1 => ⟨m1, l1, h1, nx, rt, bk, ct, ex, r1, rl1, e1, r.mono x1⟩, r.rt, r.bk, r.ct, r.ex⟩
theorem sss_cons (h1 : PS X st (tS X.K B Wx s)) (h2 : PSs X sts (tS X.K B Wx s')) : PSs X (st :: sts) (tS X.K B Wx (sSeq s s')) := pssI (pss_cons h1 h2) seq_imp
theorem sss_one (h1 : PS X st (tS X.K B Wx s)) : PSs X [st] (tS X.K B Wx s) := pss_one h1
theorem ss_drop (ha : PE X a (tE X.K B Wx fa)) (hs : swapsWith a none pos.line X.env = pure false) : PS X (.Expr a pos) (tS X.K B Wx (sDrop fa)) := psI (ps_expr ha hs) fun D σ H ⟨m, l, h, nx, rt, bk, ct, ex, rh, rl, e, r⟩ =>
  ⟨m, l, h, _, _, rh, rl, e, fun m1 v w h1 H1 x1 r1 rv e1 => r.nx m1 l σ h1 H1 x1 r1 (rl.mono rh x1) e1, r.ex.at rh rl⟩
theorem ss_ret (ha : PE X a (tE X.K B Wx fa)) : PS X (.Return (some a) pos) (tS X.K B Wx (sRet fa)) := psI (ps_ret ha) fun D σ H ⟨m, l, h, nx, rt, bk, ct, ex, rh, rl, e, r⟩ => ⟨m, l, h, _, _, rh, rl, e, r.rt, r.ex.at rh rl⟩
theorem ss_retN : PS X (.Return none pos) (tS X.K B Wx sRetN) := psI ps_retN fun D σ H ⟨m, l, h, nx, rt, bk, ct, ex, rh, rl, e, r⟩ => r.rt m _ _ h H .refl rh .non e
theorem ss_if {c : Expr} (hc : PT X c (tB X.K B Wx t)) (h1 : PSs X sts (tS X.K B Wx s)) (h2 : PSs X sts' (tS X.K B Wx s')) : PS X (.If c sts sts' pos) (tS X.K B Wx (sIf t s s')) := psI (ps_if hc h1 h2) fun D σ H ⟨m, l, h, nx, rt, bk, ct, ex, rh, rl, e, r⟩ => by
  refine ⟨m, l, h, _, _, rh, rl, e, fun m1 b h1 H1 x1 r1 e1 => ?_, r.ex.at rh rl⟩
  rcases cond_t e1 with ⟨rfl, e2⟩ | ⟨rfl, e2⟩
  · exact (if_pos rfl).mpr ⟨m1, l, h1, nx, rt, bk, ct, ex, r1, rl.mono rh x1, e2, r.mono x1⟩
  · exact (if_neg Bool.false_ne_true).mpr ⟨m1, l, h1, nx, rt, bk, ct, ex, r1, rl.mono rh x1, e2, r.mono x1⟩
theorem asg_imp (D : Ends) (σ : L2.St) (H : Hp) (q : tS X.K B Wx (sAsg fa g) D σ H) : tAsg (tE X.K B Wx fa) (tG X.K B Wx none g) D σ H := by
  obtain ⟨m, l, h, nx, rt, bk, ct, ex, rh, rl, e, r⟩ := q
  exact ⟨m, l, h, _, _, rh, rl, e, fun m1 v w h1 H1 x1 r1 rv e1 => ⟨m1, l, h1, v, nx, ex, r1, rl.mono rh x1, rv, e1, (r.nx.mono x1).g, r.ex.mono x1⟩, r.ex.at rh rl⟩
theorem ss_asg (ha : PE X a (tE X.K B Wx fa)) (hg : PG X tg (tG X.K B Wx none g)) (hs : swapsWithSole [tg] a pos.line X.env = pure false) (hw : swappedStores [tg] a X.env = pure none)
    (h1 : (assignEach [tg] X.env).map (·.2) = [assign tg X.env]) : PS X (.Assign [tg] a pos) (tS X.K B Wx (sAsg fa g)) := psI (ps_asg ha hg hs hw h1) asg_imp
/-- name = [..] on one line -/
theorem lay_imp {K : PySem.W.Frag} (σ : L2.St) (H : Hp) (Q : VK) (q : tE K B Wx (eLay f) σ H Q) : tF K B Wx f σ H Q := by
  obtain ⟨m, l, h, k, x, rh, rl, e, hk, hx⟩ := q
  refine ⟨m, l, h, _, x, rh, rl, e, fun m1 ws xs h1 H1 p x1 r1 hp np nm rv e1 => ?_, hx⟩
  obtain ⟨hc, h2, e2, hn2, hl2⟩ := halloc_ok e1
  have z := r1.new h1.n (Nat.le_refl _)
  exact hk (put m1 h1.n p) _ _ h2 H1 (.put z np x1) (r1.take hp nm hc hn2 hl2 rv fun t => RVs.put z t) (.ref put_same) e2
theorem ss_setLc {elt iter : Expr} {ifs : List Expr} {scope : Scope} {own : List (Str × Nat)} {i : Nat} {y : Str} {py spos : Pos} (hc : X.calm = true) (hN : X.N.Nodup) (hy : X.N[i]? = some y) (hyl : X.env.scope.names.lookup y = some .local)
    (hsw : swapsWith (.ListComp elt [⟨tg, iter, ifs, 0⟩] scope pos) (some (.Name y py)) spos.line X.env = pure true) (hi : PI X tg iter (tI X.K B Wx fi)) (ok : BlkOk X.N X.env.scope scope own)
    (hg : ∀ (s : Shared) (H : Hp) (C : Addr) (cl : List (Str × Addr)) (fp : List Addr), PG (X.blk s H scope (compEnvC scope cl C X.env) fp) tg (tG X.K B wNo (some (own.map (·.2))) g)) (ht : ∀ (s : Shared) (H : Hp) (C : Addr) (cl : List (Str × Addr)) (fp : List Addr), PTs (X.blk s H scope (compEnvC scope cl C X.env) fp) ifs (tB X.K B wNo t))
    (he : ∀ (s : Shared) (H : Hp) (C : Addr) (cl : List (Str × Addr)) (fp : List Addr), PE (X.blk s H scope (compEnvC scope cl C X.env) fp) elt (tE X.K B wNo fe)) (hs : ∀ x, foldedSetIterable iter X.env x = pure x) :
    PS X (.Assign [.Name y py] (.ListComp elt [⟨tg, iter, ifs, 0⟩] scope pos) spos) (tS X.K B Wx (sAsg (eLay (sLc (own.map (·.2)) fi g t fe)) (It.gName i))) :=
  psI (ps_setLc hc hN hy hyl hsw hi ok hg ht he hs) fun D σ H q => by
    obtain ⟨m, l, h, nx, rt, bk, ct, ex, rh, rl, e, r⟩ := q
    refine lc_imp σ H _ (lay_imp σ H _ ⟨m, l, h, _, _, rh, rl, e, fun m1 v w h1 H1 x1 r1 rv e1 => ?_, r.ex.at rh rl⟩)
    obtain ⟨e2, e3⟩ := lsetK_ok i l v _ e1
    exact r.nx m1 _ _ h1 H1 x1 r1 ((rl.mono rh x1).set e2 rv) e3
/-- a, b = x, y: the stores from the right; the names are plain and apart -/
theorem ss_par {i j n : Nat} {x y : Str} {px py pt : Pos} {kt k2 : Nat} {pt2 : Pos} (hc : X.calm = true) (hN : X.N.Nodup) (hi : X.N[i]? = some x) (hj : X.N[j]? = some y) (hij : i ≠ j)
    (hx : X.env.scope.names.lookup x = some .local) (hy : X.env.scope.names.lookup y = some .local) (ha : PA X [a, b] (tA X.K B Wx n f))
    (hw : swappedStores [.Tuple [.Name x px, .Name y py] kt pt] (.Tuple [a, b] k2 pt2) X.env = pure (some [x, y]))
    (hs : swapsWithSole [.Tuple [.Name x px, .Name y py] kt pt] (.Tuple [a, b] k2 pt2) pos.line X.env = pure false) :
    PS X (.Assign [.Tuple [.Name x px, .Name y py] kt pt] (.Tuple [a, b] k2 pt2) pos) (tS X.K B Wx (sPar f (It.gCons (It.gName i) (It.gCons (It.gName j) It.gNil)))) :=
  psI (ps_par hc hN hi hj hij hx hy ha hw hs) fun D σ H ⟨m, l, h, nx, rt, bk, ct, ex, rh, rl, e, r⟩ => by
    refine ⟨m, l, h, _, _, rh, rl, e, fun m1 ws xs h1 H1 x1 r1 rv hl e1 => ?_, r.ex.at rh rl⟩
    have rl1 := rl.mono rh x1
    cases rv with
    | nil => cases (show false = true from e1)
    | cons ra t =>
      obtain ⟨e2, e3⟩ := lsetK_ok i l _ _ (show lsetK i l _ _ = true from e1)
      cases t with
      | nil => cases (show false = true from e3)
      | cons rb t =>
        obtain ⟨e4, e5⟩ := lsetK_ok j _ _ _ (show lsetK j _ _ _ = true from e3)
        cases t with
        | nil => exact ⟨_, _, rfl, r.nx m1 _ _ h1 H1 x1 r1 ((rl1.set e2 ra).set e4 rb) e5⟩
        | cons _ _ => cases (show false = true from e5)
theorem ss_par3 {i j d n : Nat} {x y z : Str} {c : Expr} {px py pz pt : Pos} {kt k2 : Nat} {pt2 : Pos} (hc : X.calm = true) (hN : X.N.Nodup) (hi : X.N[i]? = some x) (hj : X.N[j]? = some y) (hd : X.N[d]? = some z) (hij : i ≠ j) (hid : i ≠ d) (hjd : j ≠ d)
    (hx : X.env.scope.names.lookup x = some .local) (hy : X.env.scope.names.lookup y = some .local) (hz : X.env.scope.names.lookup z = some .local) (ha : PA X [a, b, c] (tA X.K B Wx n f))
    (hw : swappedStores [.Tuple [.Name x px, .Name y py, .Name z pz] kt pt] (.Tuple [a, b, c] k2 pt2) X.env = pure (some [x, y, z]))
    (hs : swapsWithSole [.Tuple [.Name x px, .Name y py, .Name z pz] kt pt] (.Tuple [a, b, c] k2 pt2) pos.line X.env = pure false) :
    PS X (.Assign [.Tuple [.Name x px, .Name y py, .Name z pz] kt pt] (.Tuple [a, b, c] k2 pt2) pos) (tS X.K B Wx (sPar f (It.gCons (It.gName i) (It.gCons (It.gName j) (It.gCons (It.gName d) It.gNil))))) :=
  psI (ps_par3 hc hN hi hj hd hij hid hjd hx hy hz ha hw hs) fun D σ H ⟨m, l, h, nx, rt, bk, ct, ex, rh, rl, e, r⟩ => by
    refine ⟨m, l, h, _, _, rh, rl, e, fun m1 ws xs h1 H1 x1 r1 rv hl e1 => ?_, r.ex.at rh rl⟩
    have rl1 := rl.mono rh x1
    cases rv with
    | nil => cases (show false = true from e1)
    | cons ra t =>
      obtain ⟨e2, e3⟩ := lsetK_ok i l _ _ (show lsetK i l _ _ = true from e1)
      cases t with
      | nil => cases (show false = true from e3)
      | cons rb t =>
        obtain ⟨e4, e5⟩ := lsetK_ok j _ _ _ (show lsetK j _ _ _ = true from e3)
        cases t with
        | nil => cases (show false = true from e5)
        | cons rc t =>
          obtain ⟨e6, e7⟩ := lsetK_ok d _ _ _ (show lsetK d _ _ _ = true from e5)
          cases t with
          | nil => exact ⟨_, _, _, rfl, r.nx m1 _ _ h1 H1 x1 r1 (((rl1.set e2 ra).set e4 rb).set e6 rc) e7⟩
          | cons _ _ => cases (show false = true from e7)
/-- name op= e -/
theorem ss_aug {i : Nat} {x : Str} {op : Operator} {u : W → W → IH → KE → Bool} {pos' : Pos} (hN : X.N.Nodup) (hi : X.N[i]? = some x) (hx : L2.Loc X.env.scope x) (he : PE X a (tE X.K B Wx fa)) (ho : OpR X (inplaceOp op) (r2 X.K u)) (hf : X.fn x = true ∨ X.env.scope.names.lookup x = some .local) :
    PS X (.AugAssign (.Name x pos') op a pos) (tS X.K B Wx (sAug i u fa)) :=
  psI (L2.ps_aug hN hi hx he (fun pins s σ H x y v w Q I rx ry q => ho pins s σ H x y v w Q I rx ry q) hf) fun D σ H ⟨m, l, h, nx, rt, bk, ct, ex, rh, rl, e, r⟩ => by
    obtain ⟨w, e1, e2⟩ := lgetK_ok i l _ e
    obtain ⟨v, e3, rv⟩ := rl.2 i w e1
    refine ⟨v, e3, m, l, h, _, _, rh, rl, e2, fun m1 w2 v2 h1 H1 x1 r1 rv2 e4 => ?_, r.ex.at rh rl⟩
    refine ⟨m1, w, w2, h1, _, r1, RV.mono rh x1 rv, rv2, e4, fun m2 w3 v3 h2 H2 x2 r2 rv3 e5 => ?_⟩
    obtain ⟨e6, e7⟩ := lsetK_ok i l w3 _ e5
    exact r.nx m2 _ _ h2 H2 (x1.trans x2) r2 ((rl.mono rh (x1.trans x2)).set e6 rv3) e7
/-! ### loops -/
theorem forLoop_ok {c : Orc} {nx : KS} {rt : KE} {ex : Loc → KE} {n : Nat} {u : Src} {l : Loc} {h : IH} (e : forLoop n g s c nx rt ex u l h = true) : ∃ n', n = n' + 1 ∧ nextK u h (nx l h) (fun w u' => g c w l h (fun l1 h1 => s c l1 h1 (forLoop n' g s c nx rt ex u') rt nx (forLoop n' g s c nx rt ex u') ex) ex) = true := by
  unfold forLoop at e ⊢
  cases n with
  | zero => cases (show false = true from e)
  | succ n => exact ⟨n, rfl, e⟩
theorem ss_for {iter : Expr} (hp : PassesOwn (model X.prog X.w) X.A X.env X.xe) (hc : X.calm = true) (hi : PI X tg iter (tI X.K B Wx fi)) (hg : PG X tg (tG X.K B Wx none g)) (hb : PSs X sts (tS X.K B Wx s)) (hs : ∀ x, foldedSetIterable iter X.env x = pure x) :
    PS X (.For tg iter sts [] pos) (tS X.K B Wx (sFor fi g s)) := psI (ps_for hp hc hi hg hb hs) fun D σ H ⟨m, l, h, nx, rt, bk, ct, ex, rh, rl, e, r⟩ => by
  refine ⟨m, l, h, _, _, rh, rl, e, fun m1 u J h1 H1 x1 r1 ri e1 => ?_, r.ex.at rh rl⟩
  replace ri := RI.avH ri
  refine ⟨fun i n σ H' => ∃ m' l' h' u', Ext m1 H1 m' H' ∧ RepH X.K m' h' H' ∧ RepL X.K m' H' l' σ ∧ RI X.K (avH H1) m' H' u' J i ∧ forLoop n g s B.c nx rt ex u' l' h' = true, ⟨fuel, m1, l, h1, u, .refl, r1, rl.mono rh x1, ri, e1⟩, ?_⟩
  rintro i n σ' H' ⟨m', l', h', u', X1, rh', rl', ri', e3⟩
  obtain ⟨n', rfl, e4⟩ := forLoop_ok e3
  rcases nextI rh' ri' e4 with ⟨stop, e5⟩ | ⟨go, w, u2, e5, step⟩
  · exact .inl ⟨stop, r.nx m' l' σ' h' H' (x1.trans X1) rh' rl' e5⟩
  · refine .inr ⟨go, fun σ'' H'' => ∃ m' l' h', Ext m1 H1 m' H'' ∧ RepH X.K m' h' H'' ∧ RepL X.K m' H'' l' σ'' ∧ RI X.K (avH H1) m' H'' u2 J (i + 1) ∧ forLoop n' g s B.c nx rt ex u2 l' h' = true, fun σ'' H'' ⟨m', l', h', a1, a2, a3, a4, a5⟩ => ⟨n', Nat.lt_succ_self _, m', l', h', u2, a1, a2, a3, a4, a5⟩, fun v H2 hy => ?_⟩
    obtain ⟨X2, rh2, rv2, ri2⟩ := step v H2 hy
    have X12 := (x1.trans X1).trans X2
    refine ⟨m', l', h', w, _, ex, rh2, rl'.mono rh' X2, rv2, e5, fun m3 l3 σ3 h3 H3 X3 rh3 rl3 _ e6 => ?_, r.ex.mono X12⟩
    have X13 := X12.trans X3
    have again : SOk X.K m3 H3 (forLoop n' g s B.c nx rt ex u2) (fun σ'' H'' => ∃ m' l' h', Ext m1 H1 m' H'' ∧ RepH X.K m' h' H'' ∧ RepL X.K m' H'' l' σ'' ∧ RI X.K (avH H1) m' H'' u2 J (i + 1) ∧ forLoop n' g s B.c nx rt ex u2 l' h' = true) :=
      fun m4 l4 σ4 h4 H4 X4 rh4 rl4 e7 => ⟨m4, l4, h4, ((X1.trans X2).trans X3).trans X4, rh4, rl4, (ri2.mono rh2 X3).mono rh3 X4, e7⟩
    exact ⟨m3, l3, h3, _, rt, nx, _, ex, rh3, rl3, e6, again, r.rt.mono X13, r.nx.mono X13, again, r.ex.mono X13⟩
theorem whLoop_ok {c : Orc} {nx : KS} {rt : KE} {ex : Loc → KE} {n : Nat} {l : Loc} {h : IH} (e : whLoop n t s c nx rt ex l h = true) : ∃ n', n = n' + 1 ∧ t c l h (fun p h1 => cond p (s c l h1 (whLoop n' t s c nx rt ex) rt nx (whLoop n' t s c nx rt ex) ex) (nx l h1)) (ex l) = true := by
  cases n with
  | zero => cases (show false = true from e)
  | succ n => exact ⟨n, rfl, e⟩
theorem ss_while {c : Expr} (hp : PassesOwn (model X.prog X.w) X.A X.env X.xe) (hc : PT X c (tB X.K B Wx t)) (hb : PSs X sts (tS X.K B Wx s)) : PS X (.While c sts [] pos) (tS X.K B Wx (sWhile t s)) := psI (ps_while hp hc hb) fun D σ H ⟨m, l, h, nx, rt, bk, ct, ex, rh, rl, e, r⟩ => by
  refine ⟨fun n σ H' => ∃ m' l' h', Ext m H m' H' ∧ RepH X.K m' h' H' ∧ RepL X.K m' H' l' σ ∧ whLoop n t s B.c nx rt ex l' h' = true, ⟨fuel, m, l, h, .refl, rh, rl, e⟩, ?_⟩
  rintro n σ' H' ⟨m', l', h', X1, rh', rl', e3⟩
  obtain ⟨n', rfl, e4⟩ := whLoop_ok e3
  refine ⟨m', l', h', _, _, rh', rl', e4, fun m2 b h2 H2 X2 r2 e5 => ?_, (r.ex.mono X1).at rh' rl'⟩
  have X12 := X1.trans X2
  rcases cond_t e5 with ⟨rfl, e6⟩ | ⟨rfl, e6⟩
  · refine (if_pos rfl).mpr ⟨fun σ'' H'' => ∃ m' l' h', Ext m H m' H'' ∧ RepH X.K m' h' H'' ∧ RepL X.K m' H'' l' σ'' ∧ whLoop n' t s B.c nx rt ex l' h' = true, fun σ'' H'' z => ⟨n', Nat.lt_succ_self _, z⟩, ?_⟩
    have again : SOk X.K m2 H2 (whLoop n' t s B.c nx rt ex) (fun σ'' H'' => ∃ m' l' h', Ext m H m' H'' ∧ RepH X.K m' h' H'' ∧ RepL X.K m' H'' l' σ'' ∧ whLoop n' t s B.c nx rt ex l' h' = true) :=
      fun m4 l4 σ4 h4 H4 X4 rh4 rl4 e7 => ⟨m4, l4, h4, X12.trans X4, rh4, rl4, e7⟩
    exact ⟨m2, l', h2, _, rt, nx, _, ex, r2, rl'.mono rh' X2, e6, again, r.rt.mono X12, r.nx.mono X12, again, r.ex.mono X12⟩
  · exact (if_neg Bool.false_ne_true).mpr (r.nx m2 l' σ' h2 H2 X12 r2 (rl'.mono rh' X2) e6)
end
end It

set_option Elab.async false
set_option linter.all false
set_option maxRecDepth 100000
set_option maxHeartbeats 1000000
/-! ItMa: comprehensions of two clauses. -/
namespace It
open PySem PySem.Spec PyProof.Rows L2
section
variable {K : PySem.W.Frag} {B : Bag} {Wx : WX} {fi fi1 : Is} {g g1 : G} {t t1 : Tt} {fe : E} {vs vs1 : List Nat}
theorem lcIn_ok {c : Orc} {fin : List W → IH → Bool} {n : Nat} {s : Src} {acc : List W} {l : Loc} {h : IH} (e : lcIn n g t fe c fin s acc l h = true) : ∃ n', n = n' + 1 ∧ nextK s h (fin acc h) (fun w s' => g c w l h (fun l1 h1 => t c l1 h1 (fun p h2 => cond p (cond (Nat.blt (lenW acc) line) (fe c l1 h2 (fun y h3 => lcIn n' g t fe c fin s' (y :: acc) l h3) kno) false) (lcIn n' g t fe c fin s' acc l h2)) kno) (fun _ => kno)) = true := by
  cases n with
  | zero => cases (show false = true from e)
  | succ n => exact ⟨n, rfl, e⟩
theorem lcOut_ok {c : Orc} {k : KL} {n : Nat} {s : Src} {acc : List W} {l : Loc} {h : IH} (e : lcOut n g t fi1 vs1 g1 t1 fe c k s acc l h = true) : ∃ n', n = n' + 1 ∧ nextK s h (k (revA acc []) h) (fun w s' => g c w l h (fun l1 h1 => t c l1 h1 (fun p h2 => cond p (fi1 c l1 h2 (fun s1 h3 => wipeK vs1 l1 fun l2 => lcIn fuel g1 t1 fe c (fun acc' h4 => lcOut n' g t fi1 vs1 g1 t1 fe c k s' acc' l h4) s1 acc l2 h3) kno) (lcOut n' g t fi1 vs1 g1 t1 fe c k s' acc l h2)) kno) (fun _ => kno)) = true := by
  cases n with
  | zero => cases (show false = true from e)
  | succ n => exact ⟨n, rfl, e⟩
theorem RepL.out {m : Mp} {H : Hp} {l : Loc} {σ : L2.St} {D : Addr} {as bs : List V} (hD : H D = some (.lst as)) (r : RepL K m H l σ) : RepL K m (upd H D (.lst bs)) l σ := by
  refine ⟨r.1, fun i w e => ?_⟩
  obtain ⟨v, e1, e2⟩ := r.2 i w e
  refine ⟨v, e1, ?_⟩
  have z := RVs.out (bs := bs) hD (.cons e2 .nil)
  cases z with
  | cons a _ => exact a
theorem lc2_imp (σ : L2.St) (H : Hp) (Q : VK) (q : tF K B Wx (sLc2 vs fi g t fi1 vs1 g1 t1 fe) σ H Q) : tLc2 (tI K B Wx fi) (tG K B wNo (some vs) g) (tB K B wNo t) (tI K B wNo fi1) (tG K B wNo (some vs1) g1) (tB K B wNo t1) (tE K B wNo fe) vs vs1 σ H Q := by
  obtain ⟨m, l, h, k, x, rh, rl, e, hk, hx⟩ := q
  refine ⟨m, l, h, _, x, rh, rl, e, fun m1 s J h1 H1 x1 r1 ri e1 D hD => ?_, hx⟩
  replace ri := RI.avH ri
  obtain ⟨l', rl', e2⟩ := wipeK_ok (rl.mono rh x1) vs _ e1
  refine ⟨fun i n H' => ∃ m' h' s' acc as, Ext m1 H1 m' H' ∧ RepH K m' h' H' ∧ RI K (avH H1) m' H' s' J i ∧ H' D = some (.lst as) ∧ m'.no D ∧ RVs K m' H' acc.reverse as ∧ lcOut n g t fi1 vs1 g1 t1 fe B.c k s' acc l' h' = true, ⟨fuel, ?_⟩, ?_⟩
  · have X1 : Ext m1 H1 m1 (upd H1 D (.lst [])) := .laid hD
    exact ⟨m1, h1, s, [], [], X1, r1.laid hD, ri.mono r1 X1, upd_same, r1.nofree hD, .nil, e2⟩
  · rintro i n H' ⟨m', h', s', acc, as, X1, rh', ri', hD', nD, racc, e3⟩
    obtain ⟨n', rfl, e4⟩ := lcOut_ok e3
    rcases nextI rh' ri' e4 with ⟨stop, e5⟩ | ⟨go, w, s2, e5, step⟩
    · refine .inl ⟨stop, ?_⟩
      rw [revA_ok, List.append_nil] at e5
      refine hk m' _ as h' H' D (x1.trans X1) rh' hD' ?_ nD racc e5
      cases q : H D with
      | none => rfl
      | some u => exact absurd hD (x1.there D (by rw [q]; exact fun z => nomatch z))
    · refine .inr ⟨go, fun H'' => ∃ m' h' acc as, Ext m1 H1 m' H'' ∧ RepH K m' h' H'' ∧ RI K (avH H1) m' H'' s2 J (i + 1) ∧ H'' D = some (.lst as) ∧ m'.no D ∧ RVs K m' H'' acc.reverse as ∧ lcOut n' g t fi1 vs1 g1 t1 fe B.c k s2 acc l' h' = true, fun H'' ⟨m', h', acc, as, z⟩ => ⟨n', Nat.lt_succ_self _, m', h', s2, acc, as, z⟩, fun v H2 hy => ?_⟩
      obtain ⟨X2, rh2, rv2, ri2⟩ := step v H2 hy
      have no : ∀ {m2 : Mp} {H3 : Hp}, Ext m' H' m2 H3 → m2.no D := fun {m2 H3} x => x.no nD (by rw [hD']; exact fun z => nomatch z)
      have keepD : ∀ {m2 : Mp} {H3 : Hp}, Ext m' H' m2 H3 → H3 D = some (.lst as) := fun x => x.stay D _ hD' nD fun _ z => nomatch z
      refine ⟨m', l', h', w, _, _, rh2, (rl'.mono r1 X1).mono rh' X2, rv2, e5, fun m3 l3 σ3 h3 H3 X3 rh3 rl3 w3 e6 => ⟨?_, ?_⟩, XLOk.no⟩
      · have z : wipe σ3 vs = wipe (wipe σ vs) vs := w3
        rw [z, wipe_idem]
      · refine ⟨m3, l3, h3, _, _, rh3, rl3, e6, fun m4 b h4 H4 X4 rh4 e7 => ?_, XOk.no⟩
        have X24 := (X2.trans X3).trans X4
        rcases cond_t e7 with ⟨rfl, e8⟩ | ⟨rfl, e8⟩
        · refine (if_pos rfl).mpr ?_
          refine ⟨m4, l3, h4, _, _, rh4, rl3.mono rh3 X4, e8, fun m5 s1 J1 h5 H5 X5 rh5 ri5 e9 => ?_, XOk.no⟩
          have X25 := X24.trans X5
          have hD4 := keepD X24
          have nD4 := no X24
          have hv : ∀ {H6 : Hp}, avM m4 H4 H5 D := .inr ⟨by rw [hD4]; exact fun z => (nomatch z), nD4⟩
          obtain ⟨l5, rl5, e10⟩ := wipeK_ok ((rl3.mono rh3 X4).mono rh4 X5) vs1 _ e9
          refine ⟨fun j n2 H6 => ∃ m6 h6 s6 acc as, Ext m1 H1 m6 H6 ∧ RepH K m6 h6 H6 ∧ RI K (avH H1) m6 H6 s2 J (i + 1) ∧ RI K (avM m4 H4 H5) m6 H6 s6 J1 j ∧ RepL K m6 H6 l5 (wipe σ3 vs1) ∧ H6 D = some (.lst as) ∧ m6.no D ∧ RVs K m6 H6 acc.reverse as ∧ lcIn n2 g1 t1 fe B.c (fun acc' h4 => lcOut n' g t fi1 vs1 g1 t1 fe B.c k s2 acc' l' h4) s6 acc l5 h6 = true, ⟨fuel, m5, h5, s1, acc, as, X1.trans X25, rh5, ((ri2.mono rh2 X3).mono rh3 X4).mono rh4 X5, ri5, rl5, keepD X25, no X25, RVs.mono rh' X25 racc, e10⟩, ?_⟩
          rintro j n2 H6 ⟨m6, h6, s6, acc6, as6, X6, rh6, ro6, ri6, rl6, hD6, nD6, racc6, e11⟩
          obtain ⟨n3, rfl, e12⟩ := lcIn_ok e11
          rcases nextI rh6 ri6 e12 with ⟨stop1, e13⟩ | ⟨go1, w1, s7, e13, step1⟩
          · exact .inl ⟨stop1, m6, h6, acc6, as6, X6, rh6, ro6, hD6, nD6, racc6, e13⟩
          · refine .inr ⟨go1, fun H7 => ∃ m7 h7 acc7 as7, Ext m1 H1 m7 H7 ∧ RepH K m7 h7 H7 ∧ RI K (avH H1) m7 H7 s2 J (i + 1) ∧ RI K (avM m4 H4 H5) m7 H7 s7 J1 (j + 1) ∧ RepL K m7 H7 l5 (wipe σ3 vs1) ∧ H7 D = some (.lst as7) ∧ m7.no D ∧ RVs K m7 H7 acc7.reverse as7 ∧ lcIn n3 g1 t1 fe B.c (fun acc' h4 => lcOut n' g t fi1 vs1 g1 t1 fe B.c k s2 acc' l' h4) s7 acc7 l5 h7 = true, fun H7 ⟨m7, h7, acc7, as7, z⟩ => ⟨n3, Nat.lt_succ_self _, m7, h7, s7, acc7, as7, z⟩, fun v1 H7 hy1 => ?_⟩
            obtain ⟨X7, rh7, rv7, ri7⟩ := step1 v1 H7 hy1
            have no6 : ∀ {m2 : Mp} {H3 : Hp}, Ext m6 H6 m2 H3 → m2.no D := fun {m2 H3} x => x.no nD6 (by rw [hD6]; exact fun z => nomatch z)
            have keep6 : ∀ {m2 : Mp} {H3 : Hp}, Ext m6 H6 m2 H3 → H3 D = some (.lst as6) := fun x => x.stay D _ hD6 nD6 fun _ z => nomatch z
            refine ⟨m6, l5, h6, w1, _, _, rh7, rl6.mono rh6 X7, rv7, e13, fun m8 l8 σ8 h8 H8 X8 rh8 rl8 w8 e14 => ⟨?_, ?_⟩, XLOk.no⟩
            · have z : wipe σ8 vs1 = wipe (wipe σ3 vs1) vs1 := w8
              rw [z, wipe_idem]
            · refine ⟨m8, l8, h8, _, _, rh8, rl8, e14, fun m9 b9 h9 H9 X9 rh9 e15 => ?_, XOk.no⟩
              have X79 := (X7.trans X8).trans X9
              rcases cond_t e15 with ⟨rfl, e16⟩ | ⟨rfl, e16⟩
              · refine (if_pos rfl).mpr ?_
                obtain ⟨ez, e16⟩ := cond_f e16
                rw [blt_ok, lenW_ok] at ez
                have ez := of_decide_eq_true ez
                refine ⟨m9, l8, h9, _, _, rh9, rl8.mono rh8 X9, e16, fun ma y va ha Ha Xa rha rva e17 => ?_, XOk.no⟩
                have X7a := X79.trans Xa
                have hDa := keep6 X7a
                have nDa := no6 X7a
                have racca := RVs.mono rh6 X7a racc6
                have hlen : as6.length < sizeLine := by
                  have := racc6.length
                  rw [List.length_reverse] at this
                  rw [← this]; exact Nat.lt_of_lt_of_le ez line_le
                refine ⟨as6, hDa, hlen, ma, ha, y :: acc6, as6 ++ [va], (X6.trans X7a).outD hD hDa, rha.out hDa nDa, RI.out hDa nDa hD (ro6.mono rh6 X7a), RI.out hDa nDa (hv (H6 := H6)) (((ri7.mono rh7 X8).mono rh8 X9).mono rh9 Xa), RepL.out hDa (rl6.mono rh6 X7a), upd_same, nDa, ?_, e17⟩
                rw [List.reverse_cons]
                exact RVs.out hDa (racca.append (.cons rva .nil))
              · refine (if_neg Bool.false_ne_true).mpr ?_
                exact ⟨m9, h9, acc6, as6, X6.trans X79, rh9, ro6.mono rh6 X79, (ri7.mono rh7 X8).mono rh8 X9, rl6.mono rh6 X79, keep6 X79, no6 X79, RVs.mono rh6 X79 racc6, e16⟩
        · refine (if_neg Bool.false_ne_true).mpr ?_
          exact ⟨m4, h4, acc, as, X1.trans X24, rh4, (ri2.mono rh2 X3).mono rh3 X4, keepD X24, no X24, RVs.mono rh' X24 racc, e8⟩
end
section
variable {X : Cx} {B : Bag} {Wx : WX} {pos p tpos spos : Pos} {tg tg1 : Expr} {fe : E} {g g1 : G} {fi fi1 : Is} {t t1 : Tt}
theorem sf_lc2 {elt iter iter1 : Expr} {ifs ifs1 : List Expr} {scope : Scope} {own : List (Str × Nat)} {vs1 : List Nat} (hc : X.calm = true) (hN : X.N.Nodup) (hi : PI X tg iter (tI X.K B Wx fi)) (ok : BlkOk X.N X.env.scope scope own) (hv : ∀ i ∈ vs1, i ∈ own.map (·.2))
    (hg : ∀ (s : Shared) (H : Hp) (C : Addr) (cl : List (Str × Addr)) (fp : List Addr), PG (X.blk s H scope (compEnvC scope cl C X.env) fp) tg (tG X.K B wNo (some (own.map (·.2))) g)) (ht : ∀ (s : Shared) (H : Hp) (C : Addr) (cl : List (Str × Addr)) (fp : List Addr), PTs (X.blk s H scope (compEnvC scope cl C X.env) fp) ifs (tB X.K B wNo t))
    (hi1 : ∀ (s : Shared) (H : Hp) (C : Addr) (cl : List (Str × Addr)) (fp : List Addr), PI (X.blk s H scope (compEnvC scope cl C X.env) fp) tg1 iter1 (tI X.K B wNo fi1))
    (hg1 : ∀ (s : Shared) (H : Hp) (C : Addr) (cl : List (Str × Addr)) (fp : List Addr), PG (X.blk s H scope (compEnvC scope cl C X.env) fp) tg1 (tG X.K B wNo (some vs1) g1)) (ht1 : ∀ (s : Shared) (H : Hp) (C : Addr) (cl : List (Str × Addr)) (fp : List Addr), PTs (X.blk s H scope (compEnvC scope cl C X.env) fp) ifs1 (tB X.K B wNo t1))
    (he : ∀ (s : Shared) (H : Hp) (C : Addr) (cl : List (Str × Addr)) (fp : List Addr), PE (X.blk s H scope (compEnvC scope cl C X.env) fp) elt (tE X.K B wNo fe)) (hs : ∀ x, foldedSetIterable iter X.env x = pure x) (hs1 : ∀ env x, foldedSetIterable iter1 env x = pure x) :
    PE X (.ListComp elt [⟨tg, iter, ifs, 0⟩, ⟨tg1, iter1, ifs1, 0⟩] scope pos) (tF X.K B Wx (sLc2 (own.map (·.2)) fi g t fi1 vs1 g1 t1 fe)) := peI (pe_lc2 hc hN hi ok hv hg ht hi1 hg1 ht1 he hs hs1) lc2_imp
theorem ss_setLc2 {elt iter iter1 : Expr} {ifs ifs1 : List Expr} {scope : Scope} {own : List (Str × Nat)} {vs1 : List Nat} {i : Nat} {y : Str} {py spos : Pos} (hc : X.calm = true) (hN : X.N.Nodup) (hy : X.N[i]? = some y) (hyl : X.env.scope.names.lookup y = some .local)
    (hsw : swapsWith (.ListComp elt [⟨tg, iter, ifs, 0⟩, ⟨tg1, iter1, ifs1, 0⟩] scope pos) (some (.Name y py)) spos.line X.env = pure true) (hi : PI X tg iter (tI X.K B Wx fi)) (ok : BlkOk X.N X.env.scope scope own) (hv : ∀ i ∈ vs1, i ∈ own.map (·.2))
    (hg : ∀ (s : Shared) (H : Hp) (C : Addr) (cl : List (Str × Addr)) (fp : List Addr), PG (X.blk s H scope (compEnvC scope cl C X.env) fp) tg (tG X.K B wNo (some (own.map (·.2))) g)) (ht : ∀ (s : Shared) (H : Hp) (C : Addr) (cl : List (Str × Addr)) (fp : List Addr), PTs (X.blk s H scope (compEnvC scope cl C X.env) fp) ifs (tB X.K B wNo t))
    (hi1 : ∀ (s : Shared) (H : Hp) (C : Addr) (cl : List (Str × Addr)) (fp : List Addr), PI (X.blk s H scope (compEnvC scope cl C X.env) fp) tg1 iter1 (tI X.K B wNo fi1))
    (hg1 : ∀ (s : Shared) (H : Hp) (C : Addr) (cl : List (Str × Addr)) (fp : List Addr), PG (X.blk s H scope (compEnvC scope cl C X.env) fp) tg1 (tG X.K B wNo (some vs1) g1)) (ht1 : ∀ (s : Shared) (H : Hp) (C : Addr) (cl : List (Str × Addr)) (fp : List Addr), PTs (X.blk s H scope (compEnvC scope cl C X.env) fp) ifs1 (tB X.K B wNo t1))
    (he : ∀ (s : Shared) (H : Hp) (C : Addr) (cl : List (Str × Addr)) (fp : List Addr), PE (X.blk s H scope (compEnvC scope cl C X.env) fp) elt (tE X.K B wNo fe)) (hs : ∀ x, foldedSetIterable iter X.env x = pure x) (hs1 : ∀ env x, foldedSetIterable iter1 env x = pure x) :
    PS X (.Assign [.Name y py] (.ListComp elt [⟨tg, iter, ifs, 0⟩, ⟨tg1, iter1, ifs1, 0⟩] scope pos) spos) (tS X.K B Wx (sAsg (eLay (sLc2 (own.map (·.2)) fi g t fi1 vs1 g1 t1 fe)) (It.gName i))) :=
  psI (ps_setLc2 hc hN hy hyl hsw hi ok hv hg ht hi1 hg1 ht1 he hs hs1) fun D σ H q => by
    obtain ⟨m, l, h, nx, rt, bk, ct, ex, rh, rl, e, r⟩ := q
    refine lc2_imp σ H _ (lay_imp σ H _ ⟨m, l, h, _, _, rh, rl, e, fun m1 v w h1 H1 x1 r1 rv e1 => ?_, r.ex.at rh rl⟩)
    obtain ⟨e2, e3⟩ := lsetK_ok i l v _ e1
    exact r.nx m1 _ _ h1 H1 x1 r1 ((rl.mono rh x1).set e2 rv) e3
end
end It

set_option Elab.async false
set_option linter.all false
set_option maxRecDepth 100000
set_option maxHeartbeats 1000000
/-! ItN: sorted(rows, key=led_by(place)). -/
namespace It
open PySem PySem.Spec PyProof.Rows L2 NdefX LamX
/-- far_off's scope: row its parameter, place captured, abs global -/
structure FarS (sc : Scope) : Prop where
  kind : sc.kind = .function
  co : sc.isCoroutine = false
  gen : sc.isGenerator = false
  nocell : ∀ x ∈ sc.names, x.2 ≠ .cell
  row : sc.names.lookup ("row" : Str) = some .local
  place : sc.names.lookup ("place" : Str) = some .free
  abs : sc.names.lookup ("abs" : Str) = some .globalImplicit
def farB (p1 p2 p3 p4 p5 p6 : Pos) : List Stmt := [.Return (some (.Call (.Name "abs" p1) [.Subscript (.Name "row" p2) (.Name "place" p3) p4] [] p5)) p6]
section
variable {P : Program} {w : World} {K : PySem.W.Frag} {mg : Str → Option Value} {base : Heap} {A : Around} {s : Shared} {f c ra : Addr} {F : NF} {j i : Int} {tj ti : Tok} {its : Array Value} {n k : Nat} {p1 p2 p3 p4 p5 p6 : Pos}
theorem far_call (hd : A.depth < recursionLimit) (M : Mod K mg base) (kp : ∀ b o, base.get? b = some o → s.heap.get? b = some o) (hm : mg ("abs" : Str) = none)
    {od : Option Addr} {sl : Array (Option Value)} {doc pm ctv : Value} (ho : s.heap.get? f = some (⟨.type "function", od, .func (F.fd doc pm ctv), sl⟩ : Obj)) (S : FarS F.scope) (hB : F.body = farB p1 p2 p3 p4 p5 p6)
    (hb : ∀ (doc pm ctv : Value) (us : List Value), us.length = 1 → bindArgs (F.fd doc pm ctv) ⟨us, []⟩ = pure ([("row" : Str)].zip us)) (hcode : s.heap.CodeRec (.ref F.c) F.qual)
    (hcl : F.cl.lookup ("place" : Str) = some c) (hc : s.heap.IsCell c (some (.int j tj))) (ht : IsTup s.heap ra its) (h1 : -(2 ^ 63) ≤ j) (h2 : j < 2 ^ 63) (hj : seqIndex? j its.size = some n) (hn : its[n]? = some (.int i ti)) :
    wpAny (model P w) A (call (.ref f) [.ref ra]) (PySem.W.KeyPure (.int (i.natAbs : Int)) s) (fun _ _ => False) s := by
  have lim : s.heap.NoLimit := M.nolimit.keeps kp
  refine wpAny_call (codeAny_call_function hd ho rfl S.co S.gen rfl hcode ?_)
  rw [hb doc pm ctv [.ref ra] rfl]
  refine wpAny_pure (wpAny_newFunctionEnv S.nocell (fun ⟨y, v⟩ hy => ?_) (fun h₁ hns hsb => ⟨lim.fresh _ hsb, ?_⟩) S.kind)
  · have e : (y, v) = (("row" : Str), Value.ref ra) := by simpa using hy
    cases e
    exact S.row
  show codeAny _ _ (.func F.body (envF F f s.heap.objs.size)) _ _
  have kp1 : ∀ b o, s.heap.get? b = some o → h₁.get? b = some o := fun b o e => hsb.extBut b o (Nat.ne_of_lt (Heap.lt_size e)) (Heap.get?_push_of_some _ e)
  rw [hB]
  refine codeAny_func (wpAny_execs_cons (wpAny_Return_some ?_))
  have hk : ∀ x kd, F.scope.names.lookup x = some kd → (envF F f s.heap.objs.size).kindOf x = some kd := fun x kd e => e
  obtain ⟨mb, g1, g2⟩ := M.blt
  have kb : ∀ b o, base.get? b = some o → h₁.get? b = some o := fun b o e => kp1 b o (kp b o e)
  refine wpAny_Call_Name_kw (Calls.Name_function_global S.kind (hk _ _ S.abs) (Calls.loadGlobal_builtin (M.glob.keeps kb) hm (g1.keeps kb) ((g2 _ (by decide)).trans PyProof.Rows.boot_abs) ?_) (by decide))
  refine PyProof.Rows.callWith_builtin1 ?_ rfl rfl
  have hc1 : h₁.IsCell c (some (.int j tj)) := by obtain ⟨o, e, d⟩ := hc; exact ⟨o, kp1 _ _ e, d⟩
  have ht1 : IsTup h₁ ra its := by obtain ⟨o, e, d⟩ := ht; exact ⟨o, kp1 _ _ e, d⟩
  have hrow : (fun x => ([((("row" : Str)), Value.ref ra)] : List (Str × Value)).reverse.lookup x) ("row" : Str) = some (.ref ra) := by rfl
  have hcl' : (envF F f s.heap.objs.size).cells.lookup ("place" : Str) = some c := hcl
  refine PyProof.Rows.spliced_more (Subscript_Name (wpAny_Name (wpAny_loadName_local S.kind (hk _ _ S.row) hns hrow (wpAny_Name (wpAny_loadName_free S.kind (hk _ _ S.place) hcl' hc1 ?_ (by decide)) (by decide))) (by decide))) rfl
  refine ⟨"tuple", _, PyProof.Rows.slot_tuple_getitem.lookup, ht1.typeIs, ?_⟩
  refine PyProof.Rows.getItem_tuple ht1 h1 h2 hj hn (PyProof.Rows.spliced_none ?_)
  refine call_abs_int fun u tk => ?_
  have e : (if i < 0 then -i else i) = (i.natAbs : Int) := by split <;> omega
  rw [e]
  exact ⟨h₁, tk, rfl, kp1, .int _ _⟩
end
/-! ### led_by -/
/-- a cell that holds an int -/
def CelO (c : Addr) (j : Int) : HO := .ext fun h => ∃ t, h.IsCell c (some (.int j t))
theorem celO_at {P : Program} {w : World} {H : Hp} {h : Heap} {c : Addr} {j : Int} (hok : HOk P w H h) (e : H c = some (CelO c j)) : ∃ t, h.IsCell c (some (.int j t)) := by
  obtain ⟨z, _, _⟩ := hok c _ e
  exact z
theorem celO_ok {P : Program} {w : World} {H : Hp} {h : Heap} {c : Addr} {j : Int} {t : Tok} (e : h.IsCell c (some (.int j t))) : ObjOk P w H h c (CelO c j) := by
  obtain ⟨o, e1, e2⟩ := id e
  exact ⟨⟨t, e⟩, ⟨o, e1⟩, fun h1 h2 ⟨t', o', a, b⟩ k => ⟨t', o', k _ a, b⟩⟩
theorem HOk.adopt {P : Program} {w : World} {H : Hp} {h : Heap} {c : Addr} {o : HO} (x : HOk P w H h) (hn : H c = none) (new : ObjOk P w (upd H c o) h c o) : HOk P w (upd H c o) h := fun b u e => by
  by_cases hb : b = c
  · subst hb; rw [upd_same] at e; cases e; exact new
  · rw [upd_ne hb] at e
    exact (x b u e).stay (fun _ _ _ q => q) (fun d q => by rw [upd_ne (ne_of_none q hn)]; exact q) fun d xs q => by rw [upd_ne (ne_of_none q hn)]; exact q
theorem Un.adopt {fs : List Addr} {H H' : Hp} {h h' : Heap} {c : Addr} {o : HO} (u : Un fs [] H H' h h') (hn : H' c = none) (hc : h.objs.size ≤ c) : Un fs [] H (upd H' c o) h h' where
  keep := u.keep
  slot := u.slot
  free := fun b ob q n hx => by rw [upd_ne (Nat.ne_of_lt (Nat.lt_of_lt_of_le (Heap.lt_size q) hc))]; exact u.free b ob q n hx
  there := u.there
  tups := fun b xs q => by have z := u.tups b xs q; rw [upd_ne (ne_of_none z hn)]; exact z
  frzs := fun b ob xs q => by have z := u.frzs b ob xs q; rw [upd_ne (ne_of_none z hn)]; exact z
  tbls := fun b ps q => by obtain ⟨more, z⟩ := u.tbls b ps q; exact ⟨more, by rw [upd_ne (ne_of_none z hn)]; exact z⟩
/-- the closure that led_by makes -/
structure LedF (fp : Arguments) (fb : List Stmt) (fs : Scope) (F : NF) : Prop where
  params : F.params = fp
  body : F.body = fb
  scope : F.scope = fs
  qual : F.qual = "led_by.<locals>.far_off"
  name : F.name = "far_off"
def spLed (K : PySem.W.Frag) (fp : Arguments) (fb : List Stmt) (fs : Scope) : Sp := fun vs H Q _ => ∃ j, vs = [.int j] ∧ TabsN (tabsK K) H ∧ ∀ (f c : Addr) (F : NF) (H' : Hp), LedF fp fb fs F → F.cl.lookup ("place" : Str) = some c → ExtN H H' → (∀ b, H' b = none → H b = none) → TabsN (tabsK K) H' → H f = none →
  H' f = some (FnO f F) → H' F.c = some (CodeO F.c F.qual) → H c = none → H' c = some (CelO c j) → Q (.ref f) H'
def ledB (fp : Arguments) (fb : List Stmt) (fs : Scope) (q1 q2 q3 : Pos) : List Stmt := [.FunctionDef "far_off" fp fb [] none [] fs none "far_off" q1, .Return (some (.Name "far_off" q2)) q3]
structure LedS (sc : Scope) : Prop where
  kind : sc.kind = .function
  co : sc.isCoroutine = false
  gen : sc.isGenerator = false
  place : sc.names.lookup ("place" : Str) = some .cell
  far : sc.names.lookup ("far_off" : Str) = some .local
  nofree : ∀ y ∈ sc.names, y.2 ≠ .free
section
variable {P : Program} {w : World} {K : PySem.W.Frag} {mg : Str → Option Value} {base : Heap} {CX : CXT} {k : Nat} {f c₀ T₀ : Addr} {params fp : Arguments} {fb : List Stmt} {sc fs : Scope} {dV kV doc pm ct oc : Value} {an od : Option Addr} {osl : Array (Option Value)} {q1 q2 q3 : Pos}
theorem led_ok (lk : K.lookup f = some ⟨oc, od, .func (PySem.W.fnOf "led_by" "led_by" params (ledB fp fb fs q1 q2 q3) sc dV kV doc pm an (.ref c₀) ct), osl⟩) (hcd : PySem.W.codeIn K (.ref c₀) "led_by" = true) (S : LedS sc)
    (TB : TabB base mg c₀ T₀) (hTm : (T₀, ledNm) ∈ tabsK K) (hTu : ∀ p ∈ tabsK K, p.1 = T₀ → p.2 = ledNm) (hfree : ∀ y ∈ fs.names, y.2 = .free → y.1 = ("place" : Str)) (hpl : (("place" : Str), NameKind.free) ∈ fs.names) (hd0 : fp.defaults = []) (hk0 : fp.kw_defaults = []) (han : ∀ env, annTrees fp none env = []) :
    FnOk P w K mg base CX (k + 1) f (PySem.W.fnOf "led_by" "led_by" params (ledB fp fb fs q1 q2 q3) sc dV kV doc pm an (.ref c₀) ct) ["place"] (spLed K fp fb fs) := by
  have FS : FnScope ["place", "far_off"] ["place"] sc := ⟨S.kind, S.co, S.gen, by decide, by rfl, fun x hx => by
    have e : x = ("place" : Str) := by simpa using hx
    subst e; exact .inr S.place, S.nofree⟩
  refine ⟨fun vs H Q E ⟨j, e, _⟩ => by rw [e]; rfl, fun A outer s H args us vs Q E hr e0 hb r hsp => ?_⟩
  obtain ⟨j, rfl, hTab, hQ⟩ := hsp
  have KX : K.In s.heap := e0.mod.kin.keeps fun b o e => (e0.bs b o e).1
  have lim : s.heap.NoLimit := e0.mod.nolimit.keeps fun b o e => (e0.bs b o e).1
  have hkind : ∀ y ∈ [("place" : Str)].zip us, sc.names.lookup y.1 = some .local ∨ (sc.names.lookup y.1 = some .cell ∧ ((cellsFrom (s.heap.objs.size + 1) sc.names []).lookup y.1).isSome = true) := fun ⟨n, v⟩ hy => by
    rcases FS.par n (List.of_mem_zip hy).1 with q | q
    · exact .inl q
    · exact .inr ⟨q, PySem.W.cellsFrom_some _ _ _ (.inl q)⟩
  refine codeAny_call_function hr.depth (KX _ _ lk) rfl S.co S.gen rfl (PySem.W.codeRec_of KX hcd) (hb _ _ _ _ ?_)
  refine wpAny_newFunctionEnv_cells S.kind hkind fun env he s1 x => ?_
  subst he
  refine ⟨lim.keeps x.toInCall.keep, codeAny_func ?_⟩
  have I : Inv (cxOf CX P w K mg base ["place", "far_off"] "led_by" sc f (.ref c₀) A outer s H E) [] (start ["place", "far_off"] [.int j]) H s1 := inv_start FS hr.hd e0 rfl r x
  generalize hX : cxOf CX P w K mg base ["place", "far_off"] "led_by" sc f (.ref c₀) A outer s H E = X at I
  have hN : X.N.Nodup := by rw [← hX]; exact (by decide : (["place", "far_off"] : List Str).Nodup)
  have hN1 : X.N[1]? = some ("far_off" : Str) := by rw [← hX]; rfl
  have hN0 : X.N[0]? = some ("place" : Str) := by rw [← hX]; rfl
  have hsc : X.env.scope = sc := by rw [← hX]; rfl
  have hfr : ∀ y ∈ fs.names, y.2 = .free → X.env.scope.names.lookup y.1 = some .cell ∨ X.env.scope.names.lookup y.1 = some .free := fun y hy e => by
    rw [hsc, hfree y hy e]; exact .inl S.place
  have hfc : ∀ y ∈ fs.names, y.2 = .free → ∃ c, X.env.cells.lookup y.1 = some c := fun y hy e => (hfr y hy e).elim (fun z => I.ok.has _ (.inl z)) fun z => I.ok.has _ (.inr z)
  have B := (ps_ndefM (X := X) (T := tabsK K) (nm := ledNm) (c := c₀) (P := T₀) (name := "far_off") (params := fp) (body := fb) (scope := fs) (pos := q1) (i := 1) (by rw [← hX]; exact TB) (by rw [← hX]; rfl) hTm (by rw [← hX]; rfl)
    hTu hfr hd0 hk0 (han _) hN hN1 (by rw [hsc]; exact .inl S.far) (.inr (by rw [hsc]; exact S.far))).run [] s1 (start ["place", "far_off"] [.int j]) H
    { nx := fun σ' H' => ∃ ff F, σ' = [some (.int j), some (.ref ff)] ∧ LedF fp fb fs F ∧ F.cl = cloFrom X.env.cells fs.names [] ∧ ExtN H H' ∧ (∀ b, H' b = none → H b = none) ∧ TabsN (tabsK K) H' ∧ H ff = none ∧ H' ff = some (FnO ff F) ∧ H' F.c = some (CodeO F.c F.qual), rt := fun _ _ => False } I
    ⟨hTab, fun ff cc H1 eN nn T1 f0 f1 c1 => ⟨ff, _, rfl, ⟨rfl, rfl, rfl, by rw [← hX]; rfl, rfl⟩, rfl, eN, nn, T1, f0, f1, c1⟩⟩
  subst hX
  refine wpAny_execs_cons (wpAny_mono B (fun fl s2 hs => ?_) fun e s' he => he)
  cases fl with
  | ret u => obtain ⟨_, _, _, _, _, q⟩ := hs; exact q.elim
  | brk => obtain ⟨_, _, _, q⟩ := hs; exact q.elim
  | cont => obtain ⟨_, _, _, q⟩ := hs; exact q.elim
  | next =>
    obtain ⟨σ2, H2, I2, ff, F, rfl, LF, hcl, eN, nn, T1, f0, f1, c1⟩ := hs
    obtain ⟨m, hn, hl⟩ := I2.loc
    obtain ⟨u1, r1, l1⟩ := hl 1 "far_off" (.ref ff) rfl rfl (.inl S.far)
    obtain ⟨u0, r0, l0⟩ := hl 0 "place" (.int j) rfl rfl (.inr (.inl S.place))
    cases r1
    obtain ⟨t0, rfl⟩ := r0
    have m1 : m "far_off" = some (.ref ff) := by
      rcases l1 with ⟨_, e⟩ | ⟨kk, _⟩
      · exact e
      · have kk : sc.names.lookup ("far_off" : Str) = some .cell ∨ sc.names.lookup ("far_off" : Str) = some .free := kk
        rw [S.far] at kk
        rcases kk with z | z <;> cases z
    obtain ⟨c, hc, hcell⟩ : ∃ c, (cxOf CX P w K mg base ["place", "far_off"] "led_by" sc f (.ref c₀) A outer s H E).env.cells.lookup ("place" : Str) = some c ∧ s2.heap.IsCell c (some (.int j t0)) := by
      rcases l0 with ⟨kk, _⟩ | ⟨_, c, e1, e2⟩
      · have kk : sc.names.lookup ("place" : Str) = some .local := kk
        rw [S.place] at kk; cases kk
      · exact ⟨c, e1, e2⟩
    refine wpAny_execs_cons (wpAny_Return_some (wpAny_Name (wpAny_loadName_local I2.ok.kind (show sc.names.lookup ("far_off" : Str) = some .local from S.far) hn m1 ?_) (by decide)))
    have hc2 : H2 c = none := I2.freeC _ c hc
    have hge : s.heap.objs.size ≤ c := I2.ok.cab _ c rfl hc
    have hF : F.cl.lookup ("place" : Str) = some c := by rw [hcl]; exact clo_has hfc hpl hc
    have hc0 : H c = none := e0.hok.fresh hge
    have nf : ff ≠ c := fun z => by rw [z, hc2] at f1; cases f1
    have nc : F.c ≠ c := fun z => by rw [z, hc2] at c1; cases c1
    refine ⟨.ref ff, upd H2 c (CelO c j), I2.os, I2.bare, Un.adopt I2.base hc2 hge, It.HOk.adopt I2.hok hc2 (celO_ok hcell), rfl, ?_⟩
    refine hQ ff c F _ LF hF (fun b o e n => ?_) (fun b e => nn b (upd_none e)) (T1.ext fun b o e => ?_) f0 ?_ ?_ hc0 upd_same
    · have z := eN b o e n
      rw [upd_ne (ne_of_none z hc2)]; exact z
    · rw [upd_ne (ne_of_none e hc2)]; exact e
    · rw [upd_ne nf]; exact f1
    · rw [upd_ne nc]; exact c1
end
/-! ### insertion is the stable sort -/
section
variable {β : Type}
def insG (f : β → Nat) (x : β) : List β → List β
  | [] => [x]
  | y :: r => if f x ≤ f y then x :: y :: r else y :: insG f x r
def sortG (f : β → Nat) : List β → List β
  | [] => []
  | x :: l => insG f x (sortG f l)
theorem insG_skip (f : β → Nat) (x : β) : ∀ (l₁ l₂ : List β), (∀ b ∈ l₁, ¬ f x ≤ f b) → (∀ b ∈ l₂, f x ≤ f b) → insG f x (l₁ ++ l₂) = l₁ ++ x :: l₂
  | [], [], _, _ => rfl
  | [], y :: r, _, h2 => if_pos (h2 y List.mem_cons_self)
  | y :: l₁, l₂, h1, h2 => by
    show (if f x ≤ f y then x :: y :: (l₁ ++ l₂) else y :: insG f x (l₁ ++ l₂)) = y :: (l₁ ++ x :: l₂)
    rw [if_neg (h1 y List.mem_cons_self), insG_skip f x l₁ l₂ (fun b hb => h1 b (List.mem_cons_of_mem _ hb)) h2]
theorem sortG_ok (f : β → Nat) : ∀ l : List β, l.mergeSort (fun a b => decide (f a ≤ f b)) = sortG f l
  | [] => by simp [sortG]
  | x :: l => by
    have tr : ∀ a b c : β, decide (f a ≤ f b) = true → decide (f b ≤ f c) = true → decide (f a ≤ f c) = true := fun a b c h1 h2 => by
      rw [decide_eq_true_iff] at *; omega
    have to : ∀ a b : β, (decide (f a ≤ f b) || decide (f b ≤ f a)) = true := fun a b => by
      rw [Bool.or_eq_true, decide_eq_true_iff, decide_eq_true_iff]; omega
    obtain ⟨l₁, l₂, e1, e2, e3⟩ := List.mergeSort_cons tr to x l
    have pw := List.pairwise_mergeSort tr to (x :: l)
    rw [e1] at pw
    have p2 := (List.pairwise_cons.mp (List.pairwise_append.mp pw).2.1).1
    show _ = insG f x (sortG f l)
    rw [← sortG_ok f l, e1, e2, insG_skip f x l₁ l₂ (fun b hb h => by
      have z := e3 b hb
      rw [decide_eq_true h] at z; cases z) fun b hb => of_decide_eq_true (p2 b hb)]
theorem insG_map {γ : Type} (f : γ → Nat) (g : β → γ) (x : β) : ∀ l : List β, (insG (fun b => f (g b)) x l).map g = insG f (g x) (l.map g)
  | [] => rfl
  | y :: r => by
    show (if f (g x) ≤ f (g y) then x :: y :: r else y :: insG (fun b => f (g b)) x r).map g = if f (g x) ≤ f (g y) then g x :: g y :: r.map g else g y :: insG f (g x) (r.map g)
    by_cases h : f (g x) ≤ f (g y)
    · rw [if_pos h, if_pos h]; rfl
    · rw [if_neg h, if_neg h]
      show g y :: (insG (fun b => f (g b)) x r).map g = _
      rw [insG_map f g x r]
theorem sortG_map {γ : Type} (f : γ → Nat) (g : β → γ) : ∀ l : List β, (sortG (fun b => f (g b)) l).map g = sortG f (l.map g)
  | [] => rfl
  | x :: l => by
    show (insG (fun b => f (g b)) x (sortG (fun b => f (g b)) l)).map g = insG f (g x) (sortG f (l.map g))
    rw [insG_map, sortG_map f g l]
theorem sortG_len (f : β → Nat) (l : List β) : (sortG f l).length = l.length := by
  rw [← sortG_ok, List.length_mergeSort]
end
theorem insBy_ok (x : Nat × W) : ∀ l, insBy x l = insG (·.1) x l
  | [] => rfl
  | y :: r => by
    show cond (Nat.ble x.1 y.1) (x :: y :: r) (y :: insBy x r) = if x.1 ≤ y.1 then x :: y :: r else y :: insG (·.1) x r
    rw [ble_ok, insBy_ok x r]
    by_cases h : x.1 ≤ y.1
    · rw [decide_eq_true h, if_pos h]; rfl
    · rw [decide_eq_false h, if_neg h]; rfl
theorem sndL_ok : ∀ l : List (Nat × W), sndL l = l.map (·.2)
  | [] => rfl
  | _ :: l => congrArg (List.cons _) (sndL_ok l)
theorem nthK_ok' : ∀ (n : Nat) (l : List W) (c : W → Bool), nthK n l c = true → ∃ w, l[n]? = some w ∧ c w = true
  | 0, [], _, h => by cases (show false = true from h)
  | 0, w :: _, _, h => ⟨w, rfl, h⟩
  | n + 1, [], _, h => by cases (show false = true from h)
  | n + 1, _ :: l, c, h => by
    obtain ⟨w, e, q⟩ := nthK_ok' n l c h
    exact ⟨w, by simpa using e, q⟩
/-- a row, its key -/
def KeyOk (K : PySem.W.Frag) (m : Mp) (H : Hp) (j : Int) (b : (Nat × W) × V) : Prop := RV K m H b.1.2 b.2 ∧ ∃ a xs n i, b.2 = .ref a ∧ SqT K H a xs ∧ ixN xs.length j = some n ∧ xs[n]? = some (.int i) ∧ b.1.1 = i.natAbs
theorem keyedK_ok {K : PySem.W.Frag} {m : Mp} {H : Hp} {j : Int} : ∀ {ws : List W} {xs : List V} {c : List (Nat × W) → Bool}, RVs K m H ws xs → keyedK j ws c = true → ∃ bs : List ((Nat × W) × V), bs.map (·.2) = xs ∧ (∀ b ∈ bs, KeyOk K m H j b) ∧ c (sortG (·.1) (bs.map (·.1))) = true
  | _, _, _, .nil, e => ⟨[], rfl, fun b hb => (nomatch hb), e⟩
  | w :: ws, x :: xs, c, .cons r t, e => by
    cases r with
    | @tup us ys a s t1 =>
      obtain ⟨n, e1, e2⟩ := ixK_ixN (show ixK j us (fun n => nthK n us fun v => intOf v fun i => keyedK j ws fun ps => c (insBy (iabs i, .tup us) ps)) = true from e)
      obtain ⟨v, e3, e4⟩ := nthK_ok' _ _ _ e1
      obtain ⟨y, e5, ry⟩ := t1.get e3
      obtain ⟨i, rfl, rfl, e6⟩ := intOf_ok ry e4
      obtain ⟨bs, b1, b2, b3⟩ := keyedK_ok t e6
      have hl := t1.length
      have hn : n < us.length := (List.getElem?_eq_some_iff.mp e3).1
      refine ⟨((i.natAbs, .tup us), .ref a) :: bs, by rw [List.map_cons, b1], fun b hb => ?_, ?_⟩
      · rcases List.mem_cons.mp hb with rfl | hb
        · exact ⟨.tup s t1, a, ys, n, i, rfl, s, by rw [← hl]; exact e2 hn, e5, rfl⟩
        · exact b2 b hb
      · rw [insBy_ok, iabs_ok] at b3
        exact b3
    | _ => cases (show false = true from e)
/-! ### the rule -/
section
variable {X : Cx} {B : Bag} {Wx : WX} {pos p : Pos} {p1 p2 p3 p4 p5 p6 : Pos} {fp : Arguments} {fs : Scope}
def rLed (K : PySem.W.Frag) (fp : Arguments) (fb : List Stmt) (fs : Scope) : List V → List V → Hp → VK → Prop := fun vs zs H Q => ∃ (m : Mp) (l ff c : Addr) (F : NF) (j : Int) (bs : List ((Nat × W) × V)), vs = [.ref l] ∧ zs = [.ref ff] ∧ SqL K H l (bs.map (·.2)) ∧ LedF fp fb fs F ∧ F.cl.lookup ("place" : Str) = some c ∧
  H ff = some (FnO ff F) ∧ H F.c = some (CodeO F.c F.qual) ∧ H c = some (CelO c j) ∧ -(2 ^ 63) ≤ j ∧ j < 2 ^ 63 ∧ (∀ b ∈ bs, KeyOk K m H j b) ∧ ∀ p, H p = none → Q (.ref p) (upd H p (.lst ((sortG (fun b : (Nat × W) × V => b.1.1) bs).map (·.2))))
theorem led_le : PySem.W.dataLe false (fun b : (Nat × W) × V => PyData.int (b.1.1 : Int)) = fun a b => decide (a.1.1 ≤ b.1.1) := by
  funext a b
  show (!(PyProof.Rows.lexLt PyProof.Rows.itemOrd [Sum.inl (b.1.1 : Int)] [Sum.inl (a.1.1 : Int)])) = _
  by_cases h : b.1.1 = a.1.1
  · have e : PyProof.Rows.lexLt PyProof.Rows.itemOrd [Sum.inl (b.1.1 : Int)] [Sum.inl (a.1.1 : Int)] = false := by rw [h]; exact PyProof.Rows.lex_irrefl _
    rw [e, decide_eq_true (Nat.le_of_eq h.symm)]; rfl
  · have hne : (Sum.inl (b.1.1 : Int) : Int ⊕ List Nat) ≠ Sum.inl (a.1.1 : Int) := fun z => h (by have := Sum.inl.inj z; omega)
    have e : PyProof.Rows.lexLt PyProof.Rows.itemOrd [Sum.inl (b.1.1 : Int)] [Sum.inl (a.1.1 : Int)] = PyProof.Rows.itemLt (Sum.inl (b.1.1 : Int)) (Sum.inl (a.1.1 : Int)) := PyProof.Rows.lex_diff (O := PyProof.Rows.itemOrd) hne
    rw [e]
    show (!(decide ((b.1.1 : Int) < (a.1.1 : Int)))) = _
    by_cases q : a.1.1 ≤ b.1.1
    · rw [decide_eq_true q, decide_eq_false (by omega)]; rfl
    · rw [decide_eq_false q, decide_eq_true (by omega)]; rfl
theorem each_of {R : Value → (Nat × W) × V → Prop} : ∀ {bs : List ((Nat × W) × V)} {us : List Value}, Vals (bs.map (·.2)) us → (∀ b ∈ bs, ∀ u, RelV b.2 u → R u b) → PySem.W.EachIs R us bs
  | [], _, .nil, _ => .nil
  | b :: bs, _, .cons r t, h => .cons (h b List.mem_cons_self _ r) (each_of t fun c hc => h c (List.mem_cons_of_mem _ hc))
theorem vals_of {R : Value → (Nat × W) × V → Prop} (h : ∀ u b, R u b → RelV b.2 u) : ∀ {bs : List ((Nat × W) × V)} {us : List Value}, PySem.W.EachIs R us bs → Vals (bs.map (·.2)) us
  | [], _, .nil => .nil
  | b :: bs, _, .cons r t => .cons (h _ _ r) (vals_of h t)
theorem cr_led (hd : X.A.depth < recursionLimit) (hu : X.A.units + 64 < cLine) (hm : X.mg ("abs" : Str) = none) (S : FarS fs)
    (hb : ∀ (F : NF) (doc pm ctv : Value) (us : List Value), LedF fp (farB p1 p2 p3 p4 p5 p6) fs F → us.length = 1 → bindArgs (F.fd doc pm ctv) ⟨us, []⟩ = pure ([("row" : Str)].zip us)) :
    CallRK X (.builtin "sorted") [Str.ofString "key"] (rLed X.K fp (farB p1 p2 p3 p4 p5 p6) fs) := by
  intro pins s σ H vs zs us ws Q I r rz h
  obtain ⟨m, l, ff, c, F, j, bs, rfl, rfl, hs, LF, hcl, hff, hcc, hce, h1, h2, hk, q⟩ := h
  obtain rfl := Vals.ref1 r
  obtain ⟨w1, rfl, e1⟩ := vals1 rz
  obtain rfl : w1 = Value.ref ff := e1
  obtain ⟨its, rv, hl, hz⟩ := I.list hs
  obtain ⟨od, sl, doc, pm, ctv, ho⟩ := fnO_at I.hok hff
  obtain ⟨tj, hcell⟩ := celO_at I.hok hce
  have hcode := codeO_at I.hok hcc
  have E1 : PySem.W.EachIs (fun u (b : (Nat × W) × V) => RelV b.2 u ∧ KeyOk X.K m H j b) its bs := each_of rv fun b hb u ru => ⟨ru, hk b hb⟩
  have len : bs.length ≤ sizeLine := by rw [List.length_map] at hz; exact hz
  refine PySem.W.sorted_key_data (k := fun b => PyData.int (b.1.1 : Int)) (b := false) hl.isList E1 ?_ ?_ len (fun x _ => ?_) (PyProof.Rows.ksk_s1 _ _) (fun _ => PyProof.Rows.ksk_l1 _ _) (fun x => PyProof.Rows.ksk_t1 ff x) ?_ ?_
  · intro d hd d' hd'
    obtain ⟨b, _, rfl⟩ := List.mem_map.mp hd
    obtain ⟨b', _, rfl⟩ := List.mem_map.mp hd'
    rfl
  · refine .inr fun d hd => ?_
    obtain ⟨b, _, rfl⟩ := List.mem_map.mp hd
    exact ⟨fun z => (nomatch z), fun _ z => (nomatch z)⟩
  · show X.A.units + 2 + 0 < cLine
    omega
  · rintro v b ⟨ru, rvb, a, xs, n, i, eb, sq, hn, hx, hkey⟩ _ h tk kp
    rw [eb] at ru
    cases ru
    obtain ⟨its2, rv2, ht2, _⟩ := I.tuple sq
    obtain ⟨u, hu2, ru2⟩ := rv2.get hx
    obtain ⟨ti, rfl⟩ := ru2
    have hl2 := rv2.length
    obtain ⟨o, ho1, ho2⟩ := id ht2
    obtain ⟨oc, hc1, hc2⟩ := id hcell
    obtain ⟨z1, z2, z3, z4, z5, z6, z7, z8⟩ := id hcode
    have e : (b.1.1 : Int) = (i.natAbs : Int) := by rw [hkey]
    rw [e]
    refine far_call (s := { s with heap := h, toks := tk }) (f := ff) (c := c) (F := F) (P := X.prog) (w := X.w) (K := X.K) (mg := X.mg) (base := X.base) (j := j) (its := its2.toArray) (n := n) (ti := ti) (tj := tj) hd I.mod (fun b o e => kp b o (I.bk b o e)) hm (kp _ _ ho) (by rw [LF.scope]; exact S) LF.body (fun d p c us hl => hb F d p c us LF hl) ⟨z1, z2, z3, z4, z5, kp _ _ z6, z7, z8⟩ hcl ⟨oc, kp _ _ hc1, hc2⟩ ⟨o, kp _ _ ho1, ho2⟩ h1 h2 ?_ ?_
    · rw [List.size_toArray, ← hl2]
      exact (ixN_seq hn).1
    · simpa using hu2
  · intro out cnt h' tk kp hfr ho' hlen hE
    rw [led_le, sortG_ok] at hE
    have rvo := vals_of (fun u b z => z.1) hE
    have hlo : ((sortG (fun b : (Nat × W) × V => b.1.1) bs).map (·.2)).length ≤ sizeLine := by rw [List.length_map, sortG_len]; exact len
    exact ⟨.ref _, _, I.laid (t' := tk) (o := .lst ((sortG (fun b : (Nat × W) × V => b.1.1) bs).map (·.2))) kp (Nat.le_succ _) ⟨hlo, _, cnt, rvo, ho'⟩, rfl, q _ (I.hok.fresh (Nat.le_succ _))⟩
/-- led_by, to be called -/
structure LedA (X : Cx) : Prop where
  ex : ∃ (k : Nat) (f : Addr) (fd : FuncData) (fp : Arguments) (fs : Scope) (p1 p2 p3 p4 p5 p6 : Pos), FnOk X.prog X.w X.K X.mg X.base (L2.CX X.prog X.w) k f fd ["place"] (spLed X.K fp (farB p1 p2 p3 p4 p5 p6) fs) ∧ Room k X.A ∧ X.mg "led_by" = some (.ref f) ∧ PySem.W.keepIn X.K (.ref f) = true ∧ Binds X.K fd ["place"] [] ∧ FarS fs ∧
    (∀ (F : NF) (doc pm ctv : Value) (us : List Value), LedF fp (farB p1 p2 p3 p4 p5 p6) fs F → us.length = 1 → bindArgs (F.fd doc pm ctv) ⟨us, []⟩ = pure ([("row" : Str)].zip us)) ∧ X.mg ("abs" : Str) = none
theorem Ext.extN {K : PySem.W.Frag} {m : Mp} {H H' : Hp} (e : ExtN H H') (nn : ∀ b, H' b = none → H b = none) : Ext m H m H' :=
  ⟨fun _ _ h => h, fun _ _ h => .inl h, fun a o h _ nt => e a o h nt, fun a h z => h (nn a z), fun _ a xs _ h => ⟨xs, e a _ h fun _ z => (nomatch z), Nat.le_refl _⟩, .refl⟩
theorem RepH.extN {K : PySem.W.Frag} {m : Mp} {h : IH} {H H' : Hp} (r : RepH K m h H) (e : ExtN H H') (nn : ∀ b, H' b = none → H b = none) (T : TabsN (tabsK K) H') : RepH K m h H' :=
  ⟨fun k a z => by
    obtain ⟨c, ws, xs, e1, e2, e3⟩ := r.get k a z
    exact ⟨c, ws, xs, e1, e a _ e2 fun _ z => (nomatch z), RVs.mono r (Ext.extN (K := K) e nn) e3⟩, r.inj, r.new, T, ⟨fun k t a z => by
    obtain ⟨c, ws, e1, e2⟩ := r.ob.get k t a z
    obtain ⟨u, hu, hb⟩ := e2.is
    exact ⟨c, ws, e1, e2.mono r (Ext.extN (K := K) e nn) fun o q => e a o q (fun ps z => by
      rw [hu] at q; cases q; rw [z] at hb; cases hb)⟩, r.ob.inj, r.ob.new, r.ob.dis, r.ob.slot⟩⟩
theorem keys_rvs {K : PySem.W.Frag} {m : Mp} {H : Hp} {j : Int} : ∀ {bs : List ((Nat × W) × V)}, (∀ b ∈ bs, KeyOk K m H j b) → RVs K m H (bs.map (·.1.2)) (bs.map (·.2))
  | [], _ => .nil
  | b :: bs, h => .cons (h b List.mem_cons_self).1 (keys_rvs fun c hc => h c (List.mem_cons_of_mem _ hc))
theorem sf_sort {a b : Expr} {fa fb : E} {pos2 kpos : Pos} {p2 : Pos} (L : LedA X) (hr : X.A.depth < recursionLimit) (hu : X.A.units + 64 < cLine) (hg : Gl X "sorted") (hm : X.mg "sorted" = none) (hg2 : Gl X "led_by") (tk : Takes X Wx) (ha : PE X a (tE X.K B Wx fa)) (hb : PE X b (tE X.K B Wx fb)) (na : notStar a = true) (nb : notStar b = true) :
    PE X (.Call (.Name "sorted" p) [a] [⟨some "key", .Call (.Name "led_by" p2) [b] [] pos2, kpos⟩] pos) (tF X.K B Wx (sSortAbs fa fb)) := by
  obtain ⟨k, f, fd, fp, fs, w1, w2, w3, w4, w5, w6, F0, hr0, hm0, hk0, hb0, FS, hbF, hab⟩ := L.ex
  have hcall := pe_callS (pos := pos2) (p := p2) F0 hr0 hg2 hm0 hk0 hb0 (fun σ => passAt tk σ) (pa_cons hb pa_nil (star_cons nb _ _)) (by decide) (star_cons nb _ _) rfl
  refine peI (pe_callBK (cr_led hr hu hab FS hbF) hg hm PyProof.Rows.boot_sorted (pa_cons ha pa_nil (star_cons na _ _)) (pk_cons hcall pk_nil) (by decide) (by decide) (by rw [star_cons na]; rfl) (by rw [star_cons na]; rfl) rfl rfl rfl) fun σ H Q ⟨m, l, h, k, x, rh, rl, e, hk, hx⟩ => ?_
  refine ⟨m, l, h, _, x, rh, rl, e, fun m1 v w h1 H1 x1 r1 rv e1 => ?_, hx⟩
  refine ⟨m1, l, h1, _, x, r1, rl.mono rh x1, e1, fun m2 v2 w2 h2 H2 x2 r2 rv2 e2 => ?_, hx.mono x1⟩
  obtain ⟨i, rfl, rfl, e3⟩ := intOf_ok rv2 (show intOf v2 (fun i => cond (Nat.blt (iabs i) big62) (lstK v h2 fun ws => keyedK i ws fun ps => k (sndL ps) h2) false) = true from e2)
  obtain ⟨e4, e5⟩ := cond_f e3
  rw [blt_ok, iabs_ok] at e4
  have e4 := of_decide_eq_true e4
  have hbig : big62 = 2 ^ 62 := by decide
  rw [hbig] at e4
  refine ⟨i, rfl, r2.tab, fun ff c F H3 LF hcl eN nn T3 f0 f1 c1 hc0 c2 => ?_⟩
  have X3 : Ext m2 H2 m2 H3 := Ext.extN (K := X.K) eN nn
  have r3 := r2.extN eN nn T3
  have rv3 := RV.mono r1 (x2.trans X3) rv
  obtain ⟨ws, xs, q, rfl, hsq, rvs, e6⟩ := lstK_ok r3 rv3 e5
  obtain ⟨bs, b1, b2, b3⟩ := keyedK_ok rvs e6
  refine ⟨m2, q, ff, c, F, i, bs, rfl, rfl, by rw [b1]; exact hsq, LF, hcl, f1, c1, c2, by omega, by omega, b2, fun p hp => ?_⟩
  have X4 : Ext m2 H3 m2 (upd H3 p (.lst ((sortG (fun b : (Nat × W) × V => b.1.1) bs).map (·.2)))) := .laid hp
  have es : sndL (sortG (·.1) (bs.map (·.1))) = (sortG (fun b : (Nat × W) × V => b.1.1) bs).map (·.1.2) := by
    rw [sndL_ok, ← sortG_map (fun z : Nat × W => z.1) (fun b : (Nat × W) × V => b.1), List.map_map]; rfl
  rw [es] at b3
  refine hk m2 _ _ h2 _ p (((x1.trans x2).trans X3).trans X4) (r3.laid hp) upd_same ?_ (r3.nofree hp) (RVs.mono r3 X4 (keys_rvs fun b hb => b2 b ?_)) b3
  · cases z : H p with
    | none => rfl
    | some u => exact absurd hp (((x1.trans x2).trans X3).there p (by rw [z]; exact fun z => nomatch z))
  · rw [← sortG_ok] at hb
    exact List.mem_mergeSort.mp hb
end
end It

set_option Elab.async false
set_option linter.all false
set_option maxRecDepth 100000
set_option maxHeartbeats 1000000
/-! ItO: raise, try. -/
namespace It
open PySem PySem.Spec PyProof.Rows L2
/-- an own exception class without own __init__ -/
structure ExA (X : Cx) (B : Bag) (x : Str) (i : Nat) : Prop where
  ex : B.ex i
  mg : X.mg x = some (.ref (B.ca i))
  kp : PySem.W.keepIn X.K (.ref (B.ca i)) = true
  r : Raises X (.ref (B.ca i))
  f : ∃ bmB Bn newId initId, ExcBaseFacts Bn newId initId bmB ∧ PySem.W.excIn X.K (B.ca i) bmB newId = true
section
variable {X : Cx} {B : Bag} {Wx : WX} {pos p pos' : Pos} {x : Str} {i : Nat}
theorem pmk_own0 (F : ExA X B x i) (hg : Gl X x) (hdb : (x == ("__debug__" : Str)) = false) : PMk X (.Call (.Name x p) [] [] pos) (fun _ H Q => Q (.ref (B.ca i)) none H) := by
  obtain ⟨bmB, Bn, newId, initId, FB, q⟩ := F.f
  intro pins s σ H Q I h
  refine wpAny_Call_Name_kw (ld_glob I hg F.mg ?_ hdb)
  refine PySem.W.callWith_K0 I.kIn F.kp ?_
  show wpAny _ _ (call (.ref (B.ca i)) []) _ _ _
  obtain ⟨bm, N, nm, qn, bs, hdct, sn, sub, ab, col, dd, k0, k1, k2, k3, k5, mN, hC, hN, hni, T⟩ := exc_obj I.kIn q
  refine wpAny_call_exc_subT FB T hC hN hni (fun h' e hm => ?_) (Nat.zero_le _)
  exact mk_of I hm F.r h (I.hok.gone hm.new)
theorem ss_raise0 (F : ExA X B x i) (hc : X.calm = true) (tk : Takes X Wx) (hg : Gl X x) (hdb : (x == ("__debug__" : Str)) = false) : PS X (.Raise (some (.Call (.Name x p) [] [] pos)) none pos') (tS X.K B Wx (sRaise i asNil)) :=
  psI (ps_raise hc tk (pmk_own0 F hg hdb)) fun D σ H ⟨m, l, h, nx, rt, bk, ct, ex, rh, rl, e, r⟩ => r.ex m l σ h H _ _ none .refl rh rl (.plain i F.ex) e
end
/-! ### except suites -/
theorem RX.mono {K : PySem.W.Frag} {B : Bag} {m m' : Mp} {h : IH} {H H' : Hp} (rh : RepH K m h H) (x : Ext m H m' H') {v : W} {cls : Value} {d : Option Addr} (r : RX K B m H v cls d) : RX K B m' H' v cls d := by
  cases r with
  | plain j hj => exact .plain j hj
  | one j dx w y hj hd rw1 => exact .one j dx w y hj (x.stay dx _ hd (rh.no hd rfl) fun _ z => nomatch z) (RV.mono rh x rw1)
def tU (K : PySem.W.Frag) (B : Bag) (n : Nat) (a : Addr) (cls : Value) (d : Option Addr) (f : Nat → List W → E) : TE := fun σ H Q => ∃ i ws m l h k, RepH K m h H ∧ RepL K m H l σ ∧ RX K B m H (.exv i ws) cls d ∧ σ[n]? = some (some (.ref a)) ∧ f i ws B.c l h k kno = true ∧ KOk K m H k Q
def tUA (K : PySem.W.Frag) (B : Bag) (n : Nat) (a : Addr) (cls : Value) (d : Option Addr) (q : Nat) (f : Nat → List W → Es) : TA := fun σ H Q => ∃ i ws m l h k, RepH K m h H ∧ RepL K m H l σ ∧ RX K B m H (.exv i ws) cls d ∧ σ[n]? = some (some (.ref a)) ∧ f i ws B.c l h k kno = true ∧ LOk K m H q k Q
def tUF (K : PySem.W.Frag) (B : Bag) (n : Nat) (a : Addr) (cls : Value) (d : Option Addr) (f : Nat → List W → Es) : TE := fun σ H Q => ∃ i ws m l h k, RepH K m h H ∧ RepL K m H l σ ∧ RX K B m H (.exv i ws) cls d ∧ σ[n]? = some (some (.ref a)) ∧ f i ws B.c l h k kno = true ∧ FOk K m H k Q
/-- a suite under a name -/
def tUS (K : PySem.W.Frag) (B : Bag) (n : Nat) (a : Addr) (cls : Value) (d : Option Addr) (s : Nat → List W → S) : TS := fun D σ H => ∃ i ws m l h nx rt bk ct, RepH K m h H ∧ RepL K m H l σ ∧ RX K B m H (.exv i ws) cls d ∧ σ[n]? = some (some (.ref a)) ∧ s i ws B.c l h nx rt bk ct (fun _ => kno) = true ∧ SR K B wNo m H D nx rt bk ct (fun _ => kno)
section
variable {X : Cx} {B : Bag} {pos p : Pos} {n : Nat} {a : Addr} {cls : Value} {d : Option Addr} {e : Expr} {es : List Expr} {f : E} {fu : Nat → List W → E} {gu : Nat → List W → Es} {q : Nat}
theorem su_lift (he : PE X e (tE X.K B wNo f)) : PE X e (tU X.K B n a cls d fun _ _ => f) := peI he fun σ H Q ⟨i, ws, m, l, h, k, rh, rl, _, _, e, hk⟩ => ⟨m, l, h, k, kno, rh, rl, e, hk, XOk.no⟩
theorem sua_nil : PA X [] (tUA X.K B n a cls d 0 fun _ _ => asNil) := paI pa_nil fun σ H Q ⟨i, ws, m, l, h, k, rh, rl, _, _, e, hk⟩ => hk m [] [] h H .refl rh .nil rfl e
theorem sua_cons (ha : PE X e (tU X.K B n a cls d fu)) (hr : PA X es (tUA X.K B n a cls d q gu)) (ns : notStar e = true) : PA X (e :: es) (tUA X.K B n a cls d (q + 1) fun i ws => asCons (fu i ws) (gu i ws)) :=
  paI (pa_cons ha hr (star_cons ns _ _)) fun σ H Q ⟨i, ws, m, l, h, k, rh, rl, rx, hs, e, hk⟩ => by
    refine ⟨i, ws, m, l, h, _, rh, rl, rx, hs, e, fun m1 v w h1 H1 x1 r1 rv e1 => ?_⟩
    refine ⟨i, ws, m1, l, h1, _, r1, rl.mono rh x1, rx.mono rh x1, hs, e1, fun m2 us xs h2 H2 x2 r2 rvs hn e2 => ?_⟩
    exact hk m2 (v :: us) (w :: xs) h2 H2 (x1.trans x2) r2 (.cons (RV.mono r1 x2 rv) rvs) (by rw [List.length_cons, hn]) e2
theorem suf_lst (ha : PA X es (tUA X.K B n a cls d q gu)) (hq : q ≤ line) : PE X (.List es pos) (tUF X.K B n a cls d gu) := by
  refine peI (pe_lst ha) fun σ H Q ⟨i, ws, m, l, h, k, rh, rl, rx, hs, e, hk⟩ => ?_
  refine ⟨i, ws, m, l, h, _, rh, rl, rx, hs, e, fun m1 us xs h1 H1 x1 r1 rv hl e1 => ⟨?_, fun p hp => ?_⟩⟩
  · rw [hl]; exact Nat.le_trans hq line_le
  · refine hk m1 us xs h1 _ p (x1.trans (.laid hp)) (r1.laid hp) upd_same ?_ (r1.nofree hp) (RVs.mono r1 (.laid hp) rv) e1
    cases z : H p with
    | none => rfl
    | some u => exact absurd hp (x1.there p (by rw [z]; exact fun z => nomatch z))
theorem su_lay (ha : PE X e (tUF X.K B n a cls d gu)) : PE X e (tU X.K B n a cls d fun i ws => eLay (gu i ws)) := peI ha fun σ H Q ⟨i, ws, m, l, h, k, rh, rl, rx, hs, e, hk⟩ => by
  refine ⟨i, ws, m, l, h, _, rh, rl, rx, hs, e, fun m1 us xs h1 H1 p x1 r1 hp np nm rv e1 => ?_⟩
  obtain ⟨hc, h2, e2, hn2, hl2⟩ := halloc_ok e1
  have z := r1.new h1.n (Nat.le_refl _)
  exact hk (put m1 h1.n p) _ _ h2 H1 (.put z np x1) (r1.take hp nm hc hn2 hl2 rv fun t => RVs.put z t) (.ref put_same) e2
theorem su_asg {j : Nat} {y : Str} {py : Pos} (hN : X.N.Nodup) (hj : X.N[j]? = some y) (hy : L2.Loc X.env.scope y) (hf : X.fn y = true ∨ X.env.scope.names.lookup y = some .local) (he : PE X e (tU X.K B n a cls d fu)) (hs : swapsWith e (some (.Name y py)) pos.line X.env = pure false) :
    PS X (.Assign [.Name y py] e pos) (tUS X.K B n a cls d fun i ws => sAsg (fu i ws) (It.gName j)) := psI (ps_set hN hj hy he hs hf) fun D σ H ⟨i, ws, m, l, h, nx, rt, bk, ct, rh, rl, rx, hs, e, r⟩ => by
  refine ⟨i, ws, m, l, h, _, rh, rl, rx, hs, e, fun m1 v w h1 H1 x1 r1 rv e1 => ?_⟩
  obtain ⟨e2, e3⟩ := lsetK_ok j l v _ e1
  exact r.nx m1 _ _ h1 H1 x1 r1 ((rl.mono rh x1).set e2 rv) e3
theorem su_ret (he : PE X e (tU X.K B n a cls d fu)) : PS X (.Return (some e) pos) (tUS X.K B n a cls d fun i ws => sRet (fu i ws)) := psI (ps_ret he) fun D σ H ⟨i, ws, m, l, h, nx, rt, bk, ct, rh, rl, rx, hs, e, r⟩ =>
  ⟨i, ws, m, l, h, _, rh, rl, rx, hs, e, r.rt⟩
end
section
variable {X : Cx} {B : Bag} {pos : Pos} {n : Nat} {a : Addr} {cls : Value} {d : Option Addr} {e b : Expr} {f : E} {fu : Nat → List W → E} {v : Str} {pv : Pos}
theorem su_drop (he : PE X (.Call e [b] [] pv) (tU X.K B n a cls d fu)) : PS X (.Expr (.Call e [b] [] pv) pos) (tUS X.K B n a cls d fun i ws => sDrop (fu i ws)) := psI (ps_expr he rfl) fun D σ H ⟨i, ws, m, l, h, nx, rt, bk, ct, rh, rl, rx, hs, e, r⟩ =>
  ⟨i, ws, m, l, h, _, rh, rl, rx, hs, e, fun m1 v w h1 H1 x1 r1 rv e1 => r.nx m1 _ _ h1 H1 x1 r1 (rl.mono rh x1) e1⟩
theorem su_append {apos cpos : Pos} (hline : (apos.endLine == cpos.line) = true) (ha : PE X (.Name v pv) (tE X.K B wNo f)) (hb : PE X b (tU X.K B n a cls d fu)) (ns : notStar b = true) :
    PE X (.Call (.Attribute (.Name v pv) "append" apos) [b] [] cpos) (tU X.K B n a cls d fun i ws => eAppend f (fu i ws)) := by
  refine peI (pe_bm PySem.F.plainAttrs_list PySem.F.slot_list_append PySem.F.type_list_append mt_append ha (pa_cons hb pa_nil (star_cons ns _ _)) rfl ?_ hline (star_cons ns _ _) rfl) fun σ H Q q => ?_
  · rw [star_cons ns]; rfl
  · obtain ⟨i, us, m, l, h, k, rh, rl, rx, hs, e, hk⟩ := q
    refine ⟨m, l, h, _, kno, rh, rl, e, fun m1 v w h1 H1 x1 r1 rv e1 => ?_, XOk.no⟩
    cases rv with
    | @ref j p ej =>
      obtain ⟨ws, xs, f1, f2, f3, f4⟩ := sqL_ref r1 ej
      refine ⟨.inl ⟨rfl, xs, f2⟩, i, us, m1, l, h1, _, r1, rl.mono rh x1, rx.mono rh x1, hs, e1, fun m2 v2 w2 h2 H2 x2 r2 rv2 e2 => ?_⟩
      have ej2 := x2.sub _ _ ej
      obtain ⟨hc, ws2, xs2, g1, g2, g3⟩ := r2.get _ _ ej2
      obtain ⟨l2, e3, e4⟩ := hget_ok e2
      rw [g1] at e3; cases e3
      obtain ⟨e5, e6⟩ := cond_f e4
      rw [blt_ok, lenW_ok, g3.length] at e5
      rw [app_ok'] at e6
      obtain ⟨h3, e7, e8, e9⟩ := hset_ok hc e6
      refine ⟨p, xs2, w2, rfl, rfl, g2, Nat.lt_of_lt_of_le (of_decide_eq_true e5) line_le, ?_⟩
      have le : xs2.length ≤ (xs2 ++ [w2]).length := by rw [List.length_append]; exact Nat.le_add_right _ _
      exact hk m2 _ _ h3 _ ((x1.trans x2).trans (.write ej2 g2 le)) (r2.write ej2 e8 e9 (g3.append (.cons rv2 .nil)) g2 le) .non e7
    | _ => cases (show false = true from e1)
end
/-- isinstance(error, T), T a built-in class -/
theorem su_isE {X : Cx} {B : Bag} {a : Addr} {oe : Obj} {cls : Value} {d : Option Addr} {pn : List (Addr × Obj)} {n : Nat} {y z : Str} {T : String} {f : Nat → Bool} {p py pz pos : Pos} (hz : Zc cls d oe) (hf : ∃ vs, oe.data = .fields vs) (hd : ∀ i, ¬ B.on i)
    (hn : X.N[n]? = some y) (hv : Vis X.env.scope y) (hyd : (y == ("__debug__" : Str)) = false) (hyc : (y == ("__classdict__" : Str)) = false) (hg : Gl X "isinstance") (hm : X.mg "isinstance" = none) (hgz : Gl X z) (hmz : X.mg z = none) (hbz : bootBuiltins z = some (.type T)) (hz1 : z ≠ "__name__") (hz2 : (z == ("__debug__" : Str)) = false)
    (hC : ∀ i, B.ex i → ExcC X.K (B.ca i)) (hk : ∀ i, B.ex i → PySem.W.kitOne X.K (.ref (B.ca i)) (.type T) = some (f i)) :
    PE (X.suite a ((a, oe) :: pn)) (.Call (.Name "isinstance" p) [.Name y py, .Name z pz] [] pos) (tU X.K B n a cls d fun i _ => eIsE f i) := by
  refine ⟨fun pins s σ H Q I h => ?_⟩
  obtain ⟨i, ws, m, l, h, k, rh, rl, rx, hs, e, hk1⟩ := h
  have key : ∃ D, cls = .ref D ∧ d = none ∧ D = B.ca i ∧ B.ex i := by
    cases rx with
    | plain _ hi => exact ⟨_, rfl, rfl, rfl, hi⟩
    | one _ dx w x hi hdx rw1 => exact (hd i hi).elim
  obtain ⟨D, rfl, rfl, rfl, hi⟩ := key
  refine (pe_callB (X := X.suite a ((a, oe) :: pn)) (call_isE (hC i hi) hz hf) hg hm boot_isinstance (pa_cons (pe_var (X := X.suite a ((a, oe) :: pn)) (pos := py) hn hv hyd hyc) (pa_cons (pe_bltn (X := X.suite a ((a, oe) :: pn)) (pos := pz) (v := .ty T) hgz hmz hbz rfl hz1 hz2) pa_nil rfl) rfl) (by decide) (by decide) rfl rfl).run pins s σ H Q I ?_
  exact ⟨.ref a, hs, .ty T, .type T, f i, rfl, fun u r => r, hk i hi, hk1 m _ _ h H .refl rh (.bl _) e⟩
/-! ### try with several clauses, named or not -/
def wN (K : PySem.W.Frag) (Wout : WX) (D : Ends) : List (Value × Option Nat × (Addr → Value → Option Addr → TS)) → WX
  | [] => Wout
  | (c, none, ts) :: r => fun cls d σ H => ∃ b, PySem.W.exmOne K cls c = some b ∧ (b = true → ∀ a, H a = none → ts a cls d D σ H) ∧ (b = false → wN K Wout D r cls d σ H)
  | (c, some i, ts) :: r => fun cls d σ H => ∃ b, PySem.W.exmOne K cls c = some b ∧
      (b = true → ∀ a, H a = none → ts a cls d { nx := fun σ' H' => D.nx (σ'.set i none) H', rt := D.rt, bk := fun σ' H' => D.bk (σ'.set i none) H', ct := fun σ' H' => D.ct (σ'.set i none) H' } (σ.set i (some (.ref a))) H) ∧ (b = false → wN K Wout D r cls d σ H)
inductive HdsN (X : Cx) : List ExceptHandler → List (Value × Option Nat × (Addr → Value → Option Addr → TS)) → Prop
  | nil : HdsN X [] []
  | cons {x : Str} {c : Value} {ts : Addr → Value → Option Addr → TS} {b₀ : Stmt} {suite : List Stmt} {np pos' : Pos} {hds : List ExceptHandler} {l : List (Value × Option Nat × (Addr → Value → Option Addr → TS))} (hc : Names X x c)
      (hsu : ∀ (a : Addr) (oe : Obj) (cls : Value) (d : Option Addr) (pn : List (Addr × Obj)), Zc cls d oe → (∃ vs, oe.data = .fields vs) → PSs (X.suite a ((a, oe) :: pn)) (b₀ :: suite) (ts a cls d)) (r : HdsN X hds l) :
      HdsN X (.ExceptHandler (some (.Name x np)) none (b₀ :: suite) pos' :: hds) ((c, none, ts) :: l)
  | consAs {x n : Str} {i : Nat} {c : Value} {ts : Addr → Value → Option Addr → TS} {b₀ : Stmt} {suite : List Stmt} {np pos' : Pos} {hds : List ExceptHandler} {l : List (Value × Option Nat × (Addr → Value → Option Addr → TS))} (hc : Names X x c) (hi : X.N[i]? = some n) (hln : X.env.kindOf n = some .local)
      (hsu : ∀ (a : Addr) (oe : Obj) (cls : Value) (d : Option Addr) (pn : List (Addr × Obj)), Zc cls d oe → (∃ vs, oe.data = .fields vs) → PSs (X.suite a ((a, oe) :: pn)) (b₀ :: suite) (ts a cls d)) (r : HdsN X hds l) :
      HdsN X (.ExceptHandler (some (.Name x np)) (some n) (b₀ :: suite) pos' :: hds) ((c, some i, ts) :: l)
section
variable {X : Cx} {body : List Stmt} {h₀ : ExceptHandler} {hds : List ExceptHandler} {l : List (Value × Option Nat × (Addr → Value → Option Addr → TS))} {pos : Pos} {tb : WX → TS} {Wout : WX}
theorem ps_try_n (hs : X.stack = X.env :: X.outer) (hf : X.env.frame = some X.env.locals) (hN : X.N.Nodup) (tk : Takes X Wout)
    (hb : ∀ (W : WX) (pn : List (Addr × Obj)) (xe : Value → Shared → Prop), Takes (X.tr pn xe) W → PassesOwn (model X.prog X.w) X.A X.env xe → PSs (X.tr pn xe) body (tb W))
    (hh : HdsN X (h₀ :: hds) l) : PS X (.Try body (h₀ :: hds) [] [] pos) (fun D σ H => tb (wN X.K Wout D l) D σ H) := by
  refine ⟨fun pins s σ H D I h => ?_⟩
  have ok := I.ok
  have hfr : X.A.frames = some (X.env :: X.outer) := by rw [ok.frames, hs]
  refine wpAny_Try_except ?_
  refine wpAny_mono ((hb (wN X.K Wout D l) (X.pn ++ pins) (fun e s₁ => wpAny (model X.prog X.w) X.A (noteFrame e X.env) (fun _ s₂ => wpAny (model X.prog X.w) X.A (setFlight e none) (fun _ s₃ =>
    wpAny (model X.prog X.w) X.A (handleBy e X.env (h₀ :: hds)) (SP X pins D) X.xe s₃) X.xe s₂) X.xe s₁) (fun u s' xx => ?_) PassesOwn.looking).run [] s σ H D (I.toTry _) h) (fun f s1 hsp => ?_) (fun e s1 he => he)
  · obtain ⟨a, B, sI, pins', σ', H', cls, d, rfl, J', nb, up, sky, na, os, ag, w⟩ := xx
    have J : Inv X pins σ' H' sI := J'.ofTry ok
    have sky' : Sky B (X.env :: X.outer) a (Zc cls d) X.env.locals s'.heap := by rw [← hs]; exact sky
    show wpAny (model X.prog X.w) X.A (noteFrame (.ref a) X.env) _ _ _
    refine Sky.land Zc.steady hfr hf sky' fun h3 fl3 up3 => ?_
    have J3 : Inv X pins σ' H' { s' with heap := h3 } := J.landed nb fl3.1 (up.trans up3) os ag
    obtain ⟨oe3, vs3, he3, hz3, hd3⟩ := fl3.there
    have notFr : ∀ {h : Heap} {o : Obj} {vs : Array Value}, h.FunFrames B (X.env :: X.outer) → h.get? a = some o → o.data = .fields vs → a ∉ frs (X.env :: X.outer) := fun {h o vs} ff e dd hm => by
      obtain ⟨_, o', e', hnf⟩ := ff.mem hm
      rw [e] at e'; cases e'
      exact hnf _ dd
    have nfr := notFr fl3.2.2.1 he3 hd3
    have nL : a ≠ X.env.locals := fun z => nfr (List.mem_filterMap.mpr ⟨X.env, List.mem_cons_self, by rw [hf, z]⟩)
    have nF : a ∉ X.fs := fun hm => by
      obtain ⟨e, he, q⟩ := List.mem_filterMap.mp hm
      exact nfr (List.mem_filterMap.mpr ⟨e, List.mem_cons_of_mem _ he, q⟩)
    have S3 := J3.suite he3 hd3 na nL nF
    have test : ∀ {x : Str} {c : Value} {np : Pos}, Names X x c → ∀ {Q : Value → Shared → Prop} {E : Value → Shared → Prop}, Q c { s' with heap := h3 } → wpAny (model X.prog X.w) (X.A.mark (some (.ref a))) (eval (.Name x np) X.env) Q E { s' with heap := h3 } := fun {x c np} hc {Q E} q => by
      obtain ⟨hg, hdbg, hm | ⟨hm, hv, hnn⟩⟩ := hc
      · exact ld_glob (X := X.suite a ((a, oe3) :: (X.pn ++ pins))) S3 hg hm q hdbg
      · exact ld_blt (X := X.suite a ((a, oe3) :: (X.pn ++ pins))) S3 hg hm hv q hnn hdbg
    have LT : PySem.W.Looks (model X.prog X.w) h3 (typeOf (.ref a)) cls := fun A Q E s k q => wpAny_typeOf_ref (k _ _ he3) (by rw [hz3.1]; exact q)
    have go : ∀ {hds' : List ExceptHandler} {l' : List (Value × Option Nat × (Addr → Value → Option Addr → TS))}, HdsN X hds' l' → wN X.K Wout D l' cls d σ' H' →
        wpAny (model X.prog X.w) X.A (handleBy (.ref a) X.env hds') (SP X pins D) X.xe { s' with heap := h3 } := by
      intro hds' l' hk
      induction hk with
      | nil =>
        intro w
        refine wpAny_handleBy_nil ?_
        obtain ⟨k1, k2, k3, oe, vs, T, oT, ts', he, hz, hd, h1, hr⟩ := id fl3
        unfold PySem.passOn
        refine wpAny_bind (wpAny_field he hd h1 ?_)
        rw [if_neg (show ¬ ((Value.ref T == Value.none) = true) from by simp)]
        have fin : wpAny (model X.prog X.w) X.A (setFlight (.ref a) X.env.frame) (fun _ s4 => wpAny (model X.prog X.w) X.A (throw (.ref a) : Sem Flow) (SP X pins D) X.xe s4) X.xe { s' with heap := h3 } := by
          rw [hf]
          refine HandSPX.setFlight_upZ fl3 fun h4 hh4 up4 => wpAny_throw (tk _ _ ?_)
          exact ⟨a, B, sI, pins, σ', H', cls, d, rfl, J, nb, (up.trans up3).trans up4, .inr (.inr (by rw [hs]; exact hh4)), na, os, ag, w⟩
        first
          | exact wpAny_bind (wpAny_pure (wpAny_bind fin))
          | exact wpAny_bind fin
      | @cons x c ts b₀ suite np pos' hds2 l2 hc hsu r ih =>
        intro w
        obtain ⟨b, hb1, hyes, hno⟩ := w
        refine wpAny_handleBy_cons (codeAny_handlers_test ?_) (by intro q; cases q)
        have LM := PySem.W.exm_one (M := model X.prog X.w) (J3.kIn) LT hb1
        refine test hc (LM.here ?_)
        cases b with
        | true =>
          refine codeAny_handlers_suite ?_
          refine HandSPX.lands_againZ fl3 fun h4 fl4 up4 => ?_
          have J4 : Inv X pins σ' H' { s' with heap := h4 } := J.landed nb fl4.1 ((up.trans up3).trans up4) os ag
          obtain ⟨oe4, vs4, he4, hz4, hd4⟩ := fl4.there
          have S4 := J4.suite he4 hd4 na nL nF
          refine wpAny_mono ((hsu a oe4 cls d (X.pn ++ pins) hz4 ⟨_, hd4⟩).run [] _ _ H' _ S4 (hyes rfl a na)) (fun f s6 hsp => ?_) (fun _ _ z => False.elim z)
          cases f with
          | next => obtain ⟨σ6, H6, S6, q6⟩ := hsp; exact ⟨_, _, S6.unsuite ok, q6⟩
          | brk => obtain ⟨σ6, H6, S6, q6⟩ := hsp; exact ⟨_, _, S6.unsuite ok, q6⟩
          | cont => obtain ⟨σ6, H6, S6, q6⟩ := hsp; exact ⟨_, _, S6.unsuite ok, q6⟩
          | ret u => obtain ⟨v6, σ6, H6, S6, r6, q6⟩ := hsp; exact ⟨_, _, _, S6.unsuite ok, r6, q6⟩
        | false =>
          show wpAny _ X.A (handleBy (.ref a) X.env hds2) _ _ _
          exact ih (hno rfl)
      | @consAs x n i c ts b₀ suite np pos' hds2 l2 hc hi hln hsu r ih =>
        intro w
        obtain ⟨b, hb1, hyes, hno⟩ := w
        refine wpAny_handleBy_cons (codeAny_handlers_test ?_) (by intro q; cases q)
        have LM := PySem.W.exm_one (M := model X.prog X.w) (J3.kIn) LT hb1
        refine test hc (LM.here ?_)
        cases b with
        | true =>
          refine codeAny_handlers_suite_as ?_
          refine HandSPX.lands_againZ fl3 fun h4 fl4 up4 => ?_
          have J4 : Inv X pins σ' H' { s' with heap := h4 } := J.landed nb fl4.1 ((up.trans up3).trans up4) os ag
          obtain ⟨oe4, vs4, he4, hz4, hd4⟩ := fl4.there
          have S4 := J4.suite he4 hd4 na nL nF
          refine store_ok (X := X.suite a ((a, oe4) :: (X.pn ++ pins))) (v := .ref a) S4 hN hi (.inl hln) rfl (fun s5 S5 => ?_) (.inr hln)
          refine wpAny_mono ((hsu a oe4 cls d (X.pn ++ pins) hz4 ⟨_, hd4⟩).run [] s5 _ H' _ S5 (hyes rfl a na)) (fun f s6 hsp => ?_) (fun _ _ z => False.elim z)
          have end_ : ∀ {σ6 : L2.St} {H6 : Hp} {Q : Shared → Prop}, Inv (X.suite a ((a, oe4) :: (X.pn ++ pins))) [] σ6 H6 s6 → (∀ s7, Inv X pins (σ6.set i none) H6 s7 → Q s7) →
              wpAny (model X.prog X.w) X.A (do bindName X.env n .none; unbindBehindTheSuite X.env n pos') (fun _ s7 => Q s7) X.xe s6 := fun {σ6 H6 Q} S6 hq => gone_ok (S6.unsuite ok) hN hi hln hq
          cases f with
          | next => obtain ⟨σ6, H6, S6, q6⟩ := hsp; exact end_ S6 fun s7 J7 => ⟨_, _, J7, q6⟩
          | brk => obtain ⟨σ6, H6, S6, q6⟩ := hsp; exact end_ S6 fun s7 J7 => ⟨_, _, J7, q6⟩
          | cont => obtain ⟨σ6, H6, S6, q6⟩ := hsp; exact end_ S6 fun s7 J7 => ⟨_, _, J7, q6⟩
          | ret u => obtain ⟨v6, σ6, H6, S6, r6, q6⟩ := hsp; exact end_ S6 fun s7 J7 => ⟨_, _, _, J7, r6, q6⟩
        | false =>
          show wpAny _ X.A (handleBy (.ref a) X.env hds2) _ _ _
          exact ih (hno rfl)
    exact go hh w
  · cases f with
    | next => obtain ⟨σ', H', J', q⟩ := hsp; exact wpAny_execs_nil ⟨σ', H', J'.ofTry ok, q⟩
    | brk => obtain ⟨σ', H', J', q⟩ := hsp; exact ⟨σ', H', J'.ofTry ok, q⟩
    | cont => obtain ⟨σ', H', J', q⟩ := hsp; exact ⟨σ', H', J'.ofTry ok, q⟩
    | ret u => obtain ⟨v, σ', H', J', r, q⟩ := hsp; exact ⟨v, σ', H', J'.ofTry ok, r, q⟩
end
theorem lclrK_lt : ∀ (i : Nat) (l : Loc) (c : Loc → Bool), lclrK i l c = true → i < l.length
  | 0, [], _, q => by cases (show false = true from q)
  | 0, _ :: _, _, q => Nat.succ_pos _
  | i + 1, [], _, q => by cases (show false = true from q)
  | i + 1, x :: l, c, q => Nat.succ_lt_succ (lclrK_lt i l (fun z => c (x :: z)) q)
theorem RepL.setX {K : PySem.W.Frag} {m : Mp} {H : Hp} {l : Loc} {σ : L2.St} (r : RepL K m H l σ) (i : Nat) (v : V) : RepL K m H (l.set i none) (σ.set i (some v)) := by
  refine ⟨by rw [List.length_set, List.length_set]; exact r.1, fun j w e => ?_⟩
  by_cases z : i = j
  · subst z
    by_cases hi : i < l.length
    · rw [List.getElem?_set_self hi] at e; cases e
    · rw [List.getElem?_eq_none (by rw [List.length_set]; omega)] at e; cases e
  · rw [List.getElem?_set_ne z] at e
    rw [List.getElem?_set_ne z]
    exact r.2 j w e
inductive HH (X : Cx) (B : Bag) : List ExceptHandler → Hs → List (Value × Option Nat × (Addr → Value → Option Addr → TS)) → Prop
  | nil : HH X B [] hNil []
  | cons {x : Str} {j : Nat} {s : S} {r : Hs} {b₀ : Stmt} {suite : List Stmt} {np pos' : Pos} {hds : List ExceptHandler} {l : List (Value × Option Nat × (Addr → Value → Option Addr → TS))} (hc : Names X x (.ref (B.ca j)))
      (hx : ∀ i, B.ex i ∨ B.on i → PySem.W.exmOne X.K (.ref (B.ca i)) (.ref (B.ca j)) = some (Nat.beq i j))
      (hsu : ∀ (a : Addr) (oe : Obj) (cls : Value) (d : Option Addr) (pn : List (Addr × Obj)), Zc cls d oe → (∃ vs, oe.data = .fields vs) → PSs (X.suite a ((a, oe) :: pn)) (b₀ :: suite) (tS X.K B wNo s)) (rest : HH X B hds r l) :
      HH X B (.ExceptHandler (some (.Name x np)) none (b₀ :: suite) pos' :: hds) (hCons j s r) ((.ref (B.ca j), none, fun _ _ _ => tS X.K B wNo s) :: l)
  | consAs {x y : Str} {j n : Nat} {s : Nat → List W → S} {r : Hs} {b₀ : Stmt} {suite : List Stmt} {np pos' : Pos} {hds : List ExceptHandler} {l : List (Value × Option Nat × (Addr → Value → Option Addr → TS))} (hc : Names X x (.ref (B.ca j))) (hi : X.N[n]? = some y) (hln : X.env.kindOf y = some .local)
      (hx : ∀ i, B.ex i ∨ B.on i → PySem.W.exmOne X.K (.ref (B.ca i)) (.ref (B.ca j)) = some (Nat.beq i j))
      (hsu : ∀ (a : Addr) (oe : Obj) (cls : Value) (d : Option Addr) (pn : List (Addr × Obj)), Zc cls d oe → (∃ vs, oe.data = .fields vs) → PSs (X.suite a ((a, oe) :: pn)) (b₀ :: suite) (tUS X.K B n a cls d s)) (rest : HH X B hds r l) :
      HH X B (.ExceptHandler (some (.Name x np)) (some y) (b₀ :: suite) pos' :: hds) (hConsAs j n s r) ((.ref (B.ca j), some n, fun a cls d => tUS X.K B n a cls d s) :: l)
theorem HH.to {X : Cx} {B : Bag} {hds : List ExceptHandler} {hs : Hs} {l : List (Value × Option Nat × (Addr → Value → Option Addr → TS))} (h : HH X B hds hs l) : HdsN X hds l := by
  induction h with
  | nil => exact .nil
  | cons hc hx hsu rest ih => exact .cons hc hsu ih
  | consAs hc hi hln hx hsu rest ih => exact .consAs hc hi hln hsu ih
theorem rx_cls {K : PySem.W.Frag} {B : Bag} {m : Mp} {H : Hp} {i : Nat} {ws : List W} {cls : Value} {d : Option Addr} (r : RX K B m H (.exv i ws) cls d) : cls = .ref (B.ca i) ∧ (B.ex i ∨ B.on i) := by
  cases r with
  | plain _ h => exact ⟨rfl, .inl h⟩
  | one _ dx w x h e rw1 => exact ⟨rfl, .inr h⟩
theorem hh_ok {X : Cx} {B : Bag} {Wx : WX} {hds : List ExceptHandler} {hs : Hs} {l : List (Value × Option Nat × (Addr → Value → Option Addr → TS))} (hh : HH X B hds hs l) {D : Ends} {m : Mp} {h : IH} {H : Hp} {σ : L2.St} {lo : Loc} {i : Nat} {ws : List W} {cls : Value} {d : Option Addr} {nx : KS} {rt : KE} {bk ct : KS} {ex : Loc → KE}
    (rh : RepH X.K m h H) (rl : RepL X.K m H lo σ) (rx : RX X.K B m H (.exv i ws) cls d) (r : SR X.K B Wx m H D nx rt bk ct ex) (e : hs i ws B.c lo h nx rt bk ct ex = true) : wN X.K Wx D l cls d σ H := by
  obtain ⟨rfl, hi⟩ := rx_cls rx
  induction hh with
  | nil => exact r.ex m lo σ h H _ _ d .refl rh rl rx e
  | @cons x j s rr b₀ suite np pos' hds l hc hx hsu rest ih =>
    refine ⟨Nat.beq i j, hx i hi, fun hb a ha => ?_, fun hb => ih ?_⟩
    · rcases cond_t (show cond (Nat.beq i j) _ _ = true from e) with ⟨_, e2⟩ | ⟨z, _⟩
      · exact ⟨m, lo, h, nx, rt, bk, ct, _, rh, rl, e2, r.nx, r.rt, r.bk, r.ct, XLOk.no⟩
      · rw [hb] at z; cases z
    · rcases cond_t (show cond (Nat.beq i j) _ _ = true from e) with ⟨z, _⟩ | ⟨_, e2⟩
      · rw [hb] at z; cases z
      · exact e2
  | @consAs x y j n s rr b₀ suite np pos' hds l hc hi2 hln hx hsu rest ih =>
    refine ⟨Nat.beq i j, hx i hi, fun hb a ha => ?_, fun hb => ih ?_⟩
    · rcases cond_t (show cond (Nat.beq i j) _ _ = true from e) with ⟨_, e2⟩ | ⟨z, _⟩
      · have lt := lclrK_lt _ _ _ e2
        have e3 := lclrK_ok _ _ _ e2
        have cl : ∀ {k : KS} {Q : L2.St → Hp → Prop}, SOk X.K m H k Q → SOk X.K m H (fun l2 h2 => lclrK n l2 fun l3 => k l3 h2) (fun σ' H' => Q (σ'.set n none) H') := fun {k Q} q m2 l2 σ2 h2 H2 x2 r2 rl2 e4 => q m2 _ _ h2 H2 x2 r2 (rl2.clr n) (lclrK_ok _ _ _ e4)
        refine ⟨i, ws, m, _, h, _, rt, _, _, rh, rl.setX n (.ref a), rx, ?_, e3, cl r.nx, r.rt, cl r.bk, cl r.ct, XLOk.no⟩
        rw [List.getElem?_set_self (by rw [← rl.1]; exact lt)]
      · rw [hb] at z; cases z
    · rcases cond_t (show cond (Nat.beq i j) _ _ = true from e) with ⟨z, _⟩ | ⟨_, e2⟩
      · rw [hb] at z; cases z
      · exact e2
theorem ss_try {X : Cx} {B : Bag} {Wx : WX} {h₀ : ExceptHandler} {hds : List ExceptHandler} {hs : Hs} {l : List (Value × Option Nat × (Addr → Value → Option Addr → TS))} {body : List Stmt} {s : S} {pos : Pos} (hst : X.stack = X.env :: X.outer) (hf : X.env.frame = some X.env.locals) (hN : X.N.Nodup) (tk : Takes X Wx)
    (hb : ∀ (W : WX) (pn : List (Addr × Obj)) (xe : Value → Shared → Prop), Takes (X.tr pn xe) W → PassesOwn (model X.prog X.w) X.A X.env xe → PSs (X.tr pn xe) body (tS X.K B W s)) (hh : HH X B (h₀ :: hds) hs l) :
    PS X (.Try body (h₀ :: hds) [] [] pos) (tS X.K B Wx (It.sTry s hs)) := psI (ps_try_n hst hf hN tk hb hh.to) fun D σ H ⟨m, lo, h, nx, rt, bk, ct, ex, rh, rl, e, r⟩ => by
  refine ⟨m, lo, h, nx, rt, bk, ct, _, rh, rl, e, r.nx, r.rt, r.bk, r.ct, fun m1 l1 σ1 h1 H1 v cls d x1 r1 rl1 rx e1 => ?_⟩
  have key : ∃ i ws, v = .exv i ws := by cases rx <;> exact ⟨_, _, rfl⟩
  obtain ⟨i, ws, rfl⟩ := key
  exact hh_ok hh r1 rl1 rx (r.mono x1) e1
end It

set_option Elab.async false
set_option linter.all false
set_option maxRecDepth 100000
set_option maxHeartbeats 4000000
/-! ItOa: own errors over LookupError with one field, number (after skeleton 42). -/
namespace PySem
namespace NumX
open PySem.W PySem.Calls PyProof.Rows PySem.HandSPX
/-! ### the text of __init__ -/
def iA (p1 p2 : Pos) : Arguments := { posonlyargs := [], args := [{ arg := "self", annotation := none, pos := p1 }, { arg := "number", annotation := none, pos := p2 }], vararg := none, kwonlyargs := [], kw_defaults := [], kwarg := none, defaults := [] }
def iB (q1 q2 q3 q4 : Pos) : List Stmt := [.Assign [.Attribute (.Name "self" q1) "number" q2] (.Name "number" q3) q4]
def iS : Scope := { kind := .function, names := [(PySem.Str.ofString "self", .local), (PySem.Str.ofString "number", .local)], isGenerator := false, isCoroutine := false, more := [] }
abbrev leT : List Value := [.type "LookupError", .type "Exception", .type "BaseException", .type "object"]
abbrev veT : List Value := [.type "ValueError", .type "Exception", .type "BaseException", .type "object"]
/-- what the written part says of a class over LookupError at C, and of its __init__, at fI -/
structure NumC (K : Frag) (C fI : Addr) : Prop where
  io : (excInitIn K C leT "LookupError.__new__" = true ∧ excOver K C leT = true) ∨ (excInitIn K C veT "ValueError.__new__" = true ∧ excOver K C veT = true)
  sa : findIn K (.ref C) "__setattr__" = some (some (.builtin "object.__setattr__"))
  ga : findIn K (.ref C) "__getattribute__" = some (some (.builtin "BaseException.__getattribute__"))
  gg : findIn K (.ref C) "__getattr__" = some none
  noN : findIn K (.ref C) "number" = some none
  iC : findIn K (.ref C) "__init__" = some (some (.ref fI))
  tC : typeIn K (.ref fI) = some (.type "function")
  kC : keepIn K (.ref C) = true
  exC : subIn K (.ref C) (.type "BaseException") = some true
  tyC : typeIn K (.ref C) = some (.type "type")
  hdC : hasDictIn K C = true
  fn : ∃ (q : Str) (oc : Value) (od : Option Addr) (kV doc pm : Value) (an : Option Addr) (cdv ct : Value) (osl : Array (Option Value)) (p1 p2 q1 q2 q3 q4 : Pos),
    K.lookup fI = some ⟨oc, od, .func (fnOf "__init__" q (iA p1 p2) (iB q1 q2 q3 q4) iS .none kV doc pm an cdv ct), osl⟩ ∧ codeIn K cdv q = true
theorem one_size (v : Value) : [v].length ≤ sizeLine := by
  rw [sizeLine_eq]
  exact (by decide : 1 ≤ 16777216)
theorem kept_but {K : Frag} {h h' : Heap} {x : Addr} (X : K.In h) (hx : K.lookup x = none) (k : ∀ b o, b ≠ x → h.get? b = some o → h'.get? b = some o) : K.In h' := fun a o e =>
  k a o (fun z => by rw [z, hx] at e; cases e) (X a o e)
theorem ldC {M : Model} {s : Shared} {name : Str} {scope : Scope} {L a : Addr} {cd : Value} {m : Str → Option Value} {x : Str} {pos : Pos} {v : Value} {Q : Value → Shared → Prop} {A : Around} {E : Value → Shared → Prop} (hn : s.heap.Ns L m) (hv : m x = some v) (h : Q v s)
    (hk : scope.kind = .function := by rfl) (hl : (envOfC name scope L a cd).kindOf x = some .local := by rfl) (hd : (x == ("__debug__" : Str)) = false := by decide) :
    wpAny M A (eval (.Name x pos) (envOfC name scope L a cd)) Q E s := wpAny_Name (wpAny_loadName_local hk hl hn hv h) hd
/-- what __init__ leaves of a fresh exception at x -/
structure InitEnd (h h' : Heap) (x C dx t1 : Addr) (v : Value) : Prop where
  keep : ∀ b o, b ≠ x → h.get? b = some o → h'.get? b = some o
  obj : h'.get? x = some { cls := .ref C, dict := some dx, data := .fields #[.ref t1, .none, .none, .none, .bool false, .none] }
  dbig : h.objs.size ≤ dx
  dne : dx ≠ x
  ns : h'.Ns1 dx (fun y => if y = "number" then some v else none)
/-- a made Low -/
structure OwnMade (h h' : Heap) (e C d : Addr) (v : Value) : Prop where
  keep : ∀ b o, h.get? b = some o → h'.get? b = some o
  new : h.objs.size ≤ e
  obj : ∃ oe vs, h'.get? e = some oe ∧ oe.cls = .ref C ∧ oe.dict = some d ∧ oe.data = .fields vs ∧ vs[1]? = some .none
  dbig : h.objs.size ≤ d
  dne : d ≠ e
  ns : h'.Ns1 d (fun y => if y = "number" then some v else none)
section
open Builtin Builtin.ObjectAttr
variable {prog : Program} {w : World} {A : Around} {R : Result → Shared → Prop} {s : Shared} {K : Frag} {C fI : Addr}
/-- the first field of a fresh exception: its dict is laid -/
theorem num_osa (T : NumC K C fI) {tk : Tok} {v : Value} {x : Addr} {fv : Array Value} (X : K.In s.heap) (hx : s.heap.get? x = some { cls := .ref C, data := .fields fv })
    (hq : ∀ h' tk' dx, (∀ b o, b ≠ x → s.heap.get? b = some o → h'.get? b = some o) → s.heap.objs.size ≤ dx → dx ≠ x → h'.get? x = some { cls := .ref C, dict := some dx, data := .fields fv } →
      h'.Ns1 dx (fun y => if y = "number" then some v else none) → R (.ok (.ret .none)) { s with heap := h', toks := tk' }) :
    codeAny (model prog w) A (.call (.builtin "object.__setattr__") ⟨[.ref x, .str "number" tk, v], []⟩) R s := by
  have I : InstAt s.heap x { cls := .ref C, data := .fields fv } C none := ⟨hx, rfl, rfl, trivial⟩
  have hxs : x ≠ s.heap.objs.size := Nat.ne_of_lt (Heap.lt_size hx)
  rcases T.io with ⟨_, ov⟩ | ⟨_, ov⟩
  · refine osa_openX (r := none) F.store_LookupError X I ov (by unfold takerIn; rw [T.noN]; rfl) fun b => ?_
    obtain ⟨hp, g, d, t, os⟩ := s
    obtain ⟨cd, hcd, hh⟩ := any_some T.hdC
    have hcls : Looks (model prog w) hp (classData C) cd := looks_clsIn X hcd
    obtain ⟨nm, bs, mro, ns, qn, hd, sn, sb, ab, col, del⟩ := cd
    dsimp only at hh
    subst hh
    show wpAny _ _ (storeInOwnDict (.ref x) (.ref C) (.str "number" tk) "number" v b) _ _ _
    unfold storeInOwnDict ownDictForStores
    repeat (first | with_reducible refine store_in_new ?_ ?_ | with_reducible refine wpAny_loadPart_at hx ?_ | with_reducible refine hcls.at ?_ | wp_step)
    · exact ⟨_, #[], _, (Heap.get?_update_ne _ _ _ _ hxs.symm).trans (Heap.get?_push_at rfl rfl), rfl, fun e he => absurd he (by simp), fun _ => rfl⟩
    · intro h' tk' hn' hs
      have hx₁ : (hp.push { cls := .type "dict", data := .dict #[] }).get? x = some { cls := .ref C, data := .fields fv } := Heap.get?_push_of_some _ hx
      refine hq h' tk' hp.objs.size (fun b o hb ho => ?_) (Nat.le_refl _) hxs.symm ?_ hn'
      · exact (hs.2 b (Nat.ne_of_lt (Heap.lt_size ho))).trans ((Heap.get?_update_ne _ _ _ _ hb).trans (Heap.get?_push_of_some _ ho))
      · exact (hs.2 x hxs).trans (Heap.get?_update_self _ hx₁ rfl)
  · refine osa_openX (r := none) F.store_ValueError X I ov (by unfold takerIn; rw [T.noN]; rfl) fun b => ?_
    obtain ⟨hp, g, d, t, os⟩ := s
    obtain ⟨cd, hcd, hh⟩ := any_some T.hdC
    have hcls : Looks (model prog w) hp (classData C) cd := looks_clsIn X hcd
    obtain ⟨nm, bs, mro, ns, qn, hd, sn, sb, ab, col, del⟩ := cd
    dsimp only at hh
    subst hh
    show wpAny _ _ (storeInOwnDict (.ref x) (.ref C) (.str "number" tk) "number" v b) _ _ _
    unfold storeInOwnDict ownDictForStores
    repeat (first | with_reducible refine store_in_new ?_ ?_ | with_reducible refine wpAny_loadPart_at hx ?_ | with_reducible refine hcls.at ?_ | wp_step)
    · exact ⟨_, #[], _, (Heap.get?_update_ne _ _ _ _ hxs.symm).trans (Heap.get?_push_at rfl rfl), rfl, fun e he => absurd he (by simp), fun _ => rfl⟩
    · intro h' tk' hn' hs
      have hx₁ : (hp.push { cls := .type "dict", data := .dict #[] }).get? x = some { cls := .ref C, data := .fields fv } := Heap.get?_push_of_some _ hx
      refine hq h' tk' hp.objs.size (fun b o hb ho => ?_) (Nat.le_refl _) hxs.symm ?_ hn'
      · exact (hs.2 b (Nat.ne_of_lt (Heap.lt_size ho))).trans ((Heap.get?_update_ne _ _ _ _ hb).trans (Heap.get?_push_of_some _ ho))
      · exact (hs.2 x hxs).trans (Heap.get?_update_self _ hx₁ rfl)
end
section
variable {prog : Program} {w : World} {A : Around} {E : Value → Shared → Prop} {R : Result → Shared → Prop} {s : Shared} {K : Frag} {C fI : Addr}
theorem num_init (T : NumC K C fI) {x t0 : Addr} {v : Value} (X : K.In s.heap) (hlim : s.heap.NoLimit) (hx : s.heap.get? x = some (excO C t0)) (hnx : K.lookup x = none) (hroom : A.depth < recursionLimit)
    (hq : ∀ h' tk dx, InitEnd s.heap h' x C dx t0 v → R (.ok (.ret .none)) { s with heap := h', toks := tk }) :
    codeAny (model prog w) A (.call (.ref fI) ⟨[.ref x, v], []⟩) R s := by
  obtain ⟨q, oc, od, kV, doc, pm, an, cdv, ct, osl, p1, p2, q1, q2, q3, q4, ho, hcd⟩ := T.fn
  refine Att.call_fn (binds := [("self", .ref x), ("number", v)]) X hlim ho hcd hroom (BindsTo.of_eq (by first | rfl | with_unfolding_all rfl)) (by first | rfl | decide | with_unfolding_all rfl) (fun s₁ IC => ?_) rfl rfl rfl
  obtain ⟨h₁, tk₁, rfl⟩ := IC.toInCall.same
  have k : ∀ b o, s.heap.get? b = some o → h₁.get? b = some o := IC.toInCall.keep
  have hn := IC.toInCall.ns
  have hxL : s.heap.objs.size ≠ x := Nat.ne_of_gt (Heap.lt_size hx)
  have X₁ : K.In h₁ := X.keeps k
  have hx₁ := k _ _ hx
  -- self.by = by
  show wpAny _ _ (execs _ _) _ _ _
  refine wpAny_execs_cons (plainObj_wpAny_Assign_Attribute ?_)
  refine ldC (v := v) hn (by first | rfl | with_unfolding_all rfl | kernel_rfl) (ldC (v := .ref x) hn (by first | rfl | with_unfolding_all rfl | kernel_rfl) ?_)
  refine set_plain X₁ (ox := excO C t0) (od := none) ⟨hx₁, rfl, rfl, trivial⟩ T.sa ?_
  refine num_osa T X₁ hx₁ (fun h₃ tk₃ dx k₃ dn dne hx₃ hn₃ => ?_)
  show wpAny _ _ (execs _ _) _ _ _
  have z : s.heap.objs.size < h₁.objs.size := hn.lt
  exact wpAny_execs_nil (hq h₃ tk₃ dx ⟨fun b o hb e => k₃ b o hb (k b o e), hx₃, Nat.le_of_lt (Nat.lt_of_lt_of_le z dn), dne, hn₃⟩)
theorem num_made (T : NumC K C fI) {v : Value} (X : K.In s.heap) (hlim : s.heap.NoLimit) (hroom : A.depth + 1 < recursionLimit)
    (hq : ∀ h' tk e d, OwnMade s.heap h' e C d v → R (.ok (.ret (.ref e))) { s with heap := h', toks := tk }) :
    codeAny (model prog w) A (.call (.ref C) ⟨[v], []⟩) R s := by
  obtain ⟨hp, g, dr, tk, os⟩ := s
  rcases T.io with ⟨ini, _⟩ | ⟨ini, _⟩
  · obtain ⟨nm, N, qn, bs, bm, hdct, sn, sub, ab, col, dd, k0, k1, k2, k3, k5, hC, hbm⟩ := excInit_of X ini
    have k : ∀ b o, hp.get? b = some o → ((hp.push (kdv_tup [v])).push (excO C hp.objs.size)).get? b = some o := fun b o e => Heap.get?_push_of_some _ (Heap.get?_push_of_some _ e)
    have hget : ((hp.push (kdv_tup [v])).push (excO C hp.objs.size)).get? (hp.objs.size + 1) = some (excO C hp.objs.size) := by heap_get
    have hnx : K.lookup (hp.objs.size + 1) = none := by
      cases e : K.lookup (hp.objs.size + 1) with
      | none => rfl
      | some o =>
        have z : hp.get? (hp.objs.size + 1) = some o := X _ _ e
        exact absurd (Nat.lt_of_succ_lt (Heap.lt_size z)) (Nat.lt_irrefl _)
    refine call_own F.excBase_LookupError hbm hC (looks_findIn X T.iC) (fun self => bind_fn X self T.tC) (one_size v) ?_
    refine num_init (s := ⟨(hp.push (kdv_tup [v])).push (excO C hp.objs.size), g, dr, tk, os⟩) T (X.keeps k) (hlim.keeps k) hget hnx ?_ fun h' tk' dx ⟨k', hx, dn, dne, hns⟩ => ?_
    · show A.depth + 1 < recursionLimit
      exact hroom
    · have old : ∀ b o, hp.get? b = some o → h'.get? b = some o := fun b o e => k' b o (Nat.ne_of_lt (Nat.lt_succ_of_lt (Heap.lt_size e))) (k b o e)
      have z : hp.objs.size + 1 + 1 ≤ dx := by
        first
          | (simpa only [Heap.size_push] using dn)
          | exact dn
          | (have q := dn; rw [Heap.size_push, Heap.size_push] at q; exact q)
      exact ⟨rfl, hq h' tk' (hp.objs.size + 1) dx ⟨old, Nat.le_succ _, ⟨_, _, hx, rfl, rfl, rfl, rfl⟩, Nat.le_trans (Nat.le_trans (Nat.le_succ _) (Nat.le_succ _)) z, dne, hns⟩⟩
  · obtain ⟨nm, N, qn, bs, bm, hdct, sn, sub, ab, col, dd, k0, k1, k2, k3, k5, hC, hbm⟩ := excInit_of X ini
    have k : ∀ b o, hp.get? b = some o → ((hp.push (kdv_tup [v])).push (excO C hp.objs.size)).get? b = some o := fun b o e => Heap.get?_push_of_some _ (Heap.get?_push_of_some _ e)
    have hget : ((hp.push (kdv_tup [v])).push (excO C hp.objs.size)).get? (hp.objs.size + 1) = some (excO C hp.objs.size) := by heap_get
    have hnx : K.lookup (hp.objs.size + 1) = none := by
      cases e : K.lookup (hp.objs.size + 1) with
      | none => rfl
      | some o =>
        have z : hp.get? (hp.objs.size + 1) = some o := X _ _ e
        exact absurd (Nat.lt_of_succ_lt (Heap.lt_size z)) (Nat.lt_irrefl _)
    refine call_own F.excBase_ValueError hbm hC (looks_findIn X T.iC) (fun self => bind_fn X self T.tC) (one_size v) ?_
    refine num_init (s := ⟨(hp.push (kdv_tup [v])).push (excO C hp.objs.size), g, dr, tk, os⟩) T (X.keeps k) (hlim.keeps k) hget hnx ?_ fun h' tk' dx ⟨k', hx, dn, dne, hns⟩ => ?_
    · show A.depth + 1 < recursionLimit
      exact hroom
    · have old : ∀ b o, hp.get? b = some o → h'.get? b = some o := fun b o e => k' b o (Nat.ne_of_lt (Nat.lt_succ_of_lt (Heap.lt_size e))) (k b o e)
      have z : hp.objs.size + 1 + 1 ≤ dx := by
        first
          | (simpa only [Heap.size_push] using dn)
          | exact dn
          | (have q := dn; rw [Heap.size_push, Heap.size_push] at q; exact q)
      exact ⟨rfl, hq h' tk' (hp.objs.size + 1) dx ⟨old, Nat.le_succ _, ⟨_, _, hx, rfl, rfl, rfl, rfl⟩, Nat.le_trans (Nat.le_trans (Nat.le_succ _) (Nat.le_succ _)) z, dne, hns⟩⟩
end
end NumX
end PySem
namespace L2
open PySem PySem.Spec PyProof.Rows
theorem relO_num {v : V} {v' : Value} (r : RelV v v') (f : Str) : RelO (List.lookup f [(("number" : Str), v)]) (if f = "number" then some v' else none) := by
  by_cases hw : f = "number"
  · subst hw
    rw [if_pos rfl]
    have q : List.lookup ("number" : Str) [(("number" : Str), v)] = some v := by simp [List.lookup]
    rw [q]
    exact r
  · rw [if_neg hw]
    have qw : (f == ("number" : Str)) = false := by simpa using hw
    have q2 : List.lookup f [(("number" : Str), v)] = none := by simp [List.lookup, qw]
    rw [q2]
    trivial
section
variable {X : Cx} {C fI : Addr}
/-- Low(e) -/
def tMkNum (C : Addr) (ta : TA) : St → Hp → XK → Prop := fun σ H Q => ta σ H fun vs H1 => ∃ v, vs = [v] ∧ ∀ d, H1 d = none → Q (.ref C) (some d) (upd H1 d (.xd [(("number" : Str), v)]))
theorem pmk_num {x : Str} {a : Expr} {ta : TA} {p pos : Pos} (T : PySem.NumX.NumC X.K C fI) (gC : X.mg x = some (.ref C)) (hr : X.A.depth + 1 < recursionLimit) (ha : PA X [a] ta) (hg : Gl X x) (hdb : (x == ("__debug__" : Str)) = false)
    (he : starEach (a :: []) X.env = (false, eval a X.env) :: starEach [] X.env := by rfl) (hpl : (backTo pos (starEach [] X.env)).any (·.1) = false := by rfl) :
    PMk X (.Call (.Name x p) [a] [] pos) (tMkNum C ta) := by
  intro pins s σ H Q I h
  refine wpAny_Call_Name_kw (ld_glob I hg gC ?_ hdb)
  refine PySem.W.callWith_K (h₀ := X.base) I.ok.mod.kin T.kC (thn (ha.run pos pins s σ H _ I h) fun us s1 hh => ?_) he hpl
  obtain ⟨vs, H1, I1, r1, v, ev, q1⟩ := hh
  subst ev
  refine ⟨I1.kIn, ?_⟩
  cases r1 with
  | cons rv rn =>
    rename_i v' us'
    cases rn
    show wpAny _ _ (call (.ref C) [v']) _ _ _
    have hlim := I1.nolimit
    obtain ⟨hp, g, dr, tk, os⟩ := s1
    refine wpAny_call (PySem.NumX.num_made T I1.kIn hlim hr fun h' tk' e d M => ?_)
    show MkP X pins σ Q (.ref e) ⟨h', g, dr, tk', os⟩
    obtain ⟨oe, fv, hoe, hc, hd, hdat, h1⟩ := M.obj
    have hns := M.ns
    obtain ⟨G', g1, g2⟩ := restrict h' fun b => decide (b ≠ e)
    have gk : ∀ b, b ≠ e → G'.get? b = h'.get? b := fun b hb => g1 b (decide_eq_true hb)
    have ge : G'.get? e = none := g2 e (by simp)
    have old : ∀ b o, hp.get? b = some o → G'.get? b = some o := fun b o q => (gk b (Nat.ne_of_lt (Nat.lt_of_lt_of_le (Heap.lt_size q) M.new))).trans (M.keep b o q)
    have ob : ObjOk X.prog X.w (upd H1 d (.xd [(("number" : Str), v)])) G' d (.xd [(("number" : Str), v)]) :=
      ⟨_, hns.at (fun o q => (gk d M.dne).trans q), fun f => relO_num rv f⟩
    have J : Inv X pins σ (upd H1 d (.xd [(("number" : Str), v)])) ⟨G', g, dr, tk', os⟩ := I1.laid (t' := tk') old M.dbig ob
    refine ⟨e, oe, fv, ⟨G', g, dr, tk', os⟩, _, .ref C, some d, rfl, J, fun b o q => ?_, ge, hoe, ⟨hc, hd⟩, hdat, h1, ?_, rfl, I1.bare, raises_own T.exC T.tyC, q1 d (I1.hok.fresh M.dbig)⟩
    · by_cases hb : b = e
      · have q' : G'.get? b = some o := q
        rw [hb, ge] at q'; cases q'
      · exact (gk b hb).symm.trans q
    · rw [upd_ne (Ne.symm M.dne)]
      exact I1.hok.fresh M.new
/-- low.by, low the exception that the suite holds (at a; its class cls, its dict d) -/
def tByNum (C : Addr) (a : Addr) (cls : Value) (d : Option Addr) (te : TE) : TE := fun σ H Q => te σ H fun x H1 => x = .ref a ∧ cls = .ref C ∧ ∃ (dd : Addr) (v : V), d = some dd ∧ H1 dd = some (.xd [(("number" : Str), v)]) ∧ Q v H1
theorem pe_byNum {a : Addr} {oe : Obj} {cls : Value} {d : Option Addr} {pn : List (Addr × Obj)} {e : Expr} {te : TE} {pos : Pos} (T : PySem.NumX.NumC X.K C fI) (hz : Zc cls d oe) (hf : ∃ vs, oe.data = .fields vs) (he : PE (X.suite a ((a, oe) :: pn)) e te)
    (hb : attributeBase e "number" X.env (eval e X.env) = eval e X.env := by rfl) :
    PE (X.suite a ((a, oe) :: pn)) (.Attribute e "number" pos) (tByNum C a cls d te) := by
  refine ⟨fun pins s σ H Q I h => ?_⟩
  refine attr_of hb (thn (he.run pins s σ H _ I h) fun u s1 hh => ?_)
  obtain ⟨x, H1, I1, rx, ex, ec, dd, v, ed, ea, q⟩ := hh
  subst ex
  obtain rfl : u = Value.ref a := rx
  subst ec
  subst ed
  obtain ⟨ha, _⟩ := I1.pin (a, oe) (List.mem_append_left _ List.mem_cons_self)
  obtain ⟨vs, hd⟩ := hf
  have hx : ObjOk X.prog X.w H1 s1.heap dd (.xd [(("number" : Str), v)]) := I1.hok dd _ ea
  obtain ⟨mA, hns, hr⟩ := hx
  obtain ⟨od, ho, hl⟩ := lookIn_ns hns
  have l : List.lookup ("number" : Str) [(("number" : Str), v)] = some v := by simp [List.lookup]
  obtain ⟨u, hu, ru⟩ := RelO.some_of (v := v) (o := mA "number") (by rw [← l]; exact hr "number")
  have J : PySem.W.InstAt s1.heap a oe C (some od) := ⟨ha, hz.1, by unfold PySem.W.notCls; rw [hd] <;> rfl, by rw [hz.2]; exact ho⟩
  exact HandSPX.exc_get I1.kIn J T.ga T.gg T.exC (PySem.W.findObj_own T.hdC T.noN rfl (by rw [hl, hu])) (handed_of ru) ⟨v, H1, I1.tok _, ru, q⟩
end
end L2

set_option Elab.async false
set_option linter.all false
set_option maxRecDepth 100000
set_option maxHeartbeats 4000000
/-! ItOb: isinstance of a caught error, with its own dict or without. -/
namespace PySem.W
open PySem PySem.Spec PySem.Calls PyProof.Rows
section
variable {prog : Program} {w : World} {A : Around} {E : Value → Shared → Prop} {s : Shared} {K : Frag} {x D : Addr} {ox : Obj}
theorem findObj_dataG {C : Addr} {od : Option Obj} {name : Str} {a g : Value} (hc : (clsIn K C).isSome = true) (ha : findIn K (.ref C) name = some (some a)) (hg : specialIn K a "__get__" = some (some g)) (ht : takesIn K a = some true) : findObj K C od name = some (.bind g a) := by
  obtain ⟨cd, hc⟩ := Option.isSome_iff_exists.mp hc
  unfold findObj
  rw [hc, Option.bind_some, ha, Option.bind_some]
  simp [hg, ht]
theorem kin_classG {od : Option Obj} {Q : Option Value → Shared → Prop} (hga : findIn K (.ref D) "__getattribute__" = some (some (.builtin "BaseException.__getattribute__"))) (hgt : findIn K (.ref D) "__getattr__" = some none) (hsub : subIn K (.ref D) (.type "BaseException") = some true)
    (hdct : hasDictIn K D = true) (ha : findIn K (.ref D) "__class__" = some (some (.builtin "object.__class__")))
    (hn : specialIn K (.builtin "object.__class__") "__get__" = some (some (.builtin "getset_descriptor.__get__"))) (htk : takesIn K (.builtin "object.__class__") = some true) (hm : mroIn K D (.type "object") = some true)
    (X : K.In s.heap) (I : InstAt s.heap x ox D od) (h : Q (some (.ref D)) { s with toks := s.toks + 1 }) : wpAny (model prog w) A (getAttr? (.ref x) "__class__") Q E s := by
  have hf : findObj K D od "__class__" = some (.bind (.builtin "getset_descriptor.__get__") (.builtin "object.__class__")) := findObj_dataG (by obtain ⟨cd, hc, _⟩ := any_some hdct; rw [hc]; rfl) ha hn htk
  obtain ⟨hp, g, d, t, os⟩ := s
  have L0 := I.type (M := model prog w)
  have L1 := looks_findIn (M := model prog w) X hga
  have L2 := looks_findIn (M := model prog w) X hgt
  have L3 := looks_find (M := model prog w) X I hf
  have sub : Looks (model prog w) hp (isInstance (.ref x) (.type "BaseException")) true := L0.andThen (looks_subIn X hsub)
  have hx0 : (false && onTheHeap (Value.builtin "BaseException.__getattribute__")) = false := rfl
  have hx2 : (Value.builtin "BaseException.__getattribute__" == Value.builtin "object.__getattribute__") = false := by decide +kernel
  have hx1 : (onTheHeap (Value.ref D) && Value.builtin "BaseException.__getattribute__" == Value.builtin "object.__getattribute__") = false := by rw [hx2]; rfl
  unfold getAttr? getAttrBy? getAttrBy
  refine wpAny_bind (wpAny_mkText (wpAny_bind (wpAny_attempt (wpAny_holding (wpAny_bind (L0.at (wpAny_bind (L1.at ?_))))))))
  show wpAny _ _ (if (onTheHeap (Value.ref D) && Value.builtin "BaseException.__getattribute__" == Value.builtin "object.__getattribute__") = true then _ else _) _ _ _
  rw [hx1, if_neg Bool.false_ne_true]
  unfold getAttrByItsOwn hookBefore
  refine wpAny_bind ?_
  rw [if_pos (show onTheHeap (Value.ref D) = true from rfl)]
  refine L2.at ?_
  refine wpAny_bind (wpAny_attempt (wpAny_holding ?_))
  unfold callGetattribute
  rw [hx0, if_neg Bool.false_ne_true]
  unfold boundAndCalled
  rw [PySem.F.excAttr_ValueError.ga.bind (.ref x)]
  refine wpAny_bind (wpAny_pure ?_)
  show wpAny _ _ (call (.builtin "BaseException.__getattribute__") [.ref x, .str "__class__" t]) _ _ _
  refine wpAny_call (codeAny_call_builtin PySem.F.excAttr_ValueError.ga.plain PySem.F.entry_bexc_ga ?_)
  refine @check_slot (model prog w) _ _ ⟨hp, g, d, t + 1, os⟩ "BaseException.__getattribute__" "BaseException" "__getattribute__" (.ref x) [.str "__class__" t] [] _ (by decide +kernel) (by decide +kernel) sub (PySem.F.args_bexc_ga (.ref x) (.str "__class__" t)) ?_
  unfold Builtin.«object.__getattribute__»
  refine wpAny_bind (wpAny_of_eq (a := ((Value.ref x : Value), [Value.str "__class__" t])) (by first | rfl | (simp only [slotArgs]; rfl)) ?_)
  refine wpAny_bind (wpAny_pure (wpAny_bind (L0.at (wpAny_bind (L3.at ?_)))))
  show wpAny _ _ (holding [Value.builtin "object.__class__"] (call (.builtin "getset_descriptor.__get__") [.builtin "object.__class__", .ref x, .ref D]) >>= ret) _ _ _
  refine wpAny_bind (wpAny_holding (wpAny_call (class_get (s := ⟨hp, g, d, t + 1, os⟩) (ox := ox) (od := od) X I hm ?_)))
  refine wpAny_pure ?_
  show wpAny _ _ (handedOut (.ref D)) _ _ _
  rw [handedOut_of (v := .ref D) rfl]
  first
    | exact wpAny_pure (wpAny_pure h)
    | exact wpAny_pure h
    | exact wpAny_pure (wpAny_bind (wpAny_pure (wpAny_pure h)))
theorem it_kitx_exc {od : Option Obj} (hga : findIn K (.ref D) "__getattribute__" = some (some (.builtin "BaseException.__getattribute__"))) (hgt : findIn K (.ref D) "__getattr__" = some none) (hsub : subIn K (.ref D) (.type "BaseException") = some true) (hdct : hasDictIn K D = true) (ha : findIn K (.ref D) "__class__" = some (some (.builtin "object.__class__")))
    (hn : specialIn K (.builtin "object.__class__") "__get__" = some (some (.builtin "getset_descriptor.__get__"))) (htk : takesIn K (.builtin "object.__class__") = some true) (hm : mroIn K D (.type "object") = some true) :
    KitX K (.ref x) (.ref D) (fun h => InstAt h x ox D od) where
  ty := fun _ _ _ I => I.type
  it := fun _ _ X _ => by
    obtain ⟨cdD, hcD, _⟩ := any_some hdct
    unfold clsIn at hcD
    split at hcD
    · rename_i c' d' cd' sl' ho
      intro A' Q' E' s' k q
      unfold isType loadHead
      exact wpAny_bind (wpAny_loadPart (k _ _ (X _ _ ho)) (wpAny_pure q))
    · cases hcD
  ne := fun h tp dd its n sl X htp => by
    obtain ⟨cdD, hcD, _⟩ := any_some hdct
    refine Bool.eq_false_iff.mpr fun q => ?_
    have e : D = tp := Value.ref.inj (beq_iff_eq.mp q)
    subst e
    unfold clsIn at hcD
    split at hcD
    · rename_i c' d' cd' sl' ho
      have z := (X _ _ ho).symm.trans htp
      cases z
    · cases hcD
  ca := fun X I k => kin_classG hga hgt hsub hdct ha hn htk hm X I k
end
end PySem.W
namespace L2
open PySem PySem.Spec PyProof.Rows
/-- isinstance(e, c), e the exception that the suite holds, d its own dict -/
def rIsG (K : PySem.W.Frag) (D a : Addr) (d : Option Addr) : List V → Hp → VK → Prop := fun xs H Q => ∃ (c : V) (cv : Value) (b : Bool), xs = [.ref a, c] ∧ (∀ u, RelV c u → u = cv) ∧ PySem.W.kitOne K (.ref D) cv = some b ∧ Q (.bl b) H ∧ ∀ dx, d = some dx → ∃ fs, H dx = some (.xd fs)
theorem call_isG {X : Cx} {a D : Addr} {oe : Obj} {pn : List (Addr × Obj)} (C : ExcC X.K D) {d : Option Addr} (hz : Zc (.ref D) d oe) (hf : ∃ vs, oe.data = .fields vs) : CallR (X.suite a ((a, oe) :: pn)) (.builtin "isinstance") (rIsG X.K D a d) := by
  intro pins s σ H xs us Q I r h
  obtain ⟨c, cv, b, rfl, hcv, e, q, hdx⟩ := h
  cases r with
  | cons rx rr =>
    cases rr with
    | cons rt rr =>
      cases rr
      cases rx
      have ec := hcv _ rt
      subst ec
      obtain ⟨hget, _⟩ := I.pin (a, oe) (List.mem_append.mpr (.inl List.mem_cons_self))
      obtain ⟨vs, hv⟩ := hf
      have J : ∃ od, PySem.W.InstAt s.heap a oe D od := by
        obtain ⟨oc, od, oda, osl⟩ := oe
        obtain ⟨h1, h2⟩ := hz
        dsimp only at h1 h2 hv
        subst h1 h2 hv
        cases od with
        | none => exact ⟨none, hget, rfl, rfl, trivial⟩
        | some dx =>
          obtain ⟨fs, hd⟩ := hdx dx rfl
          have hxx : ObjOk X.prog X.w H s.heap dx (.xd fs) := I.hok dx _ hd
          obtain ⟨mA, hns, _⟩ := hxx
          obtain ⟨ob, es, ep, ho, _⟩ := hns
          exact ⟨some ob, hget, rfl, rfl, ho⟩
      obtain ⟨od, J⟩ := J
      exact PySem.W.kia_one (PySem.W.it_kitx_exc C.hg C.hk C.hs C.hd C.ha C.hn C.ht C.hm) I.kIn J e (fun z => nomatch z) fun tk => ⟨.bl b, H, I.kept (t' := tk) fun _ _ z => z, rfl, q⟩
end L2

set_option Elab.async false
set_option linter.all false
set_option maxRecDepth 100000
set_option maxHeartbeats 1000000
/-! ItOc: errors with a number: raised, caught, read. -/
namespace It
open PySem PySem.Spec PyProof.Rows L2
/-- an own class over LookupError whose __init__ keeps its number -/
structure OnA (X : Cx) (B : Bag) (x : Str) (i : Nat) : Prop where
  on : B.on i
  cf : B.cf i = ("number" : Str)
  mg : X.mg x = some (.ref (B.ca i))
  C : ∃ fI, PySem.NumX.NumC X.K (B.ca i) fI
section
variable {X : Cx} {B : Bag} {Wx : WX} {pos p pos' : Pos} {x : Str} {i : Nat}
theorem ss_raise1 {a : Expr} {g : Es} (F : OnA X B x i) (hc : X.calm = true) (tk : Takes X Wx) (hr : X.A.depth + 1 < recursionLimit) (hg : Gl X x) (hdb : (x == ("__debug__" : Str)) = false) (ha : PA X [a] (tA X.K B Wx 1 g)) (ns : notStar a = true) :
    PS X (.Raise (some (.Call (.Name x p) [a] [] pos)) none pos') (tS X.K B Wx (sRaise i g)) := by
  obtain ⟨fI, T⟩ := F.C
  refine psI (ps_raise hc tk (pmk_num T F.mg hr ha hg hdb (star_cons ns _ _) rfl)) fun D σ H ⟨m, l, h, nx, rt, bk, ct, ex, rh, rl, e, r⟩ => ?_
  refine ⟨m, l, h, _, _, rh, rl, e, fun m1 ws xs h1 H1 x1 r1 rv hl e1 => ?_, r.ex.at rh rl⟩
  cases rv with
  | nil => cases hl
  | @cons w ws' v xs' rw rt' =>
    cases rt' with
    | cons _ _ => cases hl
    | nil =>
      refine ⟨v, rfl, fun d hd => ?_⟩
      refine r.ex m1 l σ h1 _ _ _ (some d) (x1.trans (.laid hd)) (r1.laid hd) ((rl.mono rh x1).mono r1 (.laid hd)) (.one i d w v F.on ?_ (RV.mono r1 (.laid hd) rw)) e1
      rw [F.cf]; exact upd_same
end
/-- a caught error's number -/
theorem su_num {X : Cx} {B : Bag} {a : Addr} {oe : Obj} {cls : Value} {d : Option Addr} {pn : List (Addr × Obj)} {n : Nat} {y : Str} {p pos : Pos} (hz : Zc cls d oe) (hf : ∃ vs, oe.data = .fields vs) (hO : ∀ i, B.on i → B.cf i = ("number" : Str) ∧ ∃ fI, PySem.NumX.NumC X.K (B.ca i) fI)
    (hn : X.N[n]? = some y) (hv : Vis X.env.scope y) (hyd : (y == ("__debug__" : Str)) = false) (hyc : (y == ("__classdict__" : Str)) = false) :
    PE (X.suite a ((a, oe) :: pn)) (.Attribute (.Name y p) "number" pos) (tU X.K B n a cls d fun _ ws => eExF ws) := by
  refine ⟨fun pins s σ H Q I h => ?_⟩
  obtain ⟨i, ws, m, l, h, k, rh, rl, rx, hs, e, hk1⟩ := h
  cases rx with
  | plain _ hi => cases (show false = true from e)
  | one _ dx w x hi hdx rw1 =>
    obtain ⟨hcf, fI, T⟩ := hO i hi
    refine (pe_byNum T hz hf (pe_var (X := X.suite a ((a, oe) :: pn)) (pos := p) hn hv hyd hyc) rfl).run pins s σ H Q I ?_
    refine ⟨.ref a, hs, rfl, rfl, dx, x, rfl, ?_, hk1 m w x h H .refl rh rw1 e⟩
    rw [← hcf]; exact hdx
/-- isinstance(error, T), T a built-in class; the error with or without a number -/
theorem su_isG {X : Cx} {B : Bag} {a : Addr} {oe : Obj} {cls : Value} {d : Option Addr} {pn : List (Addr × Obj)} {n : Nat} {y z : Str} {T : String} {f : Nat → Bool} {p py pz pos : Pos} (hz : Zc cls d oe) (hf : ∃ vs, oe.data = .fields vs)
    (hn : X.N[n]? = some y) (hv : Vis X.env.scope y) (hyd : (y == ("__debug__" : Str)) = false) (hyc : (y == ("__classdict__" : Str)) = false) (hg : Gl X "isinstance") (hm : X.mg "isinstance" = none) (hgz : Gl X z) (hmz : X.mg z = none) (hbz : bootBuiltins z = some (.type T)) (hz1 : z ≠ "__name__") (hz2 : (z == ("__debug__" : Str)) = false)
    (hC : ∀ i, B.ex i ∨ B.on i → ExcC X.K (B.ca i)) (hk : ∀ i, B.ex i ∨ B.on i → PySem.W.kitOne X.K (.ref (B.ca i)) (.type T) = some (f i)) :
    PE (X.suite a ((a, oe) :: pn)) (.Call (.Name "isinstance" p) [.Name y py, .Name z pz] [] pos) (tU X.K B n a cls d fun i _ => eIsE f i) := by
  refine ⟨fun pins s σ H Q I h => ?_⟩
  obtain ⟨i, ws, m, l, h, k, rh, rl, rx, hs, e, hk1⟩ := h
  have key : ∃ D, cls = .ref D ∧ D = B.ca i ∧ (B.ex i ∨ B.on i) ∧ ∀ dx, d = some dx → ∃ fs, H dx = some (.xd fs) := by
    cases rx with
    | plain _ hi => exact ⟨_, rfl, rfl, .inl hi, fun _ z => (nomatch z)⟩
    | one _ dx w x hi hdx rw1 => exact ⟨_, rfl, rfl, .inr hi, fun dx' z => by cases z; exact ⟨_, hdx⟩⟩
  obtain ⟨D, rfl, rfl, hi, hdx⟩ := key
  refine (pe_callB (X := X.suite a ((a, oe) :: pn)) (call_isG (d := d) (hC i hi) hz hf) hg hm boot_isinstance (pa_cons (pe_var (X := X.suite a ((a, oe) :: pn)) (pos := py) hn hv hyd hyc) (pa_cons (pe_bltn (X := X.suite a ((a, oe) :: pn)) (pos := pz) (v := .ty T) hgz hmz hbz rfl hz1 hz2) pa_nil rfl) rfl) (by decide) (by decide) rfl rfl).run pins s σ H Q I ?_
  exact ⟨.ref a, hs, .ty T, .type T, f i, rfl, fun u r => r, hk i hi, hk1 m _ _ h H .refl rh (.bl _) e, hdx⟩
end It

set_option Elab.async false
set_option linter.all false
set_option maxRecDepth 100000
set_option maxHeartbeats 1000000
/-! ItP: from the text to the combinators: expressions. -/
namespace It
open PySem PySem.Spec PyProof.Rows L2
/-! ### keyword calls -/
/-- how keywords alone bind -/
def pickV (idx : List Nat) (ws : List Value) : List Value := idx.map fun j => ws.getD j .none
def KB0 (K : PySem.W.Frag) (fd : FuncData) (ps ks : List Str) (idx : List Nat) : Prop := ps.length = idx.length ∧ (∀ j ∈ idx, j < ks.length) ∧ ∀ (s : Shared) (ws : List Value), K.In s.heap → ws.length = ks.length → BindsTo s fd ⟨[], ks.zip ws⟩ (ps.zip (pickV idx ws))
/-- a function that may be called -/
structure FnB (X : Cx) (B : Bag) (x : Str) (i n : Nat) (kw : List Str → Option (List Nat)) : Prop where
  ex : ∃ (k : Nat) (f : Addr) (fd : FuncData) (ps : List Str), FnOk X.prog X.w X.K X.mg X.base (L2.CX X.prog X.w) k f fd ps (spF X.K B i n) ∧ Room k X.A ∧ X.mg x = some (.ref f) ∧ PySem.W.keepIn X.K (.ref f) = true ∧ Binds X.K fd ps [] ∧ f = He.ga X.K x ∧ ps.length = n ∧ ∀ ks idx, kw ks = some idx → KB0 X.K fd ps ks idx
  ng : NG B.c i
theorem FnB.a {X : Cx} {B : Bag} {x : Str} {i n : Nat} {kw : List Str → Option (List Nat)} (F : FnB X B x i n kw) : FnA X B x i n := by
  obtain ⟨k, f, fd, ps, a, b, c, d, e, _⟩ := F.ex
  exact ⟨⟨k, f, fd, ps, a, b, c, d, e⟩, F.ng⟩
section
variable {X : Cx} {B : Bag} {Wx : WX} {pos p : Pos}
theorem pickK_ok {K : PySem.W.Frag} {m : Mp} {H : Hp} {ws : List W} {vs : List V} {us : List Value} (rv : RVs K m H ws vs) (ru : Vals vs us) : ∀ {idx : List Nat} {c : List W → Bool}, pickK idx ws c = true → (∀ j ∈ idx, j < us.length) → ∃ ws' vs', RVs K m H ws' vs' ∧ Vals vs' (pickV idx us) ∧ c ws' = true
  | [], c, e, _ => ⟨[], [], .nil, .nil, e⟩
  | j :: idx, c, e, hj => by
    obtain ⟨w, e1, e2⟩ := nthK_ok' j ws (fun w => pickK idx ws fun r => c (w :: r)) e
    obtain ⟨v, e3, r1⟩ := rv.get e1
    obtain ⟨u, e4, r2⟩ := ru.get e3
    obtain ⟨ws', vs', a, b, d⟩ := pickK_ok rv ru (idx := idx) (c := fun r => c (w :: r)) e2 fun k hk => hj k (List.mem_cons_of_mem _ hk)
    refine ⟨w :: ws', v :: vs', .cons r1 a, ?_, d⟩
    show Vals (v :: vs') (us.getD j .none :: pickV idx us)
    have e5 : us.getD j .none = u := by rw [List.getD_eq_getElem?_getD, e4]; rfl
    rw [e5]
    exact .cons r2 b
/-- the keywords' values, from the left, named -/
def kwsOf : List Keyword → Option (List Str × List Expr)
  | [] => some ([], [])
  | ⟨some n, e, _⟩ :: r => match kwsOf r with
    | some (ns, es) => some (n :: ns, e :: es)
    | none => none
  | ⟨none, _, _⟩ :: _ => none
theorem kws_ok : ∀ {kws : List Keyword} {ns : List Str} {es : List Expr} (pos : Pos) (env : Env), kwsOf kws = some (ns, es) → (backToKw pos (keywordEach kws env)).all (·.1.isSome) = true ∧ (backToKw pos (keywordEach kws env)).any (·.1.isNone) = false ∧ (backToKw pos (keywordEach kws env)).filterMap (·.1) = ns
  | [], _, _, _, _, h => by cases h; exact ⟨rfl, rfl, rfl⟩
  | ⟨some n, e, q⟩ :: r, ns, es, pos, env, h => by
    unfold kwsOf at h
    cases z : kwsOf r with
    | none => rw [z] at h; cases h
    | some o =>
      obtain ⟨ns', es'⟩ := o
      rw [z] at h
      cases h
      obtain ⟨h1, h2, h3⟩ := kws_ok pos env z
      refine ⟨?_, ?_, ?_⟩
      · show (true && (backToKw pos (keywordEach r env)).all (·.1.isSome)) = true
        rw [h1]; rfl
      · show (false || (backToKw pos (keywordEach r env)).any (·.1.isNone)) = false
        rw [h2]; rfl
      · show n :: (backToKw pos (keywordEach r env)).filterMap (·.1) = n :: ns'
        rw [h3]
  | ⟨none, e, q⟩ :: r, _, _, _, _, h => by cases (show none = some _ from h)
theorem pkI {kws : List Keyword} {t t' : TA} (h : PK X kws t) (i : ∀ σ H Q, t' σ H Q → t σ H Q) : PK X kws t' := ⟨fun pos pins s σ H Q I q => h.run pos pins s σ H Q I (i σ H Q q)⟩
theorem sk_nil : PK X [] (tA X.K B Wx 0 asNil) := pkI pk_nil fun σ H Q ⟨m, l, h, k, x, rh, rl, e, hk, _⟩ => hk m [] [] h H .refl rh .nil rfl e
theorem sk_cons {nm : Option Str} {e : Expr} {kpos : Pos} {kws : List Keyword} {f : E} {g : Es} {n : Nat} (a : PE X e (tE X.K B Wx f)) (r : PK X kws (tA X.K B Wx n g)) : PK X (⟨nm, e, kpos⟩ :: kws) (tA X.K B Wx (n + 1) (asCons f g)) :=
  pkI (pk_cons a r) fun σ H Q ⟨m, l, h, k, x, rh, rl, e, hk, hx⟩ => by
    refine ⟨m, l, h, _, x, rh, rl, e, fun m1 v w h1 H1 x1 r1 rv e1 => ?_, hx⟩
    refine ⟨m1, l, h1, _, x, r1, rl.mono rh x1, e1, fun m2 ws xs h2 H2 x2 r2 rvs hn e2 => ?_, hx.mono x1⟩
    exact hk m2 (v :: ws) (w :: xs) h2 H2 (x1.trans x2) r2 (.cons (RV.mono r1 x2 rv) rvs) (by rw [List.length_cons, hn]) e2
theorem se_kw {x : Str} {i n q : Nat} {kw : List Str → Option (List Nat)} {kws : List Keyword} {ns : List Str} {es : List Expr} {idx : List Nat} {g : Es} {sh : Bool} (F : FnB X B x i n kw) (hg : Gl X x) (tk : Takes X Wx) (hk : kwsOf kws = some (ns, es)) (hi : kw ns = some idx) (hq : q = ns.length) (ha : PK X kws (tA X.K B Wx q g)) (hdb : (x == ("__debug__" : Str)) = false) :
    PE X (.Call (.Name x p) [] kws pos) (tE X.K B Wx (cond sh (eCallP i idx g) (eCallPG i idx g))) := by
  have G := F.ng
  obtain ⟨k, f, fd, ps, F, hr, hm, hkp, hb, _, hn, hkw⟩ := F.ex
  obtain ⟨k1, k2, k3⟩ := hkw ns idx hi
  obtain ⟨b1, b2, b3⟩ := kws_ok pos X.env hk
  refine ⟨fun pins s σ H Q I h => ?_⟩
  obtain ⟨m, l, h, k0, x0, rh, rl, e, hk0, hx0⟩ := h
  have e' : g B.c l h (fun ws h1 => pickK idx ws fun vs => cond sh (B.c i vs h1 k0 x0) (goG B.c i vs h1 k0 x0)) x0 = true := by
    cases sh <;> exact e
  refine wpAny_Call_Name_kw (ld_glob I hg hm ?_ hdb)
  refine PySem.W.callWith_KW0 (h₀ := X.base) I.ok.mod.kin hkp b1 (thn (ha.run pos pins s σ H (fun vs H1 => ∀ us s1, Inv X pins σ H1 s1 → Vals vs us → wpAny (model X.prog X.w) X.A (call (.ref f) [] (ns.zip us)) (EP X pins σ Q) X.xe s1) I ?_) fun us s1 ⟨vs, H1, I1, r, q⟩ => ⟨I1.kIn, ?_⟩) (by rw [b2]; rfl)
  · refine ⟨m, l, h, _, x0, rh, rl, e', fun m1 ws xs h1 H1 x1 r1 rvs hl e1 us s1 I1 ru => ?_, hx0⟩
    obtain ⟨ws', vs', a1, a2, a3⟩ := pickK_ok rvs ru e1 fun j hj => by
      have z := k2 j hj
      rw [← ru.length, hl, hq]; exact z
    have hlen : vs'.length = n := by
      rw [a2.length, ← hn, k1]
      unfold pickV
      rw [List.length_map]
    have sp : spF X.K B i n vs' H1 Q (WE Wx σ) := by
      cases sh with
      | true => exact ⟨hlen, m1, h1, ws', k0, x0, r1, a1, a3, hk0.mono x1, xk_of (hx0.mono x1)⟩
      | false => exact goG_ok G r1 a1 hlen a3 (hk0.mono x1) (xk_of (hx0.mono x1))
    refine wpAny_call (codeAny_mono (F.run X.A X.stack s1 H1 ⟨[], ns.zip us⟩ (pickV idx us) vs' Q (WE Wx σ) hr I1.env0 (k3 s1 us I1.kIn (by rw [← ru.length, hl, hq])) a2 sp) fun r s' hq => ?_)
    cases r with
    | error e => exact passAt tk σ pins H1 s1 e s' I1 hq
    | ok fl =>
      cases fl with
      | ret u => exact I1.after hq
      | next => exact False.elim hq
      | brk => exact False.elim hq
      | cont => exact False.elim hq
  · rw [b3]
    exact q us s1 I1 r
end
end It

set_option Elab.async false
set_option linter.all false
set_option maxRecDepth 100000
set_option maxHeartbeats 1000000
/-! ItPa: in and not in; min and max of a list. -/
namespace It
open PySem PySem.Spec PyProof.Rows L2
/-! ### membership -/
theorem inL_ok {h : IH} {x : W} {d : PyData} (hx : DV h x d) {n : Nat} : ∀ {l : List W} {ds : List PyData} {c : Bool → Bool}, DVs h l ds → inL (eqK n h) x l c = true → c (ds.any fun z => PyData.eqv z d) = true
  | _, _, c, .nil, q => q
  | y :: l, e :: ds, c, .cons a t, q => by
    have q' : eqK n h y x (fun b => cond b (c true) (inL (eqK n h) x l c)) = true := q
    have q2 := eqK_ok _ _ _ _ _ _ a hx q'
    rw [List.any_cons]
    cases z : PyData.eqv e d with
    | true => rw [z] at q2; exact q2
    | false => rw [z] at q2; exact inL_ok hx t q2
section
variable {X : Cx}
theorem op_cIn (hu : X.A.units + 64 < cLine) : OpR X (compareOp .In) (rC X.K cIn) := by
  intro pins s σ H x y v u Q I rx ry ⟨m, a, b, h, c, rh, ra, rb, e, hk⟩
  obtain ⟨e1, e2⟩ := cond_f e
  obtain ⟨d, a1, a2, a3⟩ := dK_ok _ _ e1
  obtain ⟨ws, xs, p, rfl, hq, t, e3⟩ := itemsK_ok rh rb (show itemsK b h (fun l => cond (allB (dK 40 h) l) (inL (eqK 50 h) a l c) false) = true from e2)
  obtain ⟨e4, e5⟩ := cond_f e3
  obtain ⟨ds, b1, b2, b3⟩ := dKs 40 (fun w => dK_ok 40 w) ws e4
  have q := hk _ (inL_ok a1 b1 e5)
  obtain ⟨bs, r1⟩ := Dp.reads I d x v (a1.dp rh ra) rx
  have hm : X.A.units + 1 + min (PyData.depthAll ds) d.depth < cLine := by omega
  rcases hq with hq | hq
  · obtain ⟨as, r2⟩ := Dp.reads I (.list ds) (.ref p) u (.lst hq (b1.dp rh t)) ry
    exact SeqAt.in_list_reads r2 r1 b3 a3 hm ⟨.bl _, H, I, rfl, q⟩
  · obtain ⟨as, r2⟩ := Dp.reads I (.tuple ds) (.ref p) u (.tup hq (b1.dp rh t)) ry
    exact SeqAt.in_tuple_reads r2 r1 b3 a3 hm ⟨.bl _, H, I, rfl, q⟩
theorem op_cNotIn (hu : X.A.units + 64 < cLine) : OpR X (compareOp .NotIn) (rC X.K cNotIn) := by
  intro pins s σ H x y v u Q I rx ry ⟨m, a, b, h, c, rh, ra, rb, e, hk⟩
  obtain ⟨e1, e2⟩ := cond_f e
  obtain ⟨d, a1, a2, a3⟩ := dK_ok _ _ e1
  obtain ⟨ws, xs, p, rfl, hq, t, e3⟩ := itemsK_ok rh rb (show itemsK b h (fun l => cond (allB (dK 40 h) l) (inL (eqK 50 h) a l fun p => c (not p)) false) = true from e2)
  obtain ⟨e4, e5⟩ := cond_f e3
  obtain ⟨ds, b1, b2, b3⟩ := dKs 40 (fun w => dK_ok 40 w) ws e4
  have q := hk _ (inL_ok (c := fun p => c (not p)) a1 b1 e5)
  obtain ⟨bs, r1⟩ := Dp.reads I d x v (a1.dp rh ra) rx
  have hm : X.A.units + 1 + min (PyData.depthAll ds) d.depth < cLine := by omega
  rcases hq with hq | hq
  · obtain ⟨as, r2⟩ := Dp.reads I (.list ds) (.ref p) u (.lst hq (b1.dp rh t)) ry
    exact SeqAt.notIn_list_reads r2 r1 b3 a3 hm ⟨.bl _, H, I, rfl, q⟩
  · obtain ⟨as, r2⟩ := Dp.reads I (.tuple ds) (.ref p) u (.tup hq (b1.dp rh t)) ry
    exact SeqAt.notIn_tuple_reads r2 r1 b3 a3 hm ⟨.bl _, H, I, rfl, q⟩
end
/-! ### what is in order: ints, tuples of such -/
noncomputable section
def appI (l r : List Int) : List Int := List.rec r (fun x _ ih => x :: ih) l
def tkL (f : W → List Int) (l : List W) : List Int := List.rec [0] (fun x _ ih => 1 :: appI (f x) ih) l
def tk (n : Nat) : W → List Int := Nat.rec (fun _ => []) (fun _ ih w => W.casesOn w [] (fun _ => []) (fun i => [i]) (fun _ => []) (tkL ih) (fun _ => []) (fun _ => []) (fun _ _ => [])) n
def okO (n : Nat) : W → Bool := Nat.rec (fun _ => false) (fun _ ih w => W.casesOn w false (fun _ => false) (fun _ => true) (fun _ => false) (allB ih) (fun _ => false) (fun _ => false) (fun _ _ => false)) n
def alL (f : W → W → Bool) (l : List W) : List W → Bool := List.rec (fun _ => true) (fun x _ ih r => List.casesOn r true (fun y r' => cond (f x y) (ih r') false)) l
def alW (n : Nat) : W → W → Bool := Nat.rec (fun _ _ => false) (fun _ ih a b => W.casesOn a false (fun _ => false)
  (fun _ => W.casesOn b false (fun _ => false) (fun _ => true) (fun _ => false) (fun _ => false) (fun _ => false) (fun _ => false) (fun _ _ => false)) (fun _ => false)
  (fun l => W.casesOn b false (fun _ => false) (fun _ => false) (fun _ => false) (fun r => alL ih l r) (fun _ => false) (fun _ => false) (fun _ _ => false)) (fun _ => false) (fun _ => false) (fun _ _ => false)) n
def ltI (l : List Int) : List Int → Bool := List.rec (fun m => List.casesOn m false (fun _ _ => true)) (fun x _ ih m => List.casesOn m false (fun y t => cond (ilt x y) true (cond (ilt y x) false (ih t)))) l
theorem appI_ok : ∀ l r : List Int, appI l r = l ++ r
  | [], _ => rfl
  | x :: l, r => congrArg (List.cons x) (appI_ok l r)
section
variable {h : IH}
theorem okO_tup {n : Nat} {l : List W} (e : okO (n + 1) (.tup l) = true) : allB (okO n) l = true := e
theorem tk_ok : ∀ (n : Nat) (w : W) (d : PyData), okO n w = true → DV h w d → PySem.W.keyToks d = (tk n w).map .inl := by
  intro n
  induction n with
  | zero => intro w d e _; cases (show false = true from e)
  | succ n ih =>
    intro w d e r
    cases r with
    | int i => simp only [PySem.W.keyToks]; rfl
    | @tup ws ds t =>
      have go : ∀ (ws : List W) (ds : List PyData), allB (okO n) ws = true → DVs h ws ds → PySem.W.keyToksAll ds = (tkL (tk n) ws).map .inl := by
        intro ws
        induction ws with
        | nil => intro ds _ t; cases t; simp only [PySem.W.keyToksAll]; rfl
        | cons x l ihl =>
          intro ds q t
          cases t with
          | cons a t =>
            have q' : and (okO n x) (allB (okO n) l) = true := q
            rw [Bool.and_eq_true] at q'
            simp only [PySem.W.keyToksAll]
            rw [ih _ _ q'.1 a, ihl _ q'.2 t]
            show _ = (1 :: appI (tk n x) (tkL (tk n) l)).map Sum.inl
            rw [appI_ok, List.map_cons, List.map_append]
      simp only [PySem.W.keyToks]
      exact go ws ds (okO_tup e) t
    | _ => cases (show false = true from e)
theorem alW_ok : ∀ (n : Nat) (a b : W) (d e : PyData), alW n a b = true → DV h a d → DV h b e → PySem.W.alike d e = true := by
  intro n
  induction n with
  | zero => intro a b d e q _ _; cases (show false = true from q)
  | succ n ih =>
    intro a b d e q ra rb
    cases ra with
    | int i =>
      cases rb with
      | int j => simp only [PySem.W.alike]
      | _ => cases (show false = true from q)
    | @tup ws ds t =>
      cases rb with
      | @tup ws' ds' t' =>
        have go : ∀ (l r : List W) (ds es : List PyData), alL (alW n) l r = true → DVs h l ds → DVs h r es → PySem.W.alikeAll ds es = true := by
          intro l
          induction l with
          | nil => intro r ds es _ t _; cases t; simp only [PySem.W.alikeAll]
          | cons x l ihl =>
            intro r ds es q t t'
            cases t with
            | cons a t =>
              cases t' with
              | nil => simp only [PySem.W.alikeAll]
              | cons b t' =>
                obtain ⟨q1, q2⟩ := cond_f q
                simp only [PySem.W.alikeAll]
                rw [ih _ _ _ _ q1 a b, ihl _ _ _ q2 t t']; rfl
        simp only [PySem.W.alike]
        exact go ws ws' ds ds' q t t'
      | _ => cases (show false = true from q)
    | _ => cases (show false = true from q)
theorem okO_inj : ∀ (n : Nat) (a b : W) (d : PyData), okO n a = true → okO n b = true → DV h a d → DV h b d → a = b := by
  intro n
  induction n with
  | zero => intro a b d e _ _ _; cases (show false = true from e)
  | succ n ih =>
    intro a b d ea eb ra rb
    cases ra with
    | int i =>
      cases rb with
      | int j => rfl
    | @tup ws ds t =>
      cases rb with
      | @tup ws' _ t' =>
        have go : ∀ (l r : List W) (ds : List PyData), allB (okO n) l = true → allB (okO n) r = true → DVs h l ds → DVs h r ds → l = r := by
          intro l
          induction l with
          | nil => intro r ds _ _ t t'; cases t; cases t'; rfl
          | cons x l ihl =>
            intro r ds q q' t t'
            cases t with
            | cons a t =>
              cases t' with
              | @cons y r _ _ b t' =>
                have q1 : and (okO n x) (allB (okO n) l) = true := q
                have q2 : and (okO n y) (allB (okO n) r) = true := q'
                rw [Bool.and_eq_true] at q1 q2
                rw [ih _ _ _ q1.1 q2.1 a b, ihl _ _ q1.2 q2.2 t t']
        rw [go ws ws' ds (okO_tup ea) (okO_tup eb) t t']
    | _ => cases (show false = true from ea)
theorem ltI_ok : ∀ l m : List Int, PyProof.Rows.lexLt itemOrd (l.map .inl) (m.map .inl) = ltI l m
  | [], [] => rfl
  | [], _ :: _ => rfl
  | _ :: _, [] => rfl
  | x :: l, y :: m => by
    show (decide (x < y) || (!decide (y < x) && PyProof.Rows.lexLt itemOrd (l.map .inl) (m.map .inl))) = cond (ilt x y) true (cond (ilt y x) false (ltI l m))
    rw [ltI_ok l m, ilt_ok, ilt_ok]
    cases decide (x < y) <;> cases decide (y < x) <;> rfl
theorem dataLt_ok {a b : W} {d e : PyData} {n : Nat} (ha : okO n a = true) (hb : okO n b = true) (ra : DV h a d) (rb : DV h b e) : PySem.W.dataLt d e = ltI (tk n a) (tk n b) := by
  unfold PySem.W.dataLt
  rw [tk_ok n a d ha ra, tk_ok n b e hb rb, ltI_ok]
end
def bestL (lt : W → W → Bool) (l : List W) : W → (W → Bool) → Bool := List.rec (fun a c => c a) (fun y _ ih a c => cond (lt y a) (ih y c) (ih a c)) l
def bestK (lt : W → W → Bool) (ws : List W) (h : IH) (k : KE) : Bool := cond (allB (okO 40) ws) (cond (allB (fun x => allB (alW 40 x) ws) ws) (List.casesOn ws false (fun x r => bestL lt r x (fun w => k w h))) false) false
def ltMin : W → W → Bool := fun y a => ltI (tk 40 y) (tk 40 a)
def ltMax : W → W → Bool := fun y a => ltI (tk 40 a) (tk 40 y)
def eBest (lt : W → W → Bool) (f : Es) : E := fun c l h k x => f c l h (fun ws h1 => bestK lt ws h1 k) x
theorem bestL_ok {h : IH} {lt : W → W → Bool} {f : PyData → PyData → Bool} (hf : ∀ y a d e, okO 40 y = true → okO 40 a = true → DV h y d → DV h a e → f d e = lt y a) {c : W → Bool} : ∀ {l : List W} {ds : List PyData} {a : W} {d : PyData}, allB (okO 40) l = true → okO 40 a = true → DVs h l ds → DV h a d → bestL lt l a c = true →
    ∃ w, c w = true ∧ okO 40 w = true ∧ DV h w (ds.foldl (fun a y => if f y a = true then y else a) d)
  | [], _, a, d, _, ha, .nil, ra, q => ⟨a, q, ha, ra⟩
  | y :: l, e :: ds, a, d, hl, ha, .cons b t, ra, q => by
    have hl' : and (okO 40 y) (allB (okO 40) l) = true := hl
    rw [Bool.and_eq_true] at hl'
    have q' : cond (lt y a) (bestL lt l y c) (bestL lt l a c) = true := q
    rw [List.foldl_cons, hf y a e d hl'.1 ha b ra]
    cases z : lt y a with
    | true => rw [z] at q'; exact bestL_ok hf hl'.2 hl'.1 t b q'
    | false => rw [z] at q'; exact bestL_ok hf hl'.2 ha t ra q'
theorem dep_ok {h : IH} : ∀ (n : Nat) (w : W) (d : PyData), okO n w = true → DV h w d → d.depth ≤ n ∧ d.canLay0 = true ∧ d ≠ .none := by
  intro n
  induction n with
  | zero => intro w d e _; cases (show false = true from e)
  | succ n ih =>
    intro w d e r
    cases r with
    | int i => exact ⟨Nat.zero_le _, rfl, fun z => nomatch z⟩
    | @tup ws ds t =>
      have go : ∀ (ws : List W) (ds : List PyData), allB (okO n) ws = true → DVs h ws ds → PyData.depthAll ds ≤ n ∧ PyData.canLayAll0 ds = true := by
        intro ws
        induction ws with
        | nil => intro ds _ t; cases t; exact ⟨Nat.zero_le _, by unfold PyData.canLayAll0; rfl⟩
        | cons x l ihl =>
          intro ds q t
          cases t with
          | cons a t =>
            have q' : and (okO n x) (allB (okO n) l) = true := q
            rw [Bool.and_eq_true] at q'
            obtain ⟨a1, a2, _⟩ := ih _ _ q'.1 a
            obtain ⟨b1, b2⟩ := ihl _ q'.2 t
            refine ⟨?_, ?_⟩
            · unfold PyData.depthAll; exact Nat.max_le.mpr ⟨a1, b1⟩
            · unfold PyData.canLayAll0; rw [a2, b2]; rfl
      obtain ⟨g1, g2⟩ := go ws ds (okO_tup e) t
      refine ⟨?_, ?_, fun z => nomatch z⟩
      · unfold PyData.depth; omega
      · unfold PyData.canLay0; exact g2
    | _ => cases (show false = true from e)
theorem depAll_ok {h : IH} : ∀ {ws : List W} {ds : List PyData}, allB (okO 40) ws = true → DVs h ws ds → PyData.depthAll ds ≤ 40 ∧ PyData.canLayAll0 ds = true
  | _, _, _, .nil => ⟨Nat.zero_le _, by unfold PyData.canLayAll0; rfl⟩
  | x :: l, d :: ds, q, .cons a t => by
    have q' : and (okO 40 x) (allB (okO 40) l) = true := q
    rw [Bool.and_eq_true] at q'
    obtain ⟨a1, a2, _⟩ := dep_ok _ _ _ q'.1 a
    obtain ⟨b1, b2⟩ := depAll_ok q'.2 t
    refine ⟨?_, ?_⟩
    · unfold PyData.depthAll; exact Nat.max_le.mpr ⟨a1, b1⟩
    · unfold PyData.canLayAll0; rw [a2, b2]; rfl
theorem DVs.mem {h : IH} : ∀ {ws : List W} {ds : List PyData}, DVs h ws ds → ∀ d ∈ ds, ∃ w ∈ ws, DV h w d
  | _, _, .nil, d, hd => by cases hd
  | w :: ws, e :: ds, .cons a t, d, hd => by
    rcases List.mem_cons.mp hd with rfl | hd
    · exact ⟨w, List.mem_cons_self, a⟩
    · obtain ⟨u, h1, h2⟩ := DVs.mem t d hd
      exact ⟨u, List.mem_cons_of_mem _ h1, h2⟩
theorem DVs.get {h : IH} : ∀ {ws : List W} {ds : List PyData} {i : Nat} {d : PyData}, DVs h ws ds → ds[i]? = some d → ∃ w, ws[i]? = some w ∧ DV h w d
  | _, _, _, _, .nil, e => by simp at e
  | w :: ws, _ :: ds, 0, d, .cons a t, e => by simp at e; subst e; exact ⟨w, rfl, a⟩
  | w :: ws, _ :: ds, i + 1, d, .cons a t, e => by
    obtain ⟨u, h1, h2⟩ := DVs.get (i := i) t (by simpa using e)
    exact ⟨u, by simpa using h1, h2⟩
theorem RVs.at {K : PySem.W.Frag} {m : Mp} {H : Hp} : ∀ {ws : List W} {xs : List V} {i : Nat} {w : W} {v : V}, RVs K m H ws xs → ws[i]? = some w → xs[i]? = some v → RV K m H w v
  | _, _, _, _, _, .nil, e, _ => by simp at e
  | _, _, 0, _, _, .cons r _, e, e' => by simp at e e'; subst e e'; exact r
  | _, _, i + 1, _, _, .cons _ t, e, e' => RVs.at (i := i) t (by simpa using e) (by simpa using e')
/-- the best of a list of alike data -/
def rBest (K : PySem.W.Frag) (f : PyData → List PyData → PyData) : List V → Hp → VK → Prop := fun vs H Q => ∃ (a : Addr) (xs : List V) (d : PyData) (ds : List PyData), vs = [.ref a] ∧ SqL K H a xs ∧ DpAll K H xs (d :: ds) ∧ PySem.W.AlikeAll (d :: ds) ∧ PyData.depthAll (d :: ds) ≤ 40 ∧ PyData.canLayAll0 (d :: ds) = true ∧
  ∀ (i : Nat) (v : V), xs[i]? = some v → (d :: ds)[i]? = some (f d ds) → Q v H
theorem canAt : ∀ {ds : List PyData} {i : Nat}, PyData.canLayAll0 ds = true → i < ds.length → (ds.getD i .none).canLay0 = true
  | [], i, _, h => by cases h
  | d :: ds, 0, q, _ => by
    have q' : d.canLay0 = true ∧ PyData.canLayAll0 ds = true := by simpa [PyData.canLayAll0] using q
    exact q'.1
  | d :: ds, i + 1, q, h => by
    have q' : d.canLay0 = true ∧ PyData.canLayAll0 ds = true := by simpa [PyData.canLayAll0] using q
    have := canAt (i := i) q'.2 (Nat.lt_of_succ_lt_succ h)
    simpa using this
section
variable {X : Cx} {B : Bag} {Wx : WX} {pos p : Pos} {a : Expr} {fa : E} {f : Es}
theorem best_at {pins : List (Addr × Obj)} {σ : L2.St} {s : Shared} {H : Hp} {xs : List V} {its : List Value} {d : PyData} {ds : List PyData} {as : List Addr} {z : PyData} {Q : VK} (I : Inv X pins σ H s) (rv : Vals xs its) (hr : ReadsAll s.heap its (d :: ds) as) (hc : PyData.canLayAll0 (d :: ds) = true)
    {i : Nat} {v : Value} {h' : Heap} {tk : Nat} {bs : List Addr} (hi : its.toArray[i]? = some v) (r : Reads h' v z bs) (hk : ∀ b o, s.heap.get? b = some o → h'.get? b = some o) (q : ∀ (i : Nat) (v : V), xs[i]? = some v → (d :: ds)[i]? = some z → Q v H) :
    ∃ x H1, Inv X pins σ H1 { s with heap := h', toks := tk } ∧ RelV x v ∧ Q x H1 := by
  have hi' : its[i]? = some v := by simpa using hi
  obtain ⟨cs, r1, h1, _, _⟩ := PySem.W.readsAll_at hr i v hi'
  have e := SeqAt.Reads.unique _ _ _ _ _ (canAt hc h1) (Reads.keeps hk r1) r
  obtain ⟨x, e1, e2⟩ : ∃ x, xs[i]? = some x ∧ RelV x v := by
    have : i < its.length := (List.getElem?_eq_some_iff.mp hi').1
    have hx : i < xs.length := by rw [rv.length]; exact this
    obtain ⟨u, e3, e4⟩ := rv.get (List.getElem?_eq_getElem hx)
    rw [hi'] at e3; cases e3
    exact ⟨_, List.getElem?_eq_getElem hx, e4⟩
  refine ⟨x, H, I.kept hk, e2, q i x e1 ?_⟩
  rw [← e, List.getElem?_eq_getElem h1, List.getD_eq_getElem?_getD, List.getElem?_eq_getElem h1]
  rfl
theorem cr_minD (hc : X.calm = true) (hu : X.A.units + 64 < cLine) : CallR X (.builtin "min") (rBest X.K PySem.W.minD) := by
  intro pins s σ H vs us Q I r h
  obtain ⟨a, xs, d, ds, rfl, hs, hd, ha, hdep, hcl, q⟩ := h
  obtain ⟨its, rv, hl, _⟩ := I.list hs
  rw [Vals.ref1 r]
  obtain ⟨as, hr⟩ := Dp.readsAll I _ _ its hd rv
  exact PySem.W.min_list_data (I.ok.hd hc) hl.isList (by rw [List.toList_toArray]; exact hr) ha (by omega) fun i v h' tk bs hi r1 hk => best_at I rv hr hcl hi r1 hk q
theorem cr_maxD (hc : X.calm = true) (hu : X.A.units + 64 < cLine) : CallR X (.builtin "max") (rBest X.K PySem.W.maxD) := by
  intro pins s σ H vs us Q I r h
  obtain ⟨a, xs, d, ds, rfl, hs, hd, ha, hdep, hcl, q⟩ := h
  obtain ⟨its, rv, hl, _⟩ := I.list hs
  rw [Vals.ref1 r]
  obtain ⟨as, hr⟩ := Dp.readsAll I _ _ its hd rv
  exact PySem.W.max_list_data (I.ok.hd hc) hl.isList (by rw [List.toList_toArray]; exact hr) ha (by omega) fun i v h' tk bs hi r1 hk => best_at I rv hr hcl hi r1 hk q
theorem best_r {K : PySem.W.Frag} {lt : W → W → Bool} {g : PyData → PyData → Bool} {F : PyData → List PyData → PyData} (hF : ∀ d ds, F d ds = ds.foldl (fun a y => if g y a = true then y else a) d) (hf : ∀ (h : IH) y a d e, okO 40 y = true → okO 40 a = true → DV h y d → DV h a e → g d e = lt y a)
    (m : Mp) (h : IH) (H : Hp) (a : Addr) (ws : List W) (xs : List V) (k : KE) (Q : VK) (rh : RepH K m h H) (hq : SqL K H a xs) (t : RVs K m H ws xs) (e : bestK lt ws h k = true) (hk : KOk K m H k Q) : rBest K F [.ref a] H Q := by
  obtain ⟨e1, e2⟩ := cond_f e
  obtain ⟨e3, e4⟩ := cond_f e2
  cases ws with
  | nil => cases (show false = true from e4)
  | cons w0 wr =>
    have dv : ∀ (n : Nat) (w : W), okO n w = true → ∃ d, DV h w d := by
      intro n
      induction n with
      | zero => intro w e; cases (show false = true from e)
      | succ n ih =>
        intro w e
        cases w with
        | int i => exact ⟨_, .int i⟩
        | tup l =>
          have go : ∀ l : List W, allB (okO n) l = true → ∃ ds, DVs h l ds := by
            intro l
            induction l with
            | nil => intro _; exact ⟨_, .nil⟩
            | cons x l ihl =>
              intro q
              have q' : and (okO n x) (allB (okO n) l) = true := q
              rw [Bool.and_eq_true] at q'
              obtain ⟨d, hd⟩ := ih x q'.1
              obtain ⟨ds, hds⟩ := ihl q'.2
              exact ⟨_, .cons hd hds⟩
          obtain ⟨ds, hds⟩ := go l e
          exact ⟨_, .tup hds⟩
        | _ => cases (show false = true from e)
    have dvs : ∀ l : List W, allB (okO 40) l = true → ∃ ds, DVs h l ds := by
      intro l
      induction l with
      | nil => intro _; exact ⟨_, .nil⟩
      | cons x l ihl =>
        intro q
        have q' : and (okO 40 x) (allB (okO 40) l) = true := q
        rw [Bool.and_eq_true] at q'
        obtain ⟨d, hd⟩ := dv 40 x q'.1
        obtain ⟨ds, hds⟩ := ihl q'.2
        exact ⟨_, .cons hd hds⟩
    obtain ⟨ds', hds⟩ := dvs _ e1
    cases hds with
    | @cons _ _ d ds a1 b1 =>
    have e1' : and (okO 40 w0) (allB (okO 40) wr) = true := e1
    rw [Bool.and_eq_true] at e1'
    obtain ⟨w, c1, c2, c3⟩ := bestL_ok (h := h) (hf h) (l := wr) (ds := ds) (a := w0) (d := d) (c := fun w => k w h) e1'.2 e1'.1 b1 a1 (show bestL lt wr w0 (fun w => k w h) = true from e4)
    have full : DVs h (w0 :: wr) (d :: ds) := .cons a1 b1
    obtain ⟨g1, g2⟩ := depAll_ok e1 full
    refine ⟨a, xs, d, ds, rfl, hq, full.dp rh t, ⟨fun x hx y hy => ?_, fun x hx => ?_⟩, g1, g2, fun i v hv hd => ?_⟩
    · obtain ⟨u, hu, ru⟩ := full.mem x hx
      obtain ⟨u', hu', ru'⟩ := full.mem y hy
      exact alW_ok 40 u u' x y (allB_ok (allB_ok e3 u hu) u' hu') ru ru'
    · obtain ⟨u, hu, ru⟩ := full.mem x hx
      exact (dep_ok 40 u x (allB_ok e1 u hu) ru).2.2
    · obtain ⟨u, hu, ru⟩ := full.get hd
      rw [hF] at ru
      have : u = w := okO_inj 40 u w _ (allB_ok e1 u (List.mem_of_getElem? hu)) c2 ru c3
      subst this
      exact hk m _ _ h H .refl rh (RVs.at t hu hv) c1
theorem minD_f (d : PyData) (ds : List PyData) : PySem.W.minD d ds = ds.foldl (fun a y => if PySem.W.dataLt y a = true then y else a) d := rfl
theorem maxD_f (d : PyData) (ds : List PyData) : PySem.W.maxD d ds = ds.foldl (fun a y => if PySem.W.dataLt a y = true then y else a) d := rfl
theorem se_minL (hu : X.A.units + 64 < cLine) (hc : X.calm = true) (hg : Gl X "min") (hm : X.mg "min" = none) (ha : PE X a (tF X.K B Wx f)) (ns : notStar a = true) : PE X (.Call (.Name "min" p) [a] [] pos) (tE X.K B Wx (eBest ltMin f)) :=
  se_call1 (cr_minD hc hu) hg hm (by decide +kernel) (by decide) (by decide) ha ns (fresh_imp (g := bestK ltMin) (fun _ _ _ _ _ => rfl) (best_r (g := fun y a => PySem.W.dataLt y a) minD_f fun h y a d e hy ha ry ra => dataLt_ok hy ha ry ra))
theorem se_minV (hu : X.A.units + 64 < cLine) (hc : X.calm = true) (hg : Gl X "min") (hm : X.mg "min" = none) (ha : PE X a (tE X.K B Wx fa)) (ns : notStar a = true) : PE X (.Call (.Name "min" p) [a] [] pos) (tE X.K B Wx (eBest ltMin (sLists fa))) :=
  se_call1 (cr_minD hc hu) hg hm (by decide +kernel) (by decide) (by decide) ha ns (stand_imp (g := bestK ltMin) (fun _ _ _ _ _ => rfl) (best_r (g := fun y a => PySem.W.dataLt y a) minD_f fun h y a d e hy ha ry ra => dataLt_ok hy ha ry ra))
theorem se_maxL (hu : X.A.units + 64 < cLine) (hc : X.calm = true) (hg : Gl X "max") (hm : X.mg "max" = none) (ha : PE X a (tF X.K B Wx f)) (ns : notStar a = true) : PE X (.Call (.Name "max" p) [a] [] pos) (tE X.K B Wx (eBest ltMax f)) :=
  se_call1 (cr_maxD hc hu) hg hm (by decide +kernel) (by decide) (by decide) ha ns (fresh_imp (g := bestK ltMax) (fun _ _ _ _ _ => rfl) (best_r (g := fun y a => PySem.W.dataLt a y) maxD_f fun h y a d e hy ha ry ra => dataLt_ok ha hy ra ry))
theorem se_maxV (hu : X.A.units + 64 < cLine) (hc : X.calm = true) (hg : Gl X "max") (hm : X.mg "max" = none) (ha : PE X a (tE X.K B Wx fa)) (ns : notStar a = true) : PE X (.Call (.Name "max" p) [a] [] pos) (tE X.K B Wx (eBest ltMax (sLists fa))) :=
  se_call1 (cr_maxD hc hu) hg hm (by decide +kernel) (by decide) (by decide) ha ns (stand_imp (g := bestK ltMax) (fun _ _ _ _ _ => rfl) (best_r (g := fun y a => PySem.W.dataLt a y) maxD_f fun h y a d e hy ha ry ra => dataLt_ok ha hy ra ry))
end
end
end It

set_option Elab.async false
set_option linter.all false
set_option maxRecDepth 100000
set_option maxHeartbeats 1000000
/-! ItPb: texts compared sign by sign; names looked up so. -/
namespace It
open PySem PySem.Spec PyProof.Rows L2
noncomputable section
def sE (x y : Str) : Bool := seqs x.cps.toList y.cps.toList
theorem seqs_iff : ∀ s t : List Nat, seqs s t = decide (s = t)
  | [], [] => rfl
  | [], _ :: _ => rfl
  | _ :: _, [] => rfl
  | x :: s, y :: t => by
    show cond (Nat.beq x y) (seqs s t) false = _
    rw [seqs_iff s t]
    cases q : Nat.beq x y with
    | true =>
      have := Nat.eq_of_beq_eq_true q
      subst this
      show decide (s = t) = _
      rw [Bool.eq_iff_iff, decide_eq_true_iff, decide_eq_true_iff]
      simp
    | false =>
      have : x ≠ y := fun e => by subst e; rw [show Nat.beq x x = true from Nat.beq_refl x] at q; cases q
      show false = _
      rw [decide_eq_false]
      intro e
      exact this (List.cons.inj e).1
theorem sE_eq (x y : Str) : sE x y = decide (x = y) := by
  unfold sE
  rw [seqs_iff, Bool.eq_iff_iff, decide_eq_true_iff, decide_eq_true_iff]
  constructor
  · intro h
    cases x; cases y
    exact congrArg Str.mk (Array.toList_inj.mp h)
  · intro h; rw [h]
theorem sE_ok {x y : Str} (h : sE x y = true) : x = y := by rw [sE_eq] at h; exact of_decide_eq_true h
def lkS {α : Type} (x : Str) : List (Str × α) → Option α
  | [] => none
  | p :: l => cond (sE x p.1) (some p.2) (lkS x l)
theorem lkS_eq {α : Type} {x : Str} : ∀ l : List (Str × α), lkS x l = l.lookup x
  | [] => rfl
  | p :: l => by
    obtain ⟨y, a⟩ := p
    show cond (sE x y) (some a) (lkS x l) = _
    rw [lkS_eq l, List.lookup_cons, sE_eq]
    cases q : decide (x = y) with
    | true => rw [show (x == y) = true from by rw [beq_iff_eq]; exact of_decide_eq_true q]; rfl
    | false => rw [show (x == y) = false from by rw [beq_eq_false_iff_ne]; exact of_decide_eq_false q]; rfl
end
end It

set_option Elab.async false
set_option linter.all false
set_option maxRecDepth 100000
set_option maxHeartbeats 1000000
/-! ItPc: displays with stars. -/
namespace It
open PySem PySem.Spec PyProof.Rows L2
noncomputable section
def asStar (a : E) (r : Es) : Es := fun c l h k x => a c l h (fun w h1 => itemsK w h1 fun vs => r c l h1 (fun ws h2 => k (app vs ws) h2) x) x
def sShort (f : Es) : Es := fun c l h k x => f c l h (fun ws h1 => cond (Nat.ble (lenW ws) line) (k ws h1) false) x
def LxOk (K : PySem.W.Frag) (m : Mp) (H : Hp) (k : KL) (Q : List V → Hp → Prop) : Prop := ∀ m' ws xs h' H', Ext m H m' H' → RepH K m' h' H' → RVs K m' H' ws xs → k ws h' = true → Q xs H'
def tAx (K : PySem.W.Frag) (B : Bag) (Wx : WX) (f : Es) : TA := fun σ H Q => ∃ m l h k x, RepH K m h H ∧ RepL K m H l σ ∧ f B.c l h k x = true ∧ LxOk K m H k Q ∧ XOk K B m H σ x Wx
section
variable {X : Cx} {B : Bag} {Wx : WX} {pos p : Pos}
theorem sax_nil : PA X [] (tAx X.K B Wx asNil) := paI pa_nil fun σ H Q ⟨m, l, h, k, x, rh, rl, e, hk, _⟩ => hk m [] [] h H .refl rh .nil e
theorem sax_cons {e : Expr} {es : List Expr} {f : E} {g : Es} (a : PE X e (tE X.K B Wx f)) (r : PA X es (tAx X.K B Wx g)) (hs : starEach (e :: es) X.env = (false, eval e X.env) :: starEach es X.env) : PA X (e :: es) (tAx X.K B Wx (asCons f g)) := by
  refine paI (pa_cons a r hs) fun σ H Q ⟨m, l, h, k, x, rh, rl, e, hk, hx⟩ => ?_
  refine ⟨m, l, h, _, x, rh, rl, e, fun m1 v w h1 H1 x1 r1 rv e1 => ?_, hx⟩
  refine ⟨m1, l, h1, _, x, r1, rl.mono rh x1, e1, fun m2 ws xs h2 H2 x2 r2 rvs e2 => ?_, hx.mono x1⟩
  exact hk m2 (v :: ws) (w :: xs) h2 H2 (x1.trans x2) r2 (.cons (RV.mono r1 x2 rv) rvs) e2
theorem sax_star {e : Expr} {es : List Expr} {f : E} {g : Es} (a : PE X e (tE X.K B Wx f)) (r : PA X es (tAx X.K B Wx g)) : PA X (.Starred e p :: es) (tAx X.K B Wx (asStar f g)) := by
  refine paI (StX.pa_star a r) fun σ H Q ⟨m, l, h, k, x, rh, rl, e, hk, hx⟩ => ?_
  refine ⟨m, l, h, _, x, rh, rl, e, fun m1 v w h1 H1 x1 r1 rv e1 => ?_, hx⟩
  obtain ⟨vs, ys, q, rfl, hq, t, e2⟩ := itemsK_ok r1 rv e1
  refine ⟨q, ys, rfl, hq.symm, ?_⟩
  refine ⟨m1, l, h1, _, x, r1, rl.mono rh x1, e2, fun m2 ws xs h2 H2 x2 r2 rvs e3 => ?_, hx.mono x1⟩
  have e4 : k (app vs ws) h2 = true := e3
  rw [app_ok'] at e4
  exact hk m2 (vs ++ ws) (ys ++ xs) h2 H2 (x1.trans x2) r2 ((RVs.mono r1 x2 t).append rvs) e4
theorem sa_short {es : List Expr} {f : Es} (a : PA X es (tAx X.K B Wx f)) : PA X es (fun σ H Q => ∃ m l h k x, RepH X.K m h H ∧ RepL X.K m H l σ ∧ sShort f B.c l h k x = true ∧ (∀ m' ws xs h' H', Ext m H m' H' → RepH X.K m' h' H' → RVs X.K m' H' ws xs → xs.length ≤ line → k ws h' = true → Q xs H') ∧ XOk X.K B m H σ x Wx) :=
  paI a fun σ H Q ⟨m, l, h, k, x, rh, rl, e, hk, hx⟩ => by
    refine ⟨m, l, h, _, x, rh, rl, e, fun m1 ws xs h1 H1 x1 r1 rv e1 => ?_, hx⟩
    obtain ⟨e2, e3⟩ := cond_f e1
    rw [ble_ok, lenW_ok, rv.length] at e2
    exact hk m1 ws xs h1 H1 x1 r1 rv (of_decide_eq_true e2) e3
theorem se_tupX {es : List Expr} {j : Nat} {f : Es} (a : PA X es (tAx X.K B Wx f)) : PE X (.Tuple es j pos) (tE X.K B Wx (eTup (sShort f))) := by
  refine peI (pe_tup (sa_short a)) fun σ H Q ⟨m, l, h, k, x, rh, rl, e, hk, hx⟩ => ?_
  refine ⟨m, l, h, _, x, rh, rl, e, fun m1 ws xs h1 H1 x1 r1 rv hl e1 => ⟨?_, fun p hp => (hk.mono x1).newT r1 rv e1 hp⟩, hx⟩
  exact Nat.le_trans hl line_le
theorem sf_lstX {es : List Expr} {f : Es} (a : PA X es (tAx X.K B Wx f)) : PE X (.List es pos) (tF X.K B Wx (sShort f)) := by
  refine peI (pe_lst (sa_short a)) fun σ H Q ⟨m, l, h, k, x, rh, rl, e, hk, hx⟩ => ?_
  refine ⟨m, l, h, _, x, rh, rl, e, fun m1 ws xs h1 H1 x1 r1 rv hl e1 => ⟨?_, fun p hp => ?_⟩, hx⟩
  · exact Nat.le_trans hl line_le
  · refine hk m1 ws xs h1 _ p (x1.trans (.laid hp)) (r1.laid hp) upd_same ?_ (r1.no0 hp) (RVs.mono r1 (.laid hp) rv) e1
    · cases q : H p with
      | none => rfl
      | some u => exact absurd hp (x1.there p (by rw [q]; exact fun z => nomatch z))
end
end
end It

set_option Elab.async false
set_option linter.all false
set_option maxRecDepth 100000
set_option maxHeartbeats 1000000
/-! ItPd: any and all of what stands: by truth. -/
namespace It
open PySem PySem.Spec PyProof.Rows L2
noncomputable section
def truW (w : W) (c : Bool → Bool) : Bool := W.casesOn w (c false) c (fun i => c (not (ieq i 0))) (fun _ => false) (fun _ => false) (fun _ => false) (fun _ => false) (fun _ _ => false)
def boolsT (f : Bool → Bool → Bool) (z : Bool) (l : List W) (c : Bool → Bool) : Bool := List.rec (fun c => c z) (fun w _ ih c => truW w fun b => ih fun r => c (f b r)) l c
def eAnyV (a : E) : E := fun c l h k x => a c l h (fun w h1 => itemsK w h1 fun ws => boolsT or false ws fun b => k (.bl b) h1) x
def eAllV (a : E) : E := fun c l h k x => a c l h (fun w h1 => itemsK w h1 fun ws => boolsT and true ws fun b => k (.bl b) h1) x
theorem boolsT_ok {K : PySem.W.Frag} {m : Mp} {H : Hp} {f : Bool → Bool → Bool} {z : Bool} : ∀ {ws : List W} {xs : List V} {c : Bool → Bool}, RVs K m H ws xs → boolsT f z ws c = true → ∃ ds : List PyData, DpAll K H xs ds ∧ PyData.plainAll ds = true ∧ (∀ d ∈ ds, PySem.PyData.fits63 d) ∧ c (ds.foldr (fun d r => f (PySem.PyData.truthy d) r) z) = true
  | _, _, c, .nil, q => ⟨[], .nil, rfl, fun _ h => (nomatch h), q⟩
  | w :: ws, x :: xs, c, .cons r t, q => by
    have go : ∀ (d : PyData) (b : Bool), Dp K H x d → d.plain = true → PySem.PyData.fits63 d → PySem.PyData.truthy d = b → boolsT f z ws (fun r => c (f b r)) = true → ∃ ds : List PyData, DpAll K H (x :: xs) ds ∧ PyData.plainAll ds = true ∧ (∀ d ∈ ds, PySem.PyData.fits63 d) ∧ c (ds.foldr (fun d r => f (PySem.PyData.truthy d) r) z) = true := fun d b h1 h2 h3 h4 h5 => by
      obtain ⟨ds, a1, a2, a3, a4⟩ := boolsT_ok t h5
      refine ⟨d :: ds, .cons h1 a1, ?_, ?_, ?_⟩
      · unfold PyData.plainAll; rw [h2, a2]; rfl
      · intro e he
        rcases List.mem_cons.mp he with rfl | he
        · exact h3
        · exact a3 e he
      · rw [List.foldr_cons, h4]; exact a4
    cases r with
    | non => exact go .none false .non rfl trivial rfl q
    | bl b => exact go (.bool b) b (.bl b) rfl trivial rfl q
    | int i =>
      refine go (.int i) (not (ieq i 0)) (.int i) rfl trivial ?_ q
      rw [ieq_ok]; rfl
    | _ => cases (show false = true from q)
def rAnyD (K : PySem.W.Frag) (f : List PyData → Bool) : List V → Hp → VK → Prop := fun vs H Q => ∃ (a : Addr) (xs : List V) (ds : List PyData), vs = [V.ref a] ∧ (SqL K H a xs ∨ SqT K H a xs) ∧ DpAll K H xs ds ∧ PyData.plainAll ds = true ∧ (∀ d ∈ ds, PySem.PyData.fits63 d) ∧ Q (.bl (f ds)) H
section
variable {X : Cx} {B : Bag} {Wx : WX} {pos p : Pos} {a : Expr} {fa : E}
theorem cr_anyD (hc : X.calm = true) : CallR X (.builtin "any") (rAnyD X.K fun ds => ds.any PySem.PyData.truthy) := by
  intro pins s σ H vs us Q I r h
  obtain ⟨a, xs, ds, rfl, hs, hd, h1, h2, q⟩ := h
  rw [Vals.ref1 r]
  rcases hs with hs | hs
  · obtain ⟨its, rv, hl, _⟩ := I.list hs
    obtain ⟨as, hr⟩ := Dp.readsAll I _ _ its hd rv
    exact PySem.W.any_list_data (I.ok.hd hc) hl.isList (by rw [List.toList_toArray]; exact hr) h1 h2 fun h' tk hk => ⟨.bl _, H, I.kept hk, rfl, q⟩
  · obtain ⟨its, rv, hl, _⟩ := I.tuple hs
    obtain ⟨as, hr⟩ := Dp.readsAll I _ _ its hd rv
    exact PySem.W.any_tuple_data (I.ok.hd hc) hl (by rw [List.toList_toArray]; exact hr) h1 h2 fun h' tk hk => ⟨.bl _, H, I.kept hk, rfl, q⟩
theorem cr_allD (hc : X.calm = true) : CallR X (.builtin "all") (rAnyD X.K fun ds => ds.all PySem.PyData.truthy) := by
  intro pins s σ H vs us Q I r h
  obtain ⟨a, xs, ds, rfl, hs, hd, h1, h2, q⟩ := h
  rw [Vals.ref1 r]
  rcases hs with hs | hs
  · obtain ⟨its, rv, hl, _⟩ := I.list hs
    obtain ⟨as, hr⟩ := Dp.readsAll I _ _ its hd rv
    exact PySem.W.all_list_data (I.ok.hd hc) hl.isList (by rw [List.toList_toArray]; exact hr) h1 h2 fun h' tk hk => ⟨.bl _, H, I.kept hk, rfl, q⟩
  · obtain ⟨its, rv, hl, _⟩ := I.tuple hs
    obtain ⟨as, hr⟩ := Dp.readsAll I _ _ its hd rv
    exact PySem.W.all_tuple_data (I.ok.hd hc) hl (by rw [List.toList_toArray]; exact hr) h1 h2 fun h' tk hk => ⟨.bl _, H, I.kept hk, rfl, q⟩
theorem anyD_imp {K : PySem.W.Frag} {g : Bool → Bool → Bool} {z : Bool} {F : List PyData → Bool} (hF : ∀ ds, ds.foldr (fun d r => g (PySem.PyData.truthy d) r) z = F ds) (σ : L2.St) (H : Hp) (Q : VK) (q : tE K B Wx (fun c l h k x => fa c l h (fun w h1 => itemsK w h1 fun ws => boolsT g z ws fun b => k (.bl b) h1) x) σ H Q) : tE K B Wx fa σ H (fun y H1 => rAnyD K F [y] H1 Q) := by
  obtain ⟨m, l, h, k, x, rh, rl, e, hk, hx⟩ := q
  refine ⟨m, l, h, _, x, rh, rl, e, fun m1 v w h1 H1 x1 r1 rv e1 => ?_, hx⟩
  obtain ⟨ws, xs, p, rfl, hq, t, e2⟩ := itemsK_ok r1 rv e1
  obtain ⟨ds, a1, a2, a3, a4⟩ := boolsT_ok t e2
  rw [hF] at a4
  exact ⟨p, xs, ds, rfl, hq, a1, a2, a3, hk m1 _ _ h1 H1 x1 r1 (.bl _) a4⟩
theorem fold_any : ∀ ds : List PyData, ds.foldr (fun d r => or (PySem.PyData.truthy d) r) false = ds.any PySem.PyData.truthy
  | [] => rfl
  | d :: ds => by rw [List.foldr_cons, fold_any ds, List.any_cons]
theorem fold_all : ∀ ds : List PyData, ds.foldr (fun d r => and (PySem.PyData.truthy d) r) true = ds.all PySem.PyData.truthy
  | [] => rfl
  | d :: ds => by rw [List.foldr_cons, fold_all ds, List.all_cons]
theorem se_anyT (hc : X.calm = true) (hg : Gl X "any") (hm : X.mg "any" = none) (ha : PE X a (tE X.K B Wx fa)) (ns : notStar a = true) : PE X (.Call (.Name "any" p) [a] [] pos) (tE X.K B Wx (eAnyV fa)) :=
  se_call1 (cr_anyD hc) hg hm (by decide +kernel) (by decide) (by decide) ha ns (anyD_imp fold_any)
theorem se_allT (hc : X.calm = true) (hg : Gl X "all") (hm : X.mg "all" = none) (ha : PE X a (tE X.K B Wx fa)) (ns : notStar a = true) : PE X (.Call (.Name "all" p) [a] [] pos) (tE X.K B Wx (eAllV fa)) :=
  se_call1 (cr_allD hc) hg hm (by decide +kernel) (by decide) (by decide) ha ns (anyD_imp fold_all)
end
end
end It

set_option Elab.async false
set_option linter.all false
set_option maxRecDepth 100000
set_option maxHeartbeats 1000000
/-! ItPe: sorted(set(x)) of whole numbers. -/
namespace It
open PySem PySem.Spec PyProof.Rows L2
section
variable {P : Program} {w : World} {A : Around} {E : Value → Shared → Prop} {s : Shared}
set_option maxRecDepth 100000 in
set_option maxHeartbeats 3200000 in
theorem call_set_lstI {l : Addr} {items : Array Value} (ns : List Int) {Q : Value → Shared → Prop} (hh : A.handled = none) (hl : s.heap.IsList l items) (hit : IntsAre items.toList ns) (hb : ns.length + 1 < scanBound)
    (h : ∀ (h' : Heap) (tk c : Nat), SetR w h' s.heap.objs.size (fun j => decide (j ∈ ns)) c → c ≤ ns.length → (∀ b o, s.heap.get? b = some o → h'.get? b = some o) → Q (.ref s.heap.objs.size) { s with heap := h', toks := tk }) :
    wpAny (model P w) A (call (.type "set") [.ref l]) Q E s := by
  have hisz : items.size = ns.length := by
    have q := IntsAre.length hit
    rw [Array.length_toList] at q
    exact q
  obtain ⟨c, tl, hmro⟩ := F.called_set.mro
  have hmade := F.called_set.made
  have hsub := F.called_set.sub
  refine wpAny_call (codeAny_of_tree ?_)
  show wpAny _ _ (callAny (.type "set") _) _ _ _
  refine wpAny_pure ⟨Code.quiet_builtin _ (by decide +kernel), codeAny_builtin F.entry_type_call ?_⟩
  rw [Around.under_plain (weight_type_call_type "set" [.ref l] []) rfl]
  have h1 := F.called_set.notType
  have h2 := F.called_set.canCreate
  have hct := F.typeCall_set_1 (.ref l)
  repeat (any_goals (first | assumption | wp_step))

  refine codeAny_mono (code_set_led1 (.ref l) (E := E) (Q₁ := fun obj s₁ => obj = .ref s.heap.objs.size ∧ s₁ = { s with heap := s.heap.push { cls := .type "set", dict := none, data := .set #[] 0 (.fresh 0 0 (!w.params.followText "set-order")) } }) ⟨rfl, rfl⟩) fun r s₁ hr => ?_
  cases r with
  | error e => exact hr
  | ok fl =>
    cases fl with
    | ret obj =>
      obtain ⟨rfl, rfl⟩ := hr
      have hS : (s.heap.push { cls := .type "set", dict := none, data := .set #[] 0 (.fresh 0 0 (!w.params.followText "set-order")) }).get? s.heap.objs.size = some { cls := .type "set", dict := none, data := .set #[] 0 (.fresh 0 0 (!w.params.followText "set-order")) } := Heap.get?_push_size _ rfl
      have hT : Shared.TypeIs { s with heap := s.heap.push { cls := .type "set", dict := none, data := .set #[] 0 (.fresh 0 0 (!w.params.followText "set-order")) } } (.ref s.heap.objs.size) "set" := ⟨_, hS, rfl⟩
      have hli := F.called_set.init.lookup
      have hbi := F.called_set.init.bind (.ref s.heap.objs.size)
      repeat (any_goals (first | assumption | wp_step))

      refine codeAny_mono (codeAny_call_builtin (R := wants (fun r s₂ => r = .none ∧ ∃ h' tk c, s₂ = { s with heap := h', toks := tk } ∧ SetR w h' s.heap.objs.size (fun j => decide (j ∈ ns)) c ∧ c ≤ ns.length ∧
          (∀ b o, s.heap.get? b = some o → h'.get? b = some o)) E) F.called_set.init.plain F.entry_set_init (check_set_init_1 hT ?_)) fun r₂ s₂ hr₂ => ?_
      · obtain ⟨ol, hol, hcl, nl, hdl⟩ := hl
        obtain ⟨ocls, odict, odata, oslots⟩ := ol
        simp only at hcl hdl
        subst hcl; subst hdl
        have hol' : (s.heap.push { cls := .type "set", dict := none, data := .set #[] 0 (.fresh 0 0 (!w.params.followText "set-order")) }).get? l = some { cls := .type "list", dict := odict, data := .seq items nl, slots := oslots } := Heap.get?_push_of_some _ hol
        have hsls := F.sub_list_set
        have hslf := F.sub_list_frozenset
        have hne : (Value.type "list" == Value.type "dict") = false := by decide
        have hl1 : (s.heap.push { cls := .type "set", dict := none, data := .set #[] 0 (.fresh 0 0 (!w.params.followText "set-order")) }).IsList l items := ⟨_, hol', rfl, nl, rfl⟩
        unfold Builtin.«set.__init__» noKeywords Builtin.Frozenset.updateFrom
        generalize hPI : pyIter = PI
        wp_walk
        subst hPI

        refine wpAny_pyIter_list hl1 ?_
        refine wpAny_bind (wpAny_runValue ?_)
        have hlS : l < s.heap.objs.size := Heap.lt_size hol
        have hh3 : A.in1.in1.in1.handled = none := by simp [hh]
        have hz1 : (s.heap.push { cls := .type "set", dict := none, data := .set #[] 0 (.fresh 0 0 (!w.params.followText "set-order")) }).objs.size = s.heap.objs.size + 1 := Heap.size_push ..
        have hneI : l ≠ (s.heap.push { cls := .type "set", dict := none, data := .set #[] 0 (.fresh 0 0 (!w.params.followText "set-order")) }).objs.size := by
          rw [Heap.size_push]; exact Nat.ne_of_lt (Nat.lt_succ_of_lt hlS)
        have hSf : s.heap.objs.size ∉ [(s.heap.push { cls := .type "set", dict := none, data := .set #[] 0 (.fresh 0 0 (!w.params.followText "set-order")) }).objs.size, l] := by
          rw [Heap.size_push]; simp only [List.mem_cons, List.mem_singleton, List.not_mem_nil, or_false, not_or]
          exact ⟨Nat.ne_of_lt (Nat.lt_succ_self _), Nat.ne_of_gt hlS⟩
        have hval : ∀ (i : Nat) (v : Value), items[i]? = some v → ∃ k t, ns[i]? = some k ∧ v = .int k t := fun i v hv => by
          have hi : i < ns.length := by rw [← hisz]; exact (Array.getElem?_eq_some_iff.mp hv).1
          obtain ⟨t, e⟩ := PyProof.Rows.IntsAre.int_at hit i v (by rw [Array.getElem?_toList]; exact hv)
          refine ⟨ns[i], t, List.getElem?_eq_getElem hi, ?_⟩
          rw [e, List.getD_eq_getElem?_getD, List.getElem?_eq_getElem hi] <;> rfl
        refine set_update_ints ((Walks.list hh3 _ l hneI items).toS) s.heap.objs.size
          hSf ns hisz hb hval (items.size - 0) 0 _ (by omega) (Nat.zero_le _)
          ⟨⟨_, Heap.get?_push_size _ rfl, rfl, rfl⟩, (hl1.push _)⟩ ?hS0 ?hR
        case hS0 =>
          have hget : ((s.heap.push { cls := .type "set", dict := none, data := .set #[] 0 (.fresh 0 0 (!w.params.followText "set-order")) }).push { cls := .type "list_iterator", data := .fields #[.ref l, .int 0 0] }).get? s.heap.objs.size
              = some { cls := .type "set", dict := none, data := .set #[] 0 (.fresh 0 0 (!w.params.followText "set-order")) } := Heap.get?_push_of_some _ hS
          exact ⟨0, Nat.le_refl 0, setR_new_at hget⟩
        case hR =>
          intro s' c' hm hc' hS'
          obtain ⟨h', g2, d', tk', os'⟩ := s'
          have eg : g2 = s.gens := hm.gens
          have ed : d' = s.drawn := hm.drawn
          have eo : os' = s.os := hm.os
          subst eg; subst ed; subst eo
          show wpAny _ _ _ _ _ _
          refine wpAny_pure ?_
          show wpAny _ _ (ret Value.none) _ _ _
          rw [hisz] at hc'
          refine wpAny_pure ⟨rfl, h', tk', c', rfl, hS', hc', fun b o e => ?_⟩
          have hb0 : b < s.heap.objs.size := Heap.lt_size e
          have hb1 : b ≠ s.heap.objs.size := Nat.ne_of_lt hb0
          have hb2 : b ≠ (s.heap.push { cls := .type "set", dict := none, data := .set #[] 0 (.fresh 0 0 (!w.params.followText "set-order")) }).objs.size := by
            rw [Heap.size_push]; exact Nat.ne_of_lt (Nat.lt_succ_of_lt hb0)
          exact hm.heap b o (by simp only [List.mem_cons, List.mem_singleton, List.not_mem_nil, or_false, not_or]; exact ⟨hb1, hb2⟩) (Heap.get?_push_of_some _ (Heap.get?_push_of_some _ e))

      · cases r₂ with
        | error e => exact hr₂
        | ok fl₂ =>
          cases fl₂ with
          | ret r =>
            obtain ⟨rfl, h', tk, c', rfl, hS', hc', hk'⟩ := hr₂
            repeat (any_goals (first | assumption | wp_step))
            exact h _ _ _ hS' hc' hk'
          | _ => exact hr₂.elim
    | _ => exact hr.elim

end
/-! ### the evaluator's -/
noncomputable section
def insU (x : Int) (l : List Int) : List Int := List.rec [x] (fun y r ih => cond (ilt x y) (x :: y :: r) (cond (ieq x y) (y :: r) (y :: ih))) l
def srtU (l : List Int) : List Int := List.rec [] (fun x _ ih => insU x ih) l
def intsW (l : List W) (c : List Int → Bool) : Bool := List.rec (fun c => c []) (fun w _ ih c => intOf w fun i => ih fun r => c (i :: r)) l c
def toW (l : List Int) : List W := List.rec [] (fun x _ ih => W.int x :: ih) l
def sSortSet (a : E) : Es := fun c l h k x => a c l h (fun w h1 => itemsK w h1 fun ws => intsW ws fun is => cond (Nat.blt (lenW ws) 64) (k (toW (srtU is)) h1) false) x
theorem intsW_ok {K : PySem.W.Frag} {m : Mp} {H : Hp} : ∀ {ws : List W} {xs : List V} {c : List Int → Bool}, RVs K m H ws xs → intsW ws c = true → ∃ is : List Int, xs = is.map V.int ∧ c is = true
  | _, _, c, .nil, q => ⟨[], rfl, q⟩
  | _, _, c, .cons r t, q => by
    obtain ⟨i, e1, e2, q2⟩ := intOf_ok r q
    obtain ⟨is, e3, q3⟩ := intsW_ok t q2
    exact ⟨i :: is, by rw [e2, e3]; rfl, q3⟩
theorem toW_rvs {K : PySem.W.Frag} {m : Mp} {H : Hp} : ∀ is : List Int, RVs K m H (toW is) (is.map V.int)
  | [] => .nil
  | i :: is => .cons (.int i) (toW_rvs is)
theorem insU_mem (x k : Int) : ∀ l : List Int, k ∈ insU x l ↔ k = x ∨ k ∈ l
  | [] => by show k ∈ [x] ↔ _; simp
  | y :: r => by
    show k ∈ cond (ilt x y) (x :: y :: r) (cond (ieq x y) (y :: r) (y :: insU x r)) ↔ _
    rw [ilt_ok, ieq_ok]
    by_cases h1 : x < y
    · rw [decide_eq_true h1]; show k ∈ x :: y :: r ↔ _; simp
    · rw [decide_eq_false h1]
      by_cases h2 : x = y
      · rw [decide_eq_true h2]; subst h2; show k ∈ x :: r ↔ _; simp
      · rw [decide_eq_false h2]
        show k ∈ y :: insU x r ↔ _
        rw [List.mem_cons, insU_mem x k r, List.mem_cons]
        constructor
        · rintro (h | h | h) <;> simp [h]
        · rintro (h | h | h) <;> simp [h]
theorem insU_pw (x : Int) : ∀ l : List Int, l.Pairwise (· < ·) → (insU x l).Pairwise (· < ·)
  | [], _ => by show [x].Pairwise _; simp
  | y :: r, h => by
    show (cond (ilt x y) (x :: y :: r) (cond (ieq x y) (y :: r) (y :: insU x r))).Pairwise _
    obtain ⟨h3, h4⟩ := List.pairwise_cons.mp h
    rw [ilt_ok, ieq_ok]
    by_cases h1 : x < y
    · rw [decide_eq_true h1]
      show (x :: y :: r).Pairwise _
      refine List.pairwise_cons.mpr ⟨fun z hz => ?_, h⟩
      rcases List.mem_cons.mp hz with rfl | hz
      · exact h1
      · exact Int.lt_trans h1 (h3 z hz)
    · rw [decide_eq_false h1]
      by_cases h2 : x = y
      · rw [decide_eq_true h2]; exact h
      · rw [decide_eq_false h2]
        show (y :: insU x r).Pairwise _
        refine List.pairwise_cons.mpr ⟨fun z hz => ?_, insU_pw x r h4⟩
        rcases (insU_mem x z r).mp hz with rfl | hz
        · omega
        · exact h3 z hz
theorem srtU_mem (k : Int) : ∀ l : List Int, k ∈ srtU l ↔ k ∈ l
  | [] => Iff.rfl
  | x :: l => by
    show k ∈ insU x (srtU l) ↔ _
    rw [insU_mem, srtU_mem k l, List.mem_cons]
theorem srtU_pw : ∀ l : List Int, (srtU l).Pairwise (· < ·)
  | [] => .nil
  | x :: l => insU_pw x _ (srtU_pw l)
theorem pw_uniq : ∀ {a b : List Int}, a.Pairwise (· < ·) → b.Pairwise (· < ·) → (∀ k, k ∈ a ↔ k ∈ b) → a = b
  | [], [], _, _, _ => rfl
  | [], y :: b, _, _, h => by have := (h y).mpr List.mem_cons_self; cases this
  | x :: a, [], _, _, h => by have := (h x).mp List.mem_cons_self; cases this
  | x :: a, y :: b, ha, hb, h => by
    obtain ⟨a1, a2⟩ := List.pairwise_cons.mp ha
    obtain ⟨b1, b2⟩ := List.pairwise_cons.mp hb
    have e : x = y := by
      rcases List.mem_cons.mp ((h x).mp List.mem_cons_self) with e | h1
      · exact e
      · rcases List.mem_cons.mp ((h y).mpr List.mem_cons_self) with e | h2
        · exact e.symm
        · have := b1 x h1
          have := a1 y h2
          omega
    subst e
    congr 1
    refine pw_uniq a2 b2 fun k => ⟨fun hk => ?_, fun hk => ?_⟩
    · rcases List.mem_cons.mp ((h k).mp (List.mem_cons_of_mem _ hk)) with e | h1
      · have := a1 k hk; omega
      · exact h1
    · rcases List.mem_cons.mp ((h k).mpr (List.mem_cons_of_mem _ hk)) with e | h1
      · have := b1 k hk; omega
      · exact h1
def rSetI (K : PySem.W.Frag) (w : World) : List V → Hp → VK → Prop := fun xs H Q => ∃ (l : Addr) (ns : List Int), xs = [V.ref l] ∧ (SqL K H l (ns.map V.int) ∨ SqT K H l (ns.map V.int)) ∧ ns.length < 64 ∧
  ∀ a c, H a = none → c ≤ ns.length → Q (.ref a) (upd H a (SetO w a (fun j => decide (j ∈ ns)) c))
section
variable {X : Cx} {B : Bag} {Wx : WX} {pos p p2 pos2 : Pos} {a : Expr} {fa : E}
theorem cr_setI (hc : X.calm = true) : CallR X (.type "set") (rSetI X.K X.w) := by
  intro pins s σ H xs us Q I r h
  obtain ⟨l, ns, rfl, hl, hf, q⟩ := h
  rw [Vals.ref1 r]
  have hn : H s.heap.objs.size = none := I.hok.fresh (Nat.le_refl _)
  have hb : ns.length + 1 < scanBound := Nat.lt_of_le_of_lt hf (by decide)
  rcases hl with hl | hl
  · obtain ⟨its, rv, pl, hz⟩ := I.list hl
    exact call_set_lstI ns (I.ok.hd hc) pl.isList (by rw [List.toList_toArray]; exact rv.ints) hb fun h' tk c R hc' k =>
      ⟨.ref s.heap.objs.size, upd H s.heap.objs.size (SetO X.w s.heap.objs.size (fun j => decide (j ∈ ns)) c), I.laid (t' := tk) k (Nat.le_refl _) (setO_new R), rfl, q _ c hn hc'⟩
  · obtain ⟨its, rv, pl, hz⟩ := I.tuple hl
    exact call_set_tupI ns (I.ok.hd hc) pl (by rw [List.toList_toArray]; exact rv.ints) hb fun h' tk c R hc' k =>
      ⟨.ref s.heap.objs.size, upd H s.heap.objs.size (SetO X.w s.heap.objs.size (fun j => decide (j ∈ ns)) c), I.laid (t' := tk) k (Nat.le_refl _) (setO_new R), rfl, q _ c hn hc'⟩
theorem sf_sortSet (hc : X.calm = true) (hg : Gl X "sorted") (hm : X.mg "sorted" = none) (hg2 : Gl X "set") (hm2 : X.mg "set" = none) (ha : PE X a (tE X.K B Wx fa)) (ns : notStar a = true) :
    PE X (.Call (.Name "sorted" p) [.Call (.Name "set" p2) [a] [] pos2] [] pos) (tF X.K B Wx (sSortSet fa)) := by
  refine peI (pe_callB (cr_sortedSet hc) hg hm (by decide +kernel) (pa_cons (se_callT1 (cr_setI hc) hg2 hm2 (by decide +kernel) (by decide) (by decide) ha ns (fun σ H Q q => q)) pa_nil (star_cons rfl _ _)) (by decide) (by decide) (star_cons rfl _ _) rfl) fun σ H Q q => ?_
  obtain ⟨m, l, h, k, x, rh, rl, e, hk, hx⟩ := q
  refine ⟨m, l, h, _, x, rh, rl, e, fun m1 v w h1 H1 x1 r1 rv e1 => ?_, hx⟩
  obtain ⟨ws, xs, q, rfl, hq, t, e2⟩ := itemsK_ok r1 rv e1
  obtain ⟨is, rfl, e3⟩ := intsW_ok t e2
  obtain ⟨e4, e5⟩ := cond_f e3
  rw [blt_ok, lenW_ok, t.length, List.length_map] at e4
  have e4' := of_decide_eq_true e4
  refine ⟨q, is, rfl, hq, e4', fun b c hb hc' => ?_⟩
  refine ⟨b, _, c, rfl, upd_same, by omega, fun ns' p' hpw hmem hlen hp' => ?_⟩
  have eq : ns' = srtU is := pw_uniq hpw (srtU_pw is) fun k' => by rw [hmem, srtU_mem]; simp
  subst eq
  have x2 : Ext m1 H1 m1 (upd (upd H1 b (SetO X.w b (fun j => decide (j ∈ is)) c)) p' (.lst ((srtU is).map V.int))) := (Ext.laid hb).trans (Ext.laid hp')
  have hp1 : H1 p' = none := by
    by_cases z : p' = b
    · subst z; exact hb
    · rw [upd_ne z] at hp'; exact hp'
  refine hk m1 (toW (srtU is)) _ h1 _ p' (x1.trans x2) ((r1.laid hb).laid hp') upd_same ?_ ?_ (toW_rvs _) e5
  · cases z : H p' with
    | none => rfl
    | some u => exact absurd hp1 (x1.there p' (by rw [z]; exact fun z => nomatch z))
  · exact r1.no0 hp1
end
end
end It

set_option Elab.async false
set_option linter.all false
set_option maxRecDepth 100000
set_option maxHeartbeats 1000000
/-! ItPf: functions as values; calls of what an expression gives. -/
namespace It
open PySem PySem.Spec PyProof.Rows L2
noncomputable section
def eFun (i : Nat) (s : Str) : E := fun _ _ h k _ => k (.exv i [.str s]) h
def fnOf' (w : W) (c : Str → Bool) : Bool := W.casesOn w false (fun _ => false) (fun _ => false) (fun _ => false) (fun _ => false) (fun _ => false) (fun _ => false)
  (fun _ l => List.casesOn l false fun v r => List.casesOn r (W.casesOn v false (fun _ => false) (fun _ => false) c (fun _ => false) (fun _ => false) (fun _ => false) (fun _ _ => false)) (fun _ _ => false))
def eCallV (F : Str → Option (Nat × Nat × Bool)) (f : E) (n : Nat) (g : Es) : E := fun c l h k x => f c l h (fun w h1 => fnOf' w fun s => Option.casesOn (F s) false fun p => cond (Nat.beq n p.2.1) (g c l h1 (fun ws h2 => c p.1 ws h2 k x) x) false) x
def eCallVK (F : Str → Option (Nat × Nat × Bool)) (kt : Str → List Str → Option (List Nat)) (f : E) (ns : List Str) (g : Es) : E := fun c l h k x => f c l h (fun w h1 => fnOf' w fun s => Option.casesOn (F s) false fun p => Option.casesOn (kt s ns) false fun idx => g c l h1 (fun ws h2 => pickK idx ws fun vs => c p.1 vs h2 k x) x) x
theorem fnOf_ok {K : PySem.W.Frag} {m : Mp} {H : Hp} {w : W} {v : V} (r : RV K m H w v) {c : Str → Bool} (q : fnOf' w c = true) : ∃ s, v = .ref (He.ga K s) ∧ c s = true := by
  cases r with
  | fn => exact ⟨_, rfl, q⟩
  | _ => cases (show false = true from q)
def noAttr : Expr → Bool
  | .Attribute .. => false
  | _ => true
theorem callForm {fe : Expr} {args : List Expr} {pos : Pos} {env : Env} {M : Model} {A : Around} {Q : Value → Shared → Prop} {E : Value → Shared → Prop} {s : Shared} (h : noAttr fe = true)
    (q : wpAny M A (eval fe env) (fun f s₁ => wpAny M A (callWith pos f [] (backTo pos (starEach args env)) (backToKw pos (keywordEach [] env))) Q E s₁) E s) : wpAny M A (eval (.Call fe args [] pos) env) Q E s := by
  cases fe <;> first | exact wpAny_Call_Name_kw q | exact wpAny_bind q | cases h
theorem callFormK {fe : Expr} {kws : List Keyword} {pos : Pos} {env : Env} {M : Model} {A : Around} {Q : Value → Shared → Prop} {E : Value → Shared → Prop} {s : Shared} (h : noAttr fe = true)
    (q : wpAny M A (eval fe env) (fun f s₁ => wpAny M A (callWith pos f [] (backTo pos (starEach [] env)) (backToKw pos (keywordEach kws env))) Q E s₁) E s) : wpAny M A (eval (.Call fe [] kws pos) env) Q E s := by
  cases fe <;> first | exact wpAny_Call_Name_kw q | exact wpAny_bind q | cases h
section
variable {X : Cx} {B : Bag} {Wx : WX} {pos p : Pos} {x : Str} {i n : Nat} {kw : List Str → Option (List Nat)}
theorem se_fun (F : FnB X B x i n kw) (hg : Gl X x) (hd : (x == ("__debug__" : Str)) = false) : PE X (.Name x pos) (tE X.K B Wx (eFun i x)) := by
  obtain ⟨k, f, fd, ps, _, _, hm, _, _, hf, _⟩ := F.ex
  subst hf
  exact peI (pe_glob (v := .ref (He.ga X.K x)) hg hm rfl hd) fun σ H Q ⟨m, l, h, k, x, rh, rl, e, hk, hx⟩ => hk m _ _ h H .refl rh .fn e
theorem se_callV {fe a : Expr} {fc : E} {as : List Expr} {g : Es} {T : Str → Option (Nat × Nat × Bool)} {kt : Str → List Str → Option (List Nat)} (hT : ∀ x i n sh, T x = some (i, n, sh) → FnB X B x i n (kt x)) (tk : Takes X Wx) (hf : PE X fe (tE X.K B Wx fc)) (ha : PA X (a :: as) (tA X.K B Wx (a :: as).length g)) (ns : (a :: as).all notStar = true) (hn : noAttr fe = true) :
    PE X (.Call fe (a :: as) [] pos) (tE X.K B Wx (eCallV T fc (a :: as).length g)) := by
  refine ⟨fun pins s σ H Q I h => ?_⟩
  obtain ⟨m, l, h, k0, x0, rh, rl, e, hk0, hx0⟩ := h
  refine callForm hn (thn (hf.run pins s σ H (fun y H1 => ∃ s', y = .ref (He.ga X.K s') ∧ ∃ i n sh, T s' = some (i, n, sh) ∧ n = (a :: as).length ∧ tA X.K B Wx (a :: as).length g σ H1 fun vs H2 => spF X.K B i n vs H2 Q (WE Wx σ)) I ?_) fun u s1 ⟨y, H1, I1, ry, q⟩ => ?_)
  · refine ⟨m, l, h, _, x0, rh, rl, e, fun m1 w v h1 H1 x1 r1 rv e1 => ?_, hx0⟩
    obtain ⟨s', rfl, e2⟩ := fnOf_ok rv e1
    cases z : T s' with
    | none => rw [z] at e2; cases (show false = true from e2)
    | some p =>
      obtain ⟨i, n', sh⟩ := p
      rw [z] at e2
      obtain ⟨e3, e4⟩ := cond_f (show cond (Nat.beq (a :: as).length n') (g B.c l h1 (fun ws h2 => B.c i ws h2 k0 x0) x0) false = true from e2)
      have en : n' = (a :: as).length := (Nat.eq_of_beq_eq_true e3).symm
      subst en
      refine ⟨s', rfl, i, _, sh, z, rfl, m1, l, h1, _, x0, r1, rl.mono rh x1, e4, fun m2 ws xs h2 H2 x2 r2 rvs hl e5 => ?_, hx0.mono x1⟩
      exact ⟨hl, m2, h2, ws, k0, x0, r2, rvs, e5, hk0.mono (x1.trans x2), xk_of (hx0.mono (x1.trans x2))⟩
  · obtain ⟨s', rfl, i, n', sh, z, en, q1⟩ := q
    obtain rfl : u = Value.ref (He.ga X.K s') := ry
    obtain ⟨k, f, fd, ps, F, hr, hm, hkp, hb, hfa, hn2, _⟩ := (hT _ _ _ _ z).ex
    subst hfa
    rw [List.all_cons] at ns
    obtain ⟨n1, n2⟩ := Bool.and_eq_true_iff.mp ns
    refine PySem.W.callWith_K (h₀ := X.base) I1.ok.mod.kin hkp (thn (ha.run pos pins s1 σ H1 _ I1 q1) fun us s2 ⟨vs, H2, I2, r, q2⟩ => ⟨I2.kIn, ?_⟩) (star_cons n1 as X.env) (star_none as pos X.env n2)
    exact run_fnS F hr hb (passAt tk σ) I2 r q2
theorem se_callVK {fe : Expr} {fc : E} {q : Nat} {kws : List Keyword} {ns : List Str} {es : List Expr} {g : Es} {T : Str → Option (Nat × Nat × Bool)} {kt : Str → List Str → Option (List Nat)} (hT : ∀ x i n sh, T x = some (i, n, sh) → FnB X B x i n (kt x)) (tk : Takes X Wx) (hf : PE X fe (tE X.K B Wx fc)) (hk : kwsOf kws = some (ns, es)) (hq : q = ns.length) (ha : PK X kws (tA X.K B Wx q g)) (hn : noAttr fe = true) :
    PE X (.Call fe [] kws pos) (tE X.K B Wx (eCallVK T kt fc ns g)) := by
  refine ⟨fun pins s σ H Q I h => ?_⟩
  obtain ⟨m, l, h, k0, x0, rh, rl, e, hk0, hx0⟩ := h
  obtain ⟨b1, b2, b3⟩ := kws_ok pos X.env hk
  refine callFormK hn (thn (hf.run pins s σ H (fun y H1 => ∃ s', y = .ref (He.ga X.K s') ∧ ∃ i n sh, T s' = some (i, n, sh) ∧ tA X.K B Wx q g σ H1 fun vs H2 => ∀ us s1, Inv X pins σ H2 s1 → Vals vs us → wpAny (model X.prog X.w) X.A (call (.ref (He.ga X.K s')) [] (ns.zip us)) (EP X pins σ Q) X.xe s1) I ?_) fun u s1 ⟨y, H1, I1, ry, q1⟩ => ?_)
  · refine ⟨m, l, h, _, x0, rh, rl, e, fun m1 w v h1 H1 x1 r1 rv e1 => ?_, hx0⟩
    obtain ⟨s', rfl, e2⟩ := fnOf_ok rv e1
    cases z : T s' with
    | none => rw [z] at e2; cases (show false = true from e2)
    | some p =>
      obtain ⟨i, n', sh⟩ := p
      rw [z] at e2
      cases z2 : kt s' ns with
      | none => rw [z2] at e2; cases (show false = true from e2)
      | some idx =>
      rw [z2] at e2
      have e4 : g B.c l h1 (fun ws h2 => pickK idx ws fun vs => B.c i vs h2 k0 x0) x0 = true := e2
      refine ⟨s', rfl, i, _, sh, z, m1, l, h1, _, x0, r1, rl.mono rh x1, e4, fun m2 ws xs h2 H2 x2 r2 rvs hl e5 us s2 I2 ru => ?_, hx0.mono x1⟩
      obtain ⟨k, f, fd, ps, F, hr, hm, hkp, hb, hfa, hn2, hkw⟩ := (hT _ _ _ _ z).ex
      subst hfa
      obtain ⟨k1, k2, k3⟩ := hkw ns idx z2
      obtain ⟨ws', vs', a1, a2, a3⟩ := pickK_ok rvs ru e5 fun j hj => by
        have z := k2 j hj
        rw [← ru.length, hl, hq]; exact z
      have hlen : vs'.length = n' := by
        rw [a2.length, ← hn2, k1]
        unfold pickV
        rw [List.length_map]
      have sp : spF X.K B i n' vs' H2 Q (WE Wx σ) := ⟨hlen, m2, h2, ws', k0, x0, r2, a1, a3, hk0.mono (x1.trans x2), xk_of (hx0.mono (x1.trans x2))⟩
      refine wpAny_call (codeAny_mono (F.run X.A X.stack s2 H2 ⟨[], ns.zip us⟩ (pickV idx us) vs' Q (WE Wx σ) hr I2.env0 (k3 s2 us I2.kIn (by rw [← ru.length, hl, hq])) a2 sp) fun r s' hq => ?_)
      cases r with
      | error e => exact passAt tk σ pins H2 s2 e s' I2 hq
      | ok fl =>
        cases fl with
        | ret u => exact I2.after hq
        | next => exact False.elim hq
        | brk => exact False.elim hq
        | cont => exact False.elim hq
  · obtain ⟨s', rfl, i, n', sh, z, q1⟩ := q1
    obtain rfl : u = Value.ref (He.ga X.K s') := ry
    obtain ⟨k, f, fd, ps, F, hr, hm, hkp, hb, hfa, hn2, _⟩ := (hT _ _ _ _ z).ex
    subst hfa
    refine PySem.W.callWith_KW0 (h₀ := X.base) I1.ok.mod.kin hkp b1 (thn (ha.run pos pins s1 σ H1 _ I1 q1) fun us s2 ⟨vs, H2, I2, r, q2⟩ => ⟨I2.kIn, ?_⟩) (by rw [b2]; rfl)
    rw [b3]
    exact q2 us s2 I2 r
end
end
end It

set_option Elab.async false
set_option linter.all false
set_option maxRecDepth 100000
set_option maxHeartbeats 1000000
/-! ItPg: list(range(..)); sorted of alike data. -/
namespace It
open PySem PySem.Spec PyProof.Rows L2
noncomputable section
/-! ### list(range(..)) -/
def rgW (n : Nat) : Int → List W := Nat.rec (fun _ => []) (fun _ ih i => W.int i :: ih (Int.add i 1)) n
def rgK (i j : Int) (c : List W → Bool) : Bool := cond (Nat.blt (iabs i) big62) (cond (Nat.blt (iabs j) big62) (cond (Nat.ble (Int.sub j i).toNat line) (c (rgW (Int.sub j i).toNat i)) false) false) false
def sRg1 (a : E) : Es := fun c l h k x => a c l h (fun w h1 => intOf w fun j => rgK 0 j fun ws => k ws h1) x
def sRg2 (a b : E) : Es := fun c l h k x => a c l h (fun v h1 => b c l h1 (fun w h2 => intOf v fun i => intOf w fun j => rgK i j fun ws => k ws h2) x) x
theorem rgW_rvs {K : PySem.W.Frag} {m : Mp} {H : Hp} : ∀ (n : Nat) (i : Int), RVs K m H (rgW n i) ((List.range n).map fun (j : Nat) => V.int (i + (j : Nat)))
  | 0, i => .nil
  | n + 1, i => by
    rw [List.range_succ_eq_map, List.map_cons, List.map_map]
    have e : (fun (j : Nat) => V.int (i + (j : Nat))) ∘ Nat.succ = fun (j : Nat) => V.int (i + 1 + (j : Nat)) := by
      funext j
      show V.int (i + ((j + 1 : Nat) : Int)) = _
      rw [show i + ((j + 1 : Nat) : Int) = i + 1 + (j : Int) by omega]
    rw [e]
    have z := rgW_rvs (K := K) (m := m) (H := H) n (i + 1)
    have e0 : i + ((0 : Nat) : Int) = i := by omega
    rw [e0]
    exact .cons (.int i) z
theorem rgK_ok {i j : Int} {c : List W → Bool} (e : rgK i j c = true) : RgOk i j ∧ c (rgW (j - i).toNat i) = true := by
  obtain ⟨e1, e2⟩ := cond_f e
  obtain ⟨e3, e4⟩ := cond_f e2
  obtain ⟨e5, e6⟩ := cond_f e4
  rw [blt_ok, iabs_ok] at e1 e3
  rw [ble_ok] at e5
  have h1 := of_decide_eq_true e1
  have h3 := of_decide_eq_true e3
  have h5 := of_decide_eq_true e5
  have hb : big62 = 2 ^ 62 := by decide
  rw [hb] at h1 h3
  have hl : line ≤ 2 ^ 24 := by decide
  have h5' : (j - i).toNat ≤ line := h5
  exact ⟨⟨by omega, by omega, by omega, by omega, Nat.le_trans h5' hl⟩, e6⟩
section
variable {X : Cx} {B : Bag} {Wx : WX} {pos p p2 pos2 : Pos} {a b : Expr} {fa fb : E}
theorem rg_fin {m m1 : Mp} {H H1 : Hp} {h1 : IH} {i j : Int} {k : KL} {Q : VK} (x1 : Ext m H m1 H1) (r1 : RepH X.K m1 h1 H1) (hk : FOk X.K m H k Q) (e : k (rgW (j - i).toNat i) h1 = true) (q : Addr) (hq : H1 q = none) : Q (.ref q) (upd H1 q (.lst (rgV i j))) := by
  refine hk m1 _ _ h1 _ q (x1.trans (.laid hq)) (r1.laid hq) upd_same ?_ (r1.nofree hq) (RVs.mono r1 (.laid hq) (rgW_rvs (K := X.K) (m := m1) (H := H1) _ i)) e
  cases z : H q with
  | none => rfl
  | some u => exact absurd hq (x1.there q (by rw [z]; exact fun z => nomatch z))
theorem sf_rg1 (hc : X.calm = true) (hg : Gl X "list") (hm : X.mg "list" = none) (hg2 : Gl X "range") (hm2 : X.mg "range" = none) (ha : PE X a (tE X.K B Wx fa)) (na : notStar a = true) :
    PE X (.Call (.Name "list" p) [.Call (.Name "range" p2) [a] [] pos2] [] pos) (tF X.K B Wx (sRg1 fa)) := by
  refine peI (pe_listRg hc hg hm (prg_1 hg2 hm2 ha (star_cons na _ _)) (star_cons rfl _ _)) fun σ H Q ⟨m, l, h, k, x, rh, rl, e, hk, hx⟩ => ?_
  refine ⟨m, l, h, _, x, rh, rl, e, fun m1 v w h1 H1 x1 r1 rv e1 => ?_, hx⟩
  obtain ⟨j, rfl, rfl, e2⟩ := intOf_ok rv e1
  obtain ⟨ok, e3⟩ := rgK_ok e2
  exact ⟨j, rfl, ok, fun q hq => rg_fin x1 r1 hk e3 q hq⟩
theorem sf_rg2 (hc : X.calm = true) (hg : Gl X "list") (hm : X.mg "list" = none) (hg2 : Gl X "range") (hm2 : X.mg "range" = none) (ha : PE X a (tE X.K B Wx fa)) (hb : PE X b (tE X.K B Wx fb)) (na : notStar a = true) (nb : notStar b = true) :
    PE X (.Call (.Name "list" p) [.Call (.Name "range" p2) [a, b] [] pos2] [] pos) (tF X.K B Wx (sRg2 fa fb)) := by
  refine peI (pe_listRg hc hg hm (prg_2 hg2 hm2 ha hb (star_cons na _ _) (star_cons nb _ _) (star_none [b] _ _ (by rw [List.all_cons, nb]; rfl))) (star_cons rfl _ _)) fun σ H Q ⟨m, l, h, k, x, rh, rl, e, hk, hx⟩ => ?_
  refine ⟨m, l, h, _, x, rh, rl, e, fun m1 v w h1 H1 x1 r1 rv e1 => ?_, hx⟩
  refine ⟨m1, l, h1, _, x, r1, rl.mono rh x1, e1, fun m2 v2 w2 h2 H2 x2 r2 rv2 e2 => ?_, hx.mono x1⟩
  obtain ⟨i, rfl, rfl, e3⟩ := intOf_ok (RV.mono r1 x2 rv) e2
  obtain ⟨j, rfl, rfl, e4⟩ := intOf_ok rv2 e3
  obtain ⟨ok, e5⟩ := rgK_ok e4
  exact ⟨i, j, rfl, rfl, ok, fun q hq => rg_fin (x1.trans x2) r2 hk e5 q hq⟩
end
/-! ### the order -/
theorem ltI_irr (a : List Int) : ltI a a = false := by rw [← ltI_ok]; exact PyProof.Rows.lex_irrefl _
theorem ltI_neg (a b c : List Int) (h : ltI a c = true) : ltI a b = true ∨ ltI b c = true := by
  rw [← ltI_ok] at h
  rw [← ltI_ok a b, ← ltI_ok b c]
  exact PyProof.Rows.lex_negTrans _ _ _ h
theorem ltI_tr (a b c : List Int) (h : ltI a b = true) (h' : ltI b c = true) : ltI a c = true := by
  rw [← ltI_ok] at h h'
  rw [← ltI_ok a c]
  exact PyProof.Rows.lex_trans _ _ _ h h'
section
variable {β : Type}
def insL (le : β → β → Bool) (x : β) : List β → List β
  | [] => [x]
  | y :: r => cond (le x y) (x :: y :: r) (y :: insL le x r)
def sortL (le : β → β → Bool) : List β → List β
  | [] => []
  | x :: l => insL le x (sortL le l)
theorem insL_skip (le : β → β → Bool) (x : β) : ∀ (l₁ l₂ : List β), (∀ b ∈ l₁, le x b = false) → (∀ b ∈ l₂, le x b = true) → insL le x (l₁ ++ l₂) = l₁ ++ x :: l₂
  | [], [], _, _ => rfl
  | [], y :: r, _, h2 => by
    show cond (le x y) _ _ = _
    rw [h2 y List.mem_cons_self]; rfl
  | y :: l₁, l₂, h1, h2 => by
    show cond (le x y) (x :: y :: (l₁ ++ l₂)) (y :: insL le x (l₁ ++ l₂)) = y :: (l₁ ++ x :: l₂)
    rw [h1 y List.mem_cons_self, insL_skip le x l₁ l₂ (fun b hb => h1 b (List.mem_cons_of_mem _ hb)) h2]; rfl
theorem sortL_ok (le : β → β → Bool) (tr : ∀ a b c, le a b = true → le b c = true → le a c = true) (to : ∀ a b, (le a b || le b a) = true) : ∀ l : List β, l.mergeSort le = sortL le l
  | [] => by simp [sortL]
  | x :: l => by
    obtain ⟨l₁, l₂, e1, e2, e3⟩ := List.mergeSort_cons tr to x l
    have pw := List.pairwise_mergeSort tr to (x :: l)
    rw [e1] at pw
    have p2 := (List.pairwise_cons.mp (List.pairwise_append.mp pw).2.1).1
    show _ = insL le x (sortL le l)
    rw [← sortL_ok le tr to l, e1, e2, insL_skip le x l₁ l₂ (fun b hb => by simpa using e3 b hb) fun b hb => p2 b hb]
theorem insL_map {γ : Type} (le : γ → γ → Bool) (g : β → γ) (x : β) : ∀ l : List β, (insL (fun a b => le (g a) (g b)) x l).map g = insL le (g x) (l.map g)
  | [] => rfl
  | y :: r => by
    show (cond (le (g x) (g y)) (x :: y :: r) (y :: insL (fun a b => le (g a) (g b)) x r)).map g = cond (le (g x) (g y)) (g x :: g y :: r.map g) (g y :: insL le (g x) (r.map g))
    rw [← insL_map le g x r]
    cases le (g x) (g y) <;> rfl
theorem sortL_map {γ : Type} (le : γ → γ → Bool) (g : β → γ) : ∀ l : List β, (sortL (fun a b => le (g a) (g b)) l).map g = sortL le (l.map g)
  | [] => rfl
  | x :: l => by
    show (insL (fun a b => le (g a) (g b)) x (sortL (fun a b => le (g a) (g b)) l)).map g = insL le (g x) (sortL le (l.map g))
    rw [insL_map, sortL_map le g l]
theorem insL_mem (le : β → β → Bool) (x z : β) : ∀ l : List β, z ∈ insL le x l ↔ z = x ∨ z ∈ l
  | [] => by show z ∈ [x] ↔ _; simp
  | y :: r => by
    show z ∈ cond (le x y) (x :: y :: r) (y :: insL le x r) ↔ _
    cases le x y with
    | true => show z ∈ x :: y :: r ↔ _; simp
    | false =>
      show z ∈ y :: insL le x r ↔ _
      rw [List.mem_cons, insL_mem le x z r, List.mem_cons]
      constructor
      · rintro (h | h | h) <;> simp [h]
      · rintro (h | h | h) <;> simp [h]
theorem sortL_mem (le : β → β → Bool) (z : β) : ∀ l : List β, z ∈ sortL le l ↔ z ∈ l
  | [] => Iff.rfl
  | x :: l => by
    show z ∈ insL le x (sortL le l) ↔ _
    rw [insL_mem, sortL_mem le z l, List.mem_cons]
theorem insL_len (le : β → β → Bool) (x : β) : ∀ l : List β, (insL le x l).length = l.length + 1
  | [] => rfl
  | y :: r => by
    show (cond (le x y) (x :: y :: r) (y :: insL le x r)).length = _
    cases le x y with
    | true => rfl
    | false => exact congrArg Nat.succ (insL_len le x r)
theorem sortL_len (le : β → β → Bool) : ∀ l : List β, (sortL le l).length = l.length
  | [] => rfl
  | x :: l => by
    show (insL le x (sortL le l)).length = _
    rw [insL_len, sortL_len le l]; rfl
end
/-- an item with its key -/
structure KyB where
  q : W
  w : W
  v : V
  d : PyData
  t : List Int
  e : PySem.W.keyToks d = t.map .inl
def leK (a b : KyB) : Bool := not (ltI b.t a.t)
theorem kb_le : PySem.W.dataLe false KyB.d = leK := by
  funext a b
  show (!(PyProof.Rows.lexLt PyProof.Rows.itemOrd (PySem.W.keyToks b.d) (PySem.W.keyToks a.d))) = not (ltI b.t a.t)
  rw [a.e, b.e, ltI_ok]
theorem leK_tr (a b c : KyB) (h1 : leK a b = true) (h2 : leK b c = true) : leK a c = true := by
  have h1 : (!ltI b.t a.t) = true := h1
  have h2 : (!ltI c.t b.t) = true := h2
  show (!ltI c.t a.t) = true
  cases q : ltI c.t a.t with
  | false => rfl
  | true =>
    rcases ltI_neg _ b.t _ q with z | z
    · rw [z] at h2; cases h2
    · rw [z] at h1; cases h1
theorem leK_to (a b : KyB) : (leK a b || leK b a) = true := by
  show (!ltI b.t a.t || !ltI a.t b.t) = true
  cases q : ltI b.t a.t with
  | false => rfl
  | true =>
    cases q2 : ltI a.t b.t with
    | false => rfl
    | true =>
      have z := ltI_tr _ _ _ q q2
      rw [ltI_irr] at z; cases z
/-! ### the evaluator's -/
abbrev KI := List Int × W
def insT (x : KI) (l : List KI) : List KI := List.rec [x] (fun y r ih => cond (ltI y.1 x.1) (y :: ih) (x :: y :: r)) l
def frcL {α : Type} (l : List α) (c : List α → Bool) : Bool := List.rec (fun c => c []) (fun x _ ih c => ih fun r => c (x :: r)) l c
def srtT (l : List (W × W)) : (List KI → Bool) → Bool := List.rec (fun c => c []) (fun x _ ih c => ih fun r => frcL (tk 40 x.1) fun t => frcL (insT (t, x.2) r) c) l
def sndT (l : List KI) : List W := List.rec [] (fun x _ ih => x.2 :: ih) l
def keysK (kf : W → IH → (W → Bool) → Bool) (h : IH) (ws : List W) : (List (W × W) → Bool) → Bool := List.rec (fun c => c []) (fun w _ ih c => kf w h fun q => ih fun r => c ((q, w) :: r)) ws
def tupNe (w : W) : Bool := W.casesOn w false (fun _ => false) (fun _ => false) (fun _ => false) (fun l => not (isNil l)) (fun _ => false) (fun _ => false) (fun _ _ => false)
def intB (w : W) : Bool := W.casesOn w false (fun _ => false) (fun _ => true) (fun _ => false) (fun _ => false) (fun _ => false) (fun _ => false) (fun _ _ => false)
def allP (f : W → Bool) (l : List (W × W)) : Bool := List.rec true (fun x _ ih => cond (f x.1) ih false) l
def sortK (sm : Bool) (kf : W → IH → (W → Bool) → Bool) (h : IH) (ws : List W) (c : List W → Bool) : Bool :=
  keysK kf h ws fun ps => cond (allP (okO 40) ps) (cond (allP (fun x => allP (alW 40 x) ps) ps) (cond (cond (allP tupNe ps) true (cond (allP intB ps) true (cond sm (Nat.ble (lenW ws) 1) false))) (cond (Nat.ble (lenW ws) line) (srtT ps fun r => c (sndT r)) false) false) false) false
theorem frcL_ok {α : Type} : ∀ (l : List α) (c : List α → Bool), frcL l c = true → c l = true
  | [], c, h => h
  | x :: l, c, h => frcL_ok l (fun r => c (x :: r)) h
theorem insT_ok (x : KI) : ∀ l, insT x l = insL (fun a b : KI => not (ltI b.1 a.1)) x l
  | [] => rfl
  | y :: r => by
    show cond (ltI y.1 x.1) (y :: insT x r) (x :: y :: r) = cond (not (ltI y.1 x.1)) (x :: y :: r) (y :: insL _ x r)
    rw [insT_ok x r]
    cases ltI y.1 x.1 <;> rfl
theorem srtT_ok : ∀ (l : List (W × W)) (c : List KI → Bool), srtT l c = true → c (sortL (fun a b : KI => not (ltI b.1 a.1)) (l.map fun x => (tk 40 x.1, x.2))) = true
  | [], c, h => h
  | x :: l, c, h => by
    have z := srtT_ok l _ h
    have z2 := frcL_ok _ _ (frcL_ok _ _ z)
    rw [insT_ok] at z2
    exact z2
theorem sndT_ok : ∀ l : List KI, sndT l = l.map (·.2)
  | [] => rfl
  | _ :: l => congrArg (List.cons _) (sndT_ok l)
theorem allP_ok {f : W → Bool} : ∀ {l : List (W × W)}, allP f l = true → ∀ x ∈ l, f x.1 = true
  | [], _, _, h => nomatch h
  | y :: l, e, x, hx => by
    obtain ⟨e1, e2⟩ := cond_f (show cond (f y.1) (allP f l) false = true from e)
    rcases List.mem_cons.mp hx with rfl | hx
    · exact e1
    · exact allP_ok e2 x hx
theorem okO_dv {h : IH} : ∀ (n : Nat) (w : W), okO n w = true → ∃ d, DV h w d
  | 0, w, e => by cases (show false = true from e)
  | n + 1, w, e => by
    cases w with
    | int i => exact ⟨_, .int i⟩
    | tup l =>
      have go : ∀ l : List W, allB (okO n) l = true → ∃ ds, DVs h l ds := by
        intro l
        induction l with
        | nil => intro _; exact ⟨_, .nil⟩
        | cons x l ihl =>
          intro q
          have q' : and (okO n x) (allB (okO n) l) = true := q
          rw [Bool.and_eq_true] at q'
          obtain ⟨d, hd⟩ := okO_dv n x q'.1
          obtain ⟨ds, hds⟩ := ihl q'.2
          exact ⟨_, .cons hd hds⟩
      obtain ⟨ds, hds⟩ := go l e
      exact ⟨_, .tup hds⟩
    | _ => cases (show false = true from e)
/-- the items with their keys: P tells what the key of a value is -/
theorem keysK_ok {K : PySem.W.Frag} {m : Mp} {H : Hp} {h : IH} {kf : W → IH → (W → Bool) → Bool} {P : V → W → Prop} (hkf : ∀ w v c, RV K m H w v → kf w h c = true → ∃ q, P v q ∧ c q = true) : ∀ {ws : List W} {xs : List V} {c : List (W × W) → Bool}, RVs K m H ws xs → keysK kf h ws c = true →
    ∃ bs : List (W × W × V), bs.map (·.2.2) = xs ∧ bs.map (·.2.1) = ws ∧ (∀ b ∈ bs, RV K m H b.2.1 b.2.2 ∧ P b.2.2 b.1) ∧ c (bs.map fun b => (b.1, b.2.1)) = true
  | _, _, c, .nil, e => ⟨[], rfl, rfl, fun b hb => (nomatch hb), e⟩
  | w :: ws, x :: xs, c, .cons r t, e => by
    obtain ⟨q, e1, e2⟩ := hkf w x _ r (show kf w h (fun q => keysK kf h ws fun r => c ((q, w) :: r)) = true from e)
    obtain ⟨bs, b1, b2, b3, b4⟩ := keysK_ok hkf t e2
    refine ⟨(q, w, x) :: bs, by rw [List.map_cons, b1], by rw [List.map_cons, b2], fun b hb => ?_, b4⟩
    rcases List.mem_cons.mp hb with rfl | hb
    · exact ⟨r, e1⟩
    · exact b3 b hb
theorem kbs_of {h : IH} : ∀ {bs : List (W × W × V)}, (∀ b ∈ bs, okO 40 b.1 = true) → ∃ ks : List KyB, ks.map (fun k => (k.q, k.w, k.v)) = bs ∧ ∀ k ∈ ks, DV h k.q k.d ∧ k.t = tk 40 k.q ∧ okO 40 k.q = true
  | [], _ => ⟨[], rfl, fun k hk => nomatch hk⟩
  | b :: bs, hb => by
    obtain ⟨ks, e1, e2⟩ := kbs_of (bs := bs) fun c hc => hb c (List.mem_cons_of_mem _ hc)
    have hb0 := hb b List.mem_cons_self
    obtain ⟨d, hd⟩ := okO_dv (h := h) 40 b.1 hb0
    refine ⟨⟨b.1, b.2.1, b.2.2, d, tk 40 b.1, tk_ok 40 b.1 d hb0 hd⟩ :: ks, by rw [List.map_cons, e1], fun k hk => ?_⟩
    rcases List.mem_cons.mp hk with rfl | hk
    · exact ⟨hd, rfl, hb0⟩
    · exact e2 k hk
/-- what a sort is told -/
structure SrtOk (sm : Bool) (K : PySem.W.Frag) (m : Mp) (H : Hp) (h : IH) (P : V → W → Prop) (xs : List V) (ks : List KyB) : Prop where
  vs : ks.map KyB.v = xs
  rv : ∀ k ∈ ks, RV K m H k.w k.v ∧ P k.v k.q
  dv : ∀ k ∈ ks, DV h k.q k.d
  ok : ∀ k ∈ ks, okO 40 k.q = true
  al : PySem.W.AllAlike (ks.map KyB.d)
  so : PySem.W.Sortable (ks.map KyB.d) ∨ (sm = true ∧ ks.length ≤ 1)
  nn : ∀ k ∈ ks, k.d ≠ .none
  dep : ∀ k ∈ ks, k.d.depth ≤ 40
  len : ks.length ≤ sizeLine
theorem tupNe_ok {h : IH} {w : W} {d : PyData} (r : DV h w d) (e : tupNe w = true) : ∃ x r, d = .tuple (x :: r) := by
  cases r with
  | tup t =>
    cases t with
    | nil => cases (show false = true from e)
    | cons a b => exact ⟨_, _, rfl⟩
  | _ => cases (show false = true from e)
theorem intB_ok {h : IH} {w : W} {d : PyData} (r : DV h w d) (e : intB w = true) : d ≠ .none ∧ ∀ xs, d ≠ .tuple xs := by
  cases r with
  | int i => exact ⟨fun z => (nomatch z), fun _ z => (nomatch z)⟩
  | _ => cases (show false = true from e)
theorem sortK_ok {sm : Bool} {K : PySem.W.Frag} {m : Mp} {H : Hp} {h : IH} {kf : W → IH → (W → Bool) → Bool} {P : V → W → Prop} (hkf : ∀ w v c, RV K m H w v → kf w h c = true → ∃ q, P v q ∧ c q = true) {ws : List W} {xs : List V} {c : List W → Bool} (rv : RVs K m H ws xs) (e : sortK sm kf h ws c = true) :
    ∃ ks : List KyB, SrtOk sm K m H h P xs ks ∧ RVs K m H ((sortL leK ks).map KyB.w) ((sortL leK ks).map KyB.v) ∧ c ((sortL leK ks).map KyB.w) = true := by
  obtain ⟨bs, b1, b2, b3, e1⟩ := keysK_ok hkf rv e
  obtain ⟨e2, e3⟩ := cond_f e1
  obtain ⟨e4, e5⟩ := cond_f e3
  obtain ⟨e6, e7⟩ := cond_f e5
  obtain ⟨e8, e9⟩ := cond_f e7
  rw [ble_ok, lenW_ok] at e8
  have e8' := of_decide_eq_true e8
  have mem : ∀ b ∈ bs, (b.1, b.2.1) ∈ bs.map fun b => (b.1, b.2.1) := fun b hb => List.mem_map_of_mem (f := fun b : W × W × V => (b.1, b.2.1)) hb
  obtain ⟨ks, k1, k2⟩ := kbs_of (h := h) (bs := bs) fun b hb => allP_ok e2 _ (mem b hb)
  have kb : ∀ k ∈ ks, (k.q, k.w, k.v) ∈ bs := fun k hk => by rw [← k1]; exact List.mem_map_of_mem (f := fun k : KyB => (k.q, k.w, k.v)) hk
  have kmem : ∀ k ∈ ks, (k.q, k.w) ∈ bs.map fun b => (b.1, b.2.1) := fun k hk => mem _ (kb k hk)
  have ev : ks.map KyB.v = xs := by rw [← b1, ← k1, List.map_map]; rfl
  have ew : ks.map KyB.w = ws := by rw [← b2, ← k1, List.map_map]; rfl
  have len : ks.length = ws.length := by rw [← ew, List.length_map]
  have epq : (bs.map fun b => (b.1, b.2.1)) = ks.map fun k => (k.q, k.w) := by rw [← k1, List.map_map]; rfl
  have rs : ∀ l : List KyB, (∀ k ∈ l, RV K m H k.w k.v) → RVs K m H (l.map KyB.w) (l.map KyB.v) := by
    intro l
    induction l with
    | nil => intro _; exact .nil
    | cons k l ih => intro q; exact .cons (q k List.mem_cons_self) (ih fun c hc => q c (List.mem_cons_of_mem _ hc))
  refine ⟨ks, ⟨ev, fun k hk => b3 _ (kb k hk), fun k hk => (k2 k hk).1, fun k hk => (k2 k hk).2.2, fun d hd d' hd' => ?_, ?_, fun k hk => (dep_ok 40 k.q k.d (k2 k hk).2.2 (k2 k hk).1).2.2, fun k hk => (dep_ok 40 k.q k.d (k2 k hk).2.2 (k2 k hk).1).1, by rw [len]; exact Nat.le_trans e8' line_le⟩, rs _ fun k hk => (b3 _ (kb k ((sortL_mem _ _ _).mp hk))).1, ?_⟩
  · obtain ⟨k, hk, rfl⟩ := List.mem_map.mp hd
    obtain ⟨k', hk', rfl⟩ := List.mem_map.mp hd'
    exact alW_ok 40 k.q k'.q k.d k'.d (allP_ok (allP_ok e4 _ (kmem k hk)) _ (kmem k' hk')) (k2 k hk).1 (k2 k' hk').1
  · rcases cond_t e6 with ⟨z, _⟩ | ⟨_, z⟩
    · refine .inl (.inl fun d hd => ?_)
      obtain ⟨k, hk, rfl⟩ := List.mem_map.mp hd
      exact tupNe_ok (k2 k hk).1 (allP_ok z _ (kmem k hk))
    · rcases cond_t z with ⟨z, _⟩ | ⟨_, z⟩
      · refine .inl (.inr fun d hd => ?_)
        obtain ⟨k, hk, rfl⟩ := List.mem_map.mp hd
        exact intB_ok (k2 k hk).1 (allP_ok z _ (kmem k hk))
      · obtain ⟨z1, z2⟩ := cond_f z
        rw [ble_ok, lenW_ok, ← len] at z2
        exact .inr ⟨z1, of_decide_eq_true z2⟩
  · have z := srtT_ok _ _ e9
    rw [sndT_ok, epq, List.map_map] at z
    have ek : ks.map ((fun x : W × W => (tk 40 x.1, x.2)) ∘ fun k : KyB => (k.q, k.w)) = ks.map fun k => (k.t, k.w) := by
      refine List.map_congr_left fun k hk => ?_
      show (tk 40 k.q, k.w) = (k.t, k.w)
      rw [(k2 k hk).2.1]
    rw [ek, ← sortL_map (fun a b : KI => not (ltI b.1 a.1)) (fun k : KyB => (k.t, k.w)), List.map_map] at z
    exact z
/-! ### sorted(xs) -/
def sSortD (a : E) : Es := fun c l h k x => a c l h (fun w h1 => lstK w h1 fun ws => sortK true (fun w _ c => c w) h1 ws fun r => k r h1) x
def sSortF (f : Es) : Es := fun c l h k x => f c l h (fun ws h1 => sortK true (fun w _ c => c w) h1 ws fun r => k r h1) x
def rSrt (K : PySem.W.Frag) : List V → Hp → VK → Prop := fun vs H Q => ∃ (a : Addr) (ks : List KyB), vs = [.ref a] ∧ SqL K H a (ks.map KyB.v) ∧ DpAll K H (ks.map KyB.v) (ks.map KyB.d) ∧ PySem.W.AllAlike (ks.map KyB.d) ∧ (PySem.W.Sortable (ks.map KyB.d) ∨ ks.length ≤ 1) ∧ (∀ k ∈ ks, k.d ≠ .none) ∧ (∀ k ∈ ks, k.d.depth ≤ 40) ∧ ks.length ≤ sizeLine ∧
  ∀ p, H p = none → Q (.ref p) (upd H p (.lst ((sortL leK ks).map KyB.v)))
theorem eachK_of {R : Value → KyB → Prop} : ∀ {bs : List KyB} {us : List Value}, Vals (bs.map KyB.v) us → (∀ b ∈ bs, ∀ u, RelV b.v u → R u b) → PySem.W.EachIs R us bs
  | [], _, .nil, _ => .nil
  | b :: bs, _, .cons r t, h => .cons (h b List.mem_cons_self _ r) (eachK_of t fun c hc => h c (List.mem_cons_of_mem _ hc))
theorem valsK_of {R : Value → KyB → Prop} (h : ∀ u b, R u b → RelV b.v u) : ∀ {bs : List KyB} {us : List Value}, PySem.W.EachIs R us bs → Vals (bs.map KyB.v) us
  | [], _, .nil => .nil
  | b :: bs, _, .cons r t => .cons (h _ _ r) (valsK_of h t)
theorem readsK_of {h : Heap} : ∀ {bs : List KyB} {us : List Value} {as : List Addr}, ReadsAll h us (bs.map KyB.d) as → PySem.W.EachIs (fun v (b : KyB) => ∃ as, Reads h v b.d as) us bs
  | [], _, _, .nil => .nil
  | b :: bs, _, _, .cons r t => .cons ⟨_, r⟩ (readsK_of t)
/-- one item, or none: nothing is compared -/
theorem sorts_one {prog : Program} {w : World} {A : Around} {s : Shared} {vs : List Value} {ds : List PyData} (e : PySem.W.EachIs (fun v d => ∃ as, Reads s.heap v d as) vs ds) (hal : PySem.W.AllAlike ds) (hn : ∀ d ∈ ds, d ≠ .none) (h1 : vs.length ≤ 1) (hu : ∀ d, d ∈ ds → A.units + d.depth < cLine) : PySem.W.SortsAt prog w A s (PySem.W.dataKind s.heap ds) vs := by
  refine ⟨fun v hv => ?_, PyProof.Rows.general', fun E x y a b Q ha hb hq => ?_, fun h2 => absurd h2 (by omega)⟩
  · obtain ⟨d, hd, as, r⟩ := e.left v hv
    exact ⟨_, PySem.W.dataKind_some hal hd r⟩
  · obtain ⟨d, as, hd, ra, rfl⟩ := PySem.W.dataKind_inv ha
    obtain ⟨d', as', hd', rb, rfl⟩ := PySem.W.dataKind_inv hb
    show wpAny _ _ (PyProof.Rows.oneLt' false x y) _ _ _
    exact PySem.W.oneLt_alike (fun z => nomatch z) ra rb (hal d hd d' hd') (hn d hd) (Nat.lt_of_le_of_lt (Nat.add_le_add_left (Nat.min_le_left _ _) _) (hu d hd)) hq
theorem sorts_of {prog : Program} {w : World} {A : Around} {s : Shared} {vs : List Value} {ds : List PyData} (e : PySem.W.EachIs (fun v d => ∃ as, Reads s.heap v d as) vs ds) (hal : PySem.W.AllAlike ds) (hs : PySem.W.Sortable ds ∨ vs.length ≤ 1) (hn : ∀ d ∈ ds, d ≠ .none) (hu : ∀ d, d ∈ ds → A.units + d.depth < cLine) : PySem.W.SortsAt prog w A s (PySem.W.dataKind s.heap ds) vs := by
  rcases hs with hs | hs
  · exact PySem.W.SortsAt.data e hal hs hu
  · exact sorts_one e hal hn hs hu
theorem sorted_dataS {prog : Program} {w : World} {A : Around} {E : Value → Shared → Prop} {s : Shared} {bs : List KyB} {vs : List Value} {R : Value → KyB → Prop} {l : Addr} {Q : Value → Shared → Prop} (hl : s.heap.IsList l vs.toArray) (e : PySem.W.EachIs R vs bs) (er : PySem.W.EachIs (fun v (b : KyB) => ∃ as, Reads s.heap v b.d as) vs bs) (hal : PySem.W.AllAlike (bs.map KyB.d)) (hk : PySem.W.Sortable (bs.map KyB.d) ∨ bs.length ≤ 1) (hn : ∀ b ∈ bs, b.d ≠ .none) (hL : bs.length ≤ sizeLine)
    (hu : ∀ b, b ∈ bs → A.units + 2 + b.d.depth < cLine) (h : ∀ out, out.length = bs.length → PySem.W.EachIs R out (bs.mergeSort (PySem.W.dataLe false KyB.d)) → Q (.ref (s.heap.objs.size + 1)) { s with heap := PyProof.Rows.sortedAll s.heap vs (List.toArray out) }) :
    wpAny (model prog w) A (call (.builtin "sorted") [.ref l]) Q E s := by
  have er' : PySem.W.EachIs (fun v (b : KyB) => ∃ as, Reads (PySem.W.sortingHeap (PySem.W.copyHeap s.heap vs) (s.heap.objs.size + 1) vs) v b.d as) vs bs := er.mono fun _ _ ⟨as, r⟩ => ⟨as, PyProof.Rows.Reads.keeps (fun _ _ => PySem.W.sorting_copy_old) r⟩
  exact PySem.W.sorted_vals hl (sorts_of (s := { s with heap := PySem.W.sortingHeap (PySem.W.copyHeap s.heap vs) (s.heap.objs.size + 1) vs }) (PySem.W.each_map (R := fun v d => ∃ as, Reads (PySem.W.sortingHeap (PySem.W.copyHeap s.heap vs) (s.heap.objs.size + 1) vs) v d as) KyB.d er') hal (by rw [e.length]; exact hk) (fun d hd => by obtain ⟨b, hb, rfl⟩ := List.mem_map.mp hd; exact hn b hb) (PySem.W.bound_map hu)) (by rw [e.length]; exact hL)
    (h _ (by rw [PySem.W.sortVals_length false rfl]; exact e.length) (PySem.W.sortVals_data false e er' hal))
section
variable {X : Cx} {B : Bag} {Wx : WX} {pos p : Pos} {a : Expr} {fa : E} {f : Es}
theorem cr_srt (hu : X.A.units + 64 < cLine) : CallR X (.builtin "sorted") (rSrt X.K) := by
  intro pins s σ H vs us Q I r h
  obtain ⟨a, ks, rfl, hs, hd, ha, hso, hnn, hdep, hlen, q⟩ := h
  obtain ⟨its, rv, hl, hz⟩ := I.list hs
  rw [Vals.ref1 r]
  obtain ⟨as, hr⟩ := Dp.readsAll I _ _ its hd rv
  have E1 : PySem.W.EachIs (fun u (b : KyB) => RelV b.v u) its ks := eachK_of rv fun b hb u ru => ru
  refine sorted_dataS hl.isList E1 (readsK_of hr) ha hso hnn hlen (fun b hb => ?_) fun out ho eo => ?_
  · have := hdep b hb; omega
  · rw [kb_le, sortL_ok leK leK_tr leK_to] at eo
    have rvo := valsK_of (fun u b z => z) eo
    obtain ⟨ep, he'⟩ := PyProof.Rows.sortedAll_at s.heap its out.toArray
    have hlo : ((sortL leK ks).map KyB.v).length ≤ sizeLine := by rw [List.length_map, sortL_len]; exact hlen
    exact ⟨.ref _, upd H (s.heap.objs.size + 1) (.lst ((sortL leK ks).map KyB.v)), I.laid (t' := s.toks) (fun _ _ => PyProof.Rows.sortedAll_old) (Nat.le_succ _) ⟨hlo, out, ep, rvo, he'⟩, rfl, q _ (I.hok.fresh (Nat.le_succ _))⟩
theorem DVs.of_map {h : IH} : ∀ {l : List KyB}, (∀ k ∈ l, DV h k.w k.d) → DVs h (l.map KyB.w) (l.map KyB.d)
  | [], _ => .nil
  | k :: l, q => .cons (q k List.mem_cons_self) (DVs.of_map fun c hc => q c (List.mem_cons_of_mem _ hc))
theorem RVs.of_map {K : PySem.W.Frag} {m : Mp} {H : Hp} : ∀ {l : List KyB}, (∀ k ∈ l, RV K m H k.w k.v) → RVs K m H (l.map KyB.w) (l.map KyB.v)
  | [], _ => .nil
  | k :: l, q => .cons (q k List.mem_cons_self) (RVs.of_map fun c hc => q c (List.mem_cons_of_mem _ hc))
/-- the reading of sorted(xs) -/
theorem srt_r {m m1 : Mp} {H H1 : Hp} {h1 : IH} {k : KL} {Q : VK} {q : Addr} {ws : List W} {xs : List V} (x1 : Ext m H m1 H1) (r1 : RepH X.K m1 h1 H1) (hk : FOk X.K m H k Q) (hq : SqL X.K H1 q xs) (t : RVs X.K m1 H1 ws xs) (e : sortK true (fun w _ c => c w) h1 ws (fun r => k r h1) = true) : rSrt X.K [.ref q] H1 Q := by
  obtain ⟨ks, S, rs, e1⟩ := sortK_ok (h := h1) (P := fun v q => RV X.K m1 H1 q v) (fun w v c r e => ⟨w, r, e⟩) t e
  have DA : DpAll X.K H1 (ks.map KyB.v) (ks.map KyB.d) := by
    have go : ∀ l : List KyB, (∀ k ∈ l, RV X.K m1 H1 k.q k.v ∧ DV h1 k.q k.d) → DpAll X.K H1 (l.map KyB.v) (l.map KyB.d) := by
      intro l q
      have z1 : RVs X.K m1 H1 (l.map KyB.q) (l.map KyB.v) := by
        induction l with
        | nil => exact .nil
        | cons k l ih => exact .cons (q k List.mem_cons_self).1 (ih fun c hc => q c (List.mem_cons_of_mem _ hc))
      have z2 : DVs h1 (l.map KyB.q) (l.map KyB.d) := by
        induction l with
        | nil => exact .nil
        | cons k l ih => exact .cons (q k List.mem_cons_self).2 (ih (fun c hc => q c (List.mem_cons_of_mem _ hc)) (by cases z1; assumption))
      exact z2.dp r1 z1
    exact go ks fun k hk => ⟨(S.rv k hk).2, S.dv k hk⟩
  refine ⟨q, ks, rfl, by rw [S.vs]; exact hq, DA, S.al, S.so.imp_right (·.2), S.nn, S.dep, S.len, fun p hp => ?_⟩
  have x2 : Ext m1 H1 m1 (upd H1 p (.lst ((sortL leK ks).map KyB.v))) := .laid hp
  refine hk m1 _ _ h1 _ p (x1.trans x2) (r1.laid hp) upd_same ?_ (r1.nofree hp) (RVs.mono r1 x2 rs) e1
  cases z : H p with
  | none => rfl
  | some u => exact absurd hp (x1.there p (by rw [z]; exact fun z => nomatch z))
theorem sf_sortD (hu : X.A.units + 64 < cLine) (hg : Gl X "sorted") (hm : X.mg "sorted" = none) (ha : PE X a (tE X.K B Wx fa)) (ns : notStar a = true) :
    PE X (.Call (.Name "sorted" p) [a] [] pos) (tF X.K B Wx (sSortD fa)) := by
  refine peI (pe_callB (cr_srt hu) hg hm PyProof.Rows.boot_sorted (pa_cons ha pa_nil (star_cons ns _ _)) (by decide) (by decide) (star_cons ns _ _) rfl) fun σ H Q ⟨m, l, h, k, x, rh, rl, e, hk, hx⟩ => ?_
  refine ⟨m, l, h, _, x, rh, rl, e, fun m1 v w h1 H1 x1 r1 rv e1 => ?_, hx⟩
  obtain ⟨ws, xs, q, rfl, hq, t, e2⟩ := lstK_ok r1 rv e1
  exact srt_r x1 r1 hk hq t e2
theorem sf_sortF (hu : X.A.units + 64 < cLine) (hg : Gl X "sorted") (hm : X.mg "sorted" = none) (ha : PE X a (tF X.K B Wx f)) (ns : notStar a = true) :
    PE X (.Call (.Name "sorted" p) [a] [] pos) (tF X.K B Wx (sSortF f)) := by
  refine peI (pe_callB (cr_srt hu) hg hm PyProof.Rows.boot_sorted (pa_cons ha pa_nil (star_cons ns _ _)) (by decide) (by decide) (star_cons ns _ _) rfl) fun σ H Q ⟨m, l, h, k, x, rh, rl, e, hk, hx⟩ => ?_
  refine ⟨m, l, h, _, x, rh, rl, e, fun m1 ws xs h1 H1 p x1 r1 hp np nm t e1 => ?_, hx⟩
  exact srt_r x1 r1 hk (.inl (.inl hp)) t e1
end
end
end It

set_option Elab.async false
set_option linter.all false
set_option maxRecDepth 100000
set_option maxHeartbeats 1000000
/-! ItPh: sorted(xs, key=lambda x: ..): three lambdas. -/
namespace It
open PySem PySem.Spec PyProof.Rows L2 NdefX LamX
noncomputable section
/-! ### the lambda's object -/
structure LF where
  qual : Str
  params : Arguments
  body : Expr
  scope : Scope
  cl : List (Str × Addr)
  c : Addr
abbrev LF.obj (F : LF) (pm ctv : Value) : Obj := PySem.W.kla_obj "<lambda>" F.qual F.params F.body F.scope F.cl pm F.c ctv
def LamO (f : Addr) (F : LF) : HO := .ext fun h => ∃ pm ctv, h.get? f = some (F.obj pm ctv)
theorem lamO_at {P : Program} {w : World} {H : Hp} {h : Heap} {f : Addr} {F : LF} (hok : HOk P w H h) (e : H f = some (LamO f F)) : ∃ pm ctv, h.get? f = some (F.obj pm ctv) := by
  obtain ⟨z, _, _⟩ := hok f _ e
  exact z
section
variable {X : Cx} {pins : List (Addr × Obj)} {σ : L2.St} {H : Hp} {s : Shared}
theorem inv_lam {F : LF} {o : Obj} {t' : Nat} {pm ctv : Value} (I : Inv X pins σ H s) (ho : o = F.obj pm ctv) : Inv X pins σ (upd H s.heap.objs.size (LamO s.heap.objs.size F)) { s with heap := s.heap.push o, toks := t' } := by
  subst ho
  refine I.laid (a := s.heap.objs.size) (fun b u e => Heap.get?_push_of_some _ e) (Nat.le_refl _) ?_
  have e : (s.heap.push (F.obj pm ctv)).get? s.heap.objs.size = some (F.obj pm ctv) := Heap.get?_push_size _ rfl
  exact ⟨⟨pm, ctv, e⟩, ⟨_, e⟩, fun h1 h2 ⟨p, t, z⟩ st => ⟨p, t, st _ z⟩⟩
theorem lam_make {T : List NTab} {nm : Nat → Nat → Str} {c P : Addr} {params : Arguments} {body : Expr} {scope : Scope} {pos : Pos} {E : Value → Shared → Prop} {Q : Value → Shared → Prop} (I : Inv X pins σ H s) (TB : TabB X.base X.mg c P) (hcode : X.env.code = .ref c)
    (hm : (P, nm) ∈ T) (hn : nm pos.line pos.col = X.env.qual ++ "<lambda>") (hu : ∀ p ∈ T, p.1 = P → p.2 = nm) (hT : TabsN T H) (hdef : defaultsOf params X.env = ([], [])) (hfree : ∀ y ∈ scope.names, y.2 = .free → ∃ c, X.env.cells.lookup y.1 = some c)
    (h : ∀ (f c' : Addr) (H1 : Hp) (s' : Shared), Inv X pins σ H1 s' → ExtN H H1 → (∀ b, H1 b = Option.none → H b = Option.none) → TabsN T H1 → H f = none → H1 f = some (LamO f ⟨X.env.qual ++ "<lambda>", params, body, scope, cloFrom X.env.cells scope.names [], c'⟩) → H1 c' = some (CodeO c' (X.env.qual ++ "<lambda>")) → Q (.ref f) s') :
    wpAny (model X.prog X.w) X.A (eval (.Lambda params body scope pos) X.env) Q E s := by
  obtain ⟨ps, hP, ht, ha⟩ := (show TabN H P nm from hT _ hm)
  refine PySem.W.kla_eval hdef ?_
  have bP : s.heap.BuiltinsAt X.mg P := TB.bm.keeps I.bk
  have hP' : s.heap.get? P = some { cls := .none, data := .fields ps } := I.hok P _ hP
  cases hc : codeAmong pos ps.toList with
  | none =>
    refine PySem.W.kla_makeFunction (mg := X.mg) (c := c) (P := P) (ps := ps) (closure_ok hfree) I.ok.glob (I.mod.glob.keeps I.bk) hcode (TB.code.keeps I.bk) hP' ht hc TB.gP bP fun c' ctv h' tk hx hge hlt hrec htb => ?_
    obtain ⟨c2, oc, vs, t, e2, hoc, hd, hv⟩ := hrec
    cases e2
    have nC : H c' = none := I.hok.fresh hge
    have I1 := inv_table (t' := tk) (more := #[rawInt pos.line, rawInt pos.col, .ref c']) (h' := h') I hP (fun b o hb e => hx b o hb e) htb hge ⟨oc, vs, t, hoc, hd, hv⟩
    have hE : ExtN H (upd (upd H P (.tbl (ps ++ #[rawInt pos.line, rawInt pos.col, .ref c']))) c' (CodeO c' (X.env.qual ++ "<lambda>"))) := fun b o e n => by
      rw [upd_ne (ne_of_none e nC), upd_ne (fun z => n ps (Option.some.inj (e.symm.trans (by rw [z]; exact hP))))]
      exact e
    have eL : (ps ++ #[rawInt pos.line, rawInt pos.col, .ref c']).toList = ps.toList ++ [rawInt pos.line, rawInt pos.col, .ref c'] := by simp
    have T1 : TabsN T (upd (upd H P (.tbl (ps ++ #[rawInt pos.line, rawInt pos.col, .ref c']))) c' (CodeO c' (X.env.qual ++ "<lambda>"))) := fun p hp => by
      by_cases hb : p.1 = P
      · rw [hu p hp hb, hb]
        refine ⟨_, by rw [upd_ne (ne_of_none hP nC), upd_same], by rw [eL]; exact PySem.TriplesOk_snoc _ _ _ _ ht, fun p' cv hcv => ?_⟩
        rw [eL] at hcv
        rcases among_app2 _ ht hcv with z | ⟨z, z1, z2⟩
        · obtain ⟨c0, e1, e2⟩ := ha p' cv z
          exact ⟨c0, e1, hE _ _ e2 codeO_ne⟩
        · refine ⟨c', z, ?_⟩
          rw [← z1, ← z2, hn]
          exact upd_same
      · obtain ⟨ps', a1, a2, a3⟩ := hT p hp
        refine ⟨ps', by rw [upd_ne (ne_of_none a1 nC), upd_ne hb]; exact a1, a2, fun p' cv hcv => ?_⟩
        obtain ⟨c0, e1, e2⟩ := a3 p' cv hcv
        exact ⟨c0, e1, hE _ _ e2 codeO_ne⟩
    have nF := I1.hok.fresh (Nat.le_refl _)
    have I2 := inv_lam (F := ⟨X.env.qual ++ "<lambda>", params, body, scope, cloFrom X.env.cells scope.names [], c'⟩) (t' := tk) (pm := (X.mg "__name__").getD .none) (ctv := ctv) I1 rfl
    refine h h'.objs.size c' _ _ I2 (fun b o e n => ?_) (fun b e => upd_none (upd_none (upd_none e))) (T1.ext fun b o e => ?_) (I.hok.fresh (Nat.le_trans hge (Nat.le_of_lt hlt))) upd_same ?_
    · have e1 := hE b o e n
      exact (upd_ne (ne_of_none e1 nF)).trans e1
    · exact (upd_ne (ne_of_none e nF)).trans e
    · exact (upd_ne (Nat.ne_of_lt hlt)).trans upd_same
  | some cv =>
    obtain ⟨c', e, hco⟩ := ha pos cv hc
    subst e
    rw [hn] at hco
    refine PySem.W.kla_makeFunctionHit (mg := X.mg) (c := c) (P := P) (ps := ps) (closure_ok hfree) I.ok.glob (I.mod.glob.keeps I.bk) hcode (TB.code.keeps I.bk) hP' ht hc bP fun ctv h' tk hx hsz => ?_
    have I1 : Inv X pins σ H { s with heap := h', toks := tk } := I.kept hx
    have nF : H h'.objs.size = none := I1.hok.fresh (Nat.le_refl _)
    have I2 := inv_lam (F := ⟨X.env.qual ++ "<lambda>", params, body, scope, cloFrom X.env.cells scope.names [], c'⟩) (t' := tk) (pm := (X.mg "__name__").getD .none) (ctv := ctv) I1 rfl
    refine h h'.objs.size c' _ _ I2 (fun b o e n => ?_) (fun b e => upd_none e) (hT.ext fun b o e => ?_) nF upd_same ?_
    · exact (upd_ne (ne_of_none e nF)).trans e
    · exact (upd_ne (ne_of_none e nF)).trans e
    · exact (upd_ne (ne_of_none hco nF)).trans hco
end
/-! ### its names, its call -/
structure LmS (sc : Scope) (x : Str) : Prop where
  kind : sc.kind = .function
  co : sc.isCoroutine = false
  gen : sc.isGenerator = false
  nocell : ∀ y ∈ sc.names, y.2 ≠ .cell
  par : sc.names.lookup x = some .local
def oneArg' (a : Arguments) (x : Str) : Bool := match a with
  | ⟨[], [⟨y, none, _⟩], none, [], [], none, []⟩ => sE y x
  | _ => false
theorem bind_one {q : Str} {x : Str} {p : Pos} {body : Expr} {scope : Scope} {cl : List (Str × Addr)} {pm cdv ct v : Value} : bindArgs (PySem.W.kla_fn "<lambda>" q ⟨[], [⟨x, none, p⟩], none, [], [], none, []⟩ body scope cl pm cdv ct) ⟨[v], []⟩ = pure [(x, v)] := by
  have e0 : seqItems? Value.none = pure none := rfl
  have e1 : ([(x, v)] : List (Str × Value)).lookup x = some v := by simp [List.lookup]
  unfold bindArgs
  simp [e0, e1]
abbrev LF.env (F : LF) (f L : Addr) : Env := PySem.W.envX F.qual F.scope L f (.ref F.c) F.cl
section
variable {P : Program} {w : World} {K : PySem.W.Frag} {mg : Str → Option Value} {base : Heap} {A : Around} {s : Shared} {f : Addr} {F : LF} {x : Str} {v : Value}
theorem lam_call {Q : Value → Shared → Prop} (hd : A.depth < recursionLimit) (lim : s.heap.NoLimit) {pm ctv : Value} (ho : s.heap.get? f = some (F.obj pm ctv)) (S : LmS F.scope x) (hb : oneArg' F.params x = true) (hcode : s.heap.CodeRec (.ref F.c) F.qual)
    (hbody : ∀ h₁ : Heap, h₁.Ns s.heap.objs.size (fun y => ([(x, v)] : List (Str × Value)).reverse.lookup y) → (∀ b o, s.heap.get? b = some o → h₁.get? b = some o) →
      wpAny (model P w) (A.deeper (F.env f s.heap.objs.size)) (eval F.body (F.env f s.heap.objs.size)) Q (fun _ _ => False) { s with heap := h₁, toks := s.toks + ([(x, v)] : List (Str × Value)).length }) :
    wpAny (model P w) A (call (.ref f) [v]) Q (fun _ _ => False) s := by
  refine wpAny_call (PySem.W.kla_callFunE hd ho rfl S.co S.gen rfl hcode ?_)
  have e : bindArgs (PySem.W.kla_fn "<lambda>" F.qual F.params F.body F.scope F.cl pm (.ref F.c) ctv) ⟨[v], []⟩ = pure [(x, v)] := by
    unfold oneArg' at hb
    split at hb
    · rename_i y p e1
      rw [e1, sE_ok hb]
      exact bind_one
    · cases hb
  rw [e]
  refine wpAny_pure (wpAny_newFunctionEnv S.nocell (fun ⟨y, u⟩ hy => ?_) (fun h₁ hns hsb => ⟨lim.fresh _ hsb, ?_⟩) S.kind)
  · have e : (y, u) = (x, v) := by simpa using hy
    cases e
    exact S.par
  show codeAny _ _ (.expr F.body (F.env f s.heap.objs.size)) _ _
  have kp : ∀ b o, s.heap.get? b = some o → h₁.get? b = some o := fun b o e => hsb.extBut b o (Nat.ne_of_lt (Heap.lt_size e)) (Heap.get?_push_of_some _ e)
  exact PySem.W.kla_codeExpr (wpAny_mono (hbody h₁ hns kp) (fun u s' h => h) fun e s' h => h.elim)
end
/-! ### the bodies -/
def bLen (x : Str) (p1 p2 p3 p4 p5 : Pos) (k : Nat) : Expr := .Tuple [.Call (.Name "len" p1) [.Name x p2] [] p3, .Name x p4] k p5
def bIx (x y : Str) (k : Nat) (p1 p2 p3 p4 p5 : Pos) : Expr := .Subscript (.Subscript (.Name x p1) (.Constant (.int 0) k p2) p3) (.Name y p4) p5
def bAbs (x y : Str) (p1 p2 p3 p4 p5 : Pos) : Expr := .Call (.Name "abs" p1) [.Subscript (.Name x p2) (.Name y p3) p4] [] p5
section
variable {P : Program} {w : World} {K : PySem.W.Frag} {mg : Str → Option Value} {base : Heap} {A : Around} {s : Shared} {f L : Addr} {F : LF} {x y : Str} {v : Value} {h₁ : Heap} {tk : Nat}
theorem kind_of {z : Str} {kd : NameKind} (e : F.scope.names.lookup z = some kd) : (F.env f L).kindOf z = some kd := e
/-- a built-in's name -/
theorem lm_blt {z : Str} {u : Value} {pos : Pos} {Q : Value → Shared → Prop} {E : Value → Shared → Prop} (M : Mod K mg base) (kp : ∀ b o, base.get? b = some o → s.heap.get? b = some o) (S : LmS F.scope x) (hz : F.scope.names.lookup z = some .globalImplicit) (hm : mg z = none) (hv : bootBuiltins z = some u) (hn : z ≠ "__name__") (hd : (z == ("__debug__" : Str)) = false) (h : Q u s) :
    wpAny (model P w) A (eval (.Name z pos) (F.env f L)) Q E s := by
  obtain ⟨mb, g1, g2⟩ := M.blt
  exact Calls.Name_function_global S.kind (kind_of hz) (Calls.loadGlobal_builtin (M.glob.keeps kp) hm (g1.keeps kp) ((g2 _ hn).trans hv) h) hd
theorem lm_par {pos : Pos} {Q : Value → Shared → Prop} {E : Value → Shared → Prop} (S : LmS F.scope x) (hns : s.heap.Ns L fun y => ([(x, v)] : List (Str × Value)).reverse.lookup y) (hd : (x == ("__debug__" : Str)) = false) (h : Q v s) : wpAny (model P w) A (eval (.Name x pos) (F.env f L)) Q E s :=
  wpAny_Name (wpAny_loadName_local S.kind (kind_of S.par) hns (by show ([(x, v)] : List (Str × Value)).lookup x = some v; simp [List.lookup]) h) hd
theorem lm_free {pos : Pos} {c : Addr} {Q : Value → Shared → Prop} {E : Value → Shared → Prop} (S : LmS F.scope x) (hy : F.scope.names.lookup y = some .free) (hcl : F.cl.lookup y = some c) (hc : s.heap.IsCell c (some v)) (hd : (y == ("__debug__" : Str)) = false) (hcd : (y == ("__classdict__" : Str)) = false) (h : Q v s) : wpAny (model P w) A (eval (.Name y pos) (F.env f L)) Q E s :=
  wpAny_Name (wpAny_loadName_free S.kind (kind_of hy) hcl hc h hcd) hd
theorem isCell_keeps {h h' : Heap} {c : Addr} {v : Option Value} (kp : ∀ b o, h.get? b = some o → h'.get? b = some o) (hc : h.IsCell c v) : h'.IsCell c v := by
  obtain ⟨o, e, d⟩ := hc; exact ⟨o, kp _ _ e, d⟩
theorem isTup_keeps {h h' : Heap} {a : Addr} {its : Array Value} (kp : ∀ b o, h.get? b = some o → h'.get? b = some o) (ht : IsTup h a its) : IsTup h' a its := by
  obtain ⟨o, e, d⟩ := ht; exact ⟨o, kp _ _ e, d⟩
theorem lam_len {pm ctv : Value} {a : Addr} {its : Array Value} {d : PyData} {p1 p2 p3 p4 p5 : Pos} {k : Nat} (hd : A.depth < recursionLimit) (M : Mod K mg base) (kp : ∀ b o, base.get? b = some o → s.heap.get? b = some o) (hm : mg ("len" : Str) = none)
    (ho : s.heap.get? f = some (F.obj pm ctv)) (S : LmS F.scope x) (hb : oneArg' F.params x = true) (hcode : s.heap.CodeRec (.ref F.c) F.qual) (hB : F.body = bLen x p1 p2 p3 p4 p5 k) (hg : F.scope.names.lookup ("len" : Str) = some .globalImplicit) (hx : (x == ("__debug__" : Str)) = false)
    (ht : IsTup s.heap a its) (hsz : (its.size : Int) < 2 ^ 63) (hr : Reads s.heap (.ref a) d []) :
    wpAny (model P w) A (call (.ref f) [.ref a]) (PySem.W.KeyPure (.tuple [.int its.size, d]) s) (fun _ _ => False) s := by
  refine lam_call hd (M.nolimit.keeps kp) ho S hb hcode fun h₁ hns kp1 => ?_
  rw [hB]
  have kb : ∀ b o, base.get? b = some o → h₁.get? b = some o := fun b o e => kp1 b o (kp b o e)
  refine wpAny_Tuple_spliced (PyProof.Rows.spliced_more (wpAny_Call_Name_kw (lm_blt M kb S hg hm PySem.boot_len (by decide) (by decide) (PyProof.Rows.callWith_builtin1 (PyProof.Rows.spliced_more (lm_par S hns hx (PyProof.Rows.spliced_none (len_tuple (isTup_keeps kp1 ht) hsz ?_))) rfl) rfl rfl))) rfl)
  refine PyProof.Rows.spliced_more (lm_par S hns hx (PyProof.Rows.spliced_none ⟨(by show 2 ≤ sizeLine; rw [sizeLine_eq]; decide), ?_⟩)) rfl
  refine ⟨_, _, rfl, fun b o e => Heap.get?_push_of_some _ (kp1 b o e), ?_⟩
  have e : (h₁.push ({ cls := .type "tuple", data := .seq ([Value.int (its.size : Int) (s.toks + 1 + 1), .ref a] : List Value).toArray } : Obj)).get? h₁.objs.size = _ := Heap.get?_push_size _ rfl
  have kp2 : ∀ b o, s.heap.get? b = some o → (h₁.push ({ cls := .type "tuple", data := .seq ([Value.int (its.size : Int) (s.toks + 1 + 1), .ref a] : List Value).toArray } : Obj)).get? b = some o := fun b o e => Heap.get?_push_of_some _ (kp1 b o e)
  exact .tuple e rfl rfl (.cons (as := []) (.int _ _) (.cons (as := []) (PyProof.Rows.Reads.keeps kp2 hr) .nil))
/-- an index into a tuple or a list -/
def ItsAt (h : Heap) (a : Addr) (its : List Value) : Prop := IsTup h a its.toArray ∨ h.IsList a its.toArray
theorem ItsAt.keeps {h h' : Heap} {a : Addr} {its : List Value} (kp : ∀ b o, h.get? b = some o → h'.get? b = some o) (hi : ItsAt h a its) : ItsAt h' a its := by
  rcases hi with ⟨o, e, d⟩ | ⟨o, e, d⟩
  · exact .inl ⟨o, kp _ _ e, d⟩
  · exact .inr ⟨o, kp _ _ e, d⟩
theorem item_tail {value slice : Expr} {Q : Value → Shared → Prop} {E : Value → Shared → Prop} {a : Addr} {its : List Value} {j : Int} {n : Nat} {tj : Tok} {u : Value} (hi : ItsAt s.heap a its) (hz : its.length ≤ sizeLine) (hj : ixN its.length j = some n) (hu : its[n]? = some u) (hs : PlainIx slice) (h : Q u s) : wpAny (model P w) A (subscriptTail value slice (.ref a) (.int j tj)) Q E s := by
  obtain ⟨e1, e2, e3, e4⟩ := ixN_seq hj
  have hn := line63
  rcases hi with ht | ht
  · exact subscriptTail_builtinR (x := u) ht.typeIs PyProof.Rows.slot_tuple_getitem.lookup (PyProof.Rows.getItem_tuple (j := n) (Q := fun r s' => r = u ∧ Q r s') ht (by omega) (by omega) (by rw [List.size_toArray]; exact e1) (by simpa using hu) ⟨rfl, h⟩) (hs _ _)
  · by_cases h0 : 0 ≤ j
    · have hj' : j.toNat = n := by
        rw [seqIndex_of h0 e4] at e1
        exact Option.some.inj e1
      exact item_listR ht h0 (by omega) (by rw [hj']; simpa using hu) h (hs _ _)
    · have hj' : (j + (its.toArray.size : Int)).toNat = n := by
        rw [seqIndex_neg (by omega) e3] at e1
        rw [List.size_toArray]
        exact Option.some.inj e1
      exact subscriptTail_builtinR (x := u) ht.typeIs slot_list_getitem.lookup
        (wpAny_getItem_list_neg (Q := fun r s' => r = u ∧ Q r s') ht (by omega) (by rw [List.size_toArray]; omega) (by omega) (by rw [hj']; simpa using hu) ⟨rfl, h⟩) (hs _ _)
theorem lam_abs {pm ctv : Value} {a c : Addr} {its : List Value} {j i : Int} {n : Nat} {tj ti : Tok} {p1 p2 p3 p4 p5 : Pos} (hd : A.depth < recursionLimit) (M : Mod K mg base) (kp : ∀ b o, base.get? b = some o → s.heap.get? b = some o) (hm : mg ("abs" : Str) = none)
    (ho : s.heap.get? f = some (F.obj pm ctv)) (S : LmS F.scope x) (hb : oneArg' F.params x = true) (hcode : s.heap.CodeRec (.ref F.c) F.qual) (hB : F.body = bAbs x y p1 p2 p3 p4 p5) (hg : F.scope.names.lookup ("abs" : Str) = some .globalImplicit) (hy : F.scope.names.lookup y = some .free) (hx : (x == ("__debug__" : Str)) = false) (hyd : (y == ("__debug__" : Str)) = false) (hyc : (y == ("__classdict__" : Str)) = false)
    (hcl : F.cl.lookup y = some c) (hc : s.heap.IsCell c (some (.int j tj))) (ht : ItsAt s.heap a its) (hz : its.length ≤ sizeLine) (hj : ixN its.length j = some n) (hn : its[n]? = some (.int i ti)) :
    wpAny (model P w) A (call (.ref f) [.ref a]) (PySem.W.KeyPure (.int (i.natAbs : Int)) s) (fun _ _ => False) s := by
  refine lam_call hd (M.nolimit.keeps kp) ho S hb hcode fun h₁ hns kp1 => ?_
  rw [hB]
  have kb : ∀ b o, base.get? b = some o → h₁.get? b = some o := fun b o e => kp1 b o (kp b o e)
  refine wpAny_Call_Name_kw (lm_blt M kb S hg hm PyProof.Rows.boot_abs (by decide) (by decide) (PyProof.Rows.callWith_builtin1 (PyProof.Rows.spliced_more (Subscript_ (lm_par S hns hx (lm_free S hy hcl (isCell_keeps kp1 hc) hyd hyc (item_tail (ht.keeps kp1) hz hj hn (fun _ _ => rfl) ?_)))) rfl) rfl rfl))
  refine PyProof.Rows.spliced_none (call_abs_int fun u tk => ?_)
  have e : (if i < 0 then -i else i) = (i.natAbs : Int) := by split <;> omega
  rw [e]
  exact ⟨h₁, tk, rfl, kp1, .int _ _⟩
theorem lam_ix {pm ctv : Value} {a b c : Addr} {its its2 : List Value} {j i : Int} {n k : Nat} {tj ti : Tok} {p1 p2 p3 p4 p5 : Pos} (hd : A.depth < recursionLimit) (M : Mod K mg base) (kp : ∀ b o, base.get? b = some o → s.heap.get? b = some o)
    (ho : s.heap.get? f = some (F.obj pm ctv)) (S : LmS F.scope x) (hb : oneArg' F.params x = true) (hcode : s.heap.CodeRec (.ref F.c) F.qual) (hB : F.body = bIx x y k p1 p2 p3 p4 p5) (hy : F.scope.names.lookup y = some .free) (hx : (x == ("__debug__" : Str)) = false) (hyd : (y == ("__debug__" : Str)) = false) (hyc : (y == ("__classdict__" : Str)) = false)
    (hcl : F.cl.lookup y = some c) (hc : s.heap.IsCell c (some (.int j tj))) (ht : ItsAt s.heap a its) (hz : its.length ≤ sizeLine) (h0 : its[0]? = some (.ref b)) (ht2 : ItsAt s.heap b its2) (hz2 : its2.length ≤ sizeLine) (hj : ixN its2.length j = some n) (hn : its2[n]? = some (.int i ti)) :
    wpAny (model P w) A (call (.ref f) [.ref a]) (PySem.W.KeyPure (.int i) s) (fun _ _ => False) s := by
  refine lam_call hd (M.nolimit.keeps kp) ho S hb hcode fun h₁ hns kp1 => ?_
  rw [hB]
  have kb : ∀ b o, base.get? b = some o → h₁.get? b = some o := fun b o e => kp1 b o (kp b o e)
  have e0 : ixN its.length 0 = some 0 := by
    have : 0 < its.length := (List.getElem?_eq_some_iff.mp h0).1
    unfold ixN
    simp [this]
  refine Subscript_ (Subscript_ (lm_par S hns hx (wpAny_Constant_int (item_tail (ht.keeps kp1) hz e0 h0 (fun _ _ => rfl) ?_))))
  exact lm_free S hy hcl (isCell_keeps kp1 hc) hyd hyc (item_tail (ht2.keeps kp1) hz2 hj hn (fun _ _ => rfl) ⟨h₁, _, rfl, kp1, .int _ _⟩)
end
end
end It

set_option Elab.async false
set_option linter.all false
set_option maxRecDepth 100000
set_option maxHeartbeats 1000000
/-! ItPi: sorted(xs, key=lambda x: ..): the rules. -/
namespace It
open PySem PySem.Spec PyProof.Rows L2 NdefX LamX
noncomputable section
/-- where lambdas are made: the code object, its table -/
structure LamT (X : Cx) : Prop where
  ex : ∃ (c P : Addr) (nm : Nat → Nat → Str), TabB X.base X.mg c P ∧ X.env.code = .ref c ∧ (P, nm) ∈ tabsK X.K ∧ (∀ a b, nm a b = X.env.qual ++ "<lambda>") ∧ ∀ p ∈ tabsK X.K, p.1 = P → p.2 = nm
abbrev mkL (X : Cx) (params : Arguments) (body : Expr) (scope : Scope) (c' : Addr) : LF := ⟨X.env.qual ++ "<lambda>", params, body, scope, cloFrom X.env.cells scope.names [], c'⟩
def tLamV (X : Cx) (params : Arguments) (body : Expr) (scope : Scope) : TE := fun σ H Q => TabsN (tabsK X.K) H ∧ ∀ (f c' : Addr) (H1 : Hp), ExtN H H1 → (∀ b, H1 b = none → H b = none) → TabsN (tabsK X.K) H1 → H f = none → H1 f = some (LamO f (mkL X params body scope c')) → H1 c' = some (CodeO c' (X.env.qual ++ "<lambda>")) → Q (.ref f) H1
section
variable {X : Cx} {params : Arguments} {body : Expr} {scope : Scope} {pos : Pos}
theorem pe_lam (L : LamT X) (hdef : defaultsOf params X.env = ([], [])) (hfree : ∀ y ∈ scope.names, y.2 = .free → X.env.scope.names.lookup y.1 = some .cell ∨ X.env.scope.names.lookup y.1 = some .free) : PE X (.Lambda params body scope pos) (tLamV X params body scope) := by
  refine ⟨fun pins s σ H Q I h => ?_⟩
  obtain ⟨c, P, nm, TB, hc, hm, hn, hu⟩ := L.ex
  obtain ⟨hT, h⟩ := h
  refine lam_make I TB hc hm (hn _ _) hu hT hdef (fun y hy e => (hfree y hy e).elim (fun z => I.ok.has _ (.inl z)) fun z => I.ok.has _ (.inr z)) fun f c' H1 s' I1 eN nn T1 f0 f1 c1 => ?_
  exact ⟨.ref f, H1, I1, rfl, h f c' H1 eN nn T1 f0 f1 c1⟩
end
/-- the key's turn -/
def TurnL (X : Cx) (σ : L2.St) (H : Hp) (f : Addr) (v : V) (d : PyData) : Prop := ∀ (pins : List (Addr × Obj)) (s : Shared), Inv X pins σ H s → ∀ u, RelV v u → ∀ (h : Heap) (tk : Nat), (∀ b o, s.heap.get? b = some o → h.get? b = some o) →
  wpAny (model X.prog X.w) X.A.in1.in1 (call (.ref f) [u]) (PySem.W.KeyPure d { s with heap := h, toks := tk }) (fun _ _ => False) { s with heap := h, toks := tk }
def rLamS (X : Cx) : L2.St → List V → List V → Hp → VK → Prop := fun σ vs zs H Q => ∃ (l f : Addr) (ks : List KyB), vs = [.ref l] ∧ zs = [.ref f] ∧ SqL X.K H l (ks.map KyB.v) ∧ PySem.W.AllAlike (ks.map KyB.d) ∧ PySem.W.Sortable (ks.map KyB.d) ∧ (∀ k ∈ ks, k.d.depth ≤ 40) ∧ ks.length ≤ sizeLine ∧ (∀ k ∈ ks, TurnL X σ H f k.v k.d) ∧
  ∀ p, H p = none → Q (.ref p) (upd H p (.lst ((sortL leK ks).map KyB.v)))
section
variable {X : Cx} {B : Bag} {Wx : WX} {pos p lpos kpos : Pos} {a : Expr} {fa : E} {x : Str} {params : Arguments} {body : Expr} {scope : Scope}
theorem cr_lamS (hu : X.A.units + 64 < cLine) (pins : List (Addr × Obj)) (s : Shared) (σ : L2.St) (H : Hp) (xs zs : List V) (us ws : List Value) (Q : VK) (I : Inv X pins σ H s) (r : Vals xs us) (rz : Vals zs ws) (h : rLamS X σ xs zs H Q) :
    wpAny (model X.prog X.w) X.A (call (.builtin "sorted") us ([Str.ofString "key"].zip ws)) (EP X pins σ Q) X.xe s := by
  obtain ⟨l, ff, ks, rfl, rfl, hs, ha, hso, hdep, hlen, ht, q⟩ := h
  obtain rfl := Vals.ref1 r
  obtain ⟨w1, rfl, e1⟩ := vals1 rz
  obtain rfl : w1 = Value.ref ff := e1
  obtain ⟨its, rv, hl, hz⟩ := I.list hs
  have E1 : PySem.W.EachIs (fun u (b : KyB) => RelV b.v u) its ks := eachK_of rv fun b hb u ru => ru
  refine PySem.W.sorted_key_data (k := KyB.d) (b := false) hl.isList E1 ha hso hlen (fun x hx => ?_) (PyProof.Rows.ksk_s1 _ _) (fun _ => PyProof.Rows.ksk_l1 _ _) (fun x => PyProof.Rows.ksk_t1 ff x) (fun v b ru hb h tk kp => ht b hb pins s I v ru h tk kp) ?_
  · have := hdep x hx; omega
  · intro out cnt h' tk kp hfr ho' hle hE
    rw [kb_le, sortL_ok leK leK_tr leK_to] at hE
    have rvo := valsK_of (fun u b z => z) hE
    have hlo : ((sortL leK ks).map KyB.v).length ≤ sizeLine := by rw [List.length_map, sortL_len]; exact hlen
    exact ⟨.ref _, _, I.laid (t' := tk) (o := .lst ((sortL leK ks).map KyB.v)) kp (Nat.le_succ _) ⟨hlo, _, cnt, rvo, ho'⟩, rfl, q _ (I.hok.fresh (Nat.le_succ _))⟩
/-- a call with a keyword, told of the names' values -/
theorem pe_callBKs {id : String} {ks : List Str} {e : Expr} {es : List Expr} {kws : List Keyword} {t tk : TA} {r : L2.St → List V → List V → Hp → VK → Prop}
    (hc : ∀ (pins : List (Addr × Obj)) (s : Shared) (σ : L2.St) (H : Hp) (xs zs : List V) (us ws : List Value) (Q : VK), Inv X pins σ H s → Vals xs us → Vals zs ws → r σ xs zs H Q → wpAny (model X.prog X.w) X.A (call (.builtin id) us (ks.zip ws)) (EP X pins σ Q) X.xe s)
    (hg : Gl X x) (hm : X.mg x = none) (hv : bootBuiltins x = some (.builtin id)) (ha : PA X (e :: es) t) (hk : PK X kws tk) (hn : x ≠ "__name__") (hdb : (x == ("__debug__" : Str)) = false)
    (he : backTo pos (starEach (e :: es) X.env) = (false, eval e X.env) :: backTo pos (starEach es X.env)) (hpl : (backTo pos (starEach (e :: es) X.env)).any (·.1) = false)
    (hall : (backToKw pos (keywordEach kws X.env)).all (·.1.isSome) = true) (hnone : (backToKw pos (keywordEach kws X.env)).any (·.1.isNone) = false) (hks : (backToKw pos (keywordEach kws X.env)).filterMap (·.1) = ks) :
    PE X (.Call (.Name x p) (e :: es) kws pos) (fun σ H Q => t σ H fun vs H1 => tk σ H1 fun zs H2 => r σ vs zs H2 Q) := by
  refine ⟨fun pins s σ H Q I h => ?_⟩
  refine wpAny_Call_Name_kw (ld_blt I hg hm hv ?_ hn hdb)
  refine PyProof.Rows.callWith_kw (thn (ha.run pos pins s σ H _ I h) fun us s1 ⟨vs, H1, I1, r1, q1⟩ => thn (hk.run pos pins s1 σ H1 _ I1 q1) fun ws s2 ⟨zs, H2, I2, r2, q2⟩ => ?_) he hpl hall hnone
  rw [hks]
  exact hc pins s2 σ H2 vs zs us ws Q I2 r1 r2 q2
/-! ### the evaluator's -/
def sSortLam (kf : Loc → W → IH → (W → Bool) → Bool) (a : E) : Es := fun c l h k x => a c l h (fun w h1 => lstK w h1 fun ws => sortK false (kf l) h1 ws fun r => k r h1) x
/-- what a lambda's key is, by the evaluator -/
def KfOk (X : Cx) (params : Arguments) (body : Expr) (scope : Scope) (kf : Loc → W → IH → (W → Bool) → Bool) : Prop := ∀ (m : Mp) (h : IH) (H : Hp) (σ : L2.St) (l : Loc) (f c' : Addr), RepH X.K m h H → RepL X.K m H l σ → H f = some (LamO f (mkL X params body scope c')) → H c' = some (CodeO c' (X.env.qual ++ "<lambda>")) →
  ∀ (w : W) (v : V) (c : W → Bool), RV X.K m H w v → kf l w h c = true → ∃ q, (∀ d, DV h q d → okO 40 q = true → TurnL X σ H f v d) ∧ c q = true
theorem sf_sortLam {kf : Loc → W → IH → (W → Bool) → Bool} (hu : X.A.units + 64 < cLine) (L : LamT X) (hg : Gl X "sorted") (hm : X.mg "sorted" = none) (hdef : defaultsOf params X.env = ([], [])) (hfree : ∀ y ∈ scope.names, y.2 = .free → X.env.scope.names.lookup y.1 = some .cell ∨ X.env.scope.names.lookup y.1 = some .free)
    (hkf : KfOk X params body scope kf) (ha : PE X a (tE X.K B Wx fa)) (na : notStar a = true) :
    PE X (.Call (.Name "sorted" p) [a] [⟨some "key", .Lambda params body scope lpos, kpos⟩] pos) (tF X.K B Wx (sSortLam kf fa)) := by
  refine peI (pe_callBKs (r := rLamS X) (fun pins s σ H xs zs us ws Q => cr_lamS hu pins s σ H xs zs us ws Q) hg hm PyProof.Rows.boot_sorted (pa_cons ha pa_nil (star_cons na _ _)) (pk_cons (pe_lam L hdef hfree) pk_nil) (by decide) (by decide) (by rw [star_cons na]; rfl) (by rw [star_cons na]; rfl) rfl rfl rfl) fun σ H Q ⟨m, l, h, k, x, rh, rl, e, hk, hx⟩ => ?_
  refine ⟨m, l, h, _, x, rh, rl, e, fun m1 v w h1 H1 x1 r1 rv e1 => ?_, hx⟩
  refine ⟨r1.tab, fun f c' H2 eN nn T2 f0 f1 c1 => ?_⟩
  have X2 : Ext m1 H1 m1 H2 := Ext.extN (K := X.K) eN nn
  have r2 := r1.extN eN nn T2
  obtain ⟨ws, xs, q, rfl, hq, t, e2⟩ := lstK_ok r2 (RV.mono r1 X2 rv) e1
  obtain ⟨ks, S, rs, e3⟩ := sortK_ok (h := h1) (kf := kf l) (P := fun v q => ∀ d, DV h1 q d → okO 40 q = true → TurnL X σ H2 f v d) (fun w v c r e => hkf m1 h1 H2 σ l f c' r2 (rl.mono rh (x1.trans X2)) f1 c1 w v c r e) t e2
  refine ⟨q, f, ks, rfl, rfl, by rw [S.vs]; exact hq, S.al, S.so.elim (fun z => z) (fun z => nomatch z.1), S.dep, S.len, fun k hk => (S.rv k hk).2 k.d (S.dv k hk) (S.ok k hk), fun p hp => ?_⟩
  have x3 : Ext m1 H2 m1 (upd H2 p (.lst ((sortL leK ks).map KyB.v))) := .laid hp
  refine hk m1 _ _ h1 _ p ((x1.trans X2).trans x3) (r2.laid hp) upd_same ?_ (r2.nofree hp) (RVs.mono r2 x3 rs) e3
  cases z : H p with
  | none => rfl
  | some u => exact absurd hp ((x1.trans X2).there p (by rw [z]; exact fun z => nomatch z))
end
/-! ### the three -/
def tupOf (w : W) (c : List W → Bool) : Bool := W.casesOn w false (fun _ => false) (fun _ => false) (fun _ => false) c (fun _ => false) (fun _ => false) (fun _ _ => false)
def kfLen : Loc → W → IH → (W → Bool) → Bool := fun _ w _ c => tupOf w fun l => c (.tup [.int (Int.ofNat (lenW l)), .tup l])
def kfAbs (i : Nat) : Loc → W → IH → (W → Bool) → Bool := fun l w h c => lgetK i l fun p => intOf p fun j => itemsK w h fun us => ixK j us fun n => nthK n us fun v => intOf v fun z => c (.int (Int.ofNat (iabs z)))
def kfIx (i : Nat) : Loc → W → IH → (W → Bool) → Bool := fun l w h c => lgetK i l fun p => intOf p fun j => tupOf w fun ws => nthK 0 ws fun b => itemsK b h fun us => ixK j us fun n => nthK n us fun v => intOf v fun z => c (.int z)
theorem tupOf_ok {K : PySem.W.Frag} {m : Mp} {H : Hp} {w : W} {v : V} (r : RV K m H w v) {c : List W → Bool} (q : tupOf w c = true) : ∃ ws xs a, w = .tup ws ∧ v = .ref a ∧ SqT K H a xs ∧ RVs K m H ws xs ∧ c ws = true := by
  cases r with
  | @tup ws xs a s t => exact ⟨ws, xs, a, rfl, rfl, s, t, q⟩
  | _ => cases (show false = true from q)
mutual
theorem reads_nil {h : IH} {hp : Heap} : ∀ (n : Nat) (w : W) (d : PyData) (u : Value) (as : List Addr), okO n w = true → DV h w d → Reads hp u d as → as = []
  | 0, w, _, _, _, e, _, _ => by cases (show false = true from e)
  | n + 1, w, d, u, as, e, r, q => by
    cases r with
    | int i => cases q; rfl
    | tup t =>
      cases q with
      | tuple _ _ _ q => exact reads_nils n _ _ _ _ e t q
    | _ => cases (show false = true from e)
theorem reads_nils {h : IH} {hp : Heap} : ∀ (n : Nat) (ws : List W) (ds : List PyData) (us : List Value) (as : List Addr), allB (okO n) ws = true → DVs h ws ds → ReadsAll hp us ds as → as = []
  | n, [], _, _, _, _, .nil, q => by cases q; rfl
  | n, w :: ws, _, _, _, e, .cons r t, q => by
    have e' : and (okO n w) (allB (okO n) ws) = true := e
    rw [Bool.and_eq_true] at e'
    cases q with
    | cons q1 q2 =>
      rw [reads_nil n w _ _ _ e'.1 r q1, reads_nils n ws _ _ _ e'.2 t q2]; rfl
end
section
variable {X : Cx} {params : Arguments} {scope : Scope} {x y : Str} {i k : Nat} {p1 p2 p3 p4 p5 : Pos}
/-- what is asked of a lambda's names -/
structure LmX (X : Cx) (params : Arguments) (scope : Scope) (x : Str) : Prop where
  s : LmS scope x
  one : oneArg' params x = true
  dp : X.A.depth < recursionLimit
  dx : (x == ("__debug__" : Str)) = false
theorem kf_len (L : LmX X params scope x) (hg : scope.names.lookup ("len" : Str) = some .globalImplicit) (hm : X.mg ("len" : Str) = none) : KfOk X params (bLen x p1 p2 p3 p4 p5 k) scope kfLen := by
  intro m h H σ l f c' rh rl hf hc w v c rv e
  obtain ⟨ws, xs, a, rfl, rfl, hs, t, e1⟩ := tupOf_ok rv e
  refine ⟨_, fun d hd hok pins s I u ru hp tk kp => ?_, e1⟩
  cases ru
  cases hd with
  | tup hd2 =>
    cases hd2 with
    | cons h1 h2 =>
      cases h1
      cases h2 with
      | @cons _ _ d2 _ h3 h4 =>
        cases h4
        have hok' : and (okO 39 (W.int (Int.ofNat (lenW ws)))) (and (okO 39 (W.tup ws)) true) = true := hok
        simp only [Bool.and_eq_true] at hok'
        obtain ⟨pm, ctv, ho⟩ := lamO_at I.hok hf
        obtain ⟨z1, z2, z3, z4, z5, z6, z7, z8⟩ := codeO_at I.hok hc
        obtain ⟨its, rvi, ht, hz⟩ := I.tuple hs
        obtain ⟨as, hr⟩ := Dp.reads I _ _ _ (h3.dp rh rv) (show RelV (V.ref a) (.ref a) from rfl)
        have eas := reads_nil 39 _ _ _ _ hok'.2.1 h3 hr
        subst eas
        obtain ⟨o, o1, o2⟩ := id ht
        have hlen : (lenW ws : Nat) = its.toArray.size := by rw [lenW_ok, t.length, rvi.length, List.size_toArray]
        have hln := rvi.length
        have hn := line63
        have z := lam_len (s := { s with heap := hp, toks := tk }) (P := X.prog) (w := X.w) (K := X.K) (mg := X.mg) (base := X.base) (A := X.A.in1.in1) (F := mkL X params (bLen x p1 p2 p3 p4 p5 k) scope c') (d := d2) L.dp I.mod (fun b o e => kp b o (I.bk b o e)) hm (kp _ _ ho) L.s L.one ⟨z1, z2, z3, z4, z5, kp _ _ z6, z7, z8⟩ rfl hg L.dx (its := its.toArray) (a := a) ⟨o, kp _ _ o1, o2⟩ (by rw [List.size_toArray]; omega) (PyProof.Rows.Reads.keeps kp hr)
        rw [← hlen] at z
        exact z
/-- the captured name's cell -/
theorem cell_of {pins : List (Addr × Obj)} {s : Shared} {σ : L2.St} {H : Hp} {j : Int} (I : Inv X pins σ H s) (hi : X.N[i]? = some y) (hv : σ[i]? = some (some (.int j))) (hc : X.env.scope.names.lookup y = some .cell) (hy : (y, NameKind.free) ∈ scope.names) (hfree : ∀ y ∈ scope.names, y.2 = .free → X.env.scope.names.lookup y.1 = some .cell ∨ X.env.scope.names.lookup y.1 = some .free) :
    ∃ c tj, (cloFrom X.env.cells scope.names []).lookup y = some c ∧ s.heap.IsCell c (some (.int j tj)) := by
  obtain ⟨m, hn, hl⟩ := I.loc
  obtain ⟨u, ru, lk⟩ := hl i y (.int j) hi hv (.inr (.inl hc))
  obtain ⟨t, rfl⟩ := ru
  rcases lk with ⟨kk, _⟩ | ⟨_, c, e1, e2⟩
  · have kk : X.env.scope.names.lookup y = some .local := kk
    rw [hc] at kk; cases kk
  · exact ⟨c, t, clo_has (fun y hy e => (hfree y hy e).elim (fun z => I.ok.has _ (.inl z)) fun z => I.ok.has _ (.inr z)) hy e1, e2⟩
/-- what is asked of the captured name -/
structure LmF (X : Cx) (scope : Scope) (y : Str) (i : Nat) : Prop where
  hi : X.N[i]? = some y
  hc : X.env.scope.names.lookup y = some .cell
  hy : scope.names.lookup y = some .free
  hfree : ∀ y ∈ scope.names, y.2 = .free → X.env.scope.names.lookup y.1 = some .cell ∨ X.env.scope.names.lookup y.1 = some .free
  dy : (y == ("__debug__" : Str)) = false
  dc : (y == ("__classdict__" : Str)) = false
theorem its_at {pins : List (Addr × Obj)} {s : Shared} {σ : L2.St} {H : Hp} {a : Addr} {xs : List V} (I : Inv X pins σ H s) (hq : SqL X.K H a xs ∨ SqT X.K H a xs) : ∃ its, Vals xs its ∧ ItsAt s.heap a its ∧ its.length ≤ sizeLine := by
  rcases hq with hq | hq
  · obtain ⟨its, r, pl, hz⟩ := I.list hq
    exact ⟨its, r, .inr pl.isList, by rw [← r.length]; exact hz⟩
  · obtain ⟨its, r, pl, hz⟩ := I.tuple hq
    exact ⟨its, r, .inl pl, by rw [← r.length]; exact hz⟩
theorem int_at {m : Mp} {H : Hp} {us : List W} {xs : List V} {its : List Value} {j : Int} {n : Nat} {v : W} {c : Int → Bool} (t : RVs X.K m H us xs) (r : Vals xs its) (e2 : n < us.length → ixN us.length j = some n) (e3 : us[n]? = some v) (e4 : intOf v c = true) : ∃ z ti, v = .int z ∧ c z = true ∧ ixN its.length j = some n ∧ its[n]? = some (.int z ti) := by
  obtain ⟨y, e5, ry⟩ := t.get e3
  obtain ⟨z, rfl, rfl, e6⟩ := intOf_ok ry e4
  obtain ⟨u, hu, ru⟩ := r.get e5
  obtain ⟨ti, rfl⟩ := ru
  have hn : n < us.length := (List.getElem?_eq_some_iff.mp e3).1
  exact ⟨z, ti, rfl, e6, by rw [← r.length, ← t.length]; exact e2 hn, hu⟩
theorem kf_abs (L : LmX X params scope x) (F : LmF X scope y i) (hg : scope.names.lookup ("abs" : Str) = some .globalImplicit) (hm : X.mg ("abs" : Str) = none) : KfOk X params (bAbs x y p1 p2 p3 p4 p5) scope (kfAbs i) := by
  intro m h H σ l f c' rh rl hf hc w v c rv e
  obtain ⟨pw, e1, e⟩ := lgetK_ok i l _ e
  obtain ⟨pv, e2, rp⟩ := rl.2 i pw e1
  obtain ⟨j, rfl, rfl, e⟩ := intOf_ok rp e
  obtain ⟨us, xs, a, rfl, hq, t, e⟩ := itemsK_ok rh rv e
  obtain ⟨n, e, e3⟩ := ixK_ixN e
  obtain ⟨zv, e4, e⟩ := nthK_ok' _ _ _ e
  obtain ⟨y0, e5, ry0⟩ := t.get e4
  obtain ⟨z0, rfl, rfl, e6⟩ := intOf_ok ry0 e
  refine ⟨_, fun d hd hok pins s I u ru hp tk kp => ?_, e6⟩
  cases ru
  cases hd
  obtain ⟨its, r, hi, hz⟩ := its_at I hq
  obtain ⟨z, ti, ez, _, hj, hu⟩ := int_at (c := fun _ => true) t r e3 e4 rfl
  cases ez
  obtain ⟨pm, ctv, ho⟩ := lamO_at I.hok hf
  obtain ⟨z1, z2, z3, z4, z5, z6, z7, z8⟩ := codeO_at I.hok hc
  obtain ⟨c, tj, k1, k2⟩ := cell_of (y := y) I F.hi e2 F.hc (PySem.mem_of_lookup F.hy) F.hfree
  have q := lam_abs (s := { s with heap := hp, toks := tk }) (P := X.prog) (w := X.w) (K := X.K) (mg := X.mg) (base := X.base) (A := X.A.in1.in1) (F := mkL X params (bAbs x y p1 p2 p3 p4 p5) scope c') L.dp I.mod (fun b o e => kp b o (I.bk b o e)) hm (kp _ _ ho) L.s L.one ⟨z1, z2, z3, z4, z5, kp _ _ z6, z7, z8⟩ rfl hg F.hy L.dx F.dy F.dc k1 (isCell_keeps kp k2) (hi.keeps kp) hz hj hu
  rw [iabs_ok]
  exact q
theorem kf_ix (L : LmX X params scope x) (F : LmF X scope y i) : KfOk X params (bIx x y k p1 p2 p3 p4 p5) scope (kfIx i) := by
  intro m h H σ l f c' rh rl hf hc w v c rv e
  obtain ⟨pw, e1, e⟩ := lgetK_ok i l _ e
  obtain ⟨pv, e2, rp⟩ := rl.2 i pw e1
  obtain ⟨j, rfl, rfl, e⟩ := intOf_ok rp e
  obtain ⟨ws, xs, a, rfl, rfl, hs, t, e⟩ := tupOf_ok rv e
  obtain ⟨bw, b1, e⟩ := nthK_ok' _ _ _ e
  obtain ⟨bv, b2, rb⟩ := t.get b1
  obtain ⟨us, ys, b, rfl, hq, t2, e⟩ := itemsK_ok rh rb e
  obtain ⟨n, e, e3⟩ := ixK_ixN e
  obtain ⟨zv, e4, e⟩ := nthK_ok' _ _ _ e
  obtain ⟨y0, e5, ry0⟩ := t2.get e4
  obtain ⟨z0, rfl, rfl, e6⟩ := intOf_ok ry0 e
  refine ⟨_, fun d hd hok pins s I u ru hp tk kp => ?_, e6⟩
  cases ru
  cases hd
  obtain ⟨its, r, hi, hz⟩ := its_at I (.inr hs)
  obtain ⟨its2, r2, hi2, hz2⟩ := its_at I hq
  obtain ⟨z, ti, ez, _, hj, hu⟩ := int_at (c := fun _ => true) t2 r2 e3 e4 rfl
  cases ez
  obtain ⟨ub, ub1, ub2⟩ := r.get b2
  cases ub2
  obtain ⟨pm, ctv, ho⟩ := lamO_at I.hok hf
  obtain ⟨z1, z2, z3, z4, z5, z6, z7, z8⟩ := codeO_at I.hok hc
  obtain ⟨c, tj, k1, k2⟩ := cell_of (y := y) I F.hi e2 F.hc (PySem.mem_of_lookup F.hy) F.hfree
  exact lam_ix (s := { s with heap := hp, toks := tk }) (P := X.prog) (w := X.w) (K := X.K) (mg := X.mg) (base := X.base) (A := X.A.in1.in1) (F := mkL X params (bIx x y k p1 p2 p3 p4 p5) scope c') L.dp I.mod (fun b o e => kp b o (I.bk b o e)) (kp _ _ ho) L.s L.one ⟨z1, z2, z3, z4, z5, kp _ _ z6, z7, z8⟩ rfl F.hy L.dx F.dy F.dc k1 (isCell_keeps kp k2) (hi.keeps kp) hz ub1 (hi2.keeps kp) hz2 hj hu
end
end
end It

set_option Elab.async false
set_option linter.all false
set_option maxRecDepth 100000
set_option maxHeartbeats 1000000
/-! ItPj: sorted(set(x)), x a list of tuples of whole numbers. -/
namespace It
open PySem PySem.Spec PyProof.Rows L2
noncomputable section
def tdat (ns : List Int) : PyData := .tuple (ns.map .int)
theorem alikeAll_ints : ∀ a b : List Int, PySem.W.alikeAll (a.map .int) (b.map .int) = true
  | [], _ => by simp [PySem.W.alikeAll]
  | _ :: _, [] => by simp [PySem.W.alikeAll]
  | x :: a, y :: b => by
    show PySem.W.alikeAll (.int x :: a.map .int) (.int y :: b.map .int) = true
    simp only [PySem.W.alikeAll, PySem.W.alike, Bool.true_and]
    exact alikeAll_ints a b
theorem alike_tdat (a b : List Int) : PySem.W.alike (tdat a) (tdat b) = true := by
  show PySem.W.alike (.tuple _) (.tuple _) = true
  simp only [PySem.W.alike]
  exact alikeAll_ints a b
/-- the signs of a row of numbers -/
def tki (ns : List Int) : List Int := List.rec [0] (fun x _ ih => 1 :: x :: ih) ns
theorem tki_ok : ∀ ns : List Int, PySem.W.keyToks (tdat ns) = (tki ns).map .inl
  | [] => rfl
  | x :: ns => by
    have ih := tki_ok ns
    have e1 : PySem.W.keyToks (tdat ns) = PySem.W.keyToksAll (ns.map .int) := rfl
    show PySem.W.keyToksAll (.int x :: ns.map .int) = Sum.inl 1 :: Sum.inl x :: (tki ns).map .inl
    rw [PySem.W.toks_all_cons, ← ih, e1]
    rfl
theorem tki_inj : ∀ {a b : List Int}, tki a = tki b → a = b
  | [], [], _ => rfl
  | [], y :: b, h => by
    have h : ([0] : List Int) = 1 :: y :: tki b := h
    injection h with h1 h2; cases h1
  | x :: a, [], h => by
    have h : (1 : Int) :: x :: tki a = [0] := h
    injection h with h1 h2; cases h1
  | x :: a, y :: b, h => by
    have h : (1 : Int) :: x :: tki a = 1 :: y :: tki b := h
    injection h with _ h2
    injection h2 with h3 h4
    rw [h3, tki_inj h4]
theorem depth_ints : ∀ ns : List Int, PyData.depthAll (ns.map .int) = 0
  | [] => by simp [PyData.depthAll]
  | x :: ns => by
    have ih := depth_ints ns
    show PyData.depthAll (.int x :: ns.map .int) = 0
    simp only [PyData.depthAll, PyData.depth, ih]
    rfl
theorem depth_tdat (ns : List Int) : (tdat ns).depth ≤ 40 := by
  show (PyData.tuple (ns.map .int)).depth ≤ 40
  simp only [PyData.depth, depth_ints]
  omega
theorem reads_ints {h : Heap} : ∀ {ns : List Int} {us : List Value}, Vals (ns.map V.int) us → ReadsAll h us (ns.map .int) []
  | [], _, .nil => .nil
  | n :: ns, _, .cons r t => by
    obtain ⟨tk, rfl⟩ := r
    exact .cons (as := []) (.int n tk) (reads_ints t)
theorem perm_lift {α β : Type} {g : α → β} {vs us : List β} (p : vs.Perm us) : ∀ L : List α, us = L.map g → ∃ L1 : List α, L1.Perm L ∧ vs = L1.map g := by
  induction p with
  | nil =>
    intro L e
    cases L with
    | nil => exact ⟨[], .nil, rfl⟩
    | cons a L => cases e
  | cons x _ ih =>
    intro L e
    cases L with
    | nil => cases e
    | cons a L =>
      injection e with e1 e2
      obtain ⟨L1, p1, q1⟩ := ih L e2
      exact ⟨a :: L1, p1.cons a, by rw [List.map_cons, ← q1, ← e1]⟩
  | swap x y l =>
    intro L e
    cases L with
    | nil => cases e
    | cons a L =>
      cases L with
      | nil => injection e with _ e2; cases e2
      | cons b L =>
        injection e with e1 e2
        injection e2 with e2 e3
        exact ⟨b :: a :: L, .swap a b L, by rw [List.map_cons, List.map_cons, ← e1, ← e2, ← e3]⟩
  | trans _ _ ih1 ih2 =>
    intro L e
    obtain ⟨L1, p1, q1⟩ := ih2 L e
    obtain ⟨L2, p2, q2⟩ := ih1 L1 q1
    exact ⟨L2, p2.trans p1, q2⟩
abbrev Row := Addr × List Int
def leR (a b : List Int) : Bool := not (ltI (tki b) (tki a))
theorem leR_tr (a b c : List Int) (h1 : leR a b = true) (h2 : leR b c = true) : leR a c = true := by
  have h1 : (!ltI (tki b) (tki a)) = true := h1
  have h2 : (!ltI (tki c) (tki b)) = true := h2
  show (!ltI (tki c) (tki a)) = true
  cases q : ltI (tki c) (tki a) with
  | false => rfl
  | true =>
    rcases ltI_neg _ (tki b) _ q with z | z
    · rw [z] at h2; cases h2
    · rw [z] at h1; cases h1
theorem leR_to (a b : List Int) : (leR a b || leR b a) = true := by
  show (!ltI (tki b) (tki a) || !ltI (tki a) (tki b)) = true
  cases q : ltI (tki b) (tki a) with
  | false => rfl
  | true =>
    cases q2 : ltI (tki a) (tki b) with
    | false => rfl
    | true =>
      have z := ltI_tr _ _ _ q q2
      rw [ltI_irr] at z; cases z
theorem le_rows : PySem.W.dataLe false (fun q : Row => tdat q.2) = fun a b => leR a.2 b.2 := by
  funext a b
  show (!(PyProof.Rows.lexLt PyProof.Rows.itemOrd (PySem.W.keyToks (tdat b.2)) (PySem.W.keyToks (tdat a.2)))) = _
  rw [tki_ok, tki_ok, ltI_ok]
  rfl
theorem out_rows : ∀ {out : List Value} {L : List Row}, PySem.W.EachIs (fun v (q : Row) => v = Value.ref q.1) out L → out = L.map fun q => Value.ref q.1
  | _, _, .nil => rfl
  | _, _, .cons e t => by rw [e, out_rows t]; rfl
theorem each_rows : ∀ L : List Row, PySem.W.EachIs (fun v (q : Row) => v = Value.ref q.1) (L.map fun q => Value.ref q.1) L
  | [] => .nil
  | q :: L => .cons rfl (each_rows L)
section
variable {P : Program} {w : World} {A : Around} {E : Value → Shared → Prop} {s : Shared}
theorem sorted_rows {a : Addr} {L : List Row} {es : Array (Int × Value)} {ep : Nat} {t : SetTable} {Q : Value → Shared → Prop} (R : SetTR P w s.heap a L es ep t) (hh : A.handled = none) (hr : ∀ p ∈ L, Reads s.heap (.ref p.1) (tdat p.2) []) (hs : (∀ p ∈ L, p.2 ≠ []) ∨ L.length ≤ 1) (hu : A.units + 64 < cLine)
    (hQ : ∀ (s' : Shared) (p : Addr) (c : Nat) (L' : List Row), (∀ b o, s.heap.get? b = some o → s'.heap.get? b = some o) → s'.gens = s.gens → s'.os = s.os → s.heap.objs.size ≤ p → s'.heap.get? p = some (seqObj "list" (L'.map fun q => Value.ref q.1).toArray c) → L'.Perm L → L'.Pairwise (fun q r => leR q.2 r.2 = true) → Q (.ref p) s') :
    wpAny (model P w) A (call (.builtin "sorted") [.ref a]) Q E s := by
  obtain ⟨ob, hob, hex, hdt⟩ := R.ob
  have few := R.few
  refine Calls.call_function_entry kind_sorted plain_sorted entry_sorted (args_sorted1 _) ?_
  unfold Builtin.«sorted»
  refine wpAny_bind (m := checkCount "sorted" 1 1 _) (wpAny_pure (wpAny_bind (collect_set (A := A.in1) hh ⟨ob, hob, hex.1, hdt⟩ R.fits (by have := R.size; unfold scanBound; omega) R.tab.ris R.led fun s1 vs k1 hz g1 o1 pm => ?_)))
  have hrows : es.toList.map (·.2) = L.map fun q => Value.ref q.1 := by rw [R.rows]; unfold rowsOf; rw [List.map_map]; rfl
  obtain ⟨L1, p1, rfl⟩ := perm_lift (g := fun q : Row => Value.ref q.1) pm L hrows
  have len1 : (L1.map fun q : Row => Value.ref q.1).length = L.length := by rw [List.length_map, p1.length_eq]
  have lz : (L1.map fun q : Row => Value.ref q.1).length ≤ sizeLine := by rw [len1, sizeLine_eq]; omega
  refine wpAny_bind (wpAny_newList ?_ lz)
  have at1 : (s1.heap.push (seqObj "list" (L1.map fun q : Row => Value.ref q.1).toArray 0)).get? s1.heap.objs.size = some (seqObj "list" (L1.map fun q : Row => Value.ref q.1).toArray 0) := Heap.get?_push_size _ rfl
  have up : ∀ b u, s.heap.get? b = some u → (PySem.W.sortingHeap (s1.heap.push (seqObj "list" (L1.map fun q : Row => Value.ref q.1).toArray 0)) s1.heap.objs.size (L1.map fun q : Row => Value.ref q.1)).get? b = some u := fun b u e =>
    PySem.W.sortingHeap_old (Nat.ne_of_lt (Heap.lt_size (k1 b u e))) (Heap.get?_push_of_some _ (k1 b u e))
  have each := each_rows L1
  have er : PySem.W.EachIs (fun v (q : Row) => ∃ as, Reads (PySem.W.sortingHeap (s1.heap.push (seqObj "list" (L1.map fun q : Row => Value.ref q.1).toArray 0)) s1.heap.objs.size (L1.map fun q : Row => Value.ref q.1)) v (tdat q.2) as) (L1.map fun q => Value.ref q.1) L1 :=
    (PySem.W.each_mem each).mono fun v q ⟨e, hq⟩ => ⟨[], by rw [e]; exact PyProof.Rows.Reads.keeps up (hr q (p1.mem_iff.mp hq))⟩
  have al : PySem.W.AllAlike (L1.map fun q : Row => tdat q.2) := fun d hd d' hd' => by
    obtain ⟨q, _, rfl⟩ := List.mem_map.mp hd
    obtain ⟨q', _, rfl⟩ := List.mem_map.mp hd'
    exact alike_tdat _ _
  have so : PySem.W.Sortable (L1.map fun q : Row => tdat q.2) ∨ (L1.map fun q : Row => Value.ref q.1).length ≤ 1 := by
    rcases hs with hs | hs
    · refine .inl (.inl fun d hd => ?_)
      obtain ⟨q, hq, rfl⟩ := List.mem_map.mp hd
      have ne := hs q (p1.mem_iff.mp hq)
      cases h : q.2 with
      | nil => exact absurd h ne
      | cons x r => exact ⟨.int x, r.map .int, rfl⟩
    · exact .inr (by rw [len1]; exact hs)
  have S := sorts_of (prog := P) (w := w) (A := A.in1.in1) (s := { s1 with heap := PySem.W.sortingHeap (s1.heap.push (seqObj "list" (L1.map fun q : Row => Value.ref q.1).toArray 0)) s1.heap.objs.size (L1.map fun q : Row => Value.ref q.1) }) (PySem.W.each_map (R := fun v d => ∃ as, Reads (PySem.W.sortingHeap (s1.heap.push (seqObj "list" (L1.map fun q : Row => Value.ref q.1).toArray 0)) s1.heap.objs.size (L1.map fun q : Row => Value.ref q.1)) v d as) (fun q : Row => tdat q.2) er) al so
    (fun d hd => by obtain ⟨q, _, rfl⟩ := List.mem_map.mp hd; exact fun z => nomatch z) (fun d hd => by
      obtain ⟨q, _, rfl⟩ := List.mem_map.mp hd
      have := depth_tdat q.2
      show A.units + 1 + 1 + (tdat q.2).depth < cLine
      omega)
  refine wpAny_bind (wpAny_holding (wpAny_call_entry slot_list_sort ⟨_, at1, rfl⟩ entry_list_sort (PySem.W.list_sort_vals (s := { s1 with heap := s1.heap.push (seqObj "list" (L1.map fun q : Row => Value.ref q.1).toArray 0) }) at1 S lz ⟨.none, rfl, ?_⟩) (args_list_sort _)))
  have eo := PySem.W.sortVals_data false each er al
  rw [le_rows] at eo
  have eo2 := out_rows eo
  obtain ⟨c, hc⟩ := sortedHeap_at (vs := L1.map fun q : Row => Value.ref q.1) (out := (L1.mergeSort fun a b => leR a.2 b.2).map (fun q => Value.ref q.1) |>.toArray) at1
  refine wpAny_pure ⟨_, rfl, hQ _ s1.heap.objs.size c (L1.mergeSort fun a b => leR a.2 b.2) (fun b u e => ?_) g1 o1 hz ?_ ((List.mergeSort_perm _ _).trans p1) (List.pairwise_mergeSort (fun a b c => leR_tr a.2 b.2 c.2) (fun a b => leR_to a.2 b.2) _)⟩
  · have q := k1 b u e
    have hlt := Heap.lt_size q
    exact (sortedHeap_old (Nat.ne_of_lt hlt) (by rw [size_push']; exact Nat.lt_succ_of_lt hlt)).trans (Heap.get?_push_of_some _ q)
  · rw [eo2]; exact hc
end
end
end It

set_option Elab.async false
set_option linter.all false
set_option maxRecDepth 100000
set_option maxHeartbeats 1000000
/-! ItPk: sorted(set(x)), x a list of tuples of whole numbers: the rule. -/
namespace It
open PySem PySem.Spec PyProof.Rows L2
noncomputable section
theorem ltI_same (x : Int) (a b : List Int) : ltI (x :: a) (x :: b) = ltI a b := by
  show cond (ilt x x) true (cond (ilt x x) false (ltI a b)) = _
  rw [ilt_ok, decide_eq_false (Int.lt_irrefl x)]; rfl
theorem ltI_tki : ∀ a b : List Int, ltI (tki a) (tki b) = ltI a b
  | [], [] => by rfl
  | [], y :: b => by rfl
  | x :: a, [] => by rfl
  | x :: a, y :: b => by
    show ltI (1 :: x :: tki a) (1 :: y :: tki b) = _
    rw [ltI_same]
    show cond (ilt x y) true (cond (ilt y x) false (ltI (tki a) (tki b))) = cond (ilt x y) true (cond (ilt y x) false (ltI a b))
    rw [ltI_tki a b]
theorem ltI_eq : ∀ {a b : List Int}, ltI a b = false → ltI b a = false → a = b
  | [], [], _, _ => rfl
  | [], y :: b, h, _ => by cases (show true = false from h)
  | x :: a, [], _, h => by cases (show true = false from h)
  | x :: a, y :: b, h1, h2 => by
    have h1 : cond (ilt x y) true (cond (ilt y x) false (ltI a b)) = false := h1
    have h2 : cond (ilt y x) true (cond (ilt x y) false (ltI b a)) = false := h2
    rw [ilt_ok, ilt_ok] at h1 h2
    by_cases c : x < y
    · rw [decide_eq_true c] at h1; cases h1
    · by_cases d : y < x
      · rw [decide_eq_true d] at h2; cases h2
      · rw [decide_eq_false c, decide_eq_false d] at h1 h2
        have e : x = y := by omega
        rw [e, ltI_eq h1 h2]
def insR (x : List Int) (l : List (List Int)) : List (List Int) := List.rec [x] (fun y r ih => cond (ltI x y) (x :: y :: r) (cond (ltI y x) (y :: ih) (y :: r))) l
def srtR (l : List (List Int)) : List (List Int) := List.rec [] (fun x _ ih => insR x ih) l
theorem insR_mem (x k : List Int) : ∀ l : List (List Int), k ∈ insR x l ↔ k = x ∨ k ∈ l
  | [] => by show k ∈ [x] ↔ _; simp
  | y :: r => by
    show k ∈ cond (ltI x y) (x :: y :: r) (cond (ltI y x) (y :: insR x r) (y :: r)) ↔ _
    cases h1 : ltI x y with
    | true => show k ∈ x :: y :: r ↔ _; simp
    | false =>
      cases h2 : ltI y x with
      | true =>
        show k ∈ y :: insR x r ↔ _
        rw [List.mem_cons, insR_mem x k r, List.mem_cons]
        constructor
        · rintro (h | h | h) <;> simp [h]
        · rintro (h | h | h) <;> simp [h]
      | false =>
        have e := ltI_eq h1 h2
        subst e; show k ∈ x :: r ↔ _; simp
theorem insR_pw (x : List Int) : ∀ l : List (List Int), l.Pairwise (fun a b => ltI a b = true) → (insR x l).Pairwise (fun a b => ltI a b = true)
  | [], _ => by show [x].Pairwise _; simp
  | y :: r, h => by
    show (cond (ltI x y) (x :: y :: r) (cond (ltI y x) (y :: insR x r) (y :: r))).Pairwise _
    obtain ⟨h3, h4⟩ := List.pairwise_cons.mp h
    cases h1 : ltI x y with
    | true =>
      show (x :: y :: r).Pairwise _
      refine List.pairwise_cons.mpr ⟨fun z hz => ?_, h⟩
      rcases List.mem_cons.mp hz with rfl | hz
      · exact h1
      · exact ltI_tr _ _ _ h1 (h3 z hz)
    | false =>
      cases h2 : ltI y x with
      | true =>
        show (y :: insR x r).Pairwise _
        refine List.pairwise_cons.mpr ⟨fun z hz => ?_, insR_pw x r h4⟩
        rcases (insR_mem x z r).mp hz with rfl | hz
        · exact h2
        · exact h3 z hz
      | false => exact h
theorem srtR_mem (k : List Int) : ∀ l : List (List Int), k ∈ srtR l ↔ k ∈ l
  | [] => Iff.rfl
  | x :: l => by
    show k ∈ insR x (srtR l) ↔ _
    rw [insR_mem, srtR_mem k l, List.mem_cons]
theorem srtR_pw : ∀ l : List (List Int), (srtR l).Pairwise (fun a b => ltI a b = true)
  | [] => .nil
  | x :: l => insR_pw x _ (srtR_pw l)
theorem pwR_uniq : ∀ {a b : List (List Int)}, a.Pairwise (fun a b => ltI a b = true) → b.Pairwise (fun a b => ltI a b = true) → (∀ k, k ∈ a ↔ k ∈ b) → a = b
  | [], [], _, _, _ => rfl
  | [], y :: b, _, _, h => by have := (h y).mpr List.mem_cons_self; cases this
  | x :: a, [], _, _, h => by have := (h x).mp List.mem_cons_self; cases this
  | x :: a, y :: b, ha, hb, h => by
    obtain ⟨a1, a2⟩ := List.pairwise_cons.mp ha
    obtain ⟨b1, b2⟩ := List.pairwise_cons.mp hb
    have no : ∀ {z : List Int}, ltI z z = true → False := fun {z} q => by rw [ltI_irr] at q; cases q
    have e : x = y := by
      rcases List.mem_cons.mp ((h x).mp List.mem_cons_self) with e | h1
      · exact e
      · rcases List.mem_cons.mp ((h y).mpr List.mem_cons_self) with e | h2
        · exact e.symm
        · exact (no (ltI_tr _ _ _ (b1 x h1) (a1 y h2))).elim
    subst e
    congr 1
    refine pwR_uniq a2 b2 fun k => ⟨fun hk => ?_, fun hk => ?_⟩
    · rcases List.mem_cons.mp ((h k).mp (List.mem_cons_of_mem _ hk)) with e | h1
      · subst e; exact (no (a1 _ hk)).elim
      · exact h1
    · rcases List.mem_cons.mp ((h k).mpr (List.mem_cons_of_mem _ hk)) with e | h1
      · subst e; exact (no (b1 _ hk)).elim
      · exact h1
/-! ### the rows by the evaluator -/
def rowsW (l : List W) (c : List (List Int) → Bool) : Bool := List.rec (fun c => c []) (fun w _ ih c => tupOf w fun us => intsW us fun r => ih fun rs => c (r :: rs)) l c
def rowW (l : List (List Int)) : List W := List.rec [] (fun r _ ih => W.tup (toW r) :: ih) l
def noNil (l : List Int) : Bool := List.casesOn l false (fun _ _ => true)
def noNils (l : List (List Int)) : Bool := List.rec true (fun r _ ih => and (noNil r) ih) l
def leOne (l : List (List Int)) : Bool := List.casesOn l true (fun _ t => List.casesOn t true (fun _ _ => false))
def kRows (ws : List W) (c : List W → Bool) : Bool := rowsW ws fun rs => cond (Nat.blt (lenW ws) 64) (cond (or (noNils rs) (leOne (srtR rs))) (c (rowW (srtR rs))) false) false
def fstTup (w : W) (h : IH) : Bool := itemsK w h fun ws => List.casesOn ws false (fun x _ => tupOf x fun _ => true)
def sSortSetG (a : E) : Es := fun c l h k x => a c l h (fun w h1 => cond (fstTup w h1) (lstK w h1 fun ws => kRows ws fun r => k r h1) (itemsK w h1 fun ws => intsW ws fun is => cond (Nat.blt (lenW ws) 64) (k (toW (srtU is)) h1) false)) x
theorem rowsW_ok {K : PySem.W.Frag} {m : Mp} {H : Hp} : ∀ {ws : List W} {xs : List V} {c : List (List Int) → Bool}, RVs K m H ws xs → rowsW ws c = true → ∃ L : List Row, xs = L.map (fun q => V.ref q.1) ∧ (∀ q ∈ L, SqT K H q.1 (q.2.map V.int)) ∧ c (L.map (·.2)) = true
  | _, _, c, .nil, q => ⟨[], rfl, (fun q h => by cases h), q⟩
  | _, _, c, .cons r t, q => by
    obtain ⟨us, vs, a, rfl, rfl, s1, t1, q1⟩ := tupOf_ok r q
    obtain ⟨is, rfl, q2⟩ := intsW_ok t1 q1
    obtain ⟨L, rfl, h2, q3⟩ := rowsW_ok t q2
    refine ⟨(a, is) :: L, rfl, fun q hq => ?_, q3⟩
    rcases List.mem_cons.mp hq with rfl | hq
    · exact s1
    · exact h2 q hq
theorem noNils_ok : ∀ {l : List (List Int)}, noNils l = true → ∀ r ∈ l, r ≠ []
  | [], _, r, hr => nomatch hr
  | x :: l, h, r, hr => by
    have h : and (noNil x) (noNils l) = true := h
    rw [Bool.and_eq_true] at h
    rcases List.mem_cons.mp hr with rfl | hr
    · rintro rfl; cases (show false = true from h.1)
    · exact noNils_ok h.2 r hr
theorem leOne_ok {l : List (List Int)} (h : leOne l = true) {b : List (List Int)} (nd : b.Nodup) (hs : ∀ k ∈ b, k ∈ l) : b.length ≤ 1 := by
  match b, nd, hs with
  | [], _, _ => exact Nat.zero_le _
  | [_], _, _ => exact Nat.le_refl _
  | x :: y :: t, nd, hs =>
    match l, h with
    | [], _ => exact nomatch hs x List.mem_cons_self
    | [z], _ =>
      have e1 := List.mem_singleton.mp (hs x List.mem_cons_self)
      have e2 := List.mem_singleton.mp (hs y (List.mem_cons_of_mem _ List.mem_cons_self))
      have h3 := (List.nodup_cons.mp nd).1
      exact absurd (by rw [e1, e2]; exact List.mem_cons_self) h3
    | _ :: _ :: _, h => cases (show false = true from h)
theorem rows_rvs {K : PySem.W.Frag} {m : Mp} {H : Hp} : ∀ {L : List Row}, (∀ q ∈ L, SqT K H q.1 (q.2.map V.int)) → RVs K m H (rowW (L.map (·.2))) (L.map fun q => V.ref q.1)
  | [], _ => .nil
  | q :: L, h => .cons (.tup (h q List.mem_cons_self) (toW_rvs _)) (rows_rvs fun p hp => h p (List.mem_cons_of_mem _ hp))
/-- what is strictly in order -/
theorem strict_rows : ∀ {L : List Row}, L.Pairwise (fun q r => leR q.2 r.2 = true) → (L.map (·.2)).Nodup → (L.map (·.2)).Pairwise (fun a b => ltI a b = true)
  | [], _, _ => .nil
  | q :: L, h, nd => by
    obtain ⟨h1, h2⟩ := List.pairwise_cons.mp h
    obtain ⟨n1, n2⟩ := List.nodup_cons.mp nd
    refine List.pairwise_cons.mpr ⟨fun r hr => ?_, strict_rows h2 n2⟩
    obtain ⟨p, hp, rfl⟩ := List.mem_map.mp hr
    have z : (!ltI (tki p.2) (tki q.2)) = true := h1 p hp
    rw [ltI_tki] at z
    cases c : ltI q.2 p.2 with
    | true => rfl
    | false =>
      have d : ltI p.2 q.2 = false := by
        cases d : ltI p.2 q.2 with
        | false => rfl
        | true => rw [d] at z; cases z
      exact absurd (show q.2 ∈ _ by rw [ltI_eq c d]; exact hr) n1
def rSortedR (K : PySem.W.Frag) (P : Program) (w : World) : List V → Hp → VK → Prop := fun vs H Q => ∃ (a : Addr) (L : List Row), vs = [V.ref a] ∧ H a = some (SetTO P w a L) ∧ (∀ p ∈ L, SqT K H p.1 (p.2.map V.int)) ∧ ((L.map (·.2)).Nodup → (∀ p ∈ L, p.2 ≠ []) ∨ L.length ≤ 1) ∧
  ∀ (L' : List Row) (p : Addr), L'.Perm L → (L'.map (·.2)).Nodup → L'.Pairwise (fun q r => leR q.2 r.2 = true) → H p = none → Q (.ref p) (upd H p (.lst (L'.map fun q => V.ref q.1)))
section
variable {X : Cx} {B : Bag} {Wx : WX} {pos p p2 pos2 : Pos} {a : Expr} {fa : E}
theorem cr_sortedR (hc : X.calm = true) (hu : X.A.units + 64 < cLine) : CallR X (.builtin "sorted") (rSortedR X.K X.prog X.w) := by
  intro pins s σ H vs us Q I r h
  obtain ⟨a, L, rfl, ha, hk, hd, q⟩ := h
  have R0 : SetT0 X.prog X.w s.heap a L := (I.hok a _ ha).1
  obtain ⟨es, ep, t, R⟩ := R0.full fun p hp => I.isT (hk p hp)
  rw [Vals.ref1 r]
  refine sorted_rows R (I.ok.hd hc) (fun p hp => ?_) (hd R.nd) hu fun s' p c L' k g o hp hg pm pw => ?_
  · obtain ⟨its, rv, ⟨ob, ho, hcl, n, hdat⟩, _⟩ := I.tuple (hk p hp)
    exact Reads.tuple ho hcl hdat (by rw [List.toList_toArray]; exact reads_ints rv)
  · have hfew : L'.length < 64 := by rw [pm.length_eq]; exact R.few
    have hlen : (L'.map fun q => V.ref q.1).length ≤ sizeLine := by rw [List.length_map, sizeLine_eq]; omega
    have hn : H p = none := I.hok.fresh hp
    have J : Inv X pins σ (upd H p (.lst (L'.map fun q => V.ref q.1))) { s with heap := s'.heap, gens := s'.gens, drawn := s'.drawn, toks := s'.toks } :=
      I.call (ch := []) (Un.laid k hp hn) (I.hok.laid k hp ⟨hlen, L'.map fun q => Value.ref q.1, c, vals_of_refs L', hg⟩) (by rw [g]; exact I.bare) (fun _ z => nomatch z)
    have e : s' = { s with heap := s'.heap, gens := s'.gens, drawn := s'.drawn, toks := s'.toks } := by
      cases s'
      cases s
      cases o
      rfl
    rw [e]
    exact ⟨.ref p, _, J, rfl, q L' p pm ((pm.map (·.2)).nodup_iff.mpr R.nd) pw hn⟩
theorem cr_or {f : Value} {r1 r2 : List V → Hp → VK → Prop} (h1 : CallR X f r1) (h2 : CallR X f r2) : CallR X f (fun xs H Q => r1 xs H Q ∨ r2 xs H Q) := by
  intro pins s σ H xs us Q I r h
  rcases h with h | h
  · exact h1 pins s σ H xs us Q I r h
  · exact h2 pins s σ H xs us Q I r h
theorem sf_sortSetG (hc : X.calm = true) (hu : X.A.units + 64 < cLine) (hg : Gl X "sorted") (hm : X.mg "sorted" = none) (hg2 : Gl X "set") (hm2 : X.mg "set" = none) (ha : PE X a (tE X.K B Wx fa)) (ns : notStar a = true) :
    PE X (.Call (.Name "sorted" p) [.Call (.Name "set" p2) [a] [] pos2] [] pos) (tF X.K B Wx (sSortSetG fa)) := by
  refine peI (pe_callB (cr_or (cr_sortedSet hc) (cr_sortedR hc hu)) hg hm (by decide +kernel) (pa_cons (se_callT1 (cr_or (cr_setI hc) (cr_setOfT hc hu)) hg2 hm2 (by decide +kernel) (by decide) (by decide) ha ns (fun σ H Q q => q)) pa_nil (star_cons rfl _ _)) (by decide) (by decide) (star_cons rfl _ _) rfl) fun σ H Q q => ?_
  obtain ⟨m, l, h, k, x, rh, rl, e, hk, hx⟩ := q
  refine ⟨m, l, h, _, x, rh, rl, e, fun m1 v w h1 H1 x1 r1 rv e1 => ?_, hx⟩
  have e1 : cond (fstTup v h1) (lstK v h1 fun ws => kRows ws fun r => k r h1) (itemsK v h1 fun ws => intsW ws fun is => cond (Nat.blt (lenW ws) 64) (k (toW (srtU is)) h1) false) = true := e1
  cases hf : fstTup v h1 with
  | false =>
    rw [hf] at e1
    obtain ⟨ws, xs, q, rfl, hq, t, e2⟩ := itemsK_ok r1 rv e1
    obtain ⟨is, rfl, e3⟩ := intsW_ok t e2
    obtain ⟨e4, e5⟩ := cond_f e3
    rw [blt_ok, lenW_ok, t.length, List.length_map] at e4
    have e4' := of_decide_eq_true e4
    refine .inl ⟨q, is, rfl, hq, e4', fun b c hb hc' => ?_⟩
    refine .inl ⟨b, _, c, rfl, upd_same, by omega, fun ns' p' hpw hmem hlen hp' => ?_⟩
    have eq : ns' = srtU is := pw_uniq hpw (srtU_pw is) fun k' => by rw [hmem, srtU_mem]; simp
    subst eq
    have x2 : Ext m1 H1 m1 (upd (upd H1 b (SetO X.w b (fun j => decide (j ∈ is)) c)) p' (.lst ((srtU is).map V.int))) := (Ext.laid hb).trans (Ext.laid hp')
    have hp1 : H1 p' = none := by
      by_cases z : p' = b
      · subst z; exact hb
      · rw [upd_ne z] at hp'; exact hp'
    refine hk m1 (toW (srtU is)) _ h1 _ p' (x1.trans x2) ((r1.laid hb).laid hp') upd_same ?_ ?_ (toW_rvs _) e5
    · cases z : H p' with
      | none => rfl
      | some u => exact absurd hp1 (x1.there p' (by rw [z]; exact fun z => nomatch z))
    · exact r1.no0 hp1
  | true =>
    rw [hf] at e1
    obtain ⟨ws, xs, q, rfl, hq, t, e2⟩ := lstK_ok r1 rv e1
    obtain ⟨L, rfl, hL, e3⟩ := rowsW_ok t e2
    obtain ⟨e4, e5⟩ := cond_f e3
    obtain ⟨e6, e7⟩ := cond_f e5
    rw [blt_ok, lenW_ok, t.length, List.length_map] at e4
    have e4' := of_decide_eq_true e4
    refine .inr ⟨q, L, rfl, hq, hL, e4', fun b M hb hM1 hM2 => ?_⟩
    have mm : ∀ k, k ∈ M.map (·.2) ↔ k ∈ L.map (·.2) := fun k => ⟨fun z => by
      obtain ⟨p, hp, rfl⟩ := List.mem_map.mp z
      exact List.mem_map.mpr ⟨p, hM1 p hp, rfl⟩, fun z => by
      obtain ⟨p, hp, rfl⟩ := List.mem_map.mp z
      exact hM2 p hp⟩
    have xb : Ext m1 H1 m1 (upd H1 b (SetTO X.prog X.w b M)) := Ext.laid hb
    refine .inr ⟨b, M, rfl, upd_same, fun p hp => r1.sqT xb (hL p (hM1 p hp)), fun nd => ?_, fun L' p' pm nd pw hp' => ?_⟩
    · rw [Bool.or_eq_true] at e6
      rcases e6 with e6 | e6
      · exact .inl fun p hp => noNils_ok e6 p.2 (List.mem_map.mpr ⟨p, hM1 p hp, rfl⟩)
      · have z := leOne_ok e6 nd fun k hk => (srtR_mem k _).mpr ((mm k).mp hk)
        rw [List.length_map] at z
        exact .inr z
    · have x2 : Ext m1 H1 m1 (upd (upd H1 b (SetTO X.prog X.w b M)) p' (.lst (L'.map fun q => V.ref q.1))) := xb.trans (Ext.laid hp')
      have eq : L'.map (·.2) = srtR (L.map (·.2)) := pwR_uniq (strict_rows pw nd) (srtR_pw _) fun k => by
        rw [srtR_mem, ← mm k]
        exact (pm.map (·.2)).mem_iff
      have hp1 : H1 p' = none := by
        by_cases z : p' = b
        · subst z; exact hb
        · rw [upd_ne z] at hp'; exact hp'
      rw [← eq] at e7
      refine hk m1 (rowW (L'.map (·.2))) _ h1 _ p' (x1.trans x2) ((r1.laid hb).laid hp') upd_same ?_ ?_ (rows_rvs fun q hq => r1.sqT x2 (hL q (hM1 q (pm.mem_iff.mp hq)))) e7
      · cases z : H p' with
        | none => rfl
        | some u => exact absurd hp1 (x1.there p' (by rw [z]; exact fun z => nomatch z))
      · exact r1.no0 hp1
end
end
end It

set_option Elab.async false
set_option linter.all false
set_option maxRecDepth 100000
set_option maxHeartbeats 1000000
/-! ItPl: texts: signs, slices, join, split, partition; numbers as texts and back. -/
namespace It
open PySem PySem.Spec PyProof.Rows L2 TL
noncomputable section
/-! ### lists of signs -/
def nnth (n : Nat) : List Nat → (Nat → Bool) → Bool := Nat.rec (fun l c => List.casesOn l false (fun x _ => c x)) (fun _ ih l c => List.casesOn l false (fun _ l' => ih l' c)) n
def nlen (l : List Nat) : Nat := List.rec 0 (fun _ _ n => Nat.succ n) l
def napp (l r : List Nat) : List Nat := List.rec r (fun x _ ih => x :: ih) l
def nrev (l : List Nat) : List Nat → List Nat := List.rec (fun a => a) (fun x _ ih a => ih (x :: a)) l
def nmem (c : Nat) (l : List Nat) : Bool := List.rec false (fun y _ ih => cond (Nat.beq c y) true ih) l
def ntake (n : Nat) : List Nat → List Nat := Nat.rec (fun _ => []) (fun _ ih l => List.casesOn l [] (fun x l' => x :: ih l')) n
def ndrop (n : Nat) : List Nat → List Nat := Nat.rec (fun l => l) (fun _ ih l => List.casesOn l [] (fun _ l' => ih l')) n
def nforce (l : List Nat) : (List Nat → Bool) → Bool := List.rec (fun c => c []) (fun x _ ih c => ih fun r => c (x :: r)) l
def nsmall (l : List Nat) : Bool := List.rec true (fun x _ ih => cond (Nat.blt x 256) ih false) l
def mkS (l : List Nat) : Str := ⟨⟨l⟩⟩
theorem nnth_ok : ∀ (n : Nat) (l : List Nat) (c : Nat → Bool), nnth n l c = true → ∃ w, l[n]? = some w ∧ c w = true
  | 0, [], _, h => by cases (show false = true from h)
  | 0, w :: _, c, h => ⟨w, rfl, h⟩
  | n + 1, [], _, h => by cases (show false = true from h)
  | n + 1, _ :: l, c, h => by
    obtain ⟨w, e, q⟩ := nnth_ok n l c h
    exact ⟨w, by simpa using e, q⟩
theorem nlen_ok : ∀ l : List Nat, nlen l = l.length
  | [] => rfl
  | _ :: l => congrArg Nat.succ (nlen_ok l)
theorem napp_ok : ∀ l r : List Nat, napp l r = l ++ r
  | [], _ => rfl
  | x :: l, r => congrArg (List.cons x) (napp_ok l r)
theorem nrev_ok : ∀ l a : List Nat, nrev l a = l.reverse ++ a
  | [], _ => rfl
  | x :: l, a => by
    show nrev l (x :: a) = _
    rw [nrev_ok l, List.reverse_cons, List.append_assoc]; rfl
theorem nmem_ok (c : Nat) : ∀ l : List Nat, nmem c l = decide (c ∈ l)
  | [] => by rw [decide_eq_false (by simp)]; rfl
  | y :: l => by
    show cond (Nat.beq c y) true (nmem c l) = _
    rw [nmem_ok c l]
    cases q : Nat.beq c y with
    | true =>
      have := Nat.eq_of_beq_eq_true q
      subst this
      rw [decide_eq_true (List.mem_cons_self ..)]; rfl
    | false =>
      have : c ≠ y := fun e => by subst e; rw [show Nat.beq c c = true from Nat.beq_refl c] at q; cases q
      show decide (c ∈ l) = _
      rw [Bool.eq_iff_iff, decide_eq_true_iff, decide_eq_true_iff, List.mem_cons]
      exact ⟨.inr, fun z => z.elim (fun z => absurd z this) fun z => z⟩
theorem ntake_ok : ∀ (n : Nat) (l : List Nat), ntake n l = l.take n
  | 0, _ => rfl
  | n + 1, [] => rfl
  | n + 1, x :: l => congrArg (List.cons x) (ntake_ok n l)
theorem ndrop_ok : ∀ (n : Nat) (l : List Nat), ndrop n l = l.drop n
  | 0, _ => rfl
  | n + 1, [] => rfl
  | n + 1, x :: l => ndrop_ok n l
theorem nforce_eq : ∀ (l : List Nat) (c : List Nat → Bool), nforce l c = c l
  | [], _ => rfl
  | x :: l, c => nforce_eq l fun r => c (x :: r)
theorem nsmall_ok : ∀ l : List Nat, nsmall l = true → ∀ x ∈ l, x < 256
  | [], _, _, h => by cases h
  | y :: l, q, x, h => by
    obtain ⟨q1, q2⟩ := cond_f (show cond (Nat.blt y 256) (nsmall l) false = true from q)
    rw [blt_ok] at q1
    rcases List.mem_cons.mp h with rfl | h
    · exact of_decide_eq_true q1
    · exact nsmall_ok l q2 x h
theorem tl_mkS (l : List Nat) : tl (mkS l) = l := rfl
theorem mkS_tl (s : Str) : mkS (tl s) = s := ext_tl rfl
theorem mkS_app (s t : Str) : mkS (tl s ++ tl t) = s ++ t := ext_tl (by rw [tl_mkS, tl_append])
theorem len_mkS (l : List Nat) : (mkS l).length = l.length := rfl
theorem len_str (s : Str) : s.length = s.cps.toList.length := len_tl s
/-! ### a value that is a text -/
def onStr (a : W) (z : Bool) (f : Str → Bool) : Bool := W.casesOn a z (fun _ => z) (fun _ => z) f (fun _ => z) (fun _ => z) (fun _ => z) (fun _ _ => z)
theorem onStr_ok {K : PySem.W.Frag} {m : Mp} {H : Hp} {w : W} {v : V} (r : RV K m H w v) {z : Bool} {f : Str → Bool} (q : onStr w z f = true) : z = true ∨ ∃ s, w = .str s ∧ v = .str s ∧ f s = true := by
  cases r with
  | str s => exact .inr ⟨s, rfl, rfl, q⟩
  | _ => exact .inl q
theorem onStr_f {K : PySem.W.Frag} {m : Mp} {H : Hp} {w : W} {v : V} (r : RV K m H w v) {f : Str → Bool} (q : onStr w false f = true) : ∃ s, w = .str s ∧ v = .str s ∧ f s = true := (onStr_ok r q).elim (fun z => Bool.noConfusion z) fun z => z
/-! ### in -/
def sgIn (s t : Str) (c : Bool → Bool) : Bool := List.casesOn s.cps.toList false (fun x r => List.casesOn r (c (nmem x t.cps.toList)) (fun _ _ => false))
theorem sgIn_ok {s t : Str} {c : Bool → Bool} (q : sgIn s t c = true) : ∃ x, s = ⟨#[x]⟩ ∧ c (decide (x ∈ t.cps.toList)) = true := by
  unfold sgIn at q
  cases e : s.cps.toList with
  | nil => rw [e] at q; cases q
  | cons x r =>
    rw [e] at q
    cases r with
    | nil =>
      refine ⟨x, ext_tl e, ?_⟩
      rw [← nmem_ok]; exact q
    | cons _ _ => cases q
def cInS : Cm := fun a b h c => onStr a (cIn a b h c) fun s => onStr b (cIn a b h c) fun t => sgIn s t c
def cNotInS : Cm := fun a b h c => onStr a (cNotIn a b h c) fun s => onStr b (cNotIn a b h c) fun t => sgIn s t fun p => c (not p)
section
variable {X : Cx} {B : Bag} {Wx : WX} {pos p : Pos} {a b d : Expr} {fa fb fd : E} {f : Es}
theorem op_cInS (hu : X.A.units + 64 < cLine) : OpR X (compareOp .In) (rC X.K cInS) := by
  intro pins s σ H x y v u Q I rx ry ⟨m, a, b, h, c, rh, ra, rb, e, hk⟩
  rcases onStr_ok ra e with e1 | ⟨s1, rfl, rfl, e1⟩
  · exact op_cIn hu pins s σ H x y v u Q I rx ry ⟨m, a, b, h, c, rh, ra, rb, e1, hk⟩
  · rcases onStr_ok rb e1 with e2 | ⟨t1, rfl, rfl, e2⟩
    · exact op_cIn hu pins s σ H _ y v u Q I rx ry ⟨m, _, b, h, c, rh, ra, rb, e2, hk⟩
    · obtain ⟨x0, rfl, e3⟩ := sgIn_ok e2
      exact op_in_sign pins s σ H _ _ v u Q I rx ry ⟨x0, t1, rfl, rfl, hk _ e3⟩
theorem op_cNotInS (hu : X.A.units + 64 < cLine) : OpR X (compareOp .NotIn) (rC X.K cNotInS) := by
  intro pins s σ H x y v u Q I rx ry ⟨m, a, b, h, c, rh, ra, rb, e, hk⟩
  rcases onStr_ok ra e with e1 | ⟨s1, rfl, rfl, e1⟩
  · exact op_cNotIn hu pins s σ H x y v u Q I rx ry ⟨m, a, b, h, c, rh, ra, rb, e1, hk⟩
  · rcases onStr_ok rb e1 with e2 | ⟨t1, rfl, rfl, e2⟩
    · exact op_cNotIn hu pins s σ H _ y v u Q I rx ry ⟨m, _, b, h, c, rh, ra, rb, e2, hk⟩
    · obtain ⟨x0, rfl, e3⟩ := sgIn_ok e2
      exact op_notIn_sign pins s σ H _ _ v u Q I rx ry ⟨x0, t1, rfl, rfl, hk _ e3⟩
/-! ### subscripts, slices -/
def nix (i : Int) (l : List Nat) (c : Nat → Bool) : Bool := Int.casesOn i c (fun a => cond (Nat.blt a (nlen l)) (c (Nat.sub (nlen l) (Nat.succ a))) false)
theorem nix_ok : ∀ (i : Int) (l : List Nat) (c : Nat → Bool), nix i l c = true → ∃ n, c n = true ∧ (n < l.length → ixN l.length i = some n)
  | .ofNat a, l, c, h => ⟨a, h, fun hn => by
      show (if 0 ≤ (a : Int) then _ else _) = _
      rw [if_pos (Int.natCast_nonneg a)]
      exact if_pos (Int.ofNat_lt.mpr hn)⟩
  | .negSucc a, l, c, h => by
    obtain ⟨e1, e2⟩ := cond_f h
    rw [blt_ok, nlen_ok] at e1
    rw [nlen_ok] at e2
    have h1 := of_decide_eq_true e1
    refine ⟨_, e2, fun hn => ?_⟩
    have hneg := Int.negSucc_lt_zero a
    unfold ixN
    rw [if_neg (by omega), if_pos (by rw [Int.negSucc_eq]; omega)]
    congr 1
    rw [Int.negSucc_eq]
    show _ = l.length - (a + 1)
    omega
def subscrSK (a b : W) (h : IH) (k : KE) : Bool := onStr a (subscrK a b h k) fun s => intOf b fun i => cond (Nat.ble (nlen s.cps.toList) line) (nix i s.cps.toList fun n => nnth n s.cps.toList fun x => k (.str (mkS [x])) h) false
theorem ix_subscrS : IxR X (r2 X.K subscrSK) := by
  intro value slice pins s σ H x y v u Q I rx ry ⟨m, wa, wb, h, k, rh, ra, rb, e, hk⟩ hs
  rcases onStr_ok ra e with e1 | ⟨z, rfl, rfl, e1⟩
  · exact ix_subscr value slice pins s σ H x y v u Q I rx ry ⟨m, wa, wb, h, k, rh, ra, rb, e1, hk⟩ hs
  · obtain ⟨i, rfl, rfl, e2⟩ := intOf_ok rb e1
    obtain ⟨e3, e4⟩ := cond_f e2
    rw [ble_ok, nlen_ok, ← len_str] at e3
    obtain ⟨n, e5, hn⟩ := nix_ok _ _ _ e4
    obtain ⟨c, e6, e7⟩ := nnth_ok _ _ _ e5
    have hlt : n < z.cps.toList.length := (List.getElem?_eq_some_iff.mp e6).1
    refine ix_str value slice pins s σ H _ _ v u Q I rx ry ⟨z, i, c, rfl, rfl, Nat.le_trans (of_decide_eq_true e3) line_le, ?_, hk m _ _ h H .refl rh (.str _) e7⟩ hs
    unfold atI
    rw [hn hlt]
    exact e6
theorem se_subscrS (ha : PE X a (tE X.K B Wx fa)) (hb : PE X b (tE X.K B Wx fb)) (hi : plainI b = true) : PE X (.Subscript a b pos) (tE X.K B Wx (eBin subscrSK fa fb)) := peI (pe_ix ix_subscrS ha hb (plainI_ok hi)) bin_imp
def ncut (lo hi : Option Int) (l : List Nat) : List Nat :=
  Option.casesOn lo
    (Option.casesOn hi l (fun j => ntake (sliceN j (nlen l)) l))
    (fun i => Option.casesOn hi (ndrop (sliceN i (nlen l)) l) (fun j => ndrop (sliceN i (nlen l)) (ntake (sliceN j (nlen l)) l)))
theorem ncut_ok (lo hi : Option Int) (l : List Nat) : ncut lo hi l = (l.drop (HT.sIx l.length 0 lo)).take (HT.sIx l.length l.length hi - HT.sIx l.length 0 lo) := by
  cases lo with
  | none =>
    cases hi with
    | none =>
      show l = _
      rw [HT.sIx_none, HT.sIx_none, List.drop_zero, Nat.sub_zero, List.take_length]
    | some j =>
      show ntake (sliceN j (nlen l)) l = _
      rw [ntake_ok, nlen_ok, sliceN_ok j l.length l.length, HT.sIx_none, List.drop_zero, Nat.sub_zero]
  | some i =>
    cases hi with
    | none =>
      show ndrop (sliceN i (nlen l)) l = _
      rw [ndrop_ok, nlen_ok, sliceN_ok i l.length 0, HT.sIx_none]
      rw [List.take_of_length_le]
      rw [List.length_drop]; omega
    | some j =>
      show ndrop (sliceN i (nlen l)) (ntake (sliceN j (nlen l)) l) = _
      rw [ndrop_ok, ntake_ok, nlen_ok, sliceN_ok i l.length 0, sliceN_ok j l.length l.length, List.drop_take]
theorem ncut_cutS (lo hi : Option Int) (s : Str) : mkS (ncut lo hi s.cps.toList) = cutS s lo hi := by
  refine ext_tl ?_
  rw [tl_mkS, ncut_ok]
  unfold cutS
  rw [← len_str]
def cutSK (a : W) (lo hi : Option Int) (h : IH) (k : KE) : Bool := onStr a (cutK a lo hi h k) fun s => cond (Nat.ble (nlen s.cps.toList) line) (nforce (ncut lo hi s.cps.toList) fun l => k (.str (mkS l)) h) false
def rSS (K : PySem.W.Frag) : V → Option Int → Option Int → Hp → VK → Prop := fun x lo hi H Q => ∃ m w h k, RepH K m h H ∧ RV K m H w x ∧ cutSK w lo hi h k = true ∧ KOk K m H k Q
theorem sl_cutS : SlR X (rSS X.K) := by
  intro pins s σ H x v vl vu lo hi sl Q I rx hs pl pu ⟨m, w, h, k, rh, rw', e, hk⟩
  rcases onStr_ok rw' e with e1 | ⟨z, rfl, rfl, e1⟩
  · exact sl_cut pins s σ H x v vl vu lo hi sl Q I rx hs pl pu ⟨m, w, h, k, rh, rw', e1, hk⟩
  · obtain ⟨e3, e4⟩ := cond_f e1
    rw [ble_ok, nlen_ok, ← len_str] at e3
    rw [nforce_eq, ncut_cutS] at e4
    exact sl_str pins s σ H _ v vl vu lo hi sl Q I rx hs pl pu ⟨z, rfl, Nat.le_trans (of_decide_eq_true e3) line_le, hk m _ _ h H .refl rh (.str _) e4⟩
def eSliceS (a : E) (lo hi : Eo) : E := fun c l h k x => a c l h (fun w h1 => lo c l h1 (fun i h2 => hi c l h2 (fun j h3 => cutSK w i j h3 k) x) x) x
theorem se_sliceS {lo hi : Option Expr} {fl fh : Eo} {p2 : Pos} (ha : PE X a (tE X.K B Wx fa)) (hl : PO X lo (tO X.K B Wx fl)) (hh : PO X hi (tO X.K B Wx fh)) : PE X (.Subscript a (.Slice lo hi none p2) pos) (tE X.K B Wx (eSliceS fa fl fh)) := peI (pe_slice sl_cutS ha hl hh) fun σ H Q ⟨m, l, h, k, x, rh, rl, e, hk, hx⟩ => by
  refine ⟨m, l, h, _, x, rh, rl, e, fun m1 v w h1 H1 x1 r1 rv e1 => ?_, hx⟩
  refine ⟨m1, l, h1, _, x, r1, rl.mono rh x1, e1, fun m2 i h2 H2 x2 r2 e2 => ?_, hx.mono x1⟩
  refine ⟨m2, l, h2, _, x, r2, (rl.mono rh x1).mono r1 x2, e2, fun m3 j h3 H3 x3 r3 e3 => ?_, hx.mono (x1.trans x2)⟩
  exact ⟨m3, v, h3, k, r3, RV.mono r2 x3 (RV.mono r1 x2 rv), e3, hk.mono ((x1.trans x2).trans x3)⟩
/-! ### + and * -/
def addSK (a b : W) (h : IH) (k : KE) : Bool := onStr a (addK a b h k) fun s => onStr b false fun t => nforce (napp s.cps.toList t.cps.toList) fun l => cond (Nat.ble (nlen l) line) (k (.str (mkS l)) h) false
theorem op_addSK : OpR X (binaryOp .Add) (r2 X.K addSK) := by
  intro pins s σ H x y v u Q I rx ry ⟨m, a, b, h, k, rh, ra, rb, e, hk⟩
  rcases onStr_ok ra e with e1 | ⟨p, rfl, rfl, e1⟩
  · exact op_addK pins s σ H x y v u Q I rx ry ⟨m, a, b, h, k, rh, ra, rb, e1, hk⟩
  · obtain ⟨q, rfl, rfl, e2⟩ := onStr_f rb e1
    rw [nforce_eq, napp_ok] at e2
    obtain ⟨e3, e4⟩ := cond_f e2
    rw [ble_ok, nlen_ok, List.length_append, ← len_str, ← len_str] at e3
    have e5 : mkS (p.cps.toList ++ q.cps.toList) = p ++ q := mkS_app p q
    rw [e5] at e4
    exact op_add_str pins s σ H _ _ v u Q I rx ry ⟨p, q, rfl, rfl, Nat.le_trans (of_decide_eq_true e3) line_le, hk m _ _ h H .refl rh (.str _) e4⟩
def nrep (n : Nat) (l : List Nat) : List Nat := Nat.rec [] (fun _ ih => napp l ih) n
theorem nrep_ok (l : List Nat) : ∀ n : Nat, nrep n l = (List.replicate n l).flatten
  | 0 => rfl
  | n + 1 => by
    show napp l (nrep n l) = _
    rw [napp_ok, nrep_ok l n, List.replicate_succ, List.flatten_cons]
theorem foldl_app : ∀ (n : Nat) (x a : Array Nat), ((List.replicate n x).foldl (· ++ ·) a).toList = a.toList ++ (List.replicate n x.toList).flatten
  | 0, _, a => by simp
  | n + 1, x, a => by
    rw [List.replicate_succ, List.foldl_cons, foldl_app n x, List.replicate_succ, List.flatten_cons, Array.toList_append, List.append_assoc]
def mulSK (a b : W) (h : IH) (k : KE) : Bool := onStr a (mulK a b h k) fun s => intOf b fun j => cond (ilt 1 j) (cond (ilt j 1000) (cond (Nat.blt 0 (nlen s.cps.toList)) (cond (Nat.blt (nlen s.cps.toList) 1000) (nforce (nrep j.toNat s.cps.toList) fun l => k (.str (mkS l)) h) false) false) false) false
theorem op_mulSK : OpR X (binaryOp .Mult) (r2 X.K mulSK) := by
  intro pins s σ H x y v u Q I rx ry ⟨m, a, b, h, k, rh, ra, rb, e, hk⟩
  rcases onStr_ok ra e with e1 | ⟨p, rfl, rfl, e1⟩
  · exact op_mulK pins s σ H x y v u Q I rx ry ⟨m, a, b, h, k, rh, ra, rb, e1, hk⟩
  · obtain ⟨j, rfl, rfl, e2⟩ := intOf_ok rb e1
    obtain ⟨f1, e2⟩ := cond_f e2
    obtain ⟨f2, e2⟩ := cond_f e2
    obtain ⟨f3, e2⟩ := cond_f e2
    obtain ⟨f4, e2⟩ := cond_f e2
    rw [ilt_ok] at f1 f2
    rw [blt_ok, nlen_ok, ← len_str] at f3 f4
    have f1 := of_decide_eq_true f1
    have f2 := of_decide_eq_true f2
    have f3 := of_decide_eq_true f3
    have f4 := of_decide_eq_true f4
    rw [nforce_eq, nrep_ok] at e2
    obtain ⟨t, rfl⟩ := rx
    obtain ⟨t', rfl⟩ := ry
    have hb : (j == 1 || p.length == 0) = false := by
      rw [Bool.or_eq_false_iff]
      exact ⟨beq_eq_false_iff_ne.mpr (by omega), beq_eq_false_iff_ne.mpr (by omega)⟩
    have hmul : p.length * j.toNat ≤ 1000 * 1000 := Nat.mul_le_mul (by omega) (by omega)
    have hlen : ((List.replicate j.toNat p.cps).foldl (· ++ ·) #[]).size ≤ sizeLine := by
      rw [← Array.length_toList, foldl_app, List.length_append, List.length_flatten, List.map_replicate, List.sum_replicate_nat, ← len_str]
      rw [sizeLine_eq]
      show 0 + j.toNat * p.length ≤ _
      rw [Nat.mul_comm] at hmul
      omega
    refine PySem.P.mul_str ?_ (fun _ _ z => ?_) (fun _ _ => ?_) ?_
    · rw [decide_eq_false (by omega), decide_eq_false (by omega)]; rfl
    · have : (1000 : Int) ≤ (2 ^ 63 - 1) / j := by
        rw [Int.le_ediv_iff_mul_le (by omega)]
        omega
      omega
    · unfold PySem.Builtin.Str.tooLong
      refine decide_eq_false ?_
      rw [sizeLine_eq]
      omega
    · rw [if_neg (by omega), if_neg (by rw [hb]; exact Bool.false_ne_true)]
      refine ⟨hlen, ?_⟩
      have e5 : mkS ((List.replicate j.toNat p.cps.toList).flatten) = ⟨(List.replicate j.toNat p.cps).foldl (· ++ ·) #[]⟩ := by
        refine ext_tl ?_
        rw [tl_mkS]
        show _ = ((List.replicate j.toNat p.cps).foldl (· ++ ·) #[]).toList
        rw [foldl_app]; rfl
      rw [e5] at e2
      exact ⟨.str _, H, I.tok _, ⟨_, rfl⟩, hk m _ _ h H .refl rh (.str _) e2⟩
/-! ### join -/
def strsK (l : List W) : (List (List Nat) → Bool) → Bool := List.rec (fun c => c []) (fun w _ ih c => onStr w false fun s => ih fun r => c (s.cps.toList :: r)) l
def njoin (S : List Nat) (l : List (List Nat)) : List Nat := List.rec [] (fun p r ih => List.casesOn r p (fun _ _ => napp p (napp S ih))) l
def nsum (l : List (List Nat)) : Nat := List.rec 0 (fun p _ ih => Nat.add (nlen p) ih) l
def ncnt (l : List (List Nat)) : Nat := List.rec 0 (fun _ _ n => Nat.succ n) l
theorem strsK_ok {K : PySem.W.Frag} {m : Mp} {H : Hp} : ∀ {ws : List W} {xs : List V} {c : List (List Nat) → Bool}, RVs K m H ws xs → strsK ws c = true → ∃ ys : List Str, xs = ys.map V.str ∧ c (ys.map tl) = true
  | _, _, c, .nil, q => ⟨[], rfl, q⟩
  | _, _, c, .cons r t, q => by
    obtain ⟨s, rfl, rfl, q1⟩ := onStr_f r (show onStr _ false _ = true from q)
    obtain ⟨ys, rfl, q2⟩ := strsK_ok t q1
    exact ⟨s :: ys, rfl, q2⟩
theorem njoin_ok (S : List Nat) : ∀ l : List (List Nat), njoin S l = joinL S l
  | [] => rfl
  | [p] => rfl
  | p :: q :: r => by
    show napp p (napp S (njoin S (q :: r))) = p ++ (S ++ joinL S (q :: r))
    rw [napp_ok, napp_ok, njoin_ok S (q :: r)]
theorem nsum_ok : ∀ l : List Str, nsum (l.map tl) = (l.map (·.length)).sum
  | [] => rfl
  | s :: l => by
    show nlen (tl s) + nsum (l.map tl) = _
    rw [nlen_ok, nsum_ok l, List.map_cons, List.sum_cons, len_tl]
theorem ncnt_ok : ∀ l : List (List Nat), ncnt l = l.length
  | [] => rfl
  | _ :: l => congrArg Nat.succ (ncnt_ok l)
def joinW (s : Str) (ws : List W) (h : IH) (k : KE) : Bool := strsK ws fun ps => cond (Nat.ble (Nat.add (nsum ps) (Nat.mul (ncnt ps) (nlen s.cps.toList))) 16777216) (nforce (njoin s.cps.toList ps) fun l => k (.str (mkS l)) h) false
theorem joinW_ok {K : PySem.W.Frag} {m : Mp} {H : Hp} {s : Str} {ws : List W} {xs : List V} {h : IH} {k : KE} (r : RVs K m H ws xs) (q : joinW s ws h k = true) : ∃ ys : List Str, xs = ys.map V.str ∧ (ys.map (·.length)).sum + ys.length * s.length ≤ 16777216 ∧ k (.str (Txt.join s ys)) h = true := by
  obtain ⟨ys, rfl, q1⟩ := strsK_ok r q
  obtain ⟨q2, q3⟩ := cond_f q1
  rw [ble_ok, nsum_ok, ncnt_ok, nlen_ok, ← len_str] at q2
  have q2 := of_decide_eq_true q2
  rw [List.length_map] at q2
  rw [nforce_eq, njoin_ok] at q3
  have e : mkS (joinL s.cps.toList (ys.map tl)) = Txt.join s ys := by
    rw [join_eq]
    exact ext_tl (by rw [tl_mkS]; exact (tl_join s ys).symm)
  rw [e] at q3
  exact ⟨ys, rfl, q2, q3⟩
def eJoin (a : E) (f : Es) : E := fun c l h k x => a c l h (fun w h1 => onStr w false fun s => f c l h1 (fun ws h2 => joinW s ws h2 k) x) x
def eJoinV (a b : E) : E := fun c l h k x => a c l h (fun w h1 => onStr w false fun s => b c l h1 (fun v h2 => itemsK v h2 fun ws => joinW s ws h2 k) x) x
theorem star1 {e : Expr} (ns : notStar e = true) (env : Env) : starEach [e] env = [(false, eval e env)] := by rw [star_cons ns]; rfl
theorem se_join {apos cpos : Pos} (hbase : attributeBase a "join" X.env (eval a X.env) = eval a X.env) (hline : (apos.endLine == cpos.line) = true) (ha : PE X a (tE X.K B Wx fa)) (hb : PE X b (tF X.K B Wx f)) (ns : notStar b = true) :
    PE X (.Call (.Attribute a "join" apos) [b] [] cpos) (tE X.K B Wx (eJoin fa f)) := peI (pe_join ha hb (star1 ns _) hbase hline) fun σ H Q q => by
  obtain ⟨m, l, h, k, x, rh, rl, e, hk, hx⟩ := q
  refine ⟨m, l, h, _, x, rh, rl, e, fun m1 w v h1 H1 x1 r1 rv e1 => ?_, hx⟩
  obtain ⟨s, rfl, rfl, e2⟩ := onStr_f rv e1
  refine ⟨⟨s, rfl⟩, m1, l, h1, _, x, r1, rl.mono rh x1, e2, fun m2 ws xs h2 H2 p x2 r2 hp np nm rv2 e3 => ?_, hx.mono x1⟩
  obtain ⟨ys, rfl, hz, e4⟩ := joinW_ok rv2 e3
  exact ⟨s, p, ys, rfl, rfl, .inl (.of hp), hz, hk m2 _ _ h2 H2 (x1.trans x2) r2 (.str _) e4⟩
theorem se_joinV {apos cpos : Pos} (hbase : attributeBase a "join" X.env (eval a X.env) = eval a X.env) (hline : (apos.endLine == cpos.line) = true) (ha : PE X a (tE X.K B Wx fa)) (hb : PE X b (tE X.K B Wx fb)) (ns : notStar b = true) :
    PE X (.Call (.Attribute a "join" apos) [b] [] cpos) (tE X.K B Wx (eJoinV fa fb)) := peI (pe_join ha hb (star1 ns _) hbase hline) fun σ H Q q => by
  obtain ⟨m, l, h, k, x, rh, rl, e, hk, hx⟩ := q
  refine ⟨m, l, h, _, x, rh, rl, e, fun m1 w v h1 H1 x1 r1 rv e1 => ?_, hx⟩
  obtain ⟨s, rfl, rfl, e2⟩ := onStr_f rv e1
  refine ⟨⟨s, rfl⟩, m1, l, h1, _, x, r1, rl.mono rh x1, e2, fun m2 w2 v2 h2 H2 x2 r2 rv2 e3 => ?_, hx.mono x1⟩
  obtain ⟨ws, xs, p, rfl, hq, t, e4⟩ := itemsK_ok r2 rv2 e3
  obtain ⟨ys, rfl, hz, e5⟩ := joinW_ok t e4
  exact ⟨s, p, ys, rfl, rfl, hq, hz, hk m2 _ _ h2 H2 (x1.trans x2) r2 (.str _) e5⟩
/-! ### split, partition -/
def npre (S : List Nat) : List Nat → Bool := List.rec (fun _ => true) (fun x _ ih l => List.casesOn l false (fun y l' => cond (Nat.beq y x) (ih l') false)) S
theorem npre_ok : ∀ S l : List Nat, npre S l = pre S l
  | [], l => by unfold pre; simp; rfl
  | x :: S, [] => by unfold pre; rfl
  | x :: S, y :: l => by
    show cond (Nat.beq y x) (npre S l) false = _
    rw [npre_ok S l]
    unfold pre
    rw [List.length_cons, List.take_succ_cons]
    show _ = ((y == x) && (l.take S.length == S))
    cases e : Nat.beq y x with
    | true => rw [show (y == x) = true from beq_iff_eq.mpr (Nat.eq_of_beq_eq_true e)]; rfl
    | false =>
      have : (y == x) = false := beq_eq_false_iff_ne.mpr fun z => by subst z; rw [show Nat.beq y y = true from Nat.beq_refl y] at e; cases e
      rw [this]; rfl
def splK (S : List Nat) (n : Nat) (l : List Nat) : Nat → List Nat → List W → (List W → Bool) → Bool :=
  List.rec (fun _ acc out c => nforce (nrev acc []) fun p => c (revA (.str (mkS p) :: out) []))
    (fun x r ih k acc out c => Nat.casesOn k (cond (npre S (x :: r)) (nforce (nrev acc []) fun p => ih n [] (.str (mkS p) :: out) c) (ih 0 (x :: acc) out c)) (fun k' => ih k' acc out c)) l
theorem splK_ok (S : List Nat) {n : Nat} (hn : n = S.length - 1) : ∀ (l : List Nat) (k : Nat) (acc : List Nat) (out : List W) (c : List W → Bool), splK S n l k acc out c = true → c (out.reverse ++ (spl S k acc.reverse l).map fun p => W.str (mkS p)) = true
  | [], k, acc, out, c, q => by
    have q' : nforce (nrev acc []) (fun p => c (revA (.str (mkS p) :: out) [])) = true := q
    rw [nforce_eq, nrev_ok, revA_ok, List.append_nil, List.append_nil, List.reverse_cons] at q'
    rw [spl_nil]
    exact q'
  | x :: r, 0, acc, out, c, q => by
    have q' : cond (npre S (x :: r)) (nforce (nrev acc []) fun p => splK S n r n [] (.str (mkS p) :: out) c) (splK S n r 0 (x :: acc) out c) = true := q
    rw [npre_ok] at q'
    rcases cond_t q' with ⟨h, q2⟩ | ⟨h, q2⟩
    · rw [nforce_eq, nrev_ok, List.append_nil] at q2
      have := splK_ok S hn r n [] _ c q2
      rw [spl_hit h, ← hn, List.map_cons]
      rw [List.reverse_cons, List.append_assoc] at this
      exact this
    · have := splK_ok S hn r 0 (x :: acc) out c q2
      rw [spl_miss h]
      rw [List.reverse_cons] at this
      exact this
  | x :: r, k + 1, acc, out, c, q => splK_ok S hn r k acc out c q
def sSplit (a b : E) : Es := fun c l h k x => a c l h (fun v h1 => onStr v false fun s => b c l h1 (fun w h2 => onStr w false fun t =>
  cond (Nat.blt 0 (nlen t.cps.toList)) (cond (nsmall t.cps.toList) (cond (Nat.ble (nlen s.cps.toList) 1000000) (splK t.cps.toList (Nat.sub (nlen t.cps.toList) 1) s.cps.toList 0 [] [] fun ws => k ws h2) false) false) false) x) x
theorem strs_rvs {K : PySem.W.Frag} {m : Mp} {H : Hp} : ∀ ys : List Str, RVs K m H (ys.map W.str) (ys.map V.str)
  | [] => .nil
  | y :: ys => .cons (.str y) (strs_rvs ys)
theorem small_all {t : Str} (h : nsmall t.cps.toList = true) : t.cps.all (· < 256) = true := by
  rw [← Array.all_toList, List.all_eq_true]
  intro x hx
  exact decide_eq_true (nsmall_ok _ h x hx)
theorem tl_ne {t : Str} (h : Nat.blt 0 (nlen t.cps.toList) = true) : tl t ≠ [] := by
  rw [blt_ok, nlen_ok] at h
  have := of_decide_eq_true h
  intro z
  have z' : t.cps.toList = [] := z
  rw [z'] at this
  cases this
theorem len_ne {t : Str} (h : tl t ≠ []) : (t.length == 0) = false := beq_eq_false_iff_ne.mpr fun z => h (len0_tl t |>.mp z)
theorem map_mkS {ys : List Str} {ps : List (List Nat)} (h : ys.map tl = ps) : ps.map (fun p => W.str (mkS p)) = ys.map W.str := by
  subst h
  rw [List.map_map]
  refine List.map_congr_left fun y _ => ?_
  show W.str (mkS (tl y)) = W.str y
  rw [mkS_tl]
theorem sf_split {apos cpos : Pos} (hbase : attributeBase a "split" X.env (eval a X.env) = eval a X.env) (hline : (apos.endLine == cpos.line) = true) (ha : PE X a (tE X.K B Wx fa)) (hb : PE X b (tE X.K B Wx fb)) (ns : notStar b = true) :
    PE X (.Call (.Attribute a "split" apos) [b] [] cpos) (tF X.K B Wx (sSplit fa fb)) := peI (pe_split ha hb (star1 ns _) hbase hline) fun σ H Q q => by
  obtain ⟨m, l, h, k, x, rh, rl, e, hk, hx⟩ := q
  refine ⟨m, l, h, _, x, rh, rl, e, fun m1 w v h1 H1 x1 r1 rv e1 => ?_, hx⟩
  obtain ⟨s, rfl, rfl, e2⟩ := onStr_f rv e1
  refine ⟨⟨s, rfl⟩, m1, l, h1, _, x, r1, rl.mono rh x1, e2, fun m2 w2 v2 h2 H2 x2 r2 rv2 e3 => ?_, hx.mono x1⟩
  obtain ⟨t, rfl, rfl, e4⟩ := onStr_f rv2 e3
  obtain ⟨g1, e5⟩ := cond_f e4
  obtain ⟨g2, e6⟩ := cond_f e5
  obtain ⟨g3, e7⟩ := cond_f e6
  have ht := tl_ne g1
  rw [ble_ok, nlen_ok, ← len_str] at g3
  have g3 := of_decide_eq_true g3
  have e8 := splK_ok t.cps.toList (by rw [nlen_ok]; rfl) _ _ _ _ _ e7
  have hs := split_spl s t ht (kind_ok (small_all g2))
  have e9 : (spl t.cps.toList 0 [] s.cps.toList).map (fun p => W.str (mkS p)) = (Txt.split s t).map W.str := map_mkS hs
  have e8' : k ((spl t.cps.toList 0 [] s.cps.toList).map fun p => W.str (mkS p)) h2 = true := e8
  rw [e9] at e8'
  refine ⟨s, t, rfl, rfl, len_ne ht, by rw [sizeLine_eq]; omega, fun p hp => ?_⟩
  refine hk m2 _ _ h2 _ p ((x1.trans x2).trans (.laid hp)) (r2.laid hp) upd_same ?_ (r2.no0 hp) (strs_rvs _) e8'
  cases q : H p with
  | none => rfl
  | some u => exact absurd hp ((x1.trans x2).there p (by rw [q]; exact fun z => nomatch z))
def parK (S : List Nat) (n : Nat) (l : List Nat) : List Nat → (List Nat → List Nat → Bool) → Bool → Bool :=
  List.rec (fun _ _ z => z) (fun x r ih acc c z => cond (npre S (x :: r)) (c (nrev acc []) (ndrop n (x :: r))) (ih (x :: acc) c z)) l
theorem parK_ok (S : List Nat) {n : Nat} (hn : n = S.length) : ∀ (l acc : List Nat) (c : List Nat → List Nat → Bool) (z : Bool), parK S n l acc c z = true → (∃ p q, par S acc.reverse l = some (p, q) ∧ c p q = true) ∨ (par S acc.reverse l = none ∧ z = true)
  | [], acc, c, z, q => .inr ⟨rfl, q⟩
  | x :: r, acc, c, z, q => by
    have q' : cond (npre S (x :: r)) (c (nrev acc []) (ndrop n (x :: r))) (parK S n r (x :: acc) c z) = true := q
    rw [npre_ok] at q'
    rcases cond_t q' with ⟨h, q2⟩ | ⟨h, q2⟩
    · rw [nrev_ok, List.append_nil, ndrop_ok, hn] at q2
      exact .inl ⟨_, _, par_hit h, q2⟩
    · have := parK_ok S hn r (x :: acc) c z q2
      rw [List.reverse_cons] at this
      rw [par_miss h]
      exact this
def ePart (a b : E) : E := fun c l h k x => a c l h (fun v h1 => onStr v false fun s => b c l h1 (fun w h2 => onStr w false fun t =>
  cond (Nat.blt 0 (nlen t.cps.toList)) (cond (Nat.ble (nlen s.cps.toList) 1000000) (parK t.cps.toList (nlen t.cps.toList) s.cps.toList [] (fun p q => nforce p fun p => nforce q fun q => k (.tup [.str (mkS p), .str t, .str (mkS q)]) h2) (k (.tup [.str s, .str (mkS []), .str (mkS [])]) h2)) false) false) x) x
theorem se_part {apos cpos : Pos} (hbase : attributeBase a "partition" X.env (eval a X.env) = eval a X.env) (hline : (apos.endLine == cpos.line) = true) (ha : PE X a (tE X.K B Wx fa)) (hb : PE X b (tE X.K B Wx fb)) (ns : notStar b = true) :
    PE X (.Call (.Attribute a "partition" apos) [b] [] cpos) (tE X.K B Wx (ePart fa fb)) := peI (pe_partition ha hb (star1 ns _) hbase hline) fun σ H Q q => by
  obtain ⟨m, l, h, k, x, rh, rl, e, hk, hx⟩ := q
  refine ⟨m, l, h, _, x, rh, rl, e, fun m1 w v h1 H1 x1 r1 rv e1 => ?_, hx⟩
  obtain ⟨s, rfl, rfl, e2⟩ := onStr_f rv e1
  refine ⟨⟨s, rfl⟩, m1, l, h1, _, x, r1, rl.mono rh x1, e2, fun m2 w2 v2 h2 H2 x2 r2 rv2 e3 => ?_, hx.mono x1⟩
  obtain ⟨t, rfl, rfl, e4⟩ := onStr_f rv2 e3
  obtain ⟨g1, e5⟩ := cond_f e4
  obtain ⟨g3, e7⟩ := cond_f e5
  have ht := tl_ne g1
  rw [ble_ok, nlen_ok, ← len_str] at g3
  have g3 := of_decide_eq_true g3
  refine ⟨s, t, rfl, rfl, len_ne ht, by rw [sizeLine_eq]; omega, fun p hp => ?_⟩
  have hpp := partition_par s t ht
  have hk2 := hk.mono (x1.trans x2)
  rcases parK_ok t.cps.toList (nlen_ok _) _ _ _ _ e7 with ⟨p1, q1, e8, e9⟩ | ⟨e8, e9⟩
  · rw [nforce_eq, nforce_eq] at e9
    have e8' : par (tl t) [] (tl s) = some (p1, q1) := e8
    rw [e8'] at hpp
    rw [hpp]
    exact hk2.newT r2 (.cons (.str _) (.cons (.str _) (.cons (.str _) .nil))) e9 hp
  · have e8' : par (tl t) [] (tl s) = none := e8
    rw [e8'] at hpp
    rw [hpp]
    exact hk2.newT r2 (.cons (.str _) (.cons (.str _) (.cons (.str _) .nil))) e9 hp
/-! ### numbers as texts and back -/
def numK (f : Nat) : Nat → List Nat → (List Nat → Bool) → Bool := Nat.rec (fun _ _ _ => false) (fun _ ih n acc c => cond (Nat.blt n 10) (c (Nat.add 48 n :: acc)) (ih (Nat.div n 10) (Nat.add 48 (Nat.mod n 10) :: acc) c)) f
theorem numK_ok : ∀ (f n : Nat) (acc : List Nat) (c : List Nat → Bool), numK f n acc c = true → c (numL n ++ acc) = true
  | 0, _, _, _, q => by cases (show false = true from q)
  | f + 1, n, acc, c, q => by
    have q' : cond (Nat.blt n 10) (c (Nat.add 48 n :: acc)) (numK f (n / 10) ((48 + n % 10) :: acc) c) = true := q
    rw [blt_ok] at q'
    rcases cond_t q' with ⟨h, q2⟩ | ⟨h, q2⟩
    · rw [numL_lt (of_decide_eq_true h)]
      exact q2
    · have h := of_decide_eq_false h
      have := numK_ok f (n / 10) _ c q2
      rw [numL_step (by omega), List.append_assoc]
      exact this
def numS (i : Int) (c : List Nat → Bool) : Bool := cond (Nat.blt (iabs i) bigD) (Int.casesOn i (fun n => numK 400 n [] c) (fun n => numK 400 (Nat.succ n) [] fun l => c (45 :: l))) false
theorem numS_ok {i : Int} {c : List Nat → Bool} (q : numS i c = true) : i.natAbs.log2 < 1920 ∧ ∃ l, c l = true ∧ mkS l = (Str.ofString (toString i)) := by
  obtain ⟨q1, q2⟩ := cond_f q
  refine ⟨?_, ?_⟩
  · rw [blt_ok, iabs_ok] at q1
    have h' : i.natAbs < 2 ^ 1000 := of_decide_eq_true q1
    have := PySem.Flt.log2_lt_of (by omega : 0 < 1000) h'
    omega
  · cases i with
    | ofNat n =>
      have := numK_ok _ _ _ _ q2
      rw [List.append_nil] at this
      exact ⟨_, this, ext_tl (by rw [tl_mkS]; exact (tl_num n).symm)⟩
    | negSucc n =>
      have := numK_ok _ _ _ _ (show numK 400 (n + 1) [] (fun l => c (45 :: l)) = true from q2)
      rw [List.append_nil] at this
      refine ⟨_, this, ext_tl ?_⟩
      rw [tl_mkS, tl_ofString]
      have e1 : toString (Int.negSucc n) = "-" ++ toString (((n + 1 : Nat) : Int)) := rfl
      rw [e1, String.toList_append, List.map_append, ← tl_ofString (toString (((n + 1 : Nat) : Int))), tl_num]
      rfl
def strK (w : W) (h : IH) (k : KE) : Bool := onStr w (intOf w fun i => numS i fun l => k (.str (mkS l)) h) fun s => k (.str s) h
theorem se_str1 (hg : Gl X "str") (hm : X.mg "str" = none) (ha : PE X a (tE X.K B Wx fa)) (ns : notStar a = true) : PE X (.Call (.Name "str" p) [a] [] pos) (tE X.K B Wx (eUn strK fa)) := by
  have hc : CallR X (.type "str") (fun xs H Q => (∃ i, xs = [.int i] ∧ i.natAbs.log2 < 1920 ∧ Q (.str (toString i)) H) ∨ ∃ a, xs = [.str a] ∧ Q (.str a) H) := by
    intro pins s σ H xs us Q I r h
    rcases h with h | h
    · exact call_str_int pins s σ H xs us Q I r h
    · exact SkE.call_str_str pins s σ H xs us Q I r h
  refine se_callT1 hc hg hm (by decide +kernel) (by decide) (by decide) ha ns fun σ H Q q => ?_
  obtain ⟨m, l, h, k, x, rh, rl, e, hk, hx⟩ := q
  refine ⟨m, l, h, _, x, rh, rl, e, fun m1 v w h1 H1 x1 r1 rv e1 => ?_, hx⟩
  rcases onStr_ok rv e1 with e2 | ⟨s, rfl, rfl, e2⟩
  · obtain ⟨i, rfl, rfl, e3⟩ := intOf_ok rv e2
    obtain ⟨hz, l', e4, e5⟩ := numS_ok e3
    rw [e5] at e4
    exact .inl ⟨i, rfl, hz, hk m1 _ _ h1 H1 x1 r1 (.str _) e4⟩
  · exact .inr ⟨s, rfl, hk m1 _ _ h1 H1 x1 r1 (.str _) e2⟩
def nval (l : List Nat) : Nat := List.rec (motive := fun _ => Nat → Nat) (fun a => a) (fun x _ ih a => ih (Nat.add (Nat.mul a 10) (Nat.sub x 48))) l 0
def intSK (w : W) (h : IH) (k : KE) : Bool := onStr w (intK w h k) fun s => cond (Nat.ble (nlen s.cps.toList) 640) (numK 700 (nval s.cps.toList) [] fun l => cond (seqs l s.cps.toList) (k (.int (Int.ofNat (nval s.cps.toList))) h) false) false
theorem se_int1S (hg : Gl X "int") (hm : X.mg "int" = none) (ha : PE X a (tE X.K B Wx fa)) (ns : notStar a = true) : PE X (.Call (.Name "int" p) [a] [] pos) (tE X.K B Wx (eUn intSK fa)) := by
  have hc : CallR X (.type "int") (fun xs H Q => ((∃ i, xs = [.int i] ∧ Q (.int i) H) ∨ ∃ b : Bool, xs = [.bl b] ∧ Q (.int (if b = true then 1 else 0)) H) ∨ ∃ a n, xs = [.str a] ∧ PySem.intText? a = some n ∧ a.length ≤ 640 ∧ Q (.int n) H) := by
    intro pins s σ H xs us Q I r h
    rcases h with h | h
    · exact call_int1 pins s σ H xs us Q I r h
    · exact call_int_str pins s σ H xs us Q I r h
  refine se_callT1 hc hg hm PyProof.Rows.boot_int (by decide) (by decide) ha ns fun σ H Q q => ?_
  obtain ⟨m, l, h, k, x, rh, rl, e, hk, hx⟩ := q
  refine ⟨m, l, h, _, x, rh, rl, e, fun m1 v w h1 H1 x1 r1 rv e1 => ?_, hx⟩
  rcases onStr_ok rv e1 with e2 | ⟨s, rfl, rfl, e2⟩
  · cases rv with
    | int i => exact .inl (.inl ⟨i, rfl, hk m1 _ _ h1 H1 x1 r1 (.int _) e2⟩)
    | bl b =>
      refine .inl (.inr ⟨b, rfl, ?_⟩)
      have z : (if b = true then (1 : Int) else 0) = It.b2i b := by cases b <;> rfl
      rw [z]
      exact hk m1 _ _ h1 H1 x1 r1 (.int _) e2
    | _ => cases (show false = true from e2)
  · obtain ⟨g1, e3⟩ := cond_f e2
    have e4 := numK_ok _ _ _ _ e3
    obtain ⟨g2, e5⟩ := cond_f e4
    rw [List.append_nil, seqs_ok] at g2
    have g2 := of_decide_eq_true g2
    rw [ble_ok, nlen_ok, ← len_str] at g1
    have g1 := of_decide_eq_true g1
    have hs : s = Str.ofString (toString ((nval s.cps.toList : Nat) : Int)) := ext_tl (by rw [tl_num]; exact g2.symm)
    refine .inr ⟨s, ((nval s.cps.toList : Nat) : Int), rfl, ?_, g1, hk m1 _ _ h1 H1 x1 r1 (.int _) e5⟩
    have := int_num (n := nval s.cps.toList) (by rw [g2, ← len_str]; omega)
    rw [← hs] at this
    exact this
/-! ### f-strings -/
inductive Fp where
  | s (z : Str) | e (a : E)
def fmtK (w : W) (c : List Nat → Bool) : Bool := onStr w (intOf w fun i => numS i c) fun s => cond (Nat.ble (nlen s.cps.toList) line) (c s.cps.toList) false
def runF (c : Orc) (l : Loc) (k : KE) (x : KE) (ps : List Fp) : List Nat → IH → Bool :=
  List.rec (fun acc h => k (.str (mkS acc)) h)
    (fun p _ ih acc h => Fp.casesOn p (fun z => nforce (napp acc z.cps.toList) fun a' => cond (Nat.ble (nlen a') line) (ih a' h) false)
      (fun a => a c l h (fun w h1 => fmtK w fun s => nforce (napp acc s) fun a' => cond (Nat.ble (nlen a') line) (ih a' h1) false) x)) ps
def eFst (ps : List Fp) : E := fun c l h k x => runF c l k x ps [] h
def fTE (K : PySem.W.Frag) (B : Bag) (Wx : WX) : Fp → TE
  | .s z => tC (.str z)
  | .e a => tFmt (tE K B Wx a)
theorem fst_imp {K : PySem.W.Frag} : ∀ (ps : List Fp) (acc : List Nat) (σ : L2.St) (H : Hp) (Q : VK) (m : Mp) (l : Loc) (h : IH) (k x : KE), RepH K m h H → RepL K m H l σ → runF B.c l k x ps acc h = true → KOk K m H k Q → XOk K B m H σ x Wx → tJs (ps.map (fTE K B Wx)) (mkS acc) σ H (fun out H1 => Q (.str out) H1)
  | [], acc, σ, H, Q, m, l, h, k, x, rh, rl, e, hk, hx => hk m _ _ h H .refl rh (.str _) e
  | .s z :: ps, acc, σ, H, Q, m, l, h, k, x, rh, rl, e, hk, hx => by
    have e' : nforce (napp acc z.cps.toList) (fun a' => cond (Nat.ble (nlen a') line) (runF B.c l k x ps a' h) false) = true := e
    rw [nforce_eq, napp_ok] at e'
    obtain ⟨e1, e2⟩ := cond_f e'
    rw [ble_ok, nlen_ok] at e1
    have e1 := of_decide_eq_true e1
    have ez : mkS acc ++ z = mkS (acc ++ z.cps.toList) := by rw [← mkS_app]; rfl
    refine ⟨z, rfl, ?_, ?_⟩
    · rw [ez, len_mkS]; exact Nat.le_trans e1 line_le
    · rw [ez]; exact fst_imp ps _ σ H Q m l h k x rh rl e2 hk hx
  | .e a :: ps, acc, σ, H, Q, m, l, h, k, x, rh, rl, e, hk, hx => by
    have e' : a B.c l h (fun w h1 => fmtK w fun s => nforce (napp acc s) fun a' => cond (Nat.ble (nlen a') line) (runF B.c l k x ps a' h1) false) x = true := e
    refine ⟨m, l, h, _, x, rh, rl, e', fun m1 w v h1 H1 x1 r1 rv e1 => ?_, hx⟩
    have fin : ∀ z : Str, nforce (napp acc z.cps.toList) (fun a' => cond (Nat.ble (nlen a') line) (runF B.c l k x ps a' h1) false) = true → ∃ y : Str, V.str z = .str y ∧ (mkS acc ++ y).length ≤ sizeLine ∧ tJs (ps.map (fTE K B Wx)) (mkS acc ++ y) σ H1 (fun out H1 => Q (.str out) H1) := fun z e2 => by
      rw [nforce_eq, napp_ok] at e2
      obtain ⟨e3, e4⟩ := cond_f e2
      rw [ble_ok, nlen_ok] at e3
      have e3 := of_decide_eq_true e3
      have ez : mkS acc ++ z = mkS (acc ++ z.cps.toList) := by rw [← mkS_app]; rfl
      refine ⟨z, rfl, ?_, ?_⟩
      · rw [ez, len_mkS]; exact Nat.le_trans e3 line_le
      · rw [ez]; exact fst_imp ps _ σ H1 Q m1 l h1 k x r1 (rl.mono rh x1) e4 (hk.mono x1) (hx.mono x1)
    rcases onStr_ok rv e1 with e2 | ⟨s, rfl, rfl, e2⟩
    · obtain ⟨i, rfl, rfl, e3⟩ := intOf_ok rv e2
      obtain ⟨hz, l', e4, e5⟩ := numS_ok e3
      refine .inr ⟨i, rfl, hz, ?_⟩
      show ∃ y : Str, V.str (Str.ofString (toString i)) = .str y ∧ _
      rw [← e5]
      exact fin (mkS l') e4
    · obtain ⟨g1, e3⟩ := cond_f e2
      rw [ble_ok, nlen_ok, ← len_str] at g1
      exact .inl ⟨s, rfl, Nat.le_trans (of_decide_eq_true g1) line_le, fin s e3⟩
theorem se_fst {v1 v2 : Expr} {rest : List Expr} {ps : List Fp} (h : PJ X (v1 :: v2 :: rest) (ps.map (fTE X.K B Wx))) : PE X (.JoinedStr (v1 :: v2 :: rest) pos) (tE X.K B Wx (eFst ps)) := peI (pe_joined h) fun σ H Q q => by
  obtain ⟨m, l, h, k, x, rh, rl, e, hk, hx⟩ := q
  exact fst_imp ps [] σ H Q m l h k x rh rl e hk hx
end
end
end It

set_option Elab.async false
set_option linter.all false
set_option maxRecDepth 100000
set_option maxHeartbeats 1000000
/-! ItQ: from the text to the combinators: expressions. -/
namespace It
open PySem PySem.Spec PyProof.Rows L2
noncomputable section
/-- what is known where an expression stands -/
structure Cc where
  N : List Str
  sc : Scope
  cel : Str → Bool
  fn : Str → Option (Nat × Nat × Bool)
  kw : Str → List Str → Option (List Nat)
  ex : Str → Option Nat
  on : Str → Option Nat
  gl : Str → Option W
  bl : Str → Bool
  led : Bool
  lam : Bool := false
/-- of a def's body, or of a comprehension's block within -/
structure CcG (X : Cx) (B : Bag) (cc : Cc) : Prop where
  fn : ∀ x i n sh, cc.fn x = some (i, n, sh) → FnB X B x i n (cc.kw x)
  ex : ∀ x i, cc.ex x = some i → ExA X B x i
  on : ∀ x i, cc.on x = some i → OnA X B x i
  gl : ∀ x w, cc.gl x = some w → ∃ v u, X.mg x = some u ∧ RelV v u ∧ (∀ H, RV X.K m0 H w v) ∧ noref w = true
  bl : ∀ x, cc.bl x = true → X.mg x = none
  led : cc.led = true → LedA X
  dp : X.A.depth < recursionLimit
  dq : X.A.depth + 1 < recursionLimit
  un : X.A.units + 64 < cLine
structure CcOk (X : Cx) (B : Bag) (Wx : WX) (cc : Cc) : Prop where
  g : CcG X B cc
  N : X.N = cc.N
  nd : X.N.Nodup
  sc : X.env.scope = cc.sc
  calm : X.calm = true
  tk : Takes X Wx
  fnc : ∀ x, cc.cel x = true → X.fn x = true
  kind : X.env.scope.kind = .function
  lam : cc.lam = true → LamT X
def gd {α : Type} (b : Bool) (x : Option α) : Option α := cond b x none
theorem gd_ok {α : Type} {b : Bool} {x : Option α} {y : α} (h : gd b x = some y) : b = true ∧ x = some y := by
  cases b with
  | true => exact ⟨rfl, h⟩
  | false => cases h
theorem bd_ok {α β : Type} {x : Option α} {f : α → Option β} {y : β} (h : x.bind f = some y) : ∃ a, x = some a ∧ f a = some y := by
  cases x with
  | none => cases h
  | some a => exact ⟨a, rfl, h⟩
theorem mp_ok {α β : Type} {x : Option α} {f : α → β} {y : β} (h : x.map f = some y) : ∃ a, x = some a ∧ f a = y := by
  cases x with
  | none => cases h
  | some a => exact ⟨a, rfl, Option.some.inj h⟩
theorem an_ok {a b : Bool} (h : (a && b) = true) : a = true ∧ b = true := Bool.and_eq_true_iff.mp h
/-! ### names -/
def ixS : List Str → Str → Option Nat
  | [], _ => none
  | y :: r, x => cond (sE x y) (some 0) ((ixS r x).map Nat.succ)
theorem ixS_ok : ∀ {N : List Str} {x : Str} {i : Nat}, ixS N x = some i → N[i]? = some x
  | y :: r, x, i, h => by
    unfold ixS at h
    cases e : sE x y with
    | true => rw [e] at h; cases h; rw [sE_ok e]; rfl
    | false =>
      rw [e] at h
      obtain ⟨j, e1, rfl⟩ := mp_ok h
      exact (ixS_ok e1 : r[j]? = some x)
def kindC (cc : Cc) (x : Str) : Option NameKind := lkS x cc.sc.names
theorem kindC_eq (cc : Cc) (x : Str) : kindC cc x = cc.sc.names.lookup x := lkS_eq _
def visB (cc : Cc) (x : Str) : Bool := match kindC cc x with
  | some .local => true
  | some .cell => true
  | some .free => true
  | _ => false
def gloB (cc : Cc) (x : Str) : Bool := match kindC cc x with
  | some .globalImplicit => true
  | _ => false
def plainN (x : Str) : Bool := !sE x ("__debug__" : Str) && !sE x ("__classdict__" : Str)
def bltB (cc : Cc) (x : Str) : Bool := gloB cc x && cc.bl x
section
variable {X : Cx} {B : Bag} {Wx : WX} {cc : Cc} {x : Str} {pos p : Pos}
theorem vis_ok (o : CcOk X B Wx cc) (h : visB cc x = true) : Vis X.env.scope x := by
  unfold visB at h
  rw [kindC_eq, ← o.sc] at h
  split at h
  · exact .inl (by assumption)
  · exact .inr (.inl (by assumption))
  · exact .inr (.inr (by assumption))
  · cases h
theorem glo_ok (o : CcOk X B Wx cc) (h : gloB cc x = true) : Gl X x := by
  unfold gloB at h
  rw [kindC_eq, ← o.sc] at h
  split at h
  · assumption
  · cases h
theorem blt_okC (o : CcOk X B Wx cc) (h : bltB cc x = true) : Gl X x ∧ X.mg x = none := by
  obtain ⟨h1, h2⟩ := an_ok h
  exact ⟨glo_ok o h1, o.g.bl _ h2⟩
theorem plain_ok (h : plainN x = true) : (x == ("__debug__" : Str)) = false ∧ (x == ("__classdict__" : Str)) = false := by
  obtain ⟨h1, h2⟩ := an_ok h
  rw [sE_eq] at h1 h2
  exact ⟨by simpa using h1, by simpa using h2⟩
def cName (cc : Cc) (x : Str) : Option E := gd (plainN x) (cond (visB cc x) ((ixS cc.N x).map eVar) (gd (gloB cc x) (match cc.gl x with
  | some w => some (eGlo w)
  | none => (cc.fn x).map fun p => eFun p.1 x)))
theorem cName_ok (o : CcOk X B Wx cc) {f : E} (h : cName cc x = some f) : PE X (.Name x pos) (tE X.K B Wx f) := by
  obtain ⟨h1, h2⟩ := gd_ok h
  obtain ⟨d1, d2⟩ := plain_ok h1
  cases hv : visB cc x with
  | true =>
    rw [hv] at h2
    obtain ⟨i, e1, rfl⟩ := mp_ok h2
    exact se_var (pe_var (by rw [o.N]; exact ixS_ok e1) (vis_ok o hv) d1 d2)
  | false =>
    rw [hv] at h2
    obtain ⟨h3, h4⟩ := gd_ok h2
    split at h4
    · rename_i w e1
      cases h4
      obtain ⟨v, u, g1, g2, g3, g4⟩ := o.g.gl _ _ e1
      exact se_glo (glo_ok o h3) g1 g2 d1 g3 g4
    · obtain ⟨⟨i, n, sh⟩, e1, rfl⟩ := mp_ok h4
      exact se_fun (o.g.fn _ _ _ _ e1) (glo_ok o h3) d1
def cConst : Const → Option E
  | .int i => some (eInt i)
  | .bool b => some (eBl b)
  | .none => some eNon
  | .str s => some (eStr s)
  | _ => none
theorem cConst_ok {c : Const} {j : Nat} {f : E} (h : cConst c = some f) : PE X (.Constant c j pos) (tE X.K B Wx f) := by
  cases c <;> first | (cases h; first | exact se_int | exact se_bl | exact se_non | exact se_str) | cases h
end
/-! ### the three, by turns -/
structure Rc where
  e : Cc → Expr → Option E
  f : Cc → Expr → Option Es
  t : Cc → Expr → Option Tt
structure RcOk (r : Rc) : Prop where
  e : ∀ {X : Cx} {B : Bag} {Wx : WX} {cc : Cc} {ex : Expr} {g : E}, CcOk X B Wx cc → r.e cc ex = some g → PE X ex (tE X.K B Wx g)
  f : ∀ {X : Cx} {B : Bag} {Wx : WX} {cc : Cc} {ex : Expr} {g : Es}, CcOk X B Wx cc → r.f cc ex = some g → PE X ex (tF X.K B Wx g)
  t : ∀ {X : Cx} {B : Bag} {Wx : WX} {cc : Cc} {ex : Expr} {g : Tt}, CcOk X B Wx cc → r.t cc ex = some g → PT X ex (tB X.K B Wx g)
section
variable {r : Rc} {X : Cx} {B : Bag} {Wx : WX} {cc : Cc} {x : Str} {pos p : Pos}
def cEs (r : Rc) (cc : Cc) : List Expr → Option Es
  | [] => some asNil
  | e :: es => gd (notStar e) ((r.e cc e).bind fun f => (cEs r cc es).map fun g => asCons f g)
theorem cEs_ok (R : RcOk r) (o : CcOk X B Wx cc) : ∀ {es : List Expr} {g : Es}, cEs r cc es = some g → PA X es (tA X.K B Wx es.length g) ∧ es.all notStar = true
  | [], g, h => by cases h; exact ⟨sa_nil, rfl⟩
  | e :: es, g, h => by
    obtain ⟨h1, h2⟩ := gd_ok h
    obtain ⟨f, h3, h4⟩ := bd_ok h2
    obtain ⟨g', h5, rfl⟩ := mp_ok h4
    obtain ⟨a, b⟩ := cEs_ok R o h5
    exact ⟨sa_cons (R.e o h3) a (star_cons h1 _ _), by rw [List.all_cons, h1, b]; rfl⟩
/-- a display's items, with stars -/
def cEsX (r : Rc) (cc : Cc) : List Expr → Option Es
  | [] => some asNil
  | .Starred e _ :: es => (r.e cc e).bind fun f => (cEsX r cc es).map fun g => asStar f g
  | e :: es => gd (notStar e) ((r.e cc e).bind fun f => (cEsX r cc es).map fun g => asCons f g)
theorem cEsX_ok (R : RcOk r) (o : CcOk X B Wx cc) : ∀ {es : List Expr} {g : Es}, cEsX r cc es = some g → PA X es (tAx X.K B Wx g)
  | [], g, h => by cases h; exact sax_nil
  | e :: es, g, h => by
    unfold cEsX at h
    split at h
    · rename_i z
      cases z
    · rename_i e' q es' z
      cases z
      obtain ⟨f, h3, h4⟩ := bd_ok h
      obtain ⟨g', h5, rfl⟩ := mp_ok h4
      exact sax_star (R.e o h3) (cEsX_ok R o h5)
    · rename_i e' es' _ z
      cases z
      obtain ⟨h1, h2⟩ := gd_ok h
      obtain ⟨f, h3, h4⟩ := bd_ok h2
      obtain ⟨g', h5, rfl⟩ := mp_ok h4
      exact sax_cons (R.e o h3) (cEsX_ok R o h5) (star_cons h1 _ _)
def cKws (r : Rc) (cc : Cc) : List Keyword → Option (Nat × Es)
  | [] => some (0, asNil)
  | ⟨_, e, _⟩ :: ks => (r.e cc e).bind fun f => (cKws r cc ks).map fun g => (g.1 + 1, asCons f g.2)
theorem cKws_ok (R : RcOk r) (o : CcOk X B Wx cc) : ∀ {ks : List Keyword} {g : Nat × Es}, cKws r cc ks = some g → PK X ks (tA X.K B Wx g.1 g.2)
  | [], g, h => by cases h; exact sk_nil
  | ⟨_, e, _⟩ :: ks, g, h => by
    obtain ⟨f, h3, h4⟩ := bd_ok h
    obtain ⟨g', h5, rfl⟩ := mp_ok h4
    exact sk_cons (R.e o h3) (cKws_ok R o h5)
/-! ### operators -/
def cBin : Operator → Option (W → W → IH → KE → Bool)
  | .Add => some addSK
  | .Sub => some subK
  | .Mult => some mulSK
  | .FloorDiv => some (intsK fdivK)
  | .Mod => some (intsK modK)
  | .Pow => some (intsK powK)
  | _ => none
theorem cBin_ok {op : Operator} {g : W → W → IH → KE → Bool} (h : cBin op = some g) : OpR X (binaryOp op) (r2 X.K g) := by
  cases op <;> first | (cases h; first | exact op_addSK | exact op_subK | exact op_mulSK | exact op_fdivK | exact op_modK | exact op_powK) | cases h
def cCm : CmpOp → Option Cm
  | .Eq => some cEq
  | .NotEq => some cNe
  | .Lt => some cLt
  | .LtE => some cLe
  | .Gt => some cGt
  | .GtE => some cGe
  | .In => some cInS
  | .NotIn => some cNotInS
  | _ => none
theorem cCm_ok {op : CmpOp} {g : Cm} (hu : X.A.units + 64 < cLine) (h : cCm op = some g) : OpR X (compareOp op) (rC X.K g) := by
  cases op with
  | Eq => cases h; exact op_cEq hu
  | NotEq => cases h; exact op_cNe hu
  | Lt => cases h; exact op_cInt op_lt ilt_ok
  | LtE => cases h; exact op_cInt op_le ile_ok
  | Gt => cases h; exact op_cInt op_gt (fun i j => ilt_ok j i)
  | GtE => cases h; exact op_cInt op_ge (fun i j => ile_ok j i)
  | In => cases h; exact op_cInS hu
  | NotIn => cases h; exact op_cNotInS hu
  | _ => cases h
theorem bh_ok {b : Bool} (h : (!b) = true) : b = false := by cases b <;> first | rfl | cases h
/-- a comparison -/
def cCmp (r : Rc) (cc : Cc) (a : Expr) : List CmpOp → List Expr → Option Tt
  | [.Is], [.Constant .none _ _] => (r.e cc a).map tIsN
  | [.IsNot], [.Constant .none _ _] => (r.e cc a).map fun f => tNot (tIsN f)
  | [op], [b] => gd (!behindInMarks op b) ((cCm op).bind fun c => (r.e cc a).bind fun f => (r.e cc b).map fun g => tCmp c f g)
  | [op, op'], [b, d] => gd (!behindInMarks op' d) ((cCm op).bind fun c => (cCm op').bind fun c' => (r.e cc a).bind fun f => (r.e cc b).bind fun g => (r.e cc d).map fun q => tCh c c' f g q)
  | _, _ => none
theorem one_cmp (R : RcOk r) (o : CcOk X B Wx cc) {a b : Expr} {op : CmpOp} {g : Tt} (h : gd (!behindInMarks op b) ((cCm op).bind fun c => (r.e cc a).bind fun f => (r.e cc b).map fun g => tCmp c f g) = some g) : PT X (.Compare a [op] [b] pos) (tB X.K B Wx g) ∧ PE X (.Compare a [op] [b] pos) (tE X.K B Wx (eTst g)) := by
  obtain ⟨hb, h⟩ := gd_ok h
  obtain ⟨c, h1, h2⟩ := bd_ok h
  obtain ⟨f, h3, h4⟩ := bd_ok h2
  obtain ⟨f', h5, rfl⟩ := mp_ok h4
  have q := cCm_ok (X := X) o.g.un h1
  exact ⟨st_cmp q (R.e o h3) (R.e o h5) (bh_ok hb), se_cmp q (R.e o h3) (R.e o h5) (bh_ok hb)⟩
theorem cCmp_ok (R : RcOk r) (o : CcOk X B Wx cc) {a : Expr} {ops : List CmpOp} {bs : List Expr} {g : Tt} (h : cCmp r cc a ops bs = some g) : PT X (.Compare a ops bs pos) (tB X.K B Wx g) ∧ PE X (.Compare a ops bs pos) (tE X.K B Wx (eTst g)) := by
  unfold cCmp at h
  split at h
  · obtain ⟨f, h1, rfl⟩ := mp_ok h
    exact ⟨st_isN (R.e o h1), se_isN (R.e o h1)⟩
  · obtain ⟨f, h1, rfl⟩ := mp_ok h
    exact ⟨st_notN (R.e o h1), se_notN (R.e o h1)⟩
  · exact one_cmp R o h
  · obtain ⟨hb, h⟩ := gd_ok h
    obtain ⟨c, h1, h2⟩ := bd_ok h
    obtain ⟨c', h3, h4⟩ := bd_ok h2
    obtain ⟨f, h5, h6⟩ := bd_ok h4
    obtain ⟨f', h7, h8⟩ := bd_ok h6
    obtain ⟨f'', h9, rfl⟩ := mp_ok h8
    have q := cCm_ok (X := X) o.g.un h1
    have q' := cCm_ok (X := X) o.g.un h3
    exact ⟨st_ch q q' (R.e o h5) (R.e o h7) (R.e o h9) (bh_ok hb), se_ch q q' (R.e o h5) (R.e o h7) (R.e o h9) (bh_ok hb)⟩
  · cases h
/-! ### and, or, not -/
def cAndV (r : Rc) (cc : Cc) : List Expr → Option E
  | [] => none
  | [a] => r.e cc a
  | a :: b :: l => (r.e cc a).bind fun f => (cAndV r cc (b :: l)).map fun g => eAndV f g
theorem cAndV_ok (R : RcOk r) (o : CcOk X B Wx cc) : ∀ {l : List Expr} {f : E}, cAndV r cc l = some f → PE X (.BoolOp .And l pos) (tE X.K B Wx f)
  | [a], f, h => pe_one (R.e o h)
  | a :: b :: l, f, h => by
    obtain ⟨g, h1, h2⟩ := bd_ok h
    obtain ⟨g', h3, rfl⟩ := mp_ok h2
    exact se_andV (R.e o h1) (cAndV_ok R o h3)
def cOrV (r : Rc) (cc : Cc) : List Expr → Option E
  | [] => none
  | [a] => r.e cc a
  | a :: b :: l => (r.e cc a).bind fun f => (cOrV r cc (b :: l)).map fun g => eOrV f g
theorem cOrV_ok (R : RcOk r) (o : CcOk X B Wx cc) : ∀ {l : List Expr} {f : E}, cOrV r cc l = some f → PE X (.BoolOp .Or l pos) (tE X.K B Wx f)
  | [a], f, h => pe_one (R.e o h)
  | a :: b :: l, f, h => by
    obtain ⟨g, h1, h2⟩ := bd_ok h
    obtain ⟨g', h3, rfl⟩ := mp_ok h2
    exact se_orV (R.e o h1) (cOrV_ok R o h3)
def cAndT (r : Rc) (cc : Cc) : List Expr → Option Tt
  | [] => none
  | [a] => r.t cc a
  | a :: b :: l => (r.t cc a).bind fun f => (cAndT r cc (b :: l)).map fun g => tAnd f g
theorem cAndT_ok (R : RcOk r) (o : CcOk X B Wx cc) : ∀ {l : List Expr} {f : Tt}, cAndT r cc l = some f → PW X (.BoolOp .And l pos) (tB X.K B Wx f)
  | [a], f, h => pw_and1 (R.t o h)
  | a :: b :: l, f, h => by
    obtain ⟨g, h1, h2⟩ := bd_ok h
    obtain ⟨g', h3, rfl⟩ := mp_ok h2
    exact sw_and (R.t o h1) (cAndT_ok R o h3)
def cOrT (r : Rc) (cc : Cc) : List Expr → Option Tt
  | [] => none
  | [a] => r.t cc a
  | a :: b :: l => (r.t cc a).bind fun f => (cOrT r cc (b :: l)).map fun g => tOr f g
theorem cOrT_ok (R : RcOk r) (o : CcOk X B Wx cc) : ∀ {l : List Expr} {f : Tt}, cOrT r cc l = some f → PW X (.BoolOp .Or l pos) (tB X.K B Wx f)
  | [a], f, h => pw_or1 (R.t o h)
  | a :: b :: l, f, h => by
    obtain ⟨g, h1, h2⟩ := bd_ok h
    obtain ⟨g', h3, rfl⟩ := mp_ok h2
    exact sw_or (R.t o h1) (cOrT_ok R o h3)
/-- a test -/
def stepT (r : Rc) (cc : Cc) (ex : Expr) : Option Tt := match ex with
  | .UnaryOp .Not a _ => (r.t cc a).map tNot
  | .BoolOp .And l _ => cAndT r cc l
  | .BoolOp .Or l _ => cOrT r cc l
  | .Compare a ops bs _ => cCmp r cc a ops bs
  | _ => gd (plainT ex) ((r.e cc ex).map tVal)
theorem stepT_ok (R : RcOk r) (o : CcOk X B Wx cc) {ex : Expr} {g : Tt} (h : stepT r cc ex = some g) : PT X ex (tB X.K B Wx g) := by
  unfold stepT at h
  split at h
  · obtain ⟨f, h1, rfl⟩ := mp_ok h
    exact st_not (R.t o h1)
  · exact (cAndT_ok R o h).pt
  · exact (cOrT_ok R o h).pt
  · exact (cCmp_ok R o h).1
  · obtain ⟨h1, h2⟩ := gd_ok h
    obtain ⟨f, h3, rfl⟩ := mp_ok h2
    exact st_val (R.e o h3) h1
end
end
end It

set_option Elab.async false
set_option linter.all false
set_option maxRecDepth 100000
set_option maxHeartbeats 1000000
/-! ItR: from the text to the combinators: calls, lists, comprehensions. -/
namespace It
open PySem PySem.Spec PyProof.Rows L2
noncomputable section
inductive Bn where
  | len | abs | int | divmod | min | max | all | any | sum | tuple | isi | str
def Bn.s : Bn → String
  | .len => "len" | .abs => "abs" | .int => "int" | .divmod => "divmod" | .min => "min" | .max => "max" | .all => "all" | .any => "any" | .sum => "sum" | .tuple => "tuple" | .isi => "isinstance" | .str => "str"
def bnL : List Bn := [.len, .tuple, .isi, .all, .any, .sum, .abs, .int, .divmod, .min, .max, .str]
def bnF (x : Str) : List Bn → Option Bn
  | [] => none
  | b :: l => cond (sE x (Str.ofString b.s)) (some b) (bnF x l)
theorem bnF_ok {x : Str} : ∀ {l : List Bn} {b : Bn}, bnF x l = some b → x = Str.ofString b.s
  | c :: l, b, h => by
    unfold bnF at h
    cases e : sE x (Str.ofString c.s) with
    | true => rw [e] at h; cases h; exact sE_ok e
    | false => rw [e] at h; exact bnF_ok h
section
variable {r : Rc} {X : Cx} {B : Bag} {Wx : WX} {cc : Cc} {x : Str} {pos p : Pos}
/-- first as a list that is made, else as a value -/
def cEither (r : Rc) (cc : Cc) (a : Expr) (mf : Es → E) (me : E → E) : Option E := match r.f cc a with
  | some f => some (mf f)
  | none => (r.e cc a).map me
theorem cEither_ok {a : Expr} {mf : Es → E} {me : E → E} {g : E} {P : E → Prop} (hf : ∀ f, r.f cc a = some f → P (mf f)) (he : ∀ f, r.e cc a = some f → P (me f)) (h : cEither r cc a mf me = some g) : P g := by
  unfold cEither at h
  split at h
  · cases h; exact hf _ (by assumption)
  · obtain ⟨f, h1, rfl⟩ := mp_ok h
    exact he _ h1
def clsC (cc : Cc) : List Expr → Option (List Tn)
  | [] => some []
  | .Name x _ :: es => gd (bltB cc x) ((tnOf x).bind fun n => (clsC cc es).map fun l => n :: l)
  | _ :: _ => none
theorem clsC_ok (o : CcOk X B Wx cc) : ∀ {es : List Expr} {l : List Tn}, clsC cc es = some l → clsOk X es l
  | [], l, h => by cases h; trivial
  | .Name x q :: es, l, h => by
    obtain ⟨h1, h2⟩ := gd_ok (show gd (bltB cc x) ((tnOf x).bind fun n => (clsC cc es).map fun l => n :: l) = some l from h)
    obtain ⟨n, h3, h4⟩ := bd_ok h2
    obtain ⟨l', h5, rfl⟩ := mp_ok h4
    obtain ⟨g1, g2⟩ := blt_okC o h1
    exact ⟨h3, g1, g2, clsC_ok o h5⟩
/-- a built-in called -/
def cBi (r : Rc) (cc : Cc) (b : Bn) (args : List Expr) : Option E := match b, args with
  | .len, [a] => gd (notStar a) (cEither r cc a eLenL (eUn lenK))
  | .tuple, [a] => gd (notStar a) (cEither r cc a eTupL (eUn tupK))
  | .all, [a] => gd (notStar a) (cEither r cc a eAll eAllV)
  | .any, [a] => gd (notStar a) (cEither r cc a eAny eAnyV)
  | .sum, [a] => gd (notStar a) (cEither r cc a eSum fun f => eSum (sLists f))
  | .abs, [a] => gd (notStar a) ((r.e cc a).map (eUn absK))
  | .int, [a] => gd (notStar a) ((r.e cc a).map (eUn intSK))
  | .str, [a] => gd (notStar a) ((r.e cc a).map (eUn strK))
  | .divmod, [a, b] => gd (notStar a && notStar b) ((r.e cc a).bind fun f => (r.e cc b).map fun g => eBin (intsK dmK) f g)
  | .min, [a] => gd (notStar a) (cEither r cc a (eBest ltMin) fun f => eBest ltMin (sLists f))
  | .max, [a] => gd (notStar a) (cEither r cc a (eBest ltMax) fun f => eBest ltMax (sLists f))
  | .min, [a, b] => gd (notStar a && notStar b) ((r.e cc a).bind fun f => (r.e cc b).map fun g => eBin (intsK minK) f g)
  | .max, [a, b] => gd (notStar a && notStar b) ((r.e cc a).bind fun f => (r.e cc b).map fun g => eBin (intsK maxK) f g)
  | .isi, [a, .Name y _] => gd (notStar a && bltB cc y) ((tnOf y).bind fun n => (r.e cc a).map (eIsi (Ty.of [n])))
  | .isi, [a, .Tuple es _ _] => gd (notStar a) ((clsC cc es).bind fun l => gd (Nat.ble l.length line) ((r.e cc a).map (eIsi (Ty.of l))))
  | _, _ => none
theorem cBi_ok (R : RcOk r) (o : CcOk X B Wx cc) {b : Bn} {args : List Expr} {g : E} (hg : Gl X (Str.ofString b.s)) (hm : X.mg (Str.ofString b.s) = none) (h : cBi r cc b args = some g) : PE X (.Call (.Name (Str.ofString b.s) p) args [] pos) (tE X.K B Wx g) := by
  unfold cBi at h
  split at h
  · obtain ⟨h1, h2⟩ := gd_ok h
    exact cEither_ok (P := fun g => PE X _ (tE X.K B Wx g)) (fun f hf => se_lenL hg hm (R.f o hf) h1) (fun f hf => se_len hg hm (R.e o hf) h1) h2
  · obtain ⟨h1, h2⟩ := gd_ok h
    exact cEither_ok (P := fun g => PE X _ (tE X.K B Wx g)) (fun f hf => se_tupL hg hm (R.f o hf) h1) (fun f hf => se_tupV hg hm (R.e o hf) h1) h2
  · obtain ⟨h1, h2⟩ := gd_ok h
    exact cEither_ok (P := fun g => PE X _ (tE X.K B Wx g)) (fun f hf => se_all o.calm hg hm (R.f o hf) h1) (fun f hf => se_allT o.calm hg hm (R.e o hf) h1) h2
  · obtain ⟨h1, h2⟩ := gd_ok h
    exact cEither_ok (P := fun g => PE X _ (tE X.K B Wx g)) (fun f hf => se_any o.calm hg hm (R.f o hf) h1) (fun f hf => se_anyT o.calm hg hm (R.e o hf) h1) h2
  · obtain ⟨h1, h2⟩ := gd_ok h
    exact cEither_ok (P := fun g => PE X _ (tE X.K B Wx g)) (fun f hf => se_sum o.calm hg hm (R.f o hf) h1) (fun f hf => se_sumV o.calm hg hm (R.e o hf) h1) h2
  · obtain ⟨h1, h2⟩ := gd_ok h
    obtain ⟨f, h3, rfl⟩ := mp_ok h2
    exact se_abs hg hm (R.e o h3) h1
  · obtain ⟨h1, h2⟩ := gd_ok h
    obtain ⟨f, h3, rfl⟩ := mp_ok h2
    exact se_int1S hg hm (R.e o h3) h1
  · obtain ⟨h1, h2⟩ := gd_ok h
    obtain ⟨f, h3, rfl⟩ := mp_ok h2
    exact se_str1 hg hm (R.e o h3) h1
  · obtain ⟨h1, h2⟩ := gd_ok h
    obtain ⟨n1, n2⟩ := an_ok h1
    obtain ⟨f, h3, h4⟩ := bd_ok h2
    obtain ⟨f', h5, rfl⟩ := mp_ok h4
    exact se_divmod hg hm (R.e o h3) (R.e o h5) n1 n2
  · obtain ⟨h1, h2⟩ := gd_ok h
    exact cEither_ok (P := fun g => PE X _ (tE X.K B Wx g)) (fun f hf => se_minL o.g.un o.calm hg hm (R.f o hf) h1) (fun f hf => se_minV o.g.un o.calm hg hm (R.e o hf) h1) h2
  · obtain ⟨h1, h2⟩ := gd_ok h
    exact cEither_ok (P := fun g => PE X _ (tE X.K B Wx g)) (fun f hf => se_maxL o.g.un o.calm hg hm (R.f o hf) h1) (fun f hf => se_maxV o.g.un o.calm hg hm (R.e o hf) h1) h2
  · obtain ⟨h1, h2⟩ := gd_ok h
    obtain ⟨n1, n2⟩ := an_ok h1
    obtain ⟨f, h3, h4⟩ := bd_ok h2
    obtain ⟨f', h5, rfl⟩ := mp_ok h4
    exact se_min2 o.calm hg hm (R.e o h3) (R.e o h5) n1 n2
  · obtain ⟨h1, h2⟩ := gd_ok h
    obtain ⟨n1, n2⟩ := an_ok h1
    obtain ⟨f, h3, h4⟩ := bd_ok h2
    obtain ⟨f', h5, rfl⟩ := mp_ok h4
    exact se_max2 o.calm hg hm (R.e o h3) (R.e o h5) n1 n2
  · obtain ⟨h1, h2⟩ := gd_ok h
    obtain ⟨n1, n2⟩ := an_ok h1
    obtain ⟨n, h3, h4⟩ := bd_ok h2
    obtain ⟨f', h5, rfl⟩ := mp_ok h4
    obtain ⟨g1, g2⟩ := blt_okC o n2
    exact se_isi1 hg hm h3 g1 g2 (R.e o h5) n1
  · obtain ⟨h1, h2⟩ := gd_ok h
    obtain ⟨l, h3, h4⟩ := bd_ok h2
    obtain ⟨h5, h6⟩ := gd_ok h4
    obtain ⟨f', h7, rfl⟩ := mp_ok h6
    exact se_isiT hg hm (clsC_ok o h3) (Nat.le_of_ble_eq_true h5) (R.e o h7) h1
  · cases h
/-- a call by a name, values by their places -/
def cCall (r : Rc) (cc : Cc) (x : Str) (args : List Expr) : Option E := gd (gloB cc x && plainN x) (match cc.fn x with
  | some (i, n, sh) => (cEs r cc args).bind fun g => gd (Nat.beq args.length n) (some (cond sh (eCall i g) (eCallG i g)))
  | none => gd (cc.bl x) ((bnF x bnL).bind fun b => cBi r cc b args))
theorem cCall_ok (R : RcOk r) (o : CcOk X B Wx cc) {args : List Expr} {g : E} (h : cCall r cc x args = some g) : PE X (.Call (.Name x p) args [] pos) (tE X.K B Wx g) := by
  obtain ⟨h1, h2⟩ := gd_ok h
  obtain ⟨g1, g2⟩ := an_ok h1
  have hg := glo_ok o g1
  obtain ⟨d1, d2⟩ := plain_ok g2
  split at h2
  · rename_i i n sh hfn
    have F := (o.g.fn _ _ _ _ hfn).a
    obtain ⟨f, h3, h4⟩ := bd_ok h2
    obtain ⟨h5, h6⟩ := gd_ok h4
    have hn : args.length = n := Nat.eq_of_beq_eq_true h5
    obtain ⟨a1, a2⟩ := cEs_ok R o h3
    cases args with
    | nil =>
      cases h3
      subst hn
      cases sh with
      | true => cases h6; exact se_fn0 F hg o.tk d1
      | false => cases h6; exact se_fnG0 F hg o.tk d1
    | cons e es =>
      rw [hn] at a1
      have a2' := a2
      rw [List.all_cons] at a2'
      obtain ⟨b1, b2⟩ := an_ok a2'
      have s1 := star_cons b1 es X.env
      have s2 := star_none es pos X.env b2
      cases sh with
      | true => cases h6; exact se_fn F hg o.tk a1 d1 s1 s2
      | false => cases h6; exact se_fnG F hg o.tk a1 d1 s1 s2
  · obtain ⟨h3, h4⟩ := gd_ok h2
    obtain ⟨b, h5, h6⟩ := bd_ok h4
    have e := bnF_ok h5
    subst e
    exact cBi_ok R o hg (o.g.bl _ h3) h6
def cKwc (r : Rc) (cc : Cc) (x : Str) (kws : List Keyword) : Option E := gd (gloB cc x && plainN x) ((cc.fn x).bind fun q => (kwsOf kws).bind fun nes => (cc.kw x nes.1).bind fun idx => (cKws r cc kws).bind fun g => gd (Nat.beq g.1 nes.1.length) (some (cond q.2.2 (eCallP q.1 idx g.2) (eCallPG q.1 idx g.2))))
theorem cKwc_ok (R : RcOk r) (o : CcOk X B Wx cc) {kws : List Keyword} {g : E} (h : cKwc r cc x kws = some g) : PE X (.Call (.Name x p) [] kws pos) (tE X.K B Wx g) := by
  obtain ⟨h1, h2⟩ := gd_ok h
  obtain ⟨g1, g2⟩ := an_ok h1
  have hg := glo_ok o g1
  obtain ⟨d1, d2⟩ := plain_ok g2
  obtain ⟨⟨i, n, sh⟩, h3, h4⟩ := bd_ok h2
  obtain ⟨⟨ns, es⟩, h5, h6⟩ := bd_ok h4
  obtain ⟨idx, h7, h8⟩ := bd_ok h6
  obtain ⟨g', h9, h10⟩ := bd_ok h8
  obtain ⟨h11, h12⟩ := gd_ok h10
  cases h12
  exact se_kw (o.g.fn _ _ _ _ h3) hg o.tk h5 h7 (Nat.eq_of_beq_eq_true h11) (cKws_ok R o h9) d1
/-! ### subscripts -/
def cOpt (r : Rc) (cc : Cc) : Option Expr → Option Eo
  | none => some oNone
  | some a => (r.e cc a).map oSome
theorem cOpt_ok (R : RcOk r) (o : CcOk X B Wx cc) {a : Option Expr} {g : Eo} (h : cOpt r cc a = some g) : PO X a (tO X.K B Wx g) := by
  cases a with
  | none => cases h; exact so_none
  | some a =>
    obtain ⟨f, h1, rfl⟩ := mp_ok h
    exact so_some (R.e o h1)
def cSub (r : Rc) (cc : Cc) (a : Expr) (s : Expr) : Option E := match s with
  | .Slice none none (some (.UnaryOp .USub (.Constant (.int 1) _ _) _)) _ => (r.e cc a).map (eUn revK)
  | .Slice lo hi none _ => (r.e cc a).bind fun f => (cOpt r cc lo).bind fun g => (cOpt r cc hi).map fun k => eSliceS f g k
  | _ => gd (plainI s) ((r.e cc a).bind fun f => (r.e cc s).map fun g => eBin subscrSK f g)
theorem cSub_ok (R : RcOk r) (o : CcOk X B Wx cc) {a s : Expr} {g : E} (h : cSub r cc a s = some g) : PE X (.Subscript a s pos) (tE X.K B Wx g) := by
  unfold cSub at h
  split at h
  · obtain ⟨f, h1, rfl⟩ := mp_ok h
    exact se_rev (R.e o h1)
  · obtain ⟨f, h1, h2⟩ := bd_ok h
    obtain ⟨f', h3, h4⟩ := bd_ok h2
    obtain ⟨f'', h5, rfl⟩ := mp_ok h4
    exact se_sliceS (R.e o h1) (cOpt_ok R o h3) (cOpt_ok R o h5)
  · obtain ⟨h0, h1⟩ := gd_ok h
    obtain ⟨f, h2, h3⟩ := bd_ok h1
    obtain ⟨f', h4, rfl⟩ := mp_ok h3
    exact se_subscrS (R.e o h2) (R.e o h4) h0
/-! ### what is walked, targets -/
def isTupE : Expr → Bool
  | .Tuple .. => true
  | _ => false
def noSet : Expr → Bool
  | .Set .. => false
  | _ => true
theorem noSet_ok {e : Expr} (h : noSet e = true) (env : Env) : ∀ x, foldedSetIterable e env x = pure x := by
  intro x
  cases e <;> first | rfl | cases h
inductive Wk where
  | range | zip | enum | rev
def Wk.s : Wk → String
  | .range => "range" | .zip => "zip" | .enum => "enumerate" | .rev => "reversed"
def wkF (x : Str) : Option Wk := cond (sE x "range") (some .range) (cond (sE x "zip") (some .zip) (cond (sE x "enumerate") (some .enum) (cond (sE x "reversed") (some .rev) none)))
theorem wkF_ok {x : Str} {k : Wk} (h : wkF x = some k) : x = Str.ofString k.s := by
  unfold wkF at h
  have go : ∀ m : Wk, x = Str.ofString m.s → some m = some k → x = Str.ofString k.s := fun m e h => by cases h; exact e
  cases h1 : sE x "range" with
  | true => rw [h1] at h; exact go .range (sE_ok h1) h
  | false =>
  rw [h1] at h
  cases h2 : sE x "zip" with
  | true => rw [h2] at h; exact go .zip (sE_ok h2) h
  | false =>
  rw [h2] at h
  cases h3 : sE x "enumerate" with
  | true => rw [h3] at h; exact go .enum (sE_ok h3) h
  | false =>
  rw [h3] at h
  cases h4 : sE x "reversed" with
  | true => rw [h4] at h; exact go .rev (sE_ok h4) h
  | false => rw [h4] at h; cases h
def cWk (r : Rc) (cc : Cc) (tg : Expr) (k : Wk) (args : List Expr) : Option Is := match k, args with
  | .range, [a] => gd (notStar a) ((r.e cc a).map iRng1)
  | .range, [a, b] => gd (notStar a && notStar b) ((r.e cc a).bind fun f => (r.e cc b).map fun g => iRng2 f g)
  | .zip, [a, b] => gd (notStar a && notStar b && isTupE tg) ((r.e cc a).bind fun f => (r.e cc b).map fun g => iZip f g)
  | .zip, [a, b, d] => gd (notStar a && notStar b && notStar d && isTupE tg) ((r.e cc a).bind fun f => (r.e cc b).bind fun g => (r.e cc d).map fun h => iZip3 f g h)
  | .enum, [a] => gd (notStar a && isTupE tg) ((r.e cc a).map iEnum)
  | .rev, [a] => gd (notStar a) ((r.e cc a).map iRev)
  | _, _ => none
theorem cWk_ok (R : RcOk r) (o : CcOk X B Wx cc) {tg : Expr} {k : Wk} {args : List Expr} {g : Is} (hg : Gl X (Str.ofString k.s)) (hm : X.mg (Str.ofString k.s) = none) (h : cWk r cc tg k args = some g) : PI X tg (.Call (.Name (Str.ofString k.s) p) args [] pos) (tI X.K B Wx g) := by
  unfold cWk at h
  split at h
  · obtain ⟨h1, h2⟩ := gd_ok h
    obtain ⟨f, h3, rfl⟩ := mp_ok h2
    exact si_rng1 hg hm (R.e o h3) h1
  · obtain ⟨h1, h2⟩ := gd_ok h
    obtain ⟨n1, n2⟩ := an_ok h1
    obtain ⟨f, h3, h4⟩ := bd_ok h2
    obtain ⟨f', h5, rfl⟩ := mp_ok h4
    exact si_rng2 hg hm (R.e o h3) (R.e o h5) n1 n2
  · obtain ⟨h1, h2⟩ := gd_ok h
    obtain ⟨n0, n3⟩ := an_ok h1
    obtain ⟨n1, n2⟩ := an_ok n0
    obtain ⟨f, h3, h4⟩ := bd_ok h2
    obtain ⟨f', h5, rfl⟩ := mp_ok h4
    cases tg <;> first | exact si_zip hg hm (R.e o h3) (R.e o h5) n1 n2 | cases n3
  · obtain ⟨h1, h2⟩ := gd_ok h
    obtain ⟨n0, n3⟩ := an_ok h1
    obtain ⟨n0, n4⟩ := an_ok n0
    obtain ⟨n1, n2⟩ := an_ok n0
    obtain ⟨f, h3, h4⟩ := bd_ok h2
    obtain ⟨f', h5, h6⟩ := bd_ok h4
    obtain ⟨f'', h7, rfl⟩ := mp_ok h6
    cases tg <;> first | exact si_zip3 hg hm (R.e o h3) (R.e o h5) (R.e o h7) n1 n2 n4 | cases n3
  · obtain ⟨h1, h2⟩ := gd_ok h
    obtain ⟨n1, n3⟩ := an_ok h1
    obtain ⟨f, h3, rfl⟩ := mp_ok h2
    cases tg <;> first | exact si_enum hg hm (R.e o h3) n1 | cases n3
  · obtain ⟨h1, h2⟩ := gd_ok h
    obtain ⟨f, h3, rfl⟩ := mp_ok h2
    exact si_rev hg hm (R.e o h3) h1
  · cases h
def cIv (r : Rc) (cc : Cc) (it : Expr) : Option Is := match r.f cc it with
  | some f => some (iFresh f)
  | none => (r.e cc it).map iVal
theorem cIv_ok (R : RcOk r) (o : CcOk X B Wx cc) {tg it : Expr} {g : Is} (h : cIv r cc it = some g) : PI X tg it (tI X.K B Wx g) := by
  unfold cIv at h
  split at h
  · cases h; exact si_fresh (R.f o (by assumption))
  · obtain ⟨f, h1, rfl⟩ := mp_ok h
    exact si_val (R.e o h1)
def cIt (r : Rc) (cc : Cc) (tg it : Expr) : Option Is := gd (noSet it) (match it with
  | .Call (.Name x _) args [] _ => (match wkF x with
    | some k => gd (bltB cc x) (cWk r cc tg k args)
    | none => cIv r cc it)
  | _ => cIv r cc it)
theorem cIt_ok (R : RcOk r) (o : CcOk X B Wx cc) {tg it : Expr} {g : Is} (h : cIt r cc tg it = some g) : PI X tg it (tI X.K B Wx g) ∧ ∀ x, foldedSetIterable it X.env x = pure x := by
  obtain ⟨h0, h⟩ := gd_ok h
  refine ⟨?_, noSet_ok h0 _⟩
  split at h
  · split at h
    · rename_i k hk
      obtain ⟨h1, h2⟩ := gd_ok h
      have e := wkF_ok hk
      subst e
      obtain ⟨g1, g2⟩ := blt_okC o h1
      exact cWk_ok R o g1 g2 h2
    · exact cIv_ok R o h
  · exact cIv_ok R o h
end
end
end It

set_option Elab.async false
set_option linter.all false
set_option maxRecDepth 100000
set_option maxHeartbeats 1000000
/-! ItS: from the text to the combinators: targets, comprehensions, the tie. -/
namespace It
open PySem PySem.Spec PyProof.Rows L2
noncomputable section
section
variable {r : Rc} {X : Cx} {B : Bag} {Wx : WX} {cc : Cc} {x : Str} {pos p : Pos}
def locB (cc : Cc) (x : Str) : Bool := match kindC cc x with
  | some .local => true
  | some .cell => cc.cel x
  | _ => false
theorem locB_ok (o : CcOk X B Wx cc) (h : locB cc x = true) : L2.Loc X.env.scope x ∧ (X.fn x = true ∨ X.env.scope.names.lookup x = some .local) := by
  unfold locB at h
  rw [kindC_eq, ← o.sc] at h
  split at h
  · rename_i e; exact ⟨.inl e, .inr e⟩
  · rename_i e; exact ⟨.inr e, .inl (o.fnc _ h)⟩
  · cases h
theorem ae_cons {e : Expr} (h : notStar e = true) (es : List Expr) (env : Env) : assignEach (e :: es) env = (false, assign e env) :: assignEach es env := by
  cases e <;> first | rfl | cases h
theorem ae_len : ∀ (es : List Expr) (env : Env), es.all notStar = true → (assignEach es env).length = es.length ∧ (assignEach es env).findIdx? (·.1) = none
  | [], _, _ => ⟨rfl, rfl⟩
  | e :: es, env, h => by
    rw [List.all_cons] at h
    obtain ⟨h1, h2⟩ := an_ok h
    obtain ⟨a, b⟩ := ae_len es env h2
    rw [ae_cons h1]
    exact ⟨congrArg Nat.succ a, by rw [List.findIdx?_cons]; simp [b]⟩
def inO (o : Option (List Nat)) (i : Nat) : Bool := match o with
  | none => true
  | some ws => ws.contains i
def cGs (g : Expr → Option G) : List Expr → Option Gs
  | [] => some It.gNil
  | e :: es => gd (notStar e) ((g e).bind fun f => (cGs g es).map fun q => It.gCons f q)
def cG (r : Rc) (cc : Cc) (ow : Option (List Nat)) : Nat → Expr → Option G
  | 0, _ => none
  | n + 1, tg => match tg with
    | .Name x _ => gd (locB cc x) ((ixS cc.N x).bind fun i => gd (inO ow i) (some (It.gName i)))
    | .Tuple ts _ _ => gd (ts.all notStar) ((cGs (cG r cc ow n) ts).map (It.gTup ts.length))
    | .Subscript a b _ => gd (plainI b) ((r.e cc a).bind fun f => (r.e cc b).map fun g => It.gSub f g)
    | _ => none
theorem cGs_ok {g : Expr → Option G} {ow : Option (List Nat)} (hg : ∀ {e f}, g e = some f → PG X e (tG X.K B Wx ow f)) : ∀ {es : List Expr} {q : Gs}, cGs g es = some q → PGs X es (tGs X.K B Wx ow q)
  | [], q, h => by cases h; exact sgs_nil
  | e :: es, q, h => by
    obtain ⟨h1, h2⟩ := gd_ok h
    obtain ⟨f, h3, h4⟩ := bd_ok h2
    obtain ⟨q', h5, rfl⟩ := mp_ok h4
    exact sgs_cons (hg h3) (cGs_ok hg h5) (by rw [ae_cons h1]; rfl)
theorem sub_assign {a b : Expr} {env : Env} (h : plainI b = true) : ∀ v, assign (.Subscript a b pos) env v = (do
      let ov ← holding [v] (eval a env)
      let iv ← holding [v, ov] (eval b env)
      standAt pos
      holding [v, ov, iv] (setItem ov iv v)
      release [v, ov, iv] []) := by
  intro v
  cases b <;> first | rfl | cases h
theorem cG_ok (R : RcOk r) (o : CcOk X B Wx cc) {ow : Option (List Nat)} : ∀ {n : Nat} {tg : Expr} {g : G}, cG r cc ow n tg = some g → PG X tg (tG X.K B Wx ow g)
  | 0, _, _, h => by cases h
  | n + 1, tg, g, h => by
    unfold cG at h
    split at h
    · obtain ⟨h1, h2⟩ := gd_ok h
      obtain ⟨i, h3, h4⟩ := bd_ok h2
      obtain ⟨h5, h6⟩ := gd_ok h4
      cases h6
      obtain ⟨l1, l2⟩ := locB_ok o h1
      refine sg_name o.nd (by rw [o.N]; exact ixS_ok h3) l1 l2 fun ws e => ?_
      subst e
      exact List.contains_iff_mem.mp h5
    · obtain ⟨h1, h2⟩ := gd_ok h
      obtain ⟨q, h3, rfl⟩ := mp_ok h2
      obtain ⟨a, b⟩ := ae_len _ X.env h1
      exact sg_tup o.calm (cGs_ok (fun he => cG_ok R o he) h3) a b
    · obtain ⟨h1, h2⟩ := gd_ok h
      obtain ⟨f, h3, h4⟩ := bd_ok h2
      obtain ⟨f', h5, rfl⟩ := mp_ok h4
      exact sg_sub (i := .Name "" ⟨0, 0, 0, 0⟩) (R.e o h3) (R.e o h5) (sub_assign h1)
    · cases h
/-! ### comprehensions -/
def ownC (cc : Cc) (scope : Scope) : List (Str × Nat) := scope.names.filterMap fun y => match y.2 with
  | .local => (ixS cc.N y.1).map fun i => (y.1, i)
  | .cell => (ixS cc.N y.1).map fun i => (y.1, i)
  | _ => none
def blkCc (cc : Cc) (scope : Scope) : Cc := { cc with lam := false, sc := relS scope cc.sc, cel := fun x => match lkS x scope.names with
  | some .cell => true
  | _ => false }
theorem relS_of {scope sc : Scope} {cl : List (Str × Addr)} {C : Addr} {env : Env} (h : env.scope = sc) : (compEnvC scope cl C env).scope = relS scope sc := by
  subst h; rfl
theorem blk_ok (o : CcOk X B Wx cc) (scope : Scope) (hk : scope.kind = .function) (s : Shared) (H : Hp) (C : Addr) (cl : List (Str × Addr)) (fp : List Addr) : CcOk (X.blk s H scope (compEnvC scope cl C X.env) fp) B wNo (blkCc cc scope) where
  g := ⟨fun x i n sh h => ⟨(o.g.fn x i n sh h).ex, (o.g.fn x i n sh h).ng⟩, fun x i h => let z := o.g.ex x i h; ⟨z.ex, z.mg, z.kp, z.r, z.f⟩, fun x i h => let z := o.g.on x i h; ⟨z.on, z.cf, z.mg, z.C⟩, o.g.gl, o.g.bl, fun h => ⟨(o.g.led h).ex⟩, o.g.dp, o.g.dq, o.g.un⟩
  N := o.N
  nd := o.nd
  sc := relS_of o.sc
  calm := o.calm
  tk := takes_none5
  fnc := fun x h => by
    have h' : (match lkS x scope.names with | some .cell => true | _ => false) = true := h
    rw [lkS_eq] at h'
    show (scope.names.lookup x == some .cell) = true
    split at h'
    · rename_i e; rw [e]; rfl
    · cases h'
  kind := hk
  lam := fun h => (nomatch h)
def cIfs (r : Rc) (cc : Cc) : List Expr → Option Tt
  | [] => some tYes
  | [c] => r.t cc c
  | _ => none
theorem cIfs_ok (R : RcOk r) (o : CcOk X B Wx cc) {ifs : List Expr} {t : Tt} (h : cIfs r cc ifs = some t) : PTs X ifs (tB X.K B Wx t) := by
  unfold cIfs at h
  split at h
  · cases h; exact spts_nil
  · exact spts_one (R.t o h)
  · cases h
def isFun (s : Scope) : Bool := match s.kind with
  | .function => true
  | _ => false
theorem isFun_ok {s : Scope} (h : isFun s = true) : s.kind = .function := by
  unfold isFun at h
  split at h
  · assumption
  · cases h
/-- the parts of a comprehension -/
def cLc (r : Rc) (cc : Cc) (elt tg iter : Expr) (ifs : List Expr) (scope : Scope) : Option (Is × G × Tt × E) :=
  gd (isFun scope && blkC cc.N cc.sc scope (ownC cc scope)) ((cIt r cc tg iter).bind fun i => (cG r (blkCc cc scope) (some ((ownC cc scope).map (·.2))) 5 tg).bind fun g => (cIfs r (blkCc cc scope) ifs).bind fun t => (r.e (blkCc cc scope) elt).map fun e => (i, g, t, e))
theorem cLc_ok (R : RcOk r) (o : CcOk X B Wx cc) {elt tg iter : Expr} {ifs : List Expr} {scope : Scope} {q : Is × G × Tt × E} (h : cLc r cc elt tg iter ifs scope = some q) :
    PI X tg iter (tI X.K B Wx q.1) ∧ BlkOk X.N X.env.scope scope (ownC cc scope) ∧
    (∀ (s : Shared) (H : Hp) (C : Addr) (cl : List (Str × Addr)) (fp : List Addr), PG (X.blk s H scope (compEnvC scope cl C X.env) fp) tg (tG X.K B wNo (some ((ownC cc scope).map (·.2))) q.2.1)) ∧
    (∀ (s : Shared) (H : Hp) (C : Addr) (cl : List (Str × Addr)) (fp : List Addr), PTs (X.blk s H scope (compEnvC scope cl C X.env) fp) ifs (tB X.K B wNo q.2.2.1)) ∧
    (∀ (s : Shared) (H : Hp) (C : Addr) (cl : List (Str × Addr)) (fp : List Addr), PE (X.blk s H scope (compEnvC scope cl C X.env) fp) elt (tE X.K B wNo q.2.2.2)) ∧ ∀ x, foldedSetIterable iter X.env x = pure x := by
  obtain ⟨h1, h2⟩ := gd_ok h
  obtain ⟨h0, h1⟩ := an_ok h1
  obtain ⟨i, h3, h4⟩ := bd_ok h2
  obtain ⟨g, h5, h6⟩ := bd_ok h4
  obtain ⟨t, h7, h8⟩ := bd_ok h6
  obtain ⟨e, h9, rfl⟩ := mp_ok h8
  obtain ⟨a1, a2⟩ := cIt_ok R o h3
  have hk := isFun_ok h0
  exact ⟨a1, by rw [o.N, o.sc]; exact blkOk_by h1, fun s H C cl fp => cG_ok R (blk_ok o scope hk s H C cl fp) h5, fun s H C cl fp => cIfs_ok R (blk_ok o scope hk s H C cl fp) h7, fun s H C cl fp => R.e (blk_ok o scope hk s H C cl fp) h9, a2⟩
/-- a target's names -/
def tgNs : Nat → Expr → List Str
  | 0, _ => []
  | n + 1, .Name x _ => [x]
  | n + 1, .Tuple es _ _ => es.flatMap (tgNs n)
  | _, _ => []
def vsC (cc : Cc) (scope : Scope) (tg : Expr) : List Nat := ((ownC cc scope).filter fun p => (tgNs 5 tg).any (sE p.1)).map (·.2)
theorem vsC_ok {scope : Scope} {tg : Expr} : ∀ i ∈ vsC cc scope tg, i ∈ (ownC cc scope).map (·.2) := fun i h => by
  obtain ⟨p, h1, h2⟩ := List.mem_map.mp h
  exact List.mem_map.mpr ⟨p, (List.mem_filter.mp h1).1, h2⟩
def cLc2 (r : Rc) (cc : Cc) (elt tg iter : Expr) (ifs : List Expr) (tg1 iter1 : Expr) (ifs1 : List Expr) (scope : Scope) : Option Es :=
  gd (isFun scope && blkC cc.N cc.sc scope (ownC cc scope)) ((cIt r cc tg iter).bind fun i => (cG r (blkCc cc scope) (some ((ownC cc scope).map (·.2))) 5 tg).bind fun g => (cIfs r (blkCc cc scope) ifs).bind fun t =>
    (cIt r (blkCc cc scope) tg1 iter1).bind fun i1 => (cG r (blkCc cc scope) (some (vsC cc scope tg1)) 5 tg1).bind fun g1 => (cIfs r (blkCc cc scope) ifs1).bind fun t1 => (r.e (blkCc cc scope) elt).map fun e => sLc2 ((ownC cc scope).map (·.2)) i g t i1 (vsC cc scope tg1) g1 t1 e)
theorem cLc2_ok (R : RcOk r) (o : CcOk X B Wx cc) {elt tg iter tg1 iter1 : Expr} {ifs ifs1 : List Expr} {scope : Scope} {q : Es} (h : cLc2 r cc elt tg iter ifs tg1 iter1 ifs1 scope = some q) : ∃ i g t i1 g1 t1 e, q = sLc2 ((ownC cc scope).map (·.2)) i g t i1 (vsC cc scope tg1) g1 t1 e ∧
    PI X tg iter (tI X.K B Wx i) ∧ BlkOk X.N X.env.scope scope (ownC cc scope) ∧
    (∀ (s : Shared) (H : Hp) (C : Addr) (cl : List (Str × Addr)) (fp : List Addr), PG (X.blk s H scope (compEnvC scope cl C X.env) fp) tg (tG X.K B wNo (some ((ownC cc scope).map (·.2))) g)) ∧
    (∀ (s : Shared) (H : Hp) (C : Addr) (cl : List (Str × Addr)) (fp : List Addr), PTs (X.blk s H scope (compEnvC scope cl C X.env) fp) ifs (tB X.K B wNo t)) ∧
    (∀ (s : Shared) (H : Hp) (C : Addr) (cl : List (Str × Addr)) (fp : List Addr), PI (X.blk s H scope (compEnvC scope cl C X.env) fp) tg1 iter1 (tI X.K B wNo i1)) ∧
    (∀ (s : Shared) (H : Hp) (C : Addr) (cl : List (Str × Addr)) (fp : List Addr), PG (X.blk s H scope (compEnvC scope cl C X.env) fp) tg1 (tG X.K B wNo (some (vsC cc scope tg1)) g1)) ∧
    (∀ (s : Shared) (H : Hp) (C : Addr) (cl : List (Str × Addr)) (fp : List Addr), PTs (X.blk s H scope (compEnvC scope cl C X.env) fp) ifs1 (tB X.K B wNo t1)) ∧
    (∀ (s : Shared) (H : Hp) (C : Addr) (cl : List (Str × Addr)) (fp : List Addr), PE (X.blk s H scope (compEnvC scope cl C X.env) fp) elt (tE X.K B wNo e)) ∧ (∀ x, foldedSetIterable iter X.env x = pure x) ∧ ∀ env x, foldedSetIterable iter1 env x = pure x := by
  obtain ⟨h1, h2⟩ := gd_ok h
  obtain ⟨h0, h1⟩ := an_ok h1
  obtain ⟨i, h3, h4⟩ := bd_ok h2
  obtain ⟨g, h5, h6⟩ := bd_ok h4
  obtain ⟨t, h7, h8⟩ := bd_ok h6
  obtain ⟨i1, h9, ha⟩ := bd_ok h8
  obtain ⟨g1, hb, hc⟩ := bd_ok ha
  obtain ⟨t1, hd, he⟩ := bd_ok hc
  obtain ⟨e, hf, rfl⟩ := mp_ok he
  obtain ⟨a1, a2⟩ := cIt_ok R o h3
  have hk := isFun_ok h0
  exact ⟨i, g, t, i1, g1, t1, e, rfl, a1, by rw [o.N, o.sc]; exact blkOk_by h1, fun s H C cl fp => cG_ok R (blk_ok o scope hk s H C cl fp) h5, fun s H C cl fp => cIfs_ok R (blk_ok o scope hk s H C cl fp) h7, fun s H C cl fp => (cIt_ok R (blk_ok o scope hk s H C cl fp) h9).1,
    fun s H C cl fp => cG_ok R (blk_ok o scope hk s H C cl fp) hb, fun s H C cl fp => cIfs_ok R (blk_ok o scope hk s H C cl fp) hd, fun s H C cl fp => R.e (blk_ok o scope hk s H C cl fp) hf, a2, fun env => noSet_ok (gd_ok h9).1 env⟩
/-! ### lists that are made -/
def cSortP (r : Rc) (cc : Cc) (a : Expr) : Option Es := match r.f cc a with
  | some f => some (sSortF f)
  | none => (r.e cc a).map sSortD
def cSorted (r : Rc) (cc : Cc) (a : Expr) : Option Es := match a with
  | .Call (.Name z _) [b] [] _ => cond (sE z "set") (gd (bltB cc z && notStar b) ((r.e cc b).map sSortSetG)) (cSortP r cc a)
  | _ => cSortP r cc a
def cListP (r : Rc) (cc : Cc) (a : Expr) : Option Es := match r.f cc a with
  | some f => none
  | none => (r.e cc a).map sItems
def cList (r : Rc) (cc : Cc) (a : Expr) : Option Es := match a with
  | .Call (.Name z _) [b] [] _ => cond (sE z "range") (gd (bltB cc z && notStar b) ((r.e cc b).map sRg1)) (cListP r cc a)
  | .Call (.Name z _) [b, d] [] _ => cond (sE z "range") (gd (bltB cc z && notStar b && notStar d) ((r.e cc b).bind fun f => (r.e cc d).map fun g => sRg2 f g)) (cListP r cc a)
  | _ => cListP r cc a
/-! ### lambdas as keys -/
def isCel : NameKind → Bool
  | .cell => true
  | _ => false
def isFre : NameKind → Bool
  | .free => true
  | _ => false
def isLocO : Option NameKind → Bool
  | some .local => true
  | _ => false
def isCelO : Option NameKind → Bool
  | some .cell => true
  | _ => false
def isFreO : Option NameKind → Bool
  | some .free => true
  | _ => false
def isGloO : Option NameKind → Bool
  | some .globalImplicit => true
  | _ => false
def lamOk (cc : Cc) (params : Arguments) (sc : Scope) (x : Str) : Bool :=
  isFun sc && (!sc.isCoroutine && (!sc.isGenerator && (sc.names.all (fun y => !isCel y.2) && (isLocO (lkS x sc.names) && (oneArg' params x && (plainN x && sc.names.all fun y => !isFre y.2 || (isCelO (lkS y.1 cc.sc.names) || isFreO (lkS y.1 cc.sc.names))))))))
def freOk (cc : Cc) (sc : Scope) (y : Str) : Bool := isFreO (lkS y sc.names) && (isCelO (lkS y cc.sc.names) && plainN y)
def cLamK (cc : Cc) (params : Arguments) (sc : Scope) : Expr → Option (Loc → W → IH → (W → Bool) → Bool)
  | .Tuple [.Call (.Name l _) [.Name x1 _] [] _, .Name x2 _] _ _ => gd (sE l "len" && (sE x2 x1 && (lamOk cc params sc x1 && (isGloO (lkS "len" sc.names) && cc.bl "len")))) (some kfLen)
  | .Subscript (.Subscript (.Name x1 _) (.Constant (.int 0) _ _) _) (.Name y _) _ => gd (lamOk cc params sc x1 && freOk cc sc y) ((ixS cc.N y).map kfIx)
  | .Call (.Name l _) [.Subscript (.Name x1 _) (.Name y _) _] [] _ => gd (sE l "abs" && (lamOk cc params sc x1 && (freOk cc sc y && (isGloO (lkS "abs" sc.names) && cc.bl "abs")))) ((ixS cc.N y).map kfAbs)
  | _ => none
theorem isLocO_ok {o : Option NameKind} (h : isLocO o = true) : o = some .local := by
  cases o with
  | none => cases h
  | some k => cases k <;> first | rfl | cases h
theorem isCelO_ok {o : Option NameKind} (h : isCelO o = true) : o = some .cell := by
  cases o with
  | none => cases h
  | some k => cases k <;> first | rfl | cases h
theorem isFreO_ok {o : Option NameKind} (h : isFreO o = true) : o = some .free := by
  cases o with
  | none => cases h
  | some k => cases k <;> first | rfl | cases h
theorem isGloO_ok {o : Option NameKind} (h : isGloO o = true) : o = some .globalImplicit := by
  cases o with
  | none => cases h
  | some k => cases k <;> first | rfl | cases h
theorem oneArg_dfl {params : Arguments} {x : Str} (h : oneArg' params x = true) (env : Env) : defaultsOf params env = ([], []) := by
  unfold oneArg' at h
  split at h
  · rfl
  · cases h
theorem lamOk_ok (o : CcOk X B Wx cc) {params : Arguments} {scope : Scope} {x : Str} (h : lamOk cc params scope x = true) : LmX X params scope x ∧ ∀ y ∈ scope.names, y.2 = .free → X.env.scope.names.lookup y.1 = some .cell ∨ X.env.scope.names.lookup y.1 = some .free := by
  obtain ⟨h1, h⟩ := an_ok h
  obtain ⟨h2, h⟩ := an_ok h
  obtain ⟨h3, h⟩ := an_ok h
  obtain ⟨h4, h⟩ := an_ok h
  obtain ⟨h5, h⟩ := an_ok h
  obtain ⟨h6, h⟩ := an_ok h
  obtain ⟨h7, h8⟩ := an_ok h
  rw [lkS_eq] at h5
  refine ⟨⟨⟨isFun_ok h1, bh_ok h2, bh_ok h3, fun y hy e => ?_, isLocO_ok h5⟩, h6, o.g.dp, (plain_ok h7).1⟩, fun y hy e => ?_⟩
  · have z := List.all_eq_true.mp h4 y hy
    rw [e] at z; cases z
  · have z := List.all_eq_true.mp h8 y hy
    rw [e, lkS_eq, o.sc.symm] at z
    have z : (false || (isCelO (List.lookup y.1 X.env.scope.names) || isFreO (List.lookup y.1 X.env.scope.names))) = true := z
    rw [Bool.false_or, Bool.or_eq_true] at z
    exact z.imp isCelO_ok isFreO_ok
theorem freOk_ok (o : CcOk X B Wx cc) {params : Arguments} {scope : Scope} {x y : Str} {i : Nat} (hl : lamOk cc params scope x = true) (h : freOk cc scope y = true) (hi : ixS cc.N y = some i) : LmF X scope y i := by
  obtain ⟨h1, h⟩ := an_ok h
  obtain ⟨h2, h3⟩ := an_ok h
  rw [lkS_eq] at h1 h2
  rw [← o.sc] at h2
  exact ⟨by rw [o.N]; exact ixS_ok hi, isCelO_ok h2, isFreO_ok h1, (lamOk_ok o hl).2, (plain_ok h3).1, (plain_ok h3).2⟩
theorem cLamK_ok (o : CcOk X B Wx cc) {params : Arguments} {scope : Scope} {body : Expr} {kf : Loc → W → IH → (W → Bool) → Bool} (h : cLamK cc params scope body = some kf) : KfOk X params body scope kf ∧ (∀ y ∈ scope.names, y.2 = .free → X.env.scope.names.lookup y.1 = some .cell ∨ X.env.scope.names.lookup y.1 = some .free) ∧ defaultsOf params X.env = ([], []) := by
  unfold cLamK at h
  split at h
  · obtain ⟨h1, h2⟩ := gd_ok h
    cases h2
    obtain ⟨c1, h1⟩ := an_ok h1
    obtain ⟨c2, h1⟩ := an_ok h1
    obtain ⟨c3, h1⟩ := an_ok h1
    obtain ⟨c4, c5⟩ := an_ok h1
    have e1 := sE_ok c1
    have e2 := sE_ok c2
    subst e1 e2
    rw [lkS_eq] at c4
    obtain ⟨a1, a2⟩ := lamOk_ok o c3
    exact ⟨kf_len a1 (isGloO_ok c4) (o.g.bl _ c5), a2, oneArg_dfl a1.one _⟩
  · obtain ⟨h1, h2⟩ := gd_ok h
    obtain ⟨i, h3, rfl⟩ := mp_ok h2
    obtain ⟨c1, c2⟩ := an_ok h1
    obtain ⟨a1, a2⟩ := lamOk_ok o c1
    exact ⟨kf_ix a1 (freOk_ok o c1 c2 h3), a2, oneArg_dfl a1.one _⟩
  · obtain ⟨h1, h2⟩ := gd_ok h
    obtain ⟨i, h3, rfl⟩ := mp_ok h2
    obtain ⟨c1, h1⟩ := an_ok h1
    obtain ⟨c2, h1⟩ := an_ok h1
    obtain ⟨c3, h1⟩ := an_ok h1
    obtain ⟨c4, c5⟩ := an_ok h1
    have e1 := sE_ok c1
    subst e1
    rw [lkS_eq] at c4
    obtain ⟨a1, a2⟩ := lamOk_ok o c2
    exact ⟨kf_abs a1 (freOk_ok o c2 c3 h3) (isGloO_ok c4) (o.g.bl _ c5), a2, oneArg_dfl a1.one _⟩
  · cases h
def noCall : Expr → Bool
  | .Call .. => false
  | _ => true
theorem noCall_ok {a : Expr} (h : noCall a = true) (x : Str) (env : Env) : attributeBase a x env (eval a env) = eval a env := by
  cases a <;> first | rfl | cases h
def stepF (r : Rc) (cc : Cc) (ex : Expr) : Option Es := match ex with
  | .List es _ => cond (es.all notStar) (gd (Nat.ble es.length line) (cEs r cc es)) ((cEsX r cc es).map sShort)
  | .ListComp elt [⟨tg, iter, ifs, 0⟩] scope _ => (cLc r cc elt tg iter ifs scope).map fun q => sLc ((ownC cc scope).map (·.2)) q.1 q.2.1 q.2.2.1 q.2.2.2
  | .ListComp elt [⟨tg, iter, ifs, 0⟩, ⟨tg1, iter1, ifs1, 0⟩] scope _ => cLc2 r cc elt tg iter ifs tg1 iter1 ifs1 scope
  | .BinOp a .Add b _ => (r.f cc a).bind fun f => (r.f cc b).map fun g => sCat f g
  | .Call (.Name x _) [a] [] _ => gd (bltB cc x && notStar a) (cond (sE x "list") (cList r cc a) (cond (sE x "sorted") (cSorted r cc a) none))
  | .Call (.Attribute a m apos) [b] [] cpos => gd (noCall a && (notStar b && ((apos.endLine == cpos.line) && sE m "split"))) ((r.e cc a).bind fun f => (r.e cc b).map fun g => sSplit f g)
  | .Call (.Name x _) [a] [⟨some y, .Call (.Name z _) [b] [] _, _⟩] _ => gd (bltB cc x && gloB cc z && cc.led && notStar a && notStar b && sE x "sorted" && sE y "key" && sE z "led_by") ((r.e cc a).bind fun f => (r.e cc b).map fun g => sSortAbs f g)
  | .Call (.Name x _) [a] [⟨some y, .Lambda params body scope _, _⟩] _ => gd (bltB cc x && (cc.lam && (notStar a && (sE x "sorted" && sE y "key")))) ((cLamK cc params scope body).bind fun kf => (r.e cc a).map fun f => sSortLam kf f)
  | _ => none
theorem cListP_ok (R : RcOk r) (o : CcOk X B Wx cc) (g1 : Gl X "list") (g2 : X.mg "list" = none) {a : Expr} {g : Es} (n2 : notStar a = true) (h2 : cListP r cc a = some g) : PE X (.Call (.Name "list" p) [a] [] pos) (tF X.K B Wx g) := by
  unfold cListP at h2
  split at h2
  · cases h2
  · obtain ⟨f, h3, rfl⟩ := mp_ok h2
    exact sf_listV g1 g2 (R.e o h3) n2
theorem cList_ok (R : RcOk r) (o : CcOk X B Wx cc) (g1 : Gl X "list") (g2 : X.mg "list" = none) {a : Expr} {g : Es} (n2 : notStar a = true) (h2 : cList r cc a = some g) : PE X (.Call (.Name "list" p) [a] [] pos) (tF X.K B Wx g) := by
  unfold cList at h2
  split at h2
  · rename_i z _ b _
    cases e : sE z "range" with
    | true =>
      rw [e] at h2
      obtain ⟨h3, h4⟩ := gd_ok h2
      obtain ⟨c2, c1⟩ := an_ok h3
      have e'' := sE_ok e
      subst e''
      obtain ⟨f, h5, rfl⟩ := mp_ok h4
      obtain ⟨g3, g4⟩ := blt_okC o c2
      exact sf_rg1 o.calm g1 g2 g3 g4 (R.e o h5) c1
    | false => rw [e] at h2; exact cListP_ok R o g1 g2 n2 h2
  · rename_i z _ b d _
    cases e : sE z "range" with
    | true =>
      rw [e] at h2
      obtain ⟨h3, h4⟩ := gd_ok h2
      obtain ⟨h3, c1⟩ := an_ok h3
      obtain ⟨c3, c2⟩ := an_ok h3
      have e'' := sE_ok e
      subst e''
      obtain ⟨f, h5, h6⟩ := bd_ok h4
      obtain ⟨f', h7, rfl⟩ := mp_ok h6
      obtain ⟨g3, g4⟩ := blt_okC o c3
      exact sf_rg2 o.calm g1 g2 g3 g4 (R.e o h5) (R.e o h7) c2 c1
    | false => rw [e] at h2; exact cListP_ok R o g1 g2 n2 h2
  · exact cListP_ok R o g1 g2 n2 h2
theorem cSortP_ok (R : RcOk r) (o : CcOk X B Wx cc) (g1 : Gl X "sorted") (g2 : X.mg "sorted" = none) {a : Expr} {g : Es} (n2 : notStar a = true) (h2 : cSortP r cc a = some g) : PE X (.Call (.Name "sorted" p) [a] [] pos) (tF X.K B Wx g) := by
  unfold cSortP at h2
  split at h2
  · cases h2; exact sf_sortF o.g.un g1 g2 (R.f o (by assumption)) n2
  · obtain ⟨f, h3, rfl⟩ := mp_ok h2
    exact sf_sortD o.g.un g1 g2 (R.e o h3) n2
theorem cSorted_ok (R : RcOk r) (o : CcOk X B Wx cc) (g1 : Gl X "sorted") (g2 : X.mg "sorted" = none) {a : Expr} {g : Es} (n2 : notStar a = true) (h2 : cSorted r cc a = some g) : PE X (.Call (.Name "sorted" p) [a] [] pos) (tF X.K B Wx g) := by
  unfold cSorted at h2
  split at h2
  · rename_i z _ b _
    cases e : sE z "set" with
    | true =>
      rw [e] at h2
      obtain ⟨h3, h4⟩ := gd_ok h2
      obtain ⟨c2, c1⟩ := an_ok h3
      have e'' := sE_ok e
      subst e''
      obtain ⟨f, h5, rfl⟩ := mp_ok h4
      obtain ⟨g3, g4⟩ := blt_okC o c2
      exact sf_sortSetG o.calm o.g.un g1 g2 g3 g4 (R.e o h5) c1
    | false => rw [e] at h2; exact cSortP_ok R o g1 g2 n2 h2
  · exact cSortP_ok R o g1 g2 n2 h2
theorem stepF_ok (R : RcOk r) (o : CcOk X B Wx cc) {ex : Expr} {g : Es} (h : stepF r cc ex = some g) : PE X ex (tF X.K B Wx g) := by
  unfold stepF at h
  split at h
  · rename_i es p
    cases q : es.all notStar with
    | true =>
      rw [q] at h
      obtain ⟨h1, h2⟩ := gd_ok h
      exact sf_lst (cEs_ok R o h2).1 (Nat.le_of_ble_eq_true h1)
    | false =>
      rw [q] at h
      obtain ⟨f, h1, rfl⟩ := mp_ok h
      exact sf_lstX (cEsX_ok R o h1)
  · obtain ⟨q, h1, rfl⟩ := mp_ok h
    obtain ⟨a1, a2, a3, a4, a5, a6⟩ := cLc_ok R o h1
    exact sf_lc o.calm o.nd a1 a2 a3 a4 a5 a6
  · obtain ⟨i, g, t, i1, g1, t1, e, rfl, a1, a2, a3, a4, a5, a6, a7, a8, a9, a10⟩ := cLc2_ok R o h
    exact sf_lc2 o.calm o.nd a1 a2 vsC_ok a3 a4 a5 a6 a7 a8 a9 a10
  · obtain ⟨f, h1, h2⟩ := bd_ok h
    obtain ⟨f', h3, rfl⟩ := mp_ok h2
    exact sf_cat (q := ⟨0, 0, 0, 0⟩) (R.f o h1) (R.f o h3)
  · obtain ⟨h1, h2⟩ := gd_ok h
    obtain ⟨n1, n2⟩ := an_ok h1
    obtain ⟨g1, g2⟩ := blt_okC o n1
    rename_i x p a pos
    cases e : sE x "list" with
    | true =>
      rw [e] at h2
      have e' := sE_ok e
      subst e'
      have h2 : cList r cc a = some g := h2
      exact cList_ok R o g1 g2 n2 h2
    | false =>
      rw [e] at h2
      cases e2 : sE x "sorted" with
      | false => rw [e2] at h2; cases h2
      | true =>
        rw [e2] at h2
        have e' := sE_ok e2
        subst e'
        have h2 : cSorted r cc a = some g := h2
        exact cSorted_ok R o g1 g2 n2 h2
  · obtain ⟨h1, h2⟩ := gd_ok h
    obtain ⟨c1, h1⟩ := an_ok h1
    obtain ⟨c2, h1⟩ := an_ok h1
    obtain ⟨c3, c4⟩ := an_ok h1
    have e1 := sE_ok c4
    subst e1
    obtain ⟨f, h3, h4⟩ := bd_ok h2
    obtain ⟨f', h5, rfl⟩ := mp_ok h4
    exact sf_split (noCall_ok c1 _ _) c3 (R.e o h3) (R.e o h5) c2
  · rename_i x p a y z p2 b pos2 kpos pos
    obtain ⟨h1, h2⟩ := gd_ok h
    obtain ⟨h1, c1⟩ := an_ok h1
    obtain ⟨h1, c2⟩ := an_ok h1
    obtain ⟨h1, c3⟩ := an_ok h1
    obtain ⟨h1, c4⟩ := an_ok h1
    obtain ⟨h1, c5⟩ := an_ok h1
    obtain ⟨h1, c6⟩ := an_ok h1
    obtain ⟨c8, c7⟩ := an_ok h1
    obtain ⟨g1, g2⟩ := blt_okC o c8
    have e1 := sE_ok c1
    have e2 := sE_ok c2
    have e3 := sE_ok c3
    subst e1 e2 e3
    obtain ⟨f, h3, h4⟩ := bd_ok h2
    obtain ⟨f', h5, rfl⟩ := mp_ok h4
    exact sf_sort (o.g.led c6) o.g.dp o.g.un g1 g2 (glo_ok o c7) o.tk (R.e o h3) (R.e o h5) c5 c4
  · obtain ⟨h1, h2⟩ := gd_ok h
    obtain ⟨c1, h1⟩ := an_ok h1
    obtain ⟨c2, h1⟩ := an_ok h1
    obtain ⟨c3, h1⟩ := an_ok h1
    obtain ⟨c4, c5⟩ := an_ok h1
    have e1 := sE_ok c4
    have e2 := sE_ok c5
    subst e1 e2
    obtain ⟨kf, h3, h4⟩ := bd_ok h2
    obtain ⟨f, h5, rfl⟩ := mp_ok h4
    obtain ⟨g1, g2⟩ := blt_okC o c1
    obtain ⟨a1, a2, a3⟩ := cLamK_ok o h3
    exact sf_sortLam o.g.un (o.lam c2) g1 g2 a3 a2 a1 (R.e o h5) c3
  · cases h
/-! ### values -/
def cFp (r : Rc) (cc : Cc) : Expr → Option Fp
  | .Constant (.str z) _ _ => some (.s z)
  | .FormattedValue e (.negSucc 0) none _ => (r.e cc e).map .e
  | _ => none
def cFps (r : Rc) (cc : Cc) : List Expr → Option (List Fp)
  | [] => some []
  | e :: es => (cFp r cc e).bind fun p => (cFps r cc es).map fun l => p :: l
theorem cFp_ok (R : RcOk r) (o : CcOk X B Wx cc) {e : Expr} {p : Fp} (h : cFp r cc e = some p) : PE X e (fTE X.K B Wx p) := by
  unfold cFp at h
  split at h
  · cases h; exact pe_str
  · obtain ⟨f, h1, rfl⟩ := mp_ok h
    exact pe_fmt (R.e o h1)
  · cases h
theorem cFps_ok (R : RcOk r) (o : CcOk X B Wx cc) : ∀ {es : List Expr} {ps : List Fp}, cFps r cc es = some ps → PJ X es (ps.map (fTE X.K B Wx))
  | [], ps, h => by cases h; exact .nil
  | e :: es, ps, h => by
    obtain ⟨p, h1, h2⟩ := bd_ok h
    obtain ⟨l, h3, rfl⟩ := mp_ok h2
    exact .cons (cFp_ok R o h1) (cFps_ok R o h3)
def cJoin (r : Rc) (cc : Cc) (a b : Expr) : Option E := (r.e cc a).bind fun f => match r.f cc b with
  | some g => some (eJoin f g)
  | none => (r.e cc b).map fun g => eJoinV f g
def cExt (r : Rc) (cc : Cc) (f : E) (b : Expr) : Option E := match r.f cc b with
  | some g => some (eExtend f g)
  | none => (r.e cc b).map fun g => eExtendV f g
def stepE (r : Rc) (cc : Cc) (ex : Expr) : Option E := match r.f cc ex with
  | some f => some (eLay f)
  | none => match ex with
    | .Name x _ => cName cc x
    | .Constant c _ _ => cConst c
    | .Tuple es _ _ => cond (es.all notStar) (gd (Nat.ble es.length line) ((cEs r cc es).map eTup)) ((cEsX r cc es).map fun f => eTup (sShort f))
    | .BinOp a op b _ => (cBin op).bind fun q => (r.e cc a).bind fun f => (r.e cc b).map fun g => eBin q f g
    | .UnaryOp .Not a _ => (r.e cc a).map eNotV
    | .UnaryOp .USub a _ => (r.e cc a).map (eUn negK)
    | .BoolOp .And l _ => cAndV r cc l
    | .BoolOp .Or l _ => cOrV r cc l
    | .Compare a ops bs _ => (cCmp r cc a ops bs).map eTst
    | .IfExp c a b _ => (r.t cc c).bind fun t => (r.e cc a).bind fun f => (r.e cc b).map fun g => eIf t f g
    | .Subscript a s _ => cSub r cc a s
    | .Call (.Name x _) args [] _ => cCall r cc x args
    | .Call (.Name x _) [] kws _ => cKwc r cc x kws
    | .Call (.Attribute a m apos) [b] [] cpos => gd (noCall a && notStar b && (apos.endLine == cpos.line)) (cond (sE m "append") ((r.e cc a).bind fun f => (r.e cc b).map fun g => eAppend f g) (cond (sE m "extend") ((r.e cc a).bind fun f => cExt r cc f b) (cond (sE m "join") (cJoin r cc a b) (gd (sE m "partition") ((r.e cc a).bind fun f => (r.e cc b).map fun g => ePart f g)))))
    | .JoinedStr (v1 :: v2 :: rest) _ => (cFps r cc (v1 :: v2 :: rest)).map eFst
    | .Call fe [] (kw :: kws) _ => gd (noAttr fe) ((kwsOf (kw :: kws)).bind fun nes => (r.e cc fe).bind fun f => (cKws r cc (kw :: kws)).bind fun g => gd (Nat.beq g.1 nes.1.length) (some (eCallVK cc.fn cc.kw f nes.1 g.2)))
    | .Call fe (a :: as) [] _ => gd (noAttr fe && (a :: as).all notStar) ((r.e cc fe).bind fun f => (cEs r cc (a :: as)).map fun g => eCallV cc.fn f (a :: as).length g)
    | _ => none
theorem stepE_ok (R : RcOk r) (o : CcOk X B Wx cc) {ex : Expr} {g : E} (h : stepE r cc ex = some g) : PE X ex (tE X.K B Wx g) := by
  unfold stepE at h
  split at h
  · cases h
    exact se_lay (R.f o (by assumption))
  · split at h
    · exact cName_ok o h
    · exact cConst_ok h
    · rename_i es j p _
      cases q : es.all notStar with
      | true =>
        rw [q] at h
        obtain ⟨h1, h2⟩ := gd_ok h
        obtain ⟨f, h3, rfl⟩ := mp_ok h2
        exact se_tup (cEs_ok R o h3).1 (Nat.le_of_ble_eq_true h1)
      | false =>
        rw [q] at h
        obtain ⟨f, h1, rfl⟩ := mp_ok h
        exact se_tupX (cEsX_ok R o h1)
    · obtain ⟨q, h1, h2⟩ := bd_ok h
      obtain ⟨f, h3, h4⟩ := bd_ok h2
      obtain ⟨f', h5, rfl⟩ := mp_ok h4
      exact se_bin (cBin_ok h1) (R.e o h3) (R.e o h5)
    · obtain ⟨f, h3, rfl⟩ := mp_ok h
      exact se_notV (R.e o h3)
    · obtain ⟨f, h3, rfl⟩ := mp_ok h
      exact se_un un_negK (R.e o h3)
    · exact cAndV_ok R o h
    · exact cOrV_ok R o h
    · obtain ⟨f, h3, rfl⟩ := mp_ok h
      exact (cCmp_ok R o h3).2
    · obtain ⟨q, h1, h2⟩ := bd_ok h
      obtain ⟨f, h3, h4⟩ := bd_ok h2
      obtain ⟨f', h5, rfl⟩ := mp_ok h4
      exact se_if (R.t o h1) (R.e o h3) (R.e o h5)
    · exact cSub_ok R o h
    · exact cCall_ok R o h
    · exact cKwc_ok R o h
    · obtain ⟨h1, h2⟩ := gd_ok h
      obtain ⟨h1, c2⟩ := an_ok h1
      obtain ⟨c4, c3⟩ := an_ok h1
      rename_i a m apos b cpos _ _
      cases c1 : sE m "append" with
      | true =>
        rw [c1] at h2
        have e1 := sE_ok c1
        subst e1
        obtain ⟨f, h3, h4⟩ := bd_ok h2
        obtain ⟨f', h5, rfl⟩ := mp_ok h4
        exact se_append (noCall_ok c4 _ _) c2 (R.e o h3) (R.e o h5) c3
      | false =>
        rw [c1] at h2
        cases c1 : sE m "extend" with
        | true =>
          rw [c1] at h2
          have e1 := sE_ok c1
          subst e1
          obtain ⟨f, h3, h4⟩ := bd_ok (show ((r.e cc a).bind fun f => cExt r cc f b) = some g from h2)
          unfold cExt at h4
          split at h4
          · cases h4
            exact se_extend (noCall_ok c4 _ _) c2 (R.e o h3) (R.f o (by assumption)) c3
          · obtain ⟨f', h5, rfl⟩ := mp_ok h4
            exact se_extendV (noCall_ok c4 _ _) c2 (R.e o h3) (R.e o h5) c3
        | false =>
          rw [c1] at h2
          cases c1 : sE m "join" with
          | true =>
            rw [c1] at h2
            have e1 := sE_ok c1
            subst e1
            obtain ⟨f, h3, h4⟩ := bd_ok (show cJoin r cc a b = some g from h2)
            split at h4
            · cases h4
              exact se_join (noCall_ok c4 _ _) c2 (R.e o h3) (R.f o (by assumption)) c3
            · obtain ⟨f', h5, rfl⟩ := mp_ok h4
              exact se_joinV (noCall_ok c4 _ _) c2 (R.e o h3) (R.e o h5) c3
          | false =>
            rw [c1] at h2
            obtain ⟨c1, h2⟩ := gd_ok (show gd (sE m "partition") ((r.e cc a).bind fun f => (r.e cc b).map fun g => ePart f g) = some g from h2)
            have e1 := sE_ok c1
            subst e1
            obtain ⟨f, h3, h4⟩ := bd_ok h2
            obtain ⟨f', h5, rfl⟩ := mp_ok h4
            exact se_part (noCall_ok c4 _ _) c2 (R.e o h3) (R.e o h5) c3
    · obtain ⟨ps, h1, rfl⟩ := mp_ok h
      exact se_fst (cFps_ok R o h1)
    · obtain ⟨c1, h2⟩ := gd_ok h
      obtain ⟨⟨ns, es⟩, h5, h6⟩ := bd_ok h2
      obtain ⟨f, h3, h4⟩ := bd_ok h6
      obtain ⟨g', h9, h10⟩ := bd_ok h4
      obtain ⟨h11, h12⟩ := gd_ok h10
      cases h12
      exact se_callVK (T := cc.fn) (kt := cc.kw) (fun x i n sh e => o.g.fn x i n sh e) o.tk (R.e o h3) h5 (Nat.eq_of_beq_eq_true h11) (cKws_ok R o h9) c1
    · obtain ⟨h1, h2⟩ := gd_ok h
      obtain ⟨c1, c2⟩ := an_ok h1
      obtain ⟨f, h3, h4⟩ := bd_ok h2
      obtain ⟨f', h5, rfl⟩ := mp_ok h4
      exact se_callV (T := cc.fn) (kt := cc.kw) (fun x i n sh e => o.g.fn x i n sh e) o.tk (R.e o h3) (cEs_ok R o h5).1 c2 c1
    · cases h
end
/-! ### the tie -/
def rc0 : Rc := ⟨fun _ _ => none, fun _ _ => none, fun _ _ => none⟩
def rcN : Nat → Rc
  | 0 => rc0
  | n + 1 => ⟨stepE ⟨(rcN n).e, stepF (rcN n), (rcN n).t⟩, stepF (rcN n), stepT ⟨(rcN n).e, stepF (rcN n), (rcN n).t⟩⟩
theorem rc0_ok : RcOk rc0 := ⟨fun _ h => (nomatch h), fun _ h => (nomatch h), fun _ h => (nomatch h)⟩
theorem rcN_ok : ∀ n, RcOk (rcN n)
  | 0 => rc0_ok
  | n + 1 => by
    have R := rcN_ok n
    have F : ∀ {X : Cx} {B : Bag} {Wx : WX} {cc : Cc} {ex : Expr} {g : Es}, CcOk X B Wx cc → stepF (rcN n) cc ex = some g → PE X ex (tF X.K B Wx g) := fun o h => stepF_ok R o h
    have R2 : RcOk ⟨(rcN n).e, stepF (rcN n), (rcN n).t⟩ := ⟨R.e, F, R.t⟩
    exact ⟨fun o h => stepE_ok R2 o h, F, fun o h => stepT_ok R2 o h⟩
end
end It

set_option Elab.async false
set_option linter.all false
set_option maxRecDepth 100000
set_option maxHeartbeats 1000000
/-! ItT: assignments of several values at once: which stores are swapped. -/
namespace It
open PySem PySem.Spec PyProof.Rows L2
section
variable {env : Env} {x y z : Str} {px py pz pt pt2 : Pos} {kt k2 : Nat} {a b c : Expr}
theorem any_star {l : List Expr} (h : l.all notStar = true) : ∀ f : Expr → Bool, (∀ e, notStar e = true → f e = false) → l.any f = false := fun f hf => by
  rw [List.any_eq_false]
  intro e he
  rw [hf e (List.all_eq_true.mp h e he)]; exact Bool.false_ne_true
theorem sw2 (hk : env.scope.kind = .function) (hx : env.scope.names.lookup x = some .local) (hy : env.scope.names.lookup y = some .local) (hl : px.line = py.line) (hxy : x ≠ y)
    (hs : [a, b].all notStar = true) (hf : [a, b].all (foldedForSure 8) = false) (hc : [a, b].all (constantsAlone 8) = false) :
    swappedStores [.Tuple [.Name x px, .Name y py] kt pt] (.Tuple [a, b] k2 pt2) env = pure (some [x, y]) := by
  have hb : env.blockKind = .function := by unfold Env.blockKind; rw [hk]; rfl
  have kx : env.kindOf x = some .local := hx
  have ky : env.kindOf y = some .local := hy
  have hd : ([x, y] : List Str).eraseDups.length = 2 := by
    have e : (y == x) = false := by simpa using fun z => hxy z.symm
    simp [List.eraseDups_cons, e]
  have fm : ∀ f : Expr → Option Str, f (.Name x px) = some x → f (.Name y py) = some y → List.filterMap f [.Name x px, .Name y py] = [x, y] := fun f h1 h2 => by
    rw [List.filterMap_cons_some h1, List.filterMap_cons_some h2]; rfl
  unfold swappedStores
  dsimp only
  rw [hb, if_neg (by simp), if_neg (by rw [any_star hs _ (fun e h => by cases e <;> first | rfl | cases h)]; simp)]
  rw [fm _ (by simp [kx, Expr.pos]) (by simp [ky, Expr.pos, hl])]
  rw [if_neg (by rw [hd]; simp), hf, hc]
  rfl
theorem sw2f (hk : env.scope.kind = .function) (hs : [a, b].all notStar = true) (hf : [a, b].all (foldedForSure 8) = true) : ∀ ts, swappedStores [.Tuple ts kt pt] (.Tuple [a, b] k2 pt2) env = pure none := by
  intro ts
  unfold swappedStores
  dsimp only
  split
  · rfl
  · split
    · rfl
    · split
      · rfl
      · first | rfl | (rw [hf]; rfl)
theorem sw3 (hk : env.scope.kind = .function) (hx : env.scope.names.lookup x = some .local) (hy : env.scope.names.lookup y = some .local) (hz : env.scope.names.lookup z = some .local) (hl : px.line = py.line) (hl2 : px.line = pz.line) (hxy : x ≠ y) (hxz : x ≠ z) (hyz : y ≠ z)
    (hs : [a, b, c].all notStar = true) (hf : [a, b, c].all (foldedForSure 8) = false) (hc : [a, b, c].all (constantsAlone 8) = false) :
    swappedStores [.Tuple [.Name x px, .Name y py, .Name z pz] kt pt] (.Tuple [a, b, c] k2 pt2) env = pure (some [x, y, z]) := by
  have hb : env.blockKind = .function := by unfold Env.blockKind; rw [hk]; rfl
  have kx : env.kindOf x = some .local := hx
  have ky : env.kindOf y = some .local := hy
  have kz : env.kindOf z = some .local := hz
  have hd : ([x, y, z] : List Str).eraseDups.length = 3 := by
    have e : (y == x) = false := by simpa using fun z => hxy z.symm
    have e2 : (z == x) = false := by simpa using fun q => hxz q.symm
    have e3 : (z == y) = false := by simpa using fun q => hyz q.symm
    simp [List.eraseDups_cons, e, e2, e3]
  have fm : ∀ f : Expr → Option Str, f (.Name x px) = some x → f (.Name y py) = some y → f (.Name z pz) = some z → List.filterMap f [.Name x px, .Name y py, .Name z pz] = [x, y, z] := fun f h1 h2 h3 => by
    rw [List.filterMap_cons_some h1, List.filterMap_cons_some h2, List.filterMap_cons_some h3]; rfl
  unfold swappedStores
  dsimp only
  rw [hb, if_neg (by simp), if_neg (by rw [any_star hs _ (fun e h => by cases e <;> first | rfl | cases h)]; simp)]
  rw [fm _ (by simp [kx, Expr.pos]) (by simp [ky, Expr.pos, hl]) (by simp [kz, Expr.pos, hl2])]
  rw [if_neg (by rw [hd]; simp), hf, hc]
  rfl
theorem sw3f (hk : env.scope.kind = .function) (hf : [a, b, c].all (foldedForSure 8) = true) : ∀ ts, swappedStores [.Tuple ts kt pt] (.Tuple [a, b, c] k2 pt2) env = pure none := by
  intro ts
  unfold swappedStores
  dsimp only
  split
  · rfl
  · split
    · rfl
    · split
      · rfl
      · first | rfl | (rw [hf]; rfl)
/-- not all the targets are names -/
def isNm : Expr → Bool
  | .Name .. => true
  | _ => false
theorem swNo {ts vs : List Expr} (h : ts.any (fun e => !isNm e) = true) : swappedStores [.Tuple ts kt pt] (.Tuple vs k2 pt2) env = pure none := by
  have fl : ∀ (f : Expr → Option Str), (∀ e, isNm e = false → f e = none) → ∀ l : List Expr, l.any (fun e => !isNm e) = true → (l.filterMap f).length < l.length := by
    intro f hf l
    induction l with
    | nil => intro h; cases h
    | cons e l ih =>
      intro h
      cases he : isNm e with
      | false =>
        rw [List.filterMap_cons_none (hf e he)]
        exact Nat.lt_succ_of_le (List.length_filterMap_le f l)
      | true =>
        rw [List.any_cons, he] at h
        have := ih (by simpa using h)
        cases hx : f e with
        | none => rw [List.filterMap_cons_none hx]; exact Nat.lt_succ_of_lt this
        | some u => rw [List.filterMap_cons_some hx]; exact Nat.succ_lt_succ this
  unfold swappedStores
  dsimp only
  split
  · rfl
  · split
    · rfl
    · rw [if_pos]
      simp only [Bool.or_eq_true, bne_iff_ne, ne_eq]
      refine .inl (Nat.ne_of_lt (fl _ (fun e he => ?_) ts h))
      cases e <;> first | rfl | cases he
theorem swLen {ts vs : List Expr} (h : (!(ts.length == 2 || ts.length == 3) || vs.length != ts.length) = true) : swappedStores [.Tuple ts kt pt] (.Tuple vs k2 pt2) env = pure none := by
  unfold swappedStores
  dsimp only
  rw [if_pos (by rw [h]; rfl)]
def isTu : Expr → Bool
  | .Tuple .. => true
  | .List .. => true
  | _ => false
theorem swTg {t v : Expr} (h : isTu t = false) : swappedStores [t] v env = pure none := by
  cases t <;> first | rfl | cases h
def isTu1 : Expr → Bool
  | .Tuple .. => true
  | _ => false
theorem swVal {t v : Expr} (h : isTu1 v = false) : swappedStores [t] v env = pure none := by
  cases v <;> first | (cases t <;> rfl) | cases h
def noComp : Expr → Bool
  | .ListComp .. => false
  | .SetComp .. => false
  | .DictComp .. => false
  | _ => true
theorem sws {t v : Expr} {l : Nat} (h : noComp v = true) : swapsWith v (some t) l env = pure false := by
  cases v <;> first | rfl | cases h
theorem swsN {v : Expr} {l : Nat} (h : noComp v = true) : swapsWith v none l env = pure false := by
  cases v <;> first | rfl | cases h
theorem swsT {t v : Expr} {l : Nat} (h : isNm t = false) : swapsWith v (some t) l env = pure false := by
  cases v <;> first | rfl | (cases t <;> first | rfl | cases h)
theorem swCel {ts vs : List Expr} (f : Expr → Bool) (hf : ∀ e, f e = true → ∃ x p, e = .Name x p ∧ env.scope.names.lookup x = some .cell) (h : ts.any f = true) : swappedStores [.Tuple ts kt pt] (.Tuple vs k2 pt2) env = pure none := by
  have fl : ∀ (g : Expr → Option Str), (∀ e, f e = true → g e = none) → ∀ l : List Expr, l.any f = true → (l.filterMap g).length < l.length := by
    intro g hg l
    induction l with
    | nil => intro h; cases h
    | cons e l ih =>
      intro h
      cases he : f e with
      | true =>
        rw [List.filterMap_cons_none (hg e he)]
        exact Nat.lt_succ_of_le (List.length_filterMap_le g l)
      | false =>
        rw [List.any_cons, he] at h
        have := ih (by simpa using h)
        cases hx : g e with
        | none => rw [List.filterMap_cons_none hx]; exact Nat.lt_succ_of_lt this
        | some u => rw [List.filterMap_cons_some hx]; exact Nat.succ_lt_succ this
  unfold swappedStores
  dsimp only
  split
  · rfl
  · split
    · rfl
    · rw [if_pos]
      simp only [Bool.or_eq_true, bne_iff_ne, ne_eq]
      refine .inl (Nat.ne_of_lt (fl _ (fun e he => ?_) ts h))
      obtain ⟨x, p, rfl, hx⟩ := hf e he
      have kx : env.kindOf x = some .cell := hx
      dsimp only
      rw [kx]
      exact if_neg (by simp)
theorem swsC {v : Expr} {l : Nat} (h : env.scope.names.lookup x = some .cell) : swapsWith v (some (.Name x px)) l env = pure false := by
  have kx : env.kindOf x = some .cell := h
  have e : (env.kindOf x == some .local) = false := by rw [kx]; rfl
  cases v <;> first | rfl | (show (pure (env.blockKind == .function && env.kindOf x == some .local && _ && _) : Sem Bool) = _; rw [e]; simp)
end
end It

set_option Elab.async false
set_option linter.all false
set_option maxRecDepth 100000
set_option maxHeartbeats 1000000
/-! ItU: from the text to the combinators: statements. -/
namespace It
open PySem PySem.Spec PyProof.Rows L2
noncomputable section
/-- isinstance of own errors: what a built-in class says of the i-th -/
structure Sc where
  kit : Str → Option (Nat → Bool)
structure CsOk (X : Cx) (B : Bag) (Wx : WX) (cc : Cc) (sc : Sc) : Prop where
  c : CcOk X B Wx cc
  po : PassesOwn (model X.prog X.w) X.A X.env X.xe
  st : X.stack = X.env :: X.outer
  fr : X.env.frame = some X.env.locals
  kit : ∀ z f, sc.kit z = some f → ∃ T, bootBuiltins z = some (.type T) ∧ z ≠ "__name__" ∧ (z == ("__debug__" : Str)) = false ∧ ∀ i, B.ex i ∨ B.on i → PySem.W.kitOne X.K (.ref (B.ca i)) (.type T) = some (f i)
  exc : ∀ i, B.ex i ∨ B.on i → ExcC X.K (B.ca i)
  num : ∀ i, B.on i → B.cf i = ("number" : Str) ∧ ∃ fI, PySem.NumX.NumC X.K (B.ca i) fI
  exm : ∀ i j, B.ex i ∨ B.on i → B.ex j ∨ B.on j → PySem.W.exmOne X.K (.ref (B.ca i)) (.ref (B.ca j)) = some (Nat.beq i j)
section
variable {r : Rc} {X : Cx} {B : Bag} {Wx : WX} {cc : Cc} {sc : Sc} {x : Str} {pos p : Pos}
def locN (cc : Cc) (x : Str) : Bool := match kindC cc x with
  | some .local => true
  | _ => false
theorem locN_ok (o : CcOk X B Wx cc) (h : locN cc x = true) : X.env.scope.names.lookup x = some .local := by
  unfold locN at h
  rw [kindC_eq, ← o.sc] at h
  split at h
  · assumption
  · cases h
def ixL (cc : Cc) (x : Str) : Option Nat := gd (locN cc x) (ixS cc.N x)
theorem ixL_ok (o : CcOk X B Wx cc) {i : Nat} (h : ixL cc x = some i) : X.N[i]? = some x ∧ X.env.scope.names.lookup x = some .local := by
  obtain ⟨h1, h2⟩ := gd_ok h
  exact ⟨by rw [o.N]; exact ixS_ok h2, locN_ok o h1⟩
/-! ### assignments -/
def cPar (r : Rc) (cc : Cc) (ts vs : List Expr) : Option S := match ts, vs with
  | [.Name x px, .Name y py], [a, b] => gd ((px.line == py.line) && !decide (x = y) && [a, b].all notStar && ![a, b].all (foldedForSure 8) && ![a, b].all (constantsAlone 8)) ((ixL cc x).bind fun i => (ixL cc y).bind fun j => gd (!Nat.beq i j) ((cEs r cc [a, b]).map fun f => sPar f (It.gCons (It.gName i) (It.gCons (It.gName j) It.gNil))))
  | [.Name x px, .Name y py, .Name z pz], [a, b, c] => gd ((px.line == py.line) && (px.line == pz.line) && !decide (x = y) && !decide (x = z) && !decide (y = z) && [a, b, c].all notStar && ![a, b, c].all (foldedForSure 8) && ![a, b, c].all (constantsAlone 8)) ((ixL cc x).bind fun i => (ixL cc y).bind fun j => (ixL cc z).bind fun k => gd (!Nat.beq i j && !Nat.beq i k && !Nat.beq j k) ((cEs r cc [a, b, c]).map fun f => sPar f (It.gCons (It.gName i) (It.gCons (It.gName j) (It.gCons (It.gName k) It.gNil)))))
  | _, _ => none
theorem nt {b : Bool} (h : (!b) = true) : b = false := by cases b <;> first | rfl | cases h
theorem nbeq {i j : Nat} (h : (!Nat.beq i j) = true) : i ≠ j := fun e => by
  subst e
  have z : Nat.beq i i = true := Nat.beq_refl i
  rw [z] at h; cases h
theorem cPar_ok (R : RcOk r) (o : CcOk X B Wx cc) {ts vs : List Expr} {kt k2 : Nat} {pt pt2 : Pos} {s : S} (h : cPar r cc ts vs = some s) : PS X (.Assign [.Tuple ts kt pt] (.Tuple vs k2 pt2) pos) (tS X.K B Wx s) := by
  unfold cPar at h
  split at h
  · obtain ⟨h1, h2⟩ := gd_ok h
    obtain ⟨h1, c1⟩ := an_ok h1
    obtain ⟨h1, c2⟩ := an_ok h1
    obtain ⟨h1, c3⟩ := an_ok h1
    obtain ⟨c5, c4⟩ := an_ok h1
    obtain ⟨i, h3, h4⟩ := bd_ok h2
    obtain ⟨j, h5, h6⟩ := bd_ok h4
    obtain ⟨h7, h8⟩ := gd_ok h6
    obtain ⟨f, h9, rfl⟩ := mp_ok h8
    obtain ⟨i1, i2⟩ := ixL_ok o h3
    obtain ⟨j1, j2⟩ := ixL_ok o h5
    exact ss_par o.calm o.nd i1 j1 (nbeq h7) i2 j2 (cEs_ok R o h9).1 (sw2 o.kind i2 j2 (eq_of_beq c5) (of_decide_eq_false (nt c4)) c3 (nt c2) (nt c1)) rfl
  · obtain ⟨h1, h2⟩ := gd_ok h
    obtain ⟨h1, c1⟩ := an_ok h1
    obtain ⟨h1, c2⟩ := an_ok h1
    obtain ⟨h1, c3⟩ := an_ok h1
    obtain ⟨h1, c4⟩ := an_ok h1
    obtain ⟨h1, c5⟩ := an_ok h1
    obtain ⟨h1, c6⟩ := an_ok h1
    obtain ⟨c8, c7⟩ := an_ok h1
    obtain ⟨i, h3, h4⟩ := bd_ok h2
    obtain ⟨j, h5, h6⟩ := bd_ok h4
    obtain ⟨k, h7, h8⟩ := bd_ok h6
    obtain ⟨h9, h10⟩ := gd_ok h8
    obtain ⟨h9, d1⟩ := an_ok h9
    obtain ⟨d3, d2⟩ := an_ok h9
    obtain ⟨f, h11, rfl⟩ := mp_ok h10
    obtain ⟨i1, i2⟩ := ixL_ok o h3
    obtain ⟨j1, j2⟩ := ixL_ok o h5
    obtain ⟨k1, k2⟩ := ixL_ok o h7
    exact ss_par3 o.calm o.nd i1 j1 k1 (nbeq d3) (nbeq d2) (nbeq d1) i2 j2 k2 (cEs_ok R o h11).1 (sw3 o.kind i2 j2 k2 (eq_of_beq c8) (eq_of_beq c7) (of_decide_eq_false (nt c6)) (of_decide_eq_false (nt c5)) (of_decide_eq_false (nt c4)) c3 (nt c2) (nt c1)) rfl
  · cases h
/-- an assignment whose stores are in order -/
def plainAs (t v : Expr) : Bool := (!isTu t || !isTu1 v || (match t, v with
  | .Tuple ts _ _, .Tuple vs _ _ => ts.any (fun e => !isNm e) || (!(ts.length == 2 || ts.length == 3) || vs.length != ts.length) || ((match vs with
    | [a, b] => [a, b].all notStar && [a, b].all (foldedForSure 8)
    | [a, b, c] => [a, b, c].all (foldedForSure 8)
    | _ => false))
  | _, _ => false)) && (noComp v || !isNm t)
theorem plainAs_ok {env : Env} {t v : Expr} (hk : env.scope.kind = .function) (h : plainAs t v = true) : swappedStores [t] v env = pure none ∧ ∀ l, swapsWith v (some t) l env = pure false := by
  obtain ⟨h1, h2⟩ := an_ok h
  refine ⟨?_, fun l => ?_⟩
  · rw [Bool.or_eq_true, Bool.or_eq_true] at h1
    rcases h1 with (h1 | h1) | h1
    · exact swTg (by simpa using h1)
    · exact swVal (by simpa using h1)
    · split at h1
      · rw [Bool.or_eq_true, Bool.or_eq_true] at h1
        rcases h1 with (h1 | h1) | h1
        · exact swNo h1
        · exact swLen h1
        · split at h1
          · obtain ⟨a1, a2⟩ := an_ok h1
            exact sw2f hk a1 a2 _
          · exact sw3f hk h1 _
          · cases h1
      · cases h1
  · rw [Bool.or_eq_true] at h2
    rcases h2 with h2 | h2
    · exact sws h2
    · exact swsT (by simpa using h2)
def celNm (cc : Cc) : Expr → Bool
  | .Name x _ => match kindC cc x with
    | some .cell => true
    | _ => false
  | _ => false
theorem celNm_ok (o : CcOk X B Wx cc) {e : Expr} (h : celNm cc e = true) : ∃ x p, e = .Name x p ∧ X.env.scope.names.lookup x = some .cell := by
  unfold celNm at h
  split at h
  · rename_i x p
    rw [kindC_eq, ← o.sc] at h
    split at h
    · exact ⟨x, p, rfl, by assumption⟩
    · cases h
  · cases h
def celTs (cc : Cc) (t v : Expr) : Bool := match t, v with
  | .Tuple ts _ _, .Tuple vs _ _ => ts.any (celNm cc)
  | _, _ => false
def plainC (cc : Cc) (t v : Expr) : Bool := plainAs t v || (celTs cc t v || celNm cc t)
theorem plainC_ok (o : CcOk X B Wx cc) {t v : Expr} (h : plainC cc t v = true) : swappedStores [t] v X.env = pure none ∧ ∀ l, swapsWith v (some t) l X.env = pure false := by
  unfold plainC at h
  rw [Bool.or_eq_true, Bool.or_eq_true] at h
  rcases h with h | h | h
  · exact plainAs_ok o.kind h
  · unfold celTs at h
    split at h
    · exact ⟨swCel _ (fun e he => celNm_ok o he) h, fun l => sws rfl⟩
    · cases h
  · obtain ⟨x, p, rfl, hx⟩ := celNm_ok o h
    exact ⟨swTg rfl, fun l => swsC hx⟩
def cAs (r : Rc) (cc : Cc) (t v : Expr) : Option S := match t, v with
  | .Name y py, .ListComp elt [⟨tg, iter, ifs, 0⟩] scope pos => cond (locN cc y && (py.line == pos.line) && !(scope.names.any fun (n, k) => n == y && (k == .local || k == .cell)))
      ((ixS cc.N y).bind fun i => (cLc r cc elt tg iter ifs scope).map fun q => sAsg (eLay (sLc ((ownC cc scope).map (·.2)) q.1 q.2.1 q.2.2.1 q.2.2.2)) (It.gName i)) (gd (plainC cc t v && notStar t) ((r.e cc v).bind fun f => (cG r cc none 5 t).map fun g => sAsg f g))
  | .Name y py, .ListComp elt [⟨tg, iter, ifs, 0⟩, ⟨tg1, iter1, ifs1, 0⟩] scope pos => cond (locN cc y && (py.line == pos.line) && !(scope.names.any fun (n, k) => n == y && (k == .local || k == .cell)))
      ((ixS cc.N y).bind fun i => (cLc2 r cc elt tg iter ifs tg1 iter1 ifs1 scope).map fun q => sAsg (eLay q) (It.gName i)) (gd (plainC cc t v && notStar t) ((r.e cc v).bind fun f => (cG r cc none 5 t).map fun g => sAsg f g))
  | .Tuple ts _ _, .Tuple vs _ _ => match cPar r cc ts vs with
    | some s => some s
    | none => gd (plainC cc t v && notStar t) ((r.e cc v).bind fun f => (cG r cc none 5 t).map fun g => sAsg f g)
  | _, _ => gd (plainC cc t v && notStar t) ((r.e cc v).bind fun f => (cG r cc none 5 t).map fun g => sAsg f g)
theorem asg_ok (R : RcOk r) (o : CcOk X B Wx cc) {t v : Expr} {s : S} (h : gd (plainC cc t v && notStar t) ((r.e cc v).bind fun f => (cG r cc none 5 t).map fun g => sAsg f g) = some s) : PS X (.Assign [t] v pos) (tS X.K B Wx s) := by
  obtain ⟨h1, h2⟩ := gd_ok h
  obtain ⟨h1, h0⟩ := an_ok h1
  obtain ⟨f, h3, h4⟩ := bd_ok h2
  obtain ⟨g, h5, rfl⟩ := mp_ok h4
  obtain ⟨a1, a2⟩ := plainC_ok o h1
  exact ss_asg (R.e o h3) (cG_ok R o h5) (a2 _) a1 (by rw [ae_cons h0]; rfl)
theorem cAs_ok (R : RcOk r) (o : CcOk X B Wx cc) {t v : Expr} {s : S} (h : cAs r cc t v = some s) : PS X (.Assign [t] v pos) (tS X.K B Wx s) := by
  unfold cAs at h
  split at h
  · rename_i y py elt tg iter ifs scope pos'
    rcases (by cases hb : (locN cc y && (py.line == pos'.line) && !(scope.names.any fun (n, k) => n == y && (k == .local || k == .cell))) with
      | true => exact .inl rfl
      | false => exact .inr rfl : (locN cc y && (py.line == pos'.line) && !(scope.names.any fun (n, k) => n == y && (k == .local || k == .cell))) = true ∨ (locN cc y && (py.line == pos'.line) && !(scope.names.any fun (n, k) => n == y && (k == .local || k == .cell))) = false) with hb | hb
    · rw [hb] at h
      obtain ⟨hb, c1⟩ := an_ok hb
      obtain ⟨c3, c2⟩ := an_ok hb
      obtain ⟨i, h1, h2⟩ := bd_ok (show ((ixS cc.N y).bind fun i => (cLc r cc elt tg iter ifs scope).map fun q => sAsg (eLay (sLc ((ownC cc scope).map (·.2)) q.1 q.2.1 q.2.2.1 q.2.2.2)) (It.gName i)) = some s from h)
      obtain ⟨q, h3, rfl⟩ := mp_ok h2
      obtain ⟨a1, a2, a3, a4, a5, a6⟩ := cLc_ok R o h3
      have hl := locN_ok o c3
      exact ss_setLc o.calm o.nd (by rw [o.N]; exact ixS_ok h1) hl (sw_true o.kind hl c2 (by simpa using c1)) a1 a2 a3 a4 a5 a6
    · rw [hb] at h; exact asg_ok R o h
  · rename_i y py elt tg iter ifs tg1 iter1 ifs1 scope pos'
    rcases (by cases hb : (locN cc y && (py.line == pos'.line) && !(scope.names.any fun (n, k) => n == y && (k == .local || k == .cell))) with
      | true => exact .inl rfl
      | false => exact .inr rfl : (locN cc y && (py.line == pos'.line) && !(scope.names.any fun (n, k) => n == y && (k == .local || k == .cell))) = true ∨ (locN cc y && (py.line == pos'.line) && !(scope.names.any fun (n, k) => n == y && (k == .local || k == .cell))) = false) with hb | hb
    · rw [hb] at h
      obtain ⟨hb, c1⟩ := an_ok hb
      obtain ⟨c3, c2⟩ := an_ok hb
      obtain ⟨i, h1, h2⟩ := bd_ok (show ((ixS cc.N y).bind fun i => (cLc2 r cc elt tg iter ifs tg1 iter1 ifs1 scope).map fun q => sAsg (eLay q) (It.gName i)) = some s from h)
      obtain ⟨q, h3, rfl⟩ := mp_ok h2
      obtain ⟨i', g', t', i1, g1, t1, e', rfl, a1, a2, a3, a4, a5, a6, a7, a8, a9, a10⟩ := cLc2_ok R o h3
      have hl := locN_ok o c3
      exact ss_setLc2 o.calm o.nd (by rw [o.N]; exact ixS_ok h1) hl (sw_true o.kind hl c2 (by simpa using c1)) a1 a2 vsC_ok a3 a4 a5 a6 a7 a8 a9 a10
    · rw [hb] at h; exact asg_ok R o h
  · split at h
    · rename_i hp
      cases h
      exact cPar_ok R o hp
    · exact asg_ok R o h
  · exact asg_ok R o h
end
end
end It

set_option Elab.async false
set_option linter.all false
set_option maxRecDepth 100000
set_option maxHeartbeats 1000000
/-! ItV: from the text to the combinators: suites, statements. -/
namespace It
open PySem PySem.Spec PyProof.Rows L2
noncomputable section
def cIop : Operator → Option (W → W → IH → KE → Bool)
  | .Add => some (intsK iaddK)
  | .Sub => some (intsK isubK)
  | .Mult => some (intsK imulK)
  | .FloorDiv => some (intsK fdivK)
  | _ => none
theorem cIop_ok {X : Cx} {op : Operator} {g : W → W → IH → KE → Bool} (h : cIop op = some g) : OpR X (inplaceOp op) (r2 X.K g) := by
  cases op with
  | Add => cases h; exact iop_intsK (C := fun _ _ => True) (g := fun i j => i + j) (opI iop_add fun x y H Q ⟨i, j, a, b, _, q⟩ => ⟨i, j, a, b, q⟩) fun i j c e => ⟨trivial, e⟩
  | Sub => cases h; exact iop_intsK (C := fun _ _ => True) (g := fun i j => i - j) (opI iop_sub fun x y H Q ⟨i, j, a, b, _, q⟩ => ⟨i, j, a, b, q⟩) fun i j c e => ⟨trivial, e⟩
  | Mult =>
    cases h
    refine iop_intsK (C := CMul) (g := fun i j => i * j) iop_mul fun i j c e => ?_
    obtain ⟨e1, e2⟩ := cond_f (show cond (mulOk i j) (c (.int (Int.mul i j))) false = true from e)
    exact ⟨mulOk_ok e1, e2⟩
  | FloorDiv => cases h; exact iop_intsK (C := CDivG) (g := fun i j => i.fdiv j) (L2.opI fun _ _ _ _ _ _ _ hc q => ifloordiv_int hc.1 q (.inl (PyProof.noPylong_of_log2 hc.2))) fdivK_ok
  | _ => cases h
/-! ### except suites -/
def cSuN : List Stmt → Option S
  | [.Return (some (.Constant c _ _)) _] => (cConst c).map sRet
  | [.Return none _] => some sRetN
  | [.Pass _] => some sNil
  | [.Continue _] => some sCnt
  | _ => none
theorem cSuN_ok {X : Cx} {B : Bag} {l : List Stmt} {s : S} (h : cSuN l = some s) : PSs X l (tS X.K B wNo s) := by
  unfold cSuN at h
  split at h
  · obtain ⟨f, h1, rfl⟩ := mp_ok h
    exact sss_one (ss_ret (cConst_ok h1))
  · cases h; exact sss_one ss_retN
  · cases h; exact sss_one ss_pass
  · cases h; exact sss_one ss_cnt
  · cases h
def cPart (cc : Cc) (sc : Sc) (y : Str) : Expr → Option (Nat → List W → E)
  | .Constant (.str s) _ _ => some fun _ _ => eStr s
  | .Attribute (.Name y' _) fld _ => gd (sE y' y && sE fld "number" && plainN y) (some fun _ ws => eExF ws)
  | .Call (.Name x _) [.Name y' _, .Name z _] [] _ => gd (sE x "isinstance" && sE y' y && bltB cc "isinstance" && bltB cc z && plainN y) ((sc.kit z).map fun f => fun i _ => eIsE f i)
  | _ => none
def cParts (cc : Cc) (sc : Sc) (y : Str) : List Expr → Option (Nat → List W → Es)
  | [] => some fun _ _ => asNil
  | e :: es => gd (notStar e) ((cPart cc sc y e).bind fun f => (cParts cc sc y es).map fun g => fun i ws => asCons (f i ws) (g i ws))
def cSuA (cc : Cc) (sc : Sc) (y : Str) : List Stmt → Option (Nat → List W → S)
  | [.Assign [.Name v _] (.List es _) _] => gd (locB cc v && Nat.ble es.length line) ((ixS cc.N v).bind fun j => (cParts cc sc y es).map fun g => fun i ws => sAsg (eLay (g i ws)) (It.gName j))
  | [.Return (some (.List es _)) _] => gd (Nat.ble es.length line) ((cParts cc sc y es).map fun g => fun i ws => sRet (eLay (g i ws)))
  | [.Expr (.Call (.Attribute (.Name v _) m apos) [b] [] cpos) _] => gd (sE m "append" && (visB cc v && (plainN v && (notStar b && (apos.endLine == cpos.line))))) ((ixS cc.N v).bind fun j => (cPart cc sc y b).map fun f => fun i ws => sDrop (eAppend (eVar j) (f i ws)))
  | _ => none
section
variable {r : Rc} {X : Cx} {B : Bag} {Wx : WX} {cc : Cc} {sc : Sc} {x y : Str} {pos p : Pos} {n : Nat} {a : Addr} {oe : Obj} {cls : Value} {d : Option Addr} {pn : List (Addr × Obj)}
theorem cPart_ok (o : CsOk X B Wx cc sc) (hz : Zc cls d oe) (hf : ∃ vs, oe.data = .fields vs) (hn : X.N[n]? = some y) (hv : X.env.scope.names.lookup y = some .local) {e : Expr} {f : Nat → List W → E} (h : cPart cc sc y e = some f) :
    PE (X.suite a ((a, oe) :: pn)) e (tU X.K B n a cls d f) := by
  unfold cPart at h
  split at h
  · cases h; exact su_lift (X := X.suite a ((a, oe) :: pn)) se_str
  · obtain ⟨h1, h2⟩ := gd_ok h
    obtain ⟨h1, c1⟩ := an_ok h1
    obtain ⟨c3, c2⟩ := an_ok h1
    have e1 := sE_ok c3
    have e2 := sE_ok c2
    subst e1 e2
    cases h2
    obtain ⟨d1, d2⟩ := plain_ok c1
    exact su_num hz hf o.num hn (.inl hv) d1 d2
  · obtain ⟨h1, h2⟩ := gd_ok h
    obtain ⟨h1, c1⟩ := an_ok h1
    obtain ⟨h1, c2⟩ := an_ok h1
    obtain ⟨h1, c3⟩ := an_ok h1
    obtain ⟨c5, c4⟩ := an_ok h1
    obtain ⟨g, h3, rfl⟩ := mp_ok h2
    have e1 := sE_ok c5
    have e2 := sE_ok c4
    subst e1 e2
    obtain ⟨g1, g2⟩ := blt_okC o.c c3
    obtain ⟨g3, g4⟩ := blt_okC o.c c2
    obtain ⟨d1, d2⟩ := plain_ok c1
    obtain ⟨T, k1, k2, k3, k4⟩ := o.kit _ _ h3
    exact su_isG hz hf hn (.inl hv) d1 d2 g1 g2 g3 g4 k1 k2 k3 o.exc k4
  · cases h
theorem cParts_ok (o : CsOk X B Wx cc sc) (hz : Zc cls d oe) (hf : ∃ vs, oe.data = .fields vs) (hn : X.N[n]? = some y) (hv : X.env.scope.names.lookup y = some .local) : ∀ {es : List Expr} {g : Nat → List W → Es}, cParts cc sc y es = some g →
    PA (X.suite a ((a, oe) :: pn)) es (tUA X.K B n a cls d es.length g)
  | [], g, h => by cases h; exact sua_nil (X := X.suite a ((a, oe) :: pn))
  | e :: es, g, h => by
    obtain ⟨h1, h2⟩ := gd_ok h
    obtain ⟨f, h3, h4⟩ := bd_ok h2
    obtain ⟨q, h5, rfl⟩ := mp_ok h4
    exact sua_cons (X := X.suite a ((a, oe) :: pn)) (cPart_ok o hz hf hn hv h3) (cParts_ok o hz hf hn hv h5) h1
theorem cSuA_ok (o : CsOk X B Wx cc sc) (hz : Zc cls d oe) (hf : ∃ vs, oe.data = .fields vs) (hn : X.N[n]? = some y) (hv : X.env.scope.names.lookup y = some .local) {l : List Stmt} {s : Nat → List W → S} (h : cSuA cc sc y l = some s) :
    PSs (X.suite a ((a, oe) :: pn)) l (tUS X.K B n a cls d s) := by
  unfold cSuA at h
  split at h
  · obtain ⟨h1, h2⟩ := gd_ok h
    obtain ⟨h1, h0⟩ := an_ok h1
    obtain ⟨j, h3, h4⟩ := bd_ok h2
    obtain ⟨g, h5, rfl⟩ := mp_ok h4
    obtain ⟨l1, l2⟩ := locB_ok o.c h1
    exact pss_one (su_asg (X := X.suite a ((a, oe) :: pn)) o.c.nd (by show X.N[j]? = _; rw [o.c.N]; exact ixS_ok h3) l1 l2 (su_lay (X := X.suite a ((a, oe) :: pn)) (suf_lst (X := X.suite a ((a, oe) :: pn)) (cParts_ok o hz hf hn hv h5) (Nat.le_of_ble_eq_true h0))) rfl)
  · obtain ⟨h1, h2⟩ := gd_ok h
    obtain ⟨g, h5, rfl⟩ := mp_ok h2
    exact pss_one (su_ret (X := X.suite a ((a, oe) :: pn)) (su_lay (X := X.suite a ((a, oe) :: pn)) (suf_lst (X := X.suite a ((a, oe) :: pn)) (cParts_ok o hz hf hn hv h5) (Nat.le_of_ble_eq_true h1))))
  · obtain ⟨h1, h2⟩ := gd_ok h
    obtain ⟨c1, h1⟩ := an_ok h1
    obtain ⟨c2, h1⟩ := an_ok h1
    obtain ⟨c3, h1⟩ := an_ok h1
    obtain ⟨c4, c5⟩ := an_ok h1
    obtain ⟨j, h3, h4⟩ := bd_ok h2
    obtain ⟨f, h5, rfl⟩ := mp_ok h4
    have e1 := sE_ok c1
    subst e1
    obtain ⟨d1, d2⟩ := plain_ok c3
    exact pss_one (su_drop (X := X.suite a ((a, oe) :: pn)) (su_append (X := X.suite a ((a, oe) :: pn)) c5 (se_var (X := X.suite a ((a, oe) :: pn)) (pe_var (X := X.suite a ((a, oe) :: pn)) (by show X.N[j]? = _; rw [o.c.N]; exact ixS_ok h3) (show Vis X.env.scope _ from vis_ok o.c c2) d1 d2)) (cPart_ok o hz hf hn hv h5) c4))
  · cases h
def cEx (cc : Cc) (x : Str) : Option Nat := match cc.ex x with
  | some j => some j
  | none => cc.on x
theorem cEx_ok (o : CsOk X B Wx cc sc) {j : Nat} (h : cEx cc x = some j) : (B.ex j ∨ B.on j) ∧ X.mg x = some (.ref (B.ca j)) := by
  unfold cEx at h
  split at h
  · rename_i e
    cases h
    have E := o.c.g.ex _ _ e
    exact ⟨.inl E.ex, E.mg⟩
  · have E := o.c.g.on _ _ h
    exact ⟨.inr E.on, E.mg⟩
def cHs (cc : Cc) (sc : Sc) : List ExceptHandler → Option Hs
  | [] => some hNil
  | .ExceptHandler (some (.Name x _)) none (b₀ :: suite) _ :: rest => gd (gloB cc x && plainN x) ((cEx cc x).bind fun j => (cSuN (b₀ :: suite)).bind fun s => (cHs cc sc rest).map fun q => hCons j s q)
  | .ExceptHandler (some (.Name x _)) (some y) (b₀ :: suite) _ :: rest => gd (gloB cc x && plainN x) ((cEx cc x).bind fun j => (ixL cc y).bind fun n => (cSuA cc sc y (b₀ :: suite)).bind fun s => (cHs cc sc rest).map fun q => hConsAs j n s q)
  | _ :: _ => none
theorem exm_all (o : CsOk X B Wx cc sc) {j : Nat} (hj : B.ex j ∨ B.on j) : ∀ i, B.ex i ∨ B.on i → PySem.W.exmOne X.K (.ref (B.ca i)) (.ref (B.ca j)) = some (Nat.beq i j) := fun i hi => by
  exact o.exm i j hi hj
theorem cHs_ok (o : CsOk X B Wx cc sc) : ∀ {l : List ExceptHandler} {q : Hs}, cHs cc sc l = some q → ∃ k, HH X B l q k
  | [], q, h => by cases h; exact ⟨_, .nil⟩
  | .ExceptHandler (some (.Name x np)) none (b₀ :: suite) pos' :: rest, q, h => by
    obtain ⟨h1, h2⟩ := gd_ok (show gd (gloB cc x && plainN x) ((cEx cc x).bind fun j => (cSuN (b₀ :: suite)).bind fun s => (cHs cc sc rest).map fun q => hCons j s q) = some q from h)
    obtain ⟨c1, c2⟩ := an_ok h1
    obtain ⟨j, h3, h4⟩ := bd_ok h2
    obtain ⟨s, h5, h6⟩ := bd_ok h4
    obtain ⟨q', h7, rfl⟩ := mp_ok h6
    obtain ⟨k, hk⟩ := cHs_ok o h7
    obtain ⟨E1, E2⟩ := cEx_ok o h3
    exact ⟨_, .cons ⟨glo_ok o.c c1, (plain_ok c2).1, .inl E2⟩ (exm_all o E1) (fun a oe cls d pn _ _ => cSuN_ok (X := X.suite a ((a, oe) :: pn)) h5) hk⟩
  | .ExceptHandler (some (.Name x np)) (some y) (b₀ :: suite) pos' :: rest, q, h => by
    obtain ⟨h1, h2⟩ := gd_ok (show gd (gloB cc x && plainN x) ((cEx cc x).bind fun j => (ixL cc y).bind fun n => (cSuA cc sc y (b₀ :: suite)).bind fun s => (cHs cc sc rest).map fun q => hConsAs j n s q) = some q from h)
    obtain ⟨c1, c2⟩ := an_ok h1
    obtain ⟨j, h3, h4⟩ := bd_ok h2
    obtain ⟨n, h5, h6⟩ := bd_ok h4
    obtain ⟨s, h7, h8⟩ := bd_ok h6
    obtain ⟨q', h9, rfl⟩ := mp_ok h8
    obtain ⟨k, hk⟩ := cHs_ok o h9
    obtain ⟨l1, l2⟩ := ixL_ok o.c h5
    obtain ⟨E1, E2⟩ := cEx_ok o h3
    exact ⟨_, .consAs ⟨glo_ok o.c c1, (plain_ok c2).1, .inl E2⟩ l1 l2 (exm_all o E1) (fun a oe cls d pn hz hf => cSuA_ok o hz hf l1 l2 h7) hk⟩
  | .ExceptHandler none nm bd pos' :: rest, q, h => by cases nm <;> cases bd <;> cases h
  | .ExceptHandler (some (.Name x np)) nm [] pos' :: rest, q, h => by cases nm <;> cases h
/-! ### statements -/
def cSs (f : Stmt → S) : List Stmt → S
  | [] => sNil
  | [a] => f a
  | a :: b :: l => sSeq (f a) (cSs f (b :: l))
theorem cSs_ok {f : Stmt → S} (hf : ∀ st, PS X st (tS X.K B Wx (f st))) : ∀ l, PSs X l (tS X.K B Wx (cSs f l))
  | [] => sss_nil
  | [a] => sss_one (hf a)
  | a :: b :: l => sss_cons (hf a) (cSs_ok hf (b :: l))
def cSt (r : Rc) (cc : Cc) (sc : Sc) (f : Stmt → S) : Stmt → Option S
  | .Pass _ => some sNil
  | .Break _ => some sBrk
  | .Continue _ => some sCnt
  | .Expr (.Constant (.str _) _ _) _ => some sNil
  | .Expr e _ => gd (noComp e) ((r.e cc e).map sDrop)
  | .Return none _ => some sRetN
  | .Return (some e) _ => (r.e cc e).map sRet
  | .If c a b _ => (r.t cc c).map fun t => sIf t (cSs f a) (cSs f b)
  | .For tg it body [] _ => (cIt r cc tg it).bind fun i => (cG r cc none 5 tg).map fun g => sFor i g (cSs f body)
  | .While c body [] _ => (r.t cc c).map fun t => sWhile t (cSs f body)
  | .Assign [t] v _ => cAs r cc t v
  | .AugAssign (.Name y _) op e _ => gd (locB cc y) ((ixS cc.N y).bind fun i => (cIop op).bind fun u => (r.e cc e).map fun g => sAug i u g)
  | .Raise (some (.Call (.Name x _) [] [] _)) none _ => gd (gloB cc x && plainN x) ((cc.ex x).map fun i => sRaise i asNil)
  | .Raise (some (.Call (.Name x _) [a] [] _)) none _ => gd (gloB cc x && plainN x && notStar a) ((cc.on x).bind fun i => (cEs r cc [a]).map fun g => sRaise i g)
  | .Try body (h :: hs) [] [] _ => (cHs cc sc (h :: hs)).map fun q => It.sTry (cSs f body) q
  | _ => none
theorem cSt_ok (R : RcOk r) (o : CsOk X B Wx cc sc) {f : Stmt → S} (hf : ∀ {X : Cx} {Wx : WX}, CsOk X B Wx cc sc → ∀ st, PS X st (tS X.K B Wx (f st))) {st : Stmt} {s : S} (h : cSt r cc sc f st = some s) : PS X st (tS X.K B Wx s) := by
  unfold cSt at h
  split at h
  · cases h; exact ss_pass
  · cases h; exact ss_brk
  · cases h; exact ss_cnt
  · cases h; exact ss_doc
  · obtain ⟨h1, h2⟩ := gd_ok h
    obtain ⟨g, h3, rfl⟩ := mp_ok h2
    exact ss_drop (R.e o.c h3) (swsN h1)
  · cases h; exact ss_retN
  · obtain ⟨g, h3, rfl⟩ := mp_ok h
    exact ss_ret (R.e o.c h3)
  · obtain ⟨t, h3, rfl⟩ := mp_ok h
    exact ss_if (R.t o.c h3) (cSs_ok (hf o) _) (cSs_ok (hf o) _)
  · obtain ⟨i, h1, h2⟩ := bd_ok h
    obtain ⟨g, h3, rfl⟩ := mp_ok h2
    obtain ⟨a1, a2⟩ := cIt_ok R o.c h1
    exact ss_for o.po o.c.calm a1 (cG_ok R o.c h3) (cSs_ok (hf o) _) a2
  · obtain ⟨t, h3, rfl⟩ := mp_ok h
    exact ss_while o.po (R.t o.c h3) (cSs_ok (hf o) _)
  · exact cAs_ok R o.c h
  · obtain ⟨h1, h2⟩ := gd_ok h
    obtain ⟨i, h3, h4⟩ := bd_ok h2
    obtain ⟨u, h5, h6⟩ := bd_ok h4
    obtain ⟨g, h7, rfl⟩ := mp_ok h6
    obtain ⟨l1, l2⟩ := locB_ok o.c h1
    exact ss_aug o.c.nd (by rw [o.c.N]; exact ixS_ok h3) l1 (R.e o.c h7) (cIop_ok h5) l2
  · obtain ⟨h1, h2⟩ := gd_ok h
    obtain ⟨c1, c2⟩ := an_ok h1
    obtain ⟨i, h3, rfl⟩ := mp_ok h2
    exact ss_raise0 (o.c.g.ex _ _ h3) o.c.calm o.c.tk (glo_ok o.c c1) (plain_ok c2).1
  · obtain ⟨h1, h2⟩ := gd_ok h
    obtain ⟨h1, c3⟩ := an_ok h1
    obtain ⟨c1, c2⟩ := an_ok h1
    obtain ⟨i, h3, h4⟩ := bd_ok h2
    obtain ⟨g, h5, rfl⟩ := mp_ok h4
    exact ss_raise1 (o.c.g.on _ _ h3) o.c.calm o.c.tk o.c.g.dq (glo_ok o.c c1) (plain_ok c2).1 (cEs_ok R o.c h5).1 c3
  · obtain ⟨q, h1, rfl⟩ := mp_ok h
    obtain ⟨k, hk⟩ := cHs_ok o h1
    refine ss_try o.st o.fr o.c.nd o.c.tk (fun W pn xe tk po => ?_) hk
    have o2 : CsOk (X.tr pn xe) B W cc sc := ⟨⟨⟨fun x i n sh h => ⟨(o.c.g.fn x i n sh h).ex, (o.c.g.fn x i n sh h).ng⟩, fun x i h => let z := o.c.g.ex x i h; ⟨z.ex, z.mg, z.kp, z.r, z.f⟩, fun x i h => let z := o.c.g.on x i h; ⟨z.on, z.cf, z.mg, z.C⟩, o.c.g.gl, o.c.g.bl, fun h => ⟨(o.c.g.led h).ex⟩, o.c.g.dp, o.c.g.dq, o.c.g.un⟩, o.c.N, o.c.nd, o.c.sc, o.c.calm, tk, o.c.fnc, o.c.kind, fun h => ⟨(o.c.lam h).ex⟩⟩, po, o.st, o.fr, o.kit, o.exc, o.num, o.exm⟩
    exact cSs_ok (hf o2) _
  · cases h
def cS (r : Rc) (cc : Cc) (sc : Sc) : Nat → Stmt → S
  | 0, _ => sStuck
  | n + 1, st => (cSt r cc sc (cS r cc sc n) st).getD sStuck
theorem cS_ok (R : RcOk r) : ∀ (n : Nat) {X : Cx} {Wx : WX}, CsOk X B Wx cc sc → ∀ st, PS X st (tS X.K B Wx (cS r cc sc n st))
  | 0, _, _, _, st => ss_stuck
  | n + 1, X, Wx, o, st => by
    show PS X st (tS X.K B Wx ((cSt r cc sc (cS r cc sc n) st).getD sStuck))
    cases h : cSt r cc sc (cS r cc sc n) st with
    | none => exact ss_stuck
    | some s => exact cSt_ok R o (fun o2 st => cS_ok R n o2 st) h
end
end
end It

set_option Elab.async false
set_option linter.all false
set_option maxRecDepth 100000
set_option maxHeartbeats 1000000
/-! ItW: the defs of a text keep what the oracle says. -/
namespace It
open PySem PySem.Spec PyProof.Rows L2
noncomputable section
/-- a def of the text: its name, its statement, its names (the parameters first), its combinators -/
structure DefI where
  x : Str
  st : Stmt
  N : List Str
  ps : List Str
  d : Def
def lamB (x : Str) : Bool := lamNm.any fun p => sE p.1 x && sE p.2 "<lambda>"
def ccOf (g : Cc) (D : DefI) : Cc := { g with N := D.N, sc := defScope D.st, cel := fun _ => true, lam := lamB D.x }
def nlOf (D : DefI) : Loc := List.replicate (D.N.length - D.ps.length) none
def bodyOf (g : Cc) (sc : Sc) (D : DefI) : S := cSs (cS (rcN 40) (ccOf g D) sc 30) (defBody D.st)
abbrev Bag.at (B : Bag) (c : Orc) : Bag := { B with c := c }
structure WF (P : Program) (wd : World) (K : PySem.W.Frag) (mg : Str → Option Value) (cs : List (Addr × Addr)) (g : Cc) (sc : Sc) (B : Bag) (L : List DefI) (t : DT) : Prop where
  defs : ∀ (i : Nat) (D : DefI), L[i]? = some D → ∃ f fd, FunD K D.x D.x (defArgs D.st) (defBody D.st) (defScope D.st) [] [] f fd ∧ mg D.x = some (.ref f) ∧ f = He.ga K D.x ∧ Binds K fd D.ps [] ∧ ∀ ks idx, g.kw D.x ks = some idx → KB0 K fd D.ps ks idx
  sco : ∀ (i : Nat) (D : DefI), L[i]? = some D → FnScope D.N D.ps (defScope D.st)
  cmp : ∀ (i : Nat) (D : DefI), L[i]? = some D → D.d = ⟨D.ps.length, nlOf D, bodyOf g sc D⟩
  dt : ∀ (i : Nat) (D : DefI), L[i]? = some D → ∀ c, t.getK i c = c D.d
  few : L.length ≤ 1000
  tu : tabU K = true
  lam : ∀ (i : Nat) (D : DefI), L[i]? = some D → lamB D.x = true → He.cT K (D.x, none) ∈ cs
  fn : ∀ (x : Str) (i n : Nat) (sh : Bool), g.fn x = some (i, n, sh) → ∃ D, L[i]? = some D ∧ D.x = x ∧ D.ps.length = n
  ex : ∀ (x : Str) (i : Nat), g.ex x = some i → B.ex i ∧ mg x = some (.ref (B.ca i)) ∧ PySem.W.keepIn K (.ref (B.ca i)) = true ∧ PySem.W.subIn K (.ref (B.ca i)) (.type "BaseException") = some true ∧ PySem.W.typeIn K (.ref (B.ca i)) = some (.type "type") ∧ ∃ bmB Bn newId initId, ExcBaseFacts Bn newId initId bmB ∧ PySem.W.excIn K (B.ca i) bmB newId = true
  on : ∀ (x : Str) (i : Nat), g.on x = some i → B.on i ∧ mg x = some (.ref (B.ca i))
  gl : ∀ (x : Str) (q : W), g.gl x = some q → ∃ v u, mg x = some u ∧ RelV v u ∧ (∀ H, RV K m0 H q v) ∧ noref q = true
  bl : ∀ (x : Str), g.bl x = true → mg x = none
  kit : ∀ (z : Str) (f : Nat → Bool), sc.kit z = some f → ∃ T, bootBuiltins z = some (.type T) ∧ z ≠ "__name__" ∧ (z == ("__debug__" : Str)) = false ∧ ∀ i, B.ex i ∨ B.on i → PySem.W.kitOne K (.ref (B.ca i)) (.type T) = some (f i)
  exc : ∀ (i : Nat), B.ex i ∨ B.on i → ExcC K (B.ca i)
  num : ∀ (i : Nat), B.on i → B.cf i = ("number" : Str) ∧ ∃ fI, PySem.NumX.NumC K (B.ca i) fI
  exm : ∀ (i j : Nat), B.ex i ∨ B.on i → B.ex j ∨ B.on j → PySem.W.exmOne K (.ref (B.ca i)) (.ref (B.ca j)) = some (Nat.beq i j)
  led : g.led = true → ∃ (f : Addr) (fd : FuncData) (fp : Arguments) (fs : Scope) (w1 w2 w3 w4 w5 w6 : Pos), (∀ base k, K.In base → base.Ns mainGlobals mg → (∀ p ∈ cs, LamX.TabB base mg p.1 p.2) → FnOk P wd K mg base (L2.CX P wd) (k + 1) f fd ["place"] (spLed K fp (farB w1 w2 w3 w4 w5 w6) fs)) ∧
    mg "led_by" = some (.ref f) ∧ PySem.W.keepIn K (.ref f) = true ∧ Binds K fd ["place"] [] ∧ FarS fs ∧
    (∀ (F : NdefX.NF) (doc pm ctv : Value) (us : List Value), LedF fp (farB w1 w2 w3 w4 w5 w6) fs F → us.length = 1 → bindArgs (F.fd doc pm ctv) ⟨us, []⟩ = pure ([("row" : Str)].zip us)) ∧ mg ("abs" : Str) = none
section
variable {P : Program} {w : World} {K : PySem.W.Frag} {mg : Str → Option Value} {cs : List (Addr × Addr)} {g : Cc} {sc : Sc} {B : Bag} {L : List DefI} {t : DT} {base : Heap}
/-- a def keeps its promise, n levels deep -/
def Snd (P : Program) (w : World) (K : PySem.W.Frag) (mg : Str → Option Value) (g : Cc) (B : Bag) (t : DT) (base : Heap) (n i : Nat) (D : DefI) : Prop := ∃ f fd, FunD K D.x D.x (defArgs D.st) (defBody D.st) (defScope D.st) [] [] f fd ∧ mg D.x = some (.ref f) ∧ f = He.ga K D.x ∧ Binds K fd D.ps [] ∧ (∀ ks idx, g.kw D.x ks = some idx → KB0 K fd D.ps ks idx) ∧
  FnOk P w K mg base (L2.CX P w) (n + 1) f fd D.ps (spF K (B.at (orc t n)) i D.ps.length)
theorem locK_ok {nl : Loc} : ∀ {n : Nat} {ws : List W} {c : Loc → Bool}, locK n nl ws c = true → ws.length = n ∧ c (ws.map some ++ nl) = true
  | 0, [], c, h => ⟨rfl, h⟩
  | 0, _ :: _, c, h => by cases (show false = true from h)
  | n + 1, [], c, h => by cases (show false = true from h)
  | n + 1, w :: ws, c, h => by
    obtain ⟨h1, h2⟩ := locK_ok (n := n) (ws := ws) (c := fun l => c (some w :: l)) h
    exact ⟨congrArg Nat.succ h1, h2⟩
theorem start_rep {m : Mp} {H : Hp} {ws : List W} {vs : List V} {N : List Str} {np : Nat} (rv : RVs K m H ws vs) (hl : ws.length = np) : RepL K m H (ws.map some ++ List.replicate (N.length - np) none) (L2.start N vs) := by
  have hv := rv.length
  refine ⟨?_, fun i w e => ?_⟩
  · unfold L2.start
    rw [List.length_append, List.length_append, List.length_map, List.length_map, List.length_replicate, List.length_replicate, hv, ← hl, hv]
  · by_cases hi : i < ws.length
    · rw [List.getElem?_append_left (by rw [List.length_map]; exact hi), List.getElem?_map] at e
      cases q : ws[i]? with
      | none => rw [q] at e; cases e
      | some u =>
        rw [q] at e; cases e
        obtain ⟨v, e1, r1⟩ := rv.get q
        refine ⟨v, ?_, r1⟩
        unfold L2.start
        rw [List.getElem?_append_left (by rw [List.length_map, ← hv]; exact hi), List.getElem?_map, e1]; rfl
    · rw [List.getElem?_append_right (by rw [List.length_map]; omega), List.getElem?_replicate] at e
      split at e <;> cases e
theorem orcS_lo {c : Orc} {i : Nat} (hi : i < 1000) (ws : List W) (h : IH) (k x : KE) : orcS t c i ws h k x = t.getK i fun d => runDef d c ws h k x := by
  unfold orcS
  rw [show Nat.blt i 1000 = true from Nat.ble_eq_true_of_le hi]
  rfl
theorem orcS_hi {c : Orc} {i : Nat} (ws : List W) (h : IH) (k x : KE) : orcS t c (Nat.add i 1000) ws h k x = t.getK i fun d => runDef d c ws ih0 (fun w _ => k w ih0) (fun w _ => x w ih0) := by
  unfold orcS
  rw [show Nat.blt (Nat.add i 1000) 1000 = false from by
    cases q : Nat.blt (Nat.add i 1000) 1000 with
    | false => rfl
    | true =>
      have : i + 1000 < 1000 := Nat.le_of_ble_eq_true q
      omega, show Nat.sub (Nat.add i 1000) 1000 = i from Nat.add_sub_cancel i 1000]
  rfl
theorem ng_ok (t : DT) (n : Nat) {i : Nat} (hi : i < 1000) : NG (orc t n) i := fun ws k x e => by
  cases n with
  | zero => cases (show false = true from e)
  | succ n =>
    have e' : orcS t (orc t n) (Nat.add i 1000) ws ih0 k x = true := e
    rw [orcS_hi] at e'
    show orcS t (orc t n) i ws ih0 _ _ = true
    rw [orcS_lo hi]
    exact e'
theorem lamT_of {CX : CXT} (TU : tabU K = true) (hT : ∀ p ∈ cs, LamX.TabB base mg p.1 p.2) {x : Str} (hc : He.cT K (x, none) ∈ cs) (hb : lamB x = true) {params : Arguments} {body : List Stmt} {scp : Scope} {dV kV doc pm cdv ct oc : Value} {an od : Option Addr} {osl : Array (Option Value)} {f : Addr} (hf : f = He.ga K x)
    (lk : K.lookup f = some ⟨oc, od, .func (PySem.W.fnOf x x params body scp dV kV doc pm an cdv ct), osl⟩) (hcd : PySem.W.codeIn K cdv x = true) {N : List Str} {A : Around} {outer : List Env} {s : Shared} {H : Hp} {E : XK} {sc' : Scope} : LamT (cxOf CX P w K mg base N x sc' f cdv A outer s H E) := by
  obtain ⟨c₀, rfl⟩ := He.codeIn_ref hcd
  have lk' : K.lookup (He.fAd K (x, none)) = some ⟨oc, od, .func (PySem.W.fnOf x x params body scp dV kV doc pm an (.ref c₀) ct), osl⟩ := by rw [← lk, hf]; rfl
  have ec : He.codeOf K (x, none) = c₀ := He.codeOf_eq lk' rfl
  obtain ⟨⟨p1, p2⟩, hp, h2⟩ := List.any_eq_true.mp hb
  obtain ⟨e1, e2⟩ := Bool.and_eq_true_iff.mp h2
  have e1 : p1 = x := sE_ok e1
  have e2 : p2 = ("<lambda>" : Str) := sE_ok e2
  subst e1 e2
  have hm := tabs_mem hp (fnB_of lk' rfl)
  refine ⟨c₀, _, _, ?_, rfl, hm, fun a b => rfl, fun q hq e => tabU_ok TU q hq _ hm e⟩
  have z := hT _ hc
  have e3 : (He.cT K (p1, none)).1 = c₀ := ec
  rw [e3] at z
  exact z
/-- the context of a def's body -/
theorem ctx_ok0 (wf : WF P w K mg cs g sc B L t) (hK : K.In base) (hN : base.Ns mainGlobals mg) (hT : ∀ p ∈ cs, LamX.TabB base mg p.1 p.2) {n : Nat} (ih : ∀ i D, L[i]? = some D → Snd P w K mg g B t base n i D) {D : DefI} {ps : List Str} (hS : FnScope D.N ps (defScope D.st))
    {x : Str} {f : Addr} {cdv : Value} {A : Around} {outer : List Env} {s : Shared} {H : Hp} {E : XK} (hlam : lamB D.x = true → LamT (cxOf (L2.CX P w) P w K mg base D.N x (defScope D.st) f cdv A outer s H E)) (hr : Room (n + 1) (A.deeper (envOfC x (defScope D.st) s.heap.objs.size f cdv))) :
    CsOk (cxOf (L2.CX P w) P w K mg base D.N x (defScope D.st) f cdv A outer s H E) (B.at (orc t n)) (fun cls d _ H => E cls d H) (ccOf g D) sc where
  c := {
    g := {
      fn := fun x i n' sh h => by
        obtain ⟨D', h1, h2, h3⟩ := wf.fn x i n' sh h
        obtain ⟨f', fd', F, m1, g1, b1, k1, ok⟩ := ih i D' h1
        subst h2 h3
        exact ⟨⟨n + 1, f', fd', D'.ps, ok, hr, m1, F.kp, b1, g1, rfl, k1⟩, ng_ok t n (Nat.lt_of_lt_of_le (List.getElem?_eq_some_iff.mp h1).1 wf.few)⟩
      ex := fun x i h => by
        obtain ⟨a1, a2, a3, a4, a5, a6⟩ := wf.ex x i h
        exact ⟨a1, a2, a3, raises_own a4 a5, a6⟩
      on := fun x i h => by
        obtain ⟨a1, a2⟩ := wf.on x i h
        obtain ⟨a3, a4⟩ := wf.num i a1
        exact ⟨a1, a3, a2, a4⟩
      gl := wf.gl
      bl := wf.bl
      led := fun h => by
        obtain ⟨f', fd', fp, fs, w1, w2, w3, w4, w5, w6, a, b, c, d, e, q, r⟩ := wf.led h
        exact ⟨1, f', fd', fp, fs, w1, w2, w3, w4, w5, w6, a base 0 hK hN hT, hr.mono (Nat.le_add_left 1 n), b, c, d, e, q, r⟩
      dp := hr.depth
      dq := by have := hr.dp; show (A.deeper _).depth + 1 < recursionLimit; omega
      un := by have := hr.un; show (A.deeper _).units + 64 < cLine; omega }
    N := rfl
    nd := hS.nd
    sc := rfl
    calm := rfl
    tk := takes_of rfl rfl rfl (E₁ := fun e' s'' => L2.CX P w outer H s E e' s'') rfl
    fnc := fun _ _ => rfl
    kind := hS.kind
    lam := hlam }
  po := passes_of (K := fun e s'' => L2.CX P w outer H s E e s'') (E₁ := fun e' s'' => L2.CX P w outer H s E e' s'') rfl
  st := rfl
  fr := rfl
  kit := wf.kit
  exc := wf.exc
  num := wf.num
  exm := wf.exm
theorem RX.at {K : PySem.W.Frag} {B : Bag} {c c' : Orc} {m : Mp} {H : Hp} {v : W} {cls : Value} {d : Option Addr} (r : RX K (B.at c) m H v cls d) : RX K (B.at c') m H v cls d := by
  cases r with
  | plain i b => exact RX.plain (B := B.at c') i b
  | one i dx w x b e rv => exact RX.one (B := B.at c') i dx w x b e rv
theorem snd_ok (wf : WF P w K mg cs g sc B L t) (hK : K.In base) (hN : base.Ns mainGlobals mg) (hT : ∀ p ∈ cs, LamX.TabB base mg p.1 p.2) : ∀ n i D, L[i]? = some D → Snd P w K mg g B t base n i D
  | 0, i, D, hD => by
    obtain ⟨f, fd, F, m1, g1, b1, k1⟩ := wf.defs i D hD
    refine ⟨f, fd, F, m1, g1, b1, k1, fun vs H Q E h => h.1, fun A outer s H args us vs Q E hr e0 hb r h => ?_⟩
    obtain ⟨_, m, h', ws, k, x, _, _, e, _⟩ := h
    cases (show false = true from e)
  | n + 1, i, D, hD => by
    obtain ⟨f, fd, F, m1, g1, b1, k1⟩ := wf.defs i D hD
    have ih := snd_ok wf hK hN hT n
    refine ⟨f, fd, F, m1, g1, b1, k1, ?_⟩
    obtain ⟨oc, od, dV, kV, doc, pm, an, cdv, ct, osl, rfl, lk, hcd, _, _⟩ := F.ex
    refine fn_of lk hcd (wf.sco i D hD) (fun vs H Q E h => h.1) fun A outer s H vs Q E hr hsp => ?_
    have ok := ctx_ok0 wf hK hN hT ih (wf.sco i D hD) (x := D.x) (f := f) (cdv := cdv) (A := A) (outer := outer) (s := s) (H := H) (E := E) (fun hb => lamT_of wf.tu hT (wf.lam i D hD hb) hb g1 lk hcd) hr
    refine ⟨_, cSs_ok (fun st => cS_ok (rcN_ok 40) 30 ok st) (defBody D.st), ?_⟩
    obtain ⟨hl, m, h, ws, k, x, rh, rv, e, hk, hx⟩ := hsp
    have e0 : orcS t (orc t n) i ws h k x = true := e
    have e1 : t.getK i (fun d => runDef d (orc t n) ws h k x) = true := by rw [← orcS_lo (Nat.lt_of_lt_of_le (List.getElem?_eq_some_iff.mp hD).1 wf.few)]; exact e0
    rw [wf.dt i D hD, wf.cmp i D hD] at e1
    obtain ⟨hw, e2⟩ := locK_ok (show locK D.ps.length (nlOf D) ws (fun l => bodyOf g sc D (orc t n) l h (fun _ h1 => k .non h1) k (fun _ _ => false) (fun _ _ => false) (fun _ => x)) = true from e1)
    refine ⟨m, _, h, _, _, _, _, _, rh, start_rep rv hw, e2, ?_⟩
    exact {
      nx := fun m' l' σ' h' H' x1 rh1 _ e3 => hk m' .non .non h' H' x1 rh1 .non e3
      rt := hk
      bk := fun _ _ _ _ _ _ _ _ q => Bool.noConfusion q
      ct := fun _ _ _ _ _ _ _ _ q => Bool.noConfusion q
      ex := fun m' l' σ' h' H' v cls d x1 rh1 _ rx e3 => hx m' v cls d h' H' x1 rh1 rx.at e3 }
def isT : KE := fun w _ => W.casesOn w false (fun b => b) (fun _ => false) (fun _ => false) (fun _ => false) (fun _ => false) (fun _ => false) (fun _ _ => false)
theorem isT_ok {K : PySem.W.Frag} {m : Mp} {H : Hp} {w : W} {v : V} {h : IH} (rv : RV K m H w v) (e : isT w h = true) : v = .bl true := by
  cases rv with
  | bl b => cases (show b = true from e); rfl
  | _ => cases (show false = true from e)
/-- a law that draws nothing: its run from the empty heap -/
theorem law_ground (wf : WF P w K mg cs g sc B L t) (hK : K.In base) (hN : base.Ns mainGlobals mg) (hT : ∀ p ∈ cs, LamX.TabB base mg p.1 p.2) {D : DefI} (hnl : lamB D.x = false) {f : Addr} {fd : FuncData} {a : Str} (F : FunD K D.x D.x (defArgs D.st) (defBody D.st) (defScope D.st) [] [] f fd) (hs : FnScope D.N [a] (defScope D.st)) (n : Nat)
    (e : bodyOf g sc D (orc t n) (List.replicate D.N.length none) ih0 (fun _ _ => false) isT (fun _ _ => false) (fun _ _ => false) (fun _ => kno) = true)
    {sp : Sp} (len : ∀ vs H Q E, sp vs H Q E → vs.length = 1) (hsp : ∀ vs H Q E, sp vs H Q E → NdefX.TabsN (tabsK K) H ∧ ∀ H', Q (.bl true) H') :
    FnOk P w K mg base (L2.CX P w) (n + 2) f fd [a] sp := by
  obtain ⟨oc, od, dV, kV, doc, pm, an, cdv, ct, osl, rfl, lk, hcd, _, _⟩ := F.ex
  refine fn_of lk hcd hs len fun A outer s H vs Q E hr q => ?_
  have ok := ctx_ok0 wf hK hN hT (fun i D h => snd_ok wf hK hN hT n i D h) hs (x := D.x) (f := f) (cdv := cdv) (A := A) (outer := outer) (s := s) (H := H) (E := E) (fun hb => by rw [hnl] at hb; cases hb) hr
  refine ⟨_, cSs_ok (fun st => cS_ok (rcN_ok 40) 30 ok st) (defBody D.st), ?_⟩
  obtain ⟨q1, q2⟩ := hsp _ _ _ _ q
  have hl : vs.length = 1 := len _ _ _ _ q
  refine ⟨m0, List.replicate D.N.length none, ih0, _, _, _, _, _, rep00 q1, ⟨?_, fun i w e => ?_⟩, e, ?_⟩
  · unfold L2.start
    rw [List.length_append, List.length_map, List.length_replicate, List.length_replicate, hl]
    have : 0 < D.N.length := by
      have q := congrArg List.length hs.pre
      rw [List.length_take] at q
      have : ([a] : List Str).length = 1 := rfl
      omega
    omega
  · rw [List.getElem?_replicate] at e
    split at e <;> cases e
  · exact {
      nx := fun _ _ _ _ _ _ _ _ q => Bool.noConfusion q
      rt := fun m' v w' h' H' x1 _ rv e3 => by
        cases isT_ok rv e3; exact q2 H'
      bk := fun _ _ _ _ _ _ _ _ q => Bool.noConfusion q
      ct := fun _ _ _ _ _ _ _ _ q => Bool.noConfusion q
      ex := fun _ _ _ _ _ _ _ _ _ _ _ _ q => Bool.noConfusion q }
end
end
end It

set_option Elab.async false
set_option linter.all false
set_option maxRecDepth 100000
set_option maxHeartbeats 1000000
/-! ItX: a text's tables; what the head tells of them. -/
namespace It
open PySem PySem.Spec PyProof.Rows L2
noncomputable section
/-! ### the same compiler, strict: each statement once -/
def cSsO (f : Stmt → Option S) : List Stmt → Option S
  | [] => some sNil
  | [a] => f a
  | a :: b :: l => (f a).bind fun x => (cSsO f (b :: l)).bind fun y => some (sSeq x y)
theorem cSsO_eq {f : Stmt → S} {fO : Stmt → Option S} (h : ∀ a, fO a = some (f a)) : ∀ l, cSsO fO l = some (cSs f l)
  | [] => rfl
  | [a] => h a
  | a :: b :: l => by
    show ((fO a).bind fun x => (cSsO fO (b :: l)).bind fun y => some (sSeq x y)) = _
    rw [h a, cSsO_eq h (b :: l)]; rfl
def cStO (r : Rc) (cc : Cc) (sc : Sc) (f : Stmt → Option S) : Stmt → Option S
  | .If c a b _ => (r.t cc c).bind fun t => (cSsO f a).bind fun x => (cSsO f b).bind fun y => some (sIf t x y)
  | .For tg it body [] _ => (cIt r cc tg it).bind fun i => (cG r cc none 5 tg).bind fun g => (cSsO f body).bind fun x => some (sFor i g x)
  | .While c body [] _ => (r.t cc c).bind fun t => (cSsO f body).bind fun x => some (sWhile t x)
  | .Try body (h :: hs) [] [] _ => (cHs cc sc (h :: hs)).bind fun q => (cSsO f body).bind fun x => some (It.sTry x q)
  | st => cSt r cc sc (fun _ => sStuck) st
def orStuck : Option S → Option S
  | some s => some s
  | none => some sStuck
def cSO (r : Rc) (cc : Cc) (sc : Sc) : Nat → Stmt → Option S
  | 0, _ => some sStuck
  | n + 1, st => orStuck (cStO r cc sc (cSO r cc sc n) st)
theorem orStuck_eq (o : Option S) : orStuck o = some (o.getD sStuck) := by cases o <;> rfl
theorem cStO_eq {r : Rc} {cc : Cc} {sc : Sc} {f : Stmt → S} {fO : Stmt → Option S} (h : ∀ a, fO a = some (f a)) (st : Stmt) : cStO r cc sc fO st = cSt r cc sc f st := by
  unfold cStO
  split
  · rename_i c a b p
    rw [cSsO_eq h a, cSsO_eq h b]
    show _ = (r.t cc c).map fun t => sIf t (cSs f a) (cSs f b)
    cases r.t cc c <;> rfl
  · rename_i tg it body p
    rw [cSsO_eq h body]
    show _ = (cIt r cc tg it).bind fun i => (cG r cc none 5 tg).map fun g => sFor i g (cSs f body)
    cases cIt r cc tg it with
    | none => rfl
    | some i => cases cG r cc none 5 tg <;> rfl
  · rename_i c body p
    rw [cSsO_eq h body]
    show _ = (r.t cc c).map fun t => sWhile t (cSs f body)
    cases r.t cc c <;> rfl
  · rename_i body hd hs p
    rw [cSsO_eq h body]
    show _ = (cHs cc sc (hd :: hs)).map fun q => It.sTry (cSs f body) q
    cases cHs cc sc (hd :: hs) <;> rfl
  · rename_i n1 n2 n3 n4
    unfold cSt
    split <;> first | rfl | (exact absurd rfl (n1 _ _ _ _)) | (exact absurd rfl (n2 _ _ _ _)) | (exact absurd rfl (n3 _ _ _)) | (exact absurd rfl (n4 _ _ _ _))
theorem cSO_eq {r : Rc} {cc : Cc} {sc : Sc} : ∀ n st, cSO r cc sc n st = some (cS r cc sc n st)
  | 0, st => rfl
  | n + 1, st => by
    show orStuck (cStO r cc sc (cSO r cc sc n) st) = some ((cSt r cc sc (cS r cc sc n) st).getD sStuck)
    rw [cStO_eq (fun a => cSO_eq n a), orStuck_eq]
def bodyO (g : Cc) (sc : Sc) (D : DefI) : Option S := cSsO (cSO (rcN 40) (ccOf g D) sc 30) (defBody D.st)
theorem bodyO_eq (g : Cc) (sc : Sc) (D : DefI) : bodyO g sc D = some (bodyOf g sc D) := cSsO_eq (cSO_eq 30) _
def bodyS (o : Option S) : S := fun c l h nx rt bk ct ex => Option.casesOn o false fun s => s c l h nx rt bk ct ex
theorem bodyS_eq (g : Cc) (sc : Sc) (D : DefI) : bodyS (bodyO g sc D) = bodyOf g sc D := by rw [bodyO_eq]; rfl
/-- a def as the table gives it -/
structure Dn where
  x : Str
  st : Stmt
  N : List Str
  ps : List Str
  sh : Bool
structure Tx where
  ds : List Dn
  exs : List Str
  bls : List Str
  kws : List (Str × List Str × List Nat)
  kits : List (Str × String × List Bool)
  led : Bool
  gls : List (Str × W) := []
  ons : List (Str × He.DefD) := []
  lams : List Str := []
def fnT (x : Str) : List Dn → Nat → Option (Nat × Nat × Bool)
  | [], _ => none
  | D :: l, i => cond (sE D.x x) (some (i, D.ps.length, D.sh)) (fnT x l (i + 1))
def exT (x : Str) : List Str → Nat → Option Nat
  | [], _ => none
  | y :: l, i => cond (sE y x) (some i) (exT x l (i + 1))
def kwT (x : Str) (ks : List Str) : List (Str × List Str × List Nat) → Option (List Nat)
  | [] => none
  | q :: l => cond (sE q.1 x && decide (q.2.1 = ks)) (some q.2.2) (kwT x ks l)
def flg : List Bool → Nat → Bool
  | [], _ => false
  | b :: _, 0 => b
  | _ :: l, n + 1 => flg l n
def ktT (z : Str) : List (Str × String × List Bool) → Option (Nat → Bool)
  | [] => none
  | q :: l => cond (sE q.1 z) (some (flg q.2.2)) (ktT z l)
def onT (x : Str) (l : List (Str × He.DefD)) (n : Nat) : Option Nat := exT x (l.map (·.1)) n
/-- globals: ints, texts, tuples of such -/
def flatW : W → Bool
  | .non => true
  | .bl _ => true
  | .int _ => true
  | .str _ => true
  | _ => false
def okG : W → Bool
  | .int _ => true
  | .str _ => true
  | .tup l => l.all flatW
  | _ => false
def dvW : W → He.Dv
  | .bl b => .bl b
  | .int i => .int i
  | .str z => .str z
  | _ => .non
def gvF (x : Str) : W → List He.Fa
  | .int i => [.int x i]
  | .str z => [.str x z]
  | .tup _ => [.glo x]
  | _ => []
def gvB (K : PySem.W.Frag) (x : Str) : W → Bool
  | .tup l => He.tupB K x (l.map dvW)
  | _ => true
def glT (x : Str) (l : List (Str × W)) : Option W := (lkS x l).bind fun w => gd (okG w) (some w)
theorem lkS_mem {α : Type} {x : Str} {a : α} : ∀ {l : List (Str × α)}, lkS x l = some a → (x, a) ∈ l
  | [], h => by cases h
  | p :: l, h => by
    have h' : cond (sE x p.1) (some p.2) (lkS x l) = some a := h
    cases q : sE x p.1 with
    | true => rw [q] at h'; cases h'; rw [sE_ok q]; exact List.mem_cons_self
    | false => rw [q] at h'; exact List.mem_cons_of_mem _ (lkS_mem h')
theorem flat_rvs {K : PySem.W.Frag} {H : Hp} : ∀ {l : List W}, l.all flatW = true → RVs K m0 H l ((l.map dvW).map (He.Dv.v K)) ∧ norefs l = true
  | [], _ => ⟨.nil, rfl⟩
  | w :: l, h => by
    rw [List.all_cons] at h
    obtain ⟨h1, h2⟩ := an_ok h
    obtain ⟨a, b⟩ := flat_rvs (K := K) (H := H) h2
    have q : RV K m0 H w (He.Dv.v K (dvW w)) ∧ noref w = true := by
      cases w with
      | non => exact ⟨.non, rfl⟩
      | bl b => exact ⟨.bl b, rfl⟩
      | int i => exact ⟨.int i, rfl⟩
      | str z => exact ⟨.str z, rfl⟩
      | _ => cases h1
    refine ⟨.cons q.1 a, ?_⟩
    show and (noref w) (norefs l) = true
    rw [q.2, b]; rfl
theorem gl_mk {K : PySem.W.Frag} {mg : Str → Option Value} {h : Heap} (X : K.In h) (G : h.Ns mainGlobals mg) {x : Str} {q : W} {l : List (Str × W)} (hf : ∀ p ∈ l, ∀ f ∈ gvF p.1 p.2, f.ok K = true) (hb : (l.all fun p => gvB K p.1 p.2) = true) (e : glT x l = some q) : ∃ v u, mg x = some u ∧ RelV v u ∧ (∀ H, RV K m0 H q v) ∧ noref q = true := by
  obtain ⟨w, e1, e2⟩ := bd_ok e
  obtain ⟨e3, e4⟩ := gd_ok e2
  cases e4
  have hm := lkS_mem e1
  cases q with
  | int i =>
    obtain ⟨t, ht⟩ := He.int_ok X G (hf _ hm (.int x i) List.mem_cons_self)
    exact ⟨.int i, _, ht, ⟨t, rfl⟩, fun H => .int i, rfl⟩
  | str z =>
    obtain ⟨t, ht⟩ := He.str_ok X G (hf _ hm (.str x z) List.mem_cons_self)
    exact ⟨.str z, _, ht, ⟨t, rfl⟩, fun H => .str z, rfl⟩
  | tup l' =>
    have hg := He.glo_ok X G (hf _ hm (.glo x) List.mem_cons_self)
    have hB : He.tupB K x (l'.map dvW) = true := List.all_eq_true.mp hb _ hm
    exact ⟨.ref (He.ga K x), _, hg, rfl, fun H => .tup (He.tupB_ok hB H) (flat_rvs e3).1, (flat_rvs (K := K) (H := fun _ => none) e3).2⟩
  | _ => cases e3
def Tx.g (T : Tx) : Cc := { N := [], sc := { kind := .function, names := [], isGenerator := false, isCoroutine := false, more := [] }, cel := fun _ => true, fn := fun x => fnT x T.ds 0, kw := fun x ks => kwT x ks T.kws, ex := fun x => exT x T.exs 0, on := fun x => onT x T.ons T.exs.length, gl := fun x => glT x T.gls, bl := fun x => T.bls.any fun y => sE y x, led := T.led }
def Tx.s (T : Tx) : Sc := ⟨fun z => ktT z T.kits⟩
def Dn.i0 (D : Dn) : DefI := ⟨D.x, D.st, D.N, D.ps, ⟨0, [], sStuck⟩⟩
def Tx.d (T : Tx) (D : Dn) : Def := ⟨D.ps.length, nlOf D.i0, bodyS (bodyO T.g T.s D.i0)⟩
def Tx.i (T : Tx) (D : Dn) : DefI := ⟨D.x, D.st, D.N, D.ps, T.d D⟩
def Tx.L (T : Tx) : List DefI := T.ds.map T.i
def nthN (K : PySem.W.Frag) : List Str → Nat → Addr
  | [], _ => 0
  | x :: _, 0 => He.ga K x
  | _ :: l, i + 1 => nthN K l i
def Tx.all (T : Tx) : List Str := T.exs ++ T.ons.map (·.1)
def Tx.B (T : Tx) (K : PySem.W.Frag) : Bag := ⟨fun i => nthN K T.all i, fun _ => "number", fun i => i < T.exs.length, fun i => T.exs.length ≤ i ∧ i < T.all.length, fun _ _ _ _ _ => false⟩
def Dn.h (D : Dn) : He.DefD := ⟨(D.x, none), D.x, D.x, defArgs D.st, defBody D.st, defScope D.st, [], []⟩
def exmF (xs : List Str) : List He.Fa := xs.flatMap fun x => xs.map fun y => .exm x y (decide (x = y))
def Tx.fa (T : Tx) : List He.Fa := (T.ds.map fun D => .glo D.x) ++ ((T.exs.map .glo) ++ ((T.exs.map .exc) ++ (exmF T.all ++ (T.bls.map .free ++ ((T.gls.flatMap fun p => gvF p.1 p.2) ++ T.ons.map fun p => .glo p.1)))))
def excB (K : PySem.W.Frag) (D : Addr) : Bool := He.eqO (PySem.W.findIn K (.ref D) "__getattribute__") (some (some (.builtin "BaseException.__getattribute__"))) && (He.eqO (PySem.W.findIn K (.ref D) "__getattr__") (some none) && (decide (PySem.W.subIn K (.ref D) (.type "BaseException") = some true) && (PySem.W.hasDictIn K D && (He.eqO (PySem.W.findIn K (.ref D) "__class__") (some (some (.builtin "object.__class__"))) &&
  (He.eqO (PySem.W.specialIn K (.builtin "object.__class__") "__get__") (some (some (.builtin "getset_descriptor.__get__"))) && (decide (PySem.W.takesIn K (.builtin "object.__class__") = some true) && decide (PySem.W.mroIn K D (.type "object") = some true)))))))
theorem excB_ok {K : PySem.W.Frag} {D : Addr} (h : excB K D = true) : ExcC K D := by
  obtain ⟨h1, h⟩ := Bool.and_eq_true_iff.mp h
  obtain ⟨h2, h⟩ := Bool.and_eq_true_iff.mp h
  obtain ⟨h3, h⟩ := Bool.and_eq_true_iff.mp h
  obtain ⟨h4, h⟩ := Bool.and_eq_true_iff.mp h
  obtain ⟨h5, h⟩ := Bool.and_eq_true_iff.mp h
  obtain ⟨h6, h⟩ := Bool.and_eq_true_iff.mp h
  obtain ⟨h7, h8⟩ := Bool.and_eq_true_iff.mp h
  exact ⟨He.eqO_ok h1, He.eqO_ok h2, of_decide_eq_true h3, h4, He.eqO_ok h5, He.eqO_ok h6, of_decide_eq_true h7, of_decide_eq_true h8⟩
/-- each flag with its class -/
def kfB (K : PySem.W.Frag) (t : String) : List Str → List Bool → Bool
  | [], [] => true
  | x :: xs, b :: bs => decide (PySem.W.kitOne K (.ref (He.ga K x)) (.type t) = some b) && kfB K t xs bs
  | _, _ => false
theorem kfB_ok {K : PySem.W.Frag} {t : String} : ∀ {xs : List Str} {bs : List Bool} {i : Nat}, kfB K t xs bs = true → i < xs.length → PySem.W.kitOne K (.ref (nthN K xs i)) (.type t) = some (flg bs i)
  | [], _, _, _, h => by cases h
  | x :: xs, [], _, h, _ => by cases h
  | x :: xs, b :: bs, 0, h, _ => of_decide_eq_true (an_ok h).1
  | x :: xs, b :: bs, i + 1, h, hi => kfB_ok (i := i) (an_ok h).2 (Nat.lt_of_succ_lt_succ hi)
/-- what the text of such a class is -/
def onB (K : PySem.W.Frag) (x : Str) (D : He.DefD) : Bool :=
  (PySem.W.excInitIn K (He.ga K x) PySem.NumX.leT "LookupError.__new__" && PySem.W.excOver K (He.ga K x) PySem.NumX.leT || PySem.W.excInitIn K (He.ga K x) PySem.NumX.veT "ValueError.__new__" && PySem.W.excOver K (He.ga K x) PySem.NumX.veT) && (He.eqO (PySem.W.findIn K (.ref (He.ga K x)) "__setattr__") (some (some (.builtin "object.__setattr__"))) && (He.eqO (PySem.W.findIn K (.ref (He.ga K x)) "number") (some none) &&
  (He.eqO (PySem.W.findIn K (.ref (He.ga K x)) "__init__") (some (some (.ref (He.fAd K D.at_)))) && (decide (PySem.W.typeIn K (.ref (He.fAd K D.at_)) = some (.type "function")) && (PySem.W.keepIn K (.ref (He.ga K x)) && decide (PySem.W.typeIn K (.ref (He.ga K x)) = some (.type "type")))))))
/-- the text of __init__ -/
def InitP (D : He.DefD) : Prop := ∃ p1 p2 q1 q2 q3 q4 : Pos, D.name = "__init__" ∧ D.params = PySem.NumX.iA p1 p2 ∧ D.body = PySem.NumX.iB q1 q2 q3 q4 ∧ D.scope = PySem.NumX.iS ∧ D.dfl = [] ∧ D.kwd = []
theorem on_mk {K : PySem.W.Frag} {x : Str} {D : He.DefD} {fd : FuncData} (F : FunD K D.name D.qual D.params D.body D.scope (D.dvs K) (D.kws K) (He.fAd K D.at_) fd) (hI : InitP D) (hB : onB K x D = true) (hE : ExcC K (He.ga K x)) : ∃ fI, PySem.NumX.NumC K (He.ga K x) fI := by
  obtain ⟨h1, h⟩ := an_ok hB
  obtain ⟨h3, h⟩ := an_ok h
  obtain ⟨h4, h⟩ := an_ok h
  obtain ⟨h5, h⟩ := an_ok h
  obtain ⟨h6, h⟩ := an_ok h
  obtain ⟨h7, h8⟩ := an_ok h
  obtain ⟨p1, p2, q1, q2, q3, q4, e0, e1, e2, e3, e4, e5⟩ := hI
  refine ⟨_, ⟨(Bool.or_eq_true_iff.mp h1).imp an_ok an_ok, He.eqO_ok h3, hE.hg, hE.hk, He.eqO_ok h4, He.eqO_ok h5, of_decide_eq_true h6, h7, hE.hs, of_decide_eq_true h8, hE.hd, ?_⟩⟩
  obtain ⟨oc, od, dV, kV, doc, pm, an, cdv, ct, osl, rfl, lk, hcd, hD, hK⟩ := F.ex
  have ed : D.dvs K = [] := by unfold He.DefD.dvs; rw [e4]; rfl
  rw [ed] at hD
  rw [e0, e1, e2, e3] at lk
  rcases hD with ⟨_, rfl⟩ | ⟨e, _⟩
  · exact ⟨_, oc, od, kV, doc, pm, an, cdv, ct, osl, p1, p2, q1, q2, q3, q4, lk, hcd⟩
  · exact absurd rfl e
/-- each maker of functions is told -/
def lamC (K : PySem.W.Frag) (ls : List Str) : Bool := (lamNm.filter fun p => fnB K p.1).all fun p => ls.any fun x => sE p.1 x
def Tx.ex (T : Tx) (K : PySem.W.Frag) : Bool := (T.all.all fun x => excB K (He.ga K x)) && ((T.kits.all fun q => kfB K q.2.1 T.all q.2.2) && ((T.gls.all fun p => gvB K p.1 p.2) && ((T.ons.all fun p => onB K p.1 p.2) && (tabU K && lamC K T.lams))))
theorem lamC_ok {K : PySem.W.Frag} {ls : List Str} (h : lamC K ls = true) {p : Str × Str} (hp : p ∈ lamNm) (hb : fnB K p.1 = true) : p.1 ∈ ls := by
  obtain ⟨x, hx, e⟩ := List.any_eq_true.mp (List.all_eq_true.mp h p (List.mem_filter.mpr ⟨hp, hb⟩))
  rw [sE_ok e]; exact hx
theorem tabs_of {K : PySem.W.Frag} {H : Hp} {ls : List Str} (hc : lamC K ls = true) (h : ∀ p ∈ ls.map fun x => He.cT K (x, none), H p.2 = some (.tbl #[])) : NdefX.TabsN (tabsK K) H := fun q hq => by
  obtain ⟨p, hp, rfl⟩ := List.mem_map.mp hq
  obtain ⟨h1, h2⟩ := List.mem_filter.mp hp
  exact NdefX.TabN.nil (h _ (List.mem_map_of_mem (f := fun x => He.cT K (x, none)) (lamC_ok hc h1 h2)))
/-- what is seen of the table alone -/
def kitB (q : Str × String × List Bool) : Bool := decide (bootBuiltins q.1 = some (.type q.2.1)) && (!decide (q.1 = ("__name__" : Str)) && !(q.1 == ("__debug__" : Str)))
def fsB (N ps : List Str) (sc : Scope) : Bool := match sc.kind with
  | .function => !sc.isCoroutine && (!sc.isGenerator && (decide N.Nodup && (decide (N.take ps.length = ps) && ((ps.all fun x => match sc.names.lookup x with
    | some .local => true
    | some .cell => true
    | _ => false) && sc.names.all fun y => match y.2 with
    | .free => false
    | _ => true))))
  | _ => false
theorem fsB_ok {N ps : List Str} {sc : Scope} (h : fsB N ps sc = true) : FnScope N ps sc := by
  unfold fsB at h
  split at h
  · rename_i e
    obtain ⟨h1, h⟩ := Bool.and_eq_true_iff.mp h
    obtain ⟨h2, h⟩ := Bool.and_eq_true_iff.mp h
    obtain ⟨h3, h⟩ := Bool.and_eq_true_iff.mp h
    obtain ⟨h4, h⟩ := Bool.and_eq_true_iff.mp h
    obtain ⟨h5, h6⟩ := Bool.and_eq_true_iff.mp h
    refine ⟨e, by simpa using h1, by simpa using h2, of_decide_eq_true h3, of_decide_eq_true h4, fun x hx => ?_, fun y hy q => ?_⟩
    · have := List.all_eq_true.mp h5 x hx
      split at this
      · left; assumption
      · right; assumption
      · cases this
    · have := List.all_eq_true.mp h6 y hy
      rw [q] at this
      cases this
  · cases h
theorem fnT_ok {x : Str} {i n : Nat} {sh : Bool} : ∀ {l : List Dn} {k : Nat}, fnT x l k = some (i, n, sh) → ∃ D, k ≤ i ∧ l[i - k]? = some D ∧ D.x = x ∧ D.ps.length = n
  | [], k, h => by cases h
  | D :: l, k, h => by
    cases q : sE D.x x with
    | true =>
      have h2 : cond (sE D.x x) (some (k, D.ps.length, D.sh)) (fnT x l (k + 1)) = some (i, n, sh) := h
      rw [q] at h2
      cases h2
      exact ⟨D, Nat.le_refl _, by rw [Nat.sub_self]; rfl, sE_ok q, rfl⟩
    | false =>
      have h2 : cond (sE D.x x) (some (k, D.ps.length, D.sh)) (fnT x l (k + 1)) = some (i, n, sh) := h
      rw [q] at h2
      obtain ⟨D', h3, h4, h5⟩ := fnT_ok (k := k + 1) h2
      refine ⟨D', by omega, ?_, h5⟩
      have e : i - k = (i - (k + 1)) + 1 := by omega
      rw [e]; exact h4
theorem exT_ok {K : PySem.W.Frag} {x : Str} {i : Nat} : ∀ {l : List Str} {k : Nat}, exT x l k = some i → k ≤ i ∧ i - k < l.length ∧ nthN K l (i - k) = He.ga K x ∧ x ∈ l
  | [], k, h => by cases h
  | y :: l, k, h => by
    have h2 : cond (sE y x) (some k) (exT x l (k + 1)) = some i := h
    cases q : sE y x with
    | true =>
      rw [q] at h2
      cases h2
      rw [sE_ok q, Nat.sub_self]
      exact ⟨Nat.le_refl _, Nat.zero_lt_succ _, rfl, List.mem_cons_self⟩
    | false =>
      rw [q] at h2
      obtain ⟨h3, h4, h5, h6⟩ := exT_ok (K := K) (k := k + 1) h2
      have e : i - k = (i - (k + 1)) + 1 := by omega
      refine ⟨by omega, ?_, ?_, List.mem_cons_of_mem _ h6⟩
      · rw [e]; exact Nat.succ_lt_succ h4
      · rw [e]; exact h5
theorem kwT_ok {x : Str} {ks : List Str} {idx : List Nat} : ∀ {l : List (Str × List Str × List Nat)}, kwT x ks l = some idx → (x, ks, idx) ∈ l
  | [], h => by cases h
  | q :: l, h => by
    have h2 : cond (sE q.1 x && decide (q.2.1 = ks)) (some q.2.2) (kwT x ks l) = some idx := h
    cases e : sE q.1 x && decide (q.2.1 = ks) with
    | true =>
      rw [e] at h2
      obtain ⟨e1, e2⟩ := Bool.and_eq_true_iff.mp e
      obtain ⟨a, b, c⟩ := q
      cases h2
      cases sE_ok e1
      cases of_decide_eq_true e2
      exact List.mem_cons_self
    | false =>
      rw [e] at h2
      exact List.mem_cons_of_mem _ (kwT_ok h2)
theorem ktT_ok {z : Str} {f : Nat → Bool} : ∀ {l : List (Str × String × List Bool)}, ktT z l = some f → ∃ q ∈ l, q.1 = z ∧ f = flg q.2.2
  | [], h => by cases h
  | q :: l, h => by
    have h2 : cond (sE q.1 z) (some (flg q.2.2)) (ktT z l) = some f := h
    cases e : sE q.1 z with
    | true =>
      rw [e] at h2
      cases h2
      exact ⟨q, List.mem_cons_self, sE_ok e, rfl⟩
    | false =>
      rw [e] at h2
      obtain ⟨q', h3, h4⟩ := ktT_ok h2
      exact ⟨q', List.mem_cons_of_mem _ h3, h4⟩
theorem nthN_mem {K : PySem.W.Frag} : ∀ {l : List Str} {i : Nat}, i < l.length → ∃ x ∈ l, l[i]? = some x ∧ nthN K l i = He.ga K x
  | [], i, h => by cases h
  | x :: l, 0, _ => ⟨x, List.mem_cons_self, rfl, rfl⟩
  | x :: l, i + 1, h => by
    obtain ⟨y, h1, h2, h3⟩ := nthN_mem (K := K) (l := l) (i := i) (Nat.lt_of_succ_lt_succ h)
    exact ⟨y, List.mem_cons_of_mem _ h1, h2, h3⟩
theorem nthN_app {K : PySem.W.Frag} : ∀ {l r : List Str} {i : Nat}, i < l.length → nthN K (l ++ r) i = nthN K l i
  | [], _, _, h => by cases h
  | x :: l, r, 0, _ => rfl
  | x :: l, r, i + 1, h => nthN_app (l := l) (i := i) (Nat.lt_of_succ_lt_succ h)
theorem nthN_app2 {K : PySem.W.Frag} : ∀ {l r : List Str} {i : Nat}, l.length ≤ i → nthN K (l ++ r) i = nthN K r (i - l.length)
  | [], _, _, _ => rfl
  | x :: l, r, 0, h => by cases h
  | x :: l, r, i + 1, h => by
    show nthN K (l ++ r) i = nthN K r (i + 1 - (l.length + 1))
    rw [nthN_app2 (l := l) (Nat.le_of_succ_le_succ h), Nat.add_sub_add_right]
theorem nodup_ix {l : List Str} (h : l.Nodup) {i j : Nat} {x y : Str} (hi : l[i]? = some x) (hj : l[j]? = some y) : decide (x = y) = Nat.beq i j := by
  obtain ⟨h1, e1⟩ := List.getElem?_eq_some_iff.mp hi
  obtain ⟨h2, e2⟩ := List.getElem?_eq_some_iff.mp hj
  cases q : Nat.beq i j with
  | true =>
    have e := Nat.eq_of_beq_eq_true q
    subst e
    rw [hi] at hj
    exact decide_eq_true (Option.some.inj hj)
  | false =>
    refine decide_eq_false fun e => ?_
    have : i = j := (List.getElem_inj h).mp (by rw [e1, e2, e])
    rw [this, show Nat.beq j j = true from Nat.beq_refl j] at q
    cases q
/-- the same for each of a list with its place -/
def AllI {α : Type} (P : Nat → α → Prop) : Nat → List α → Prop
  | _, [] => True
  | k, a :: l => P k a ∧ AllI P (k + 1) l
theorem AllI.get {α : Type} {P : Nat → α → Prop} : ∀ {l : List α} {k : Nat}, AllI P k l → ∀ i a, l[i]? = some a → P (k + i) a
  | [], _, _, _, _, e => by cases e
  | b :: l, k, h, 0, a, e => by cases e; exact h.1
  | b :: l, k, h, i + 1, a, e => by
    have := AllI.get h.2 i a e
    rw [show k + (i + 1) = k + 1 + i from by omega]; exact this
theorem map_get {T : Tx} {i : Nat} {D : DefI} (h : T.L[i]? = some D) : ∃ E, T.ds[i]? = some E ∧ D = T.i E := by
  unfold Tx.L at h
  rw [List.getElem?_map] at h
  cases q : T.ds[i]? with
  | none => rw [q] at h; cases h
  | some E => rw [q] at h; cases h; exact ⟨E, rfl, rfl⟩
/-- how the defs' arguments bind -/
def BindP (T : Tx) : Nat → Dn → Prop := fun _ D => ∀ (K : PySem.W.Frag) (f : Addr) (fd : FuncData), FunD K D.x D.x (defArgs D.st) (defBody D.st) (defScope D.st) [] [] f fd → Binds K fd D.ps []
def KwP (T : Tx) : Nat → Str × List Str × List Nat → Prop := fun _ q => ∃ (i : Nat) (D : Dn), T.ds[i]? = some D ∧ D.x = q.1 ∧ ∀ (K : PySem.W.Frag) (f : Addr) (fd : FuncData), FunD K D.x D.x (defArgs D.st) (defBody D.st) (defScope D.st) [] [] f fd → KB0 K fd D.ps q.2.1 q.2.2
theorem wf_mk {P : Program} {w : World} {K : PySem.W.Frag} {mg : Str → Option Value} {cs : List (Addr × Addr)} {h : Heap} (T : Tx) (t : DT) {fa : List He.Fa} {fn : List He.DefD} (X : K.In h) (G : h.Ns mainGlobals mg) (c : He.SaysD fa fn K) (hfa : ∀ f ∈ T.fa, f ∈ fa) (more : T.ex K = true)
    (hfn : ∀ D ∈ T.ds, D.h ∈ fn) (hb : AllI (BindP T) 0 T.ds) (hkw : AllI (KwP T) 0 T.kws) (hdt : AllI (fun i D => ∀ c, t.getK i c = c (T.d D)) 0 T.ds) (hfs : (T.ds.all fun D => fsB D.N D.ps (defScope D.st)) = true) (hnd : T.all.Nodup) (hon : ∀ p ∈ T.ons, p.2 ∈ fn ∧ InitP p.2) (hnm : (T.ds.map (·.x)).Nodup) (hkit : T.kits.all kitB = true) (hfew : T.ds.length ≤ 1000) (hcs : ∀ x ∈ T.lams, He.cT K (x, none) ∈ cs)
    (hled : T.led = true → ∃ (f : Addr) (fd : FuncData) (fp : Arguments) (fs : Scope) (w1 w2 w3 w4 w5 w6 : Pos), (∀ base k, K.In base → base.Ns mainGlobals mg → (∀ p ∈ cs, LamX.TabB base mg p.1 p.2) → FnOk P w K mg base (L2.CX P w) (k + 1) f fd ["place"] (spLed K fp (farB w1 w2 w3 w4 w5 w6) fs)) ∧
      mg "led_by" = some (.ref f) ∧ PySem.W.keepIn K (.ref f) = true ∧ Binds K fd ["place"] [] ∧ FarS fs ∧
      (∀ (F : NdefX.NF) (doc pm ctv : Value) (us : List Value), LedF fp (farB w1 w2 w3 w4 w5 w6) fs F → us.length = 1 → bindArgs (F.fd doc pm ctv) ⟨us, []⟩ = pure ([("row" : Str)].zip us)) ∧ mg ("abs" : Str) = none) :
    WF P w K mg cs T.g T.s (T.B K) T.L t := by
  have cf : ∀ f ∈ T.fa, f.ok K = true := fun f hf => c.facts (hfa f hf)
  have fx : ∀ x ∈ T.exs, mg x = some (.ref (He.ga K x)) := fun x hx => He.glo_ok X G (cf (.glo x) (List.mem_append_right _ (List.mem_append_left _ (List.mem_map_of_mem hx))))
  have fe : ∀ x ∈ T.exs, (He.Fa.exc x).ok K = true := fun x hx => cf _ (List.mem_append_right _ (List.mem_append_right _ (List.mem_append_left _ (List.mem_map_of_mem hx))))
  obtain ⟨m1, m2⟩ := Bool.and_eq_true_iff.mp more
  obtain ⟨m2, m3⟩ := Bool.and_eq_true_iff.mp m2
  obtain ⟨m3, m4⟩ := Bool.and_eq_true_iff.mp m3
  obtain ⟨m4, m5⟩ := Bool.and_eq_true_iff.mp m4
  obtain ⟨m5, m6⟩ := Bool.and_eq_true_iff.mp m5
  have lt : ∀ i, (T.B K).ex i ∨ (T.B K).on i → i < T.all.length := fun i hi => by
    rcases hi with hi | hi
    · have hi' : i < T.exs.length := hi
      unfold Tx.all; rw [List.length_append]; omega
    · exact hi.2
  have le : ∀ i, i < T.exs.length → nthN K T.all i = nthN K T.exs i := fun i hi => nthN_app hi
  exact {
    defs := fun i D hD => by
      obtain ⟨E, e1, rfl⟩ := map_get hD
      have hm := List.mem_of_getElem? e1
      obtain ⟨fd, F⟩ := c.defs (hfn E hm)
      refine ⟨_, fd, F, He.glo_ok X G (cf (.glo E.x) (List.mem_append_left _ (List.mem_map_of_mem (f := fun D : Dn => He.Fa.glo D.x) hm))), rfl, hb.get i E e1 K _ fd F, fun ks idx e => ?_⟩
      obtain ⟨j, hj, ej⟩ := List.mem_iff_getElem.mp (kwT_ok e)
      obtain ⟨i', E', e2, e3, hB⟩ := hkw.get j (E.x, ks, idx) (by rw [List.getElem?_eq_getElem hj, ej]; rfl)
      have ee : i = i' := by
        have z := nodup_ix hnm (i := i) (j := i') (x := E.x) (y := E'.x) (by rw [List.getElem?_map, e1]; rfl) (by rw [List.getElem?_map, e2]; rfl)
        rw [decide_eq_true (show E.x = E'.x from e3.symm)] at z
        exact Nat.eq_of_beq_eq_true z.symm
      subst ee
      rw [e1] at e2; cases e2
      exact hB K _ fd F
    sco := fun i D hD => by
      obtain ⟨E, e1, rfl⟩ := map_get hD
      exact fsB_ok (List.all_eq_true.mp hfs E (List.mem_of_getElem? e1))
    cmp := fun i D hD => by
      obtain ⟨E, e1, rfl⟩ := map_get hD
      show T.d E = ⟨E.ps.length, nlOf E.i0, bodyOf T.g T.s E.i0⟩
      rw [← bodyS_eq]; rfl
    dt := fun i D hD => by
      obtain ⟨E, e1, rfl⟩ := map_get hD
      have := hdt.get i E e1
      rw [Nat.zero_add] at this
      exact this
    few := by unfold Tx.L; rw [List.length_map]; exact hfew
    tu := m5
    lam := fun i D hD hb => by
      obtain ⟨E, e1, rfl⟩ := map_get hD
      obtain ⟨fd, F⟩ := c.defs (hfn E (List.mem_of_getElem? e1))
      obtain ⟨oc, od, dV, kV, doc, pm, an, cdv, ct, osl, rfl, lk, _⟩ := F.ex
      obtain ⟨⟨p1, p2⟩, hp, h2⟩ := List.any_eq_true.mp hb
      have ep : p1 = E.x := sE_ok (Bool.and_eq_true_iff.mp h2).1
      subst ep
      exact hcs _ (lamC_ok m6 hp (fnB_of lk rfl))
    fn := fun x i n sh e => by
      obtain ⟨D, h1, h2, h3, h4⟩ := fnT_ok e
      refine ⟨T.i D, ?_, h3, h4⟩
      unfold Tx.L
      rw [List.getElem?_map, show T.ds[i]? = some D from h2]; rfl
    ex := fun x i e => by
      obtain ⟨h1, h2, h3, h4⟩ := exT_ok (K := K) e
      obtain ⟨a, b, d, q⟩ := He.exc_ok (fe x h4)
      have z : (T.B K).ca i = He.ga K x := (le i h2).trans h3
      rw [z]
      exact ⟨h2, fx x h4, b, d, q, _, _, _, _, PySem.F.excBase_ValueError, a⟩
    gl := fun x q e => gl_mk X G (fun p hp f hf => cf f (List.mem_append_right _ (List.mem_append_right _ (List.mem_append_right _ (List.mem_append_right _ (List.mem_append_right _ (List.mem_append_left _ (List.mem_flatMap.mpr ⟨p, hp, hf⟩)))))))) m3 e
    on := fun x i e => by
      obtain ⟨h1, h2, h3, h4⟩ := exT_ok (K := K) (show exT x (T.ons.map (·.1)) T.exs.length = some i from e)
      obtain ⟨p, hp, ep⟩ := List.mem_map.mp h4
      have z : (T.B K).ca i = He.ga K x := by
        rw [← h3]; exact nthN_app2 h1
      refine ⟨⟨h1, ?_⟩, ?_⟩
      · unfold Tx.all; rw [List.length_append]; omega
      · rw [z, ← ep]
        exact He.glo_ok X G (cf (.glo p.1) (List.mem_append_right _ (List.mem_append_right _ (List.mem_append_right _ (List.mem_append_right _ (List.mem_append_right _ (List.mem_append_right _ (List.mem_map_of_mem (f := fun p : Str × He.DefD => He.Fa.glo p.1) hp))))))))
    bl := fun x e => by
      obtain ⟨y, hy, q⟩ := List.any_eq_true.mp e
      rw [← sE_ok q]
      exact He.free_ok X G (cf _ (List.mem_append_right _ (List.mem_append_right _ (List.mem_append_right _ (List.mem_append_right _ (List.mem_append_left _ (List.mem_map_of_mem hy)))))))
    kit := fun z f e => by
      obtain ⟨q, hq, ez, rfl⟩ := ktT_ok (show ktT z T.kits = some f from e)
      subst ez
      obtain ⟨k1, k2⟩ := Bool.and_eq_true_iff.mp (List.all_eq_true.mp hkit q hq)
      obtain ⟨k3, k4⟩ := Bool.and_eq_true_iff.mp k2
      refine ⟨q.2.1, of_decide_eq_true k1, fun n => ?_, by simpa using k4, fun i hi => ?_⟩
      · rw [n] at k3; simp at k3
      · exact kfB_ok (List.all_eq_true.mp m2 q hq) (lt i hi)
    exc := fun i hi => by
      obtain ⟨x, hx, _, e3⟩ := nthN_mem (K := K) (lt i hi)
      rw [show (T.B K).ca i = He.ga K x from e3]
      exact excB_ok (List.all_eq_true.mp m1 x hx)
    num := fun i hi => by
      obtain ⟨x, hx, ex, e3⟩ := nthN_mem (K := K) (lt i (.inr hi))
      refine ⟨rfl, ?_⟩
      have h1 : T.exs.length ≤ i := hi.1
      have ex2 : (T.ons.map (·.1))[i - T.exs.length]? = some x := by
        rw [← List.getElem?_append_right h1]; exact ex
      rw [List.getElem?_map] at ex2
      cases q : T.ons[i - T.exs.length]? with
      | none => rw [q] at ex2; cases ex2
      | some p =>
        rw [q] at ex2
        have e4 : p.1 = x := Option.some.inj ex2
        have hp := List.mem_of_getElem? q
        obtain ⟨hq1, hq2⟩ := hon p hp
        obtain ⟨fd, F⟩ := c.defs hq1
        rw [show (T.B K).ca i = He.ga K x from e3, ← e4]
        exact on_mk F hq2 (List.all_eq_true.mp m4 p hp) (excB_ok (List.all_eq_true.mp m1 p.1 (by rw [e4]; exact hx)))
    exm := fun i j hi hj => by
      obtain ⟨x, hx, ex, e3⟩ := nthN_mem (K := K) (lt i hi)
      obtain ⟨y, hy, ey, e4⟩ := nthN_mem (K := K) (lt j hj)
      rw [show (T.B K).ca i = He.ga K x from e3, show (T.B K).ca j = He.ga K y from e4, ← nodup_ix hnd ex ey]
      exact He.exm_ok (cf (.exm x y (decide (x = y))) (List.mem_append_right _ (List.mem_append_right _ (List.mem_append_right _ (List.mem_append_left _ (List.mem_flatMap.mpr ⟨x, hx, List.mem_map_of_mem (f := fun y => He.Fa.exm x y (decide (x = y))) hy⟩))))))
    led := hled }
theorem tabM_ok {T : Tx} {K : PySem.W.Frag} (h : T.ex K = true) : lamC K T.lams = true := by
  obtain ⟨_, h⟩ := Bool.and_eq_true_iff.mp h
  obtain ⟨_, h⟩ := Bool.and_eq_true_iff.mp h
  obtain ⟨_, h⟩ := Bool.and_eq_true_iff.mp h
  obtain ⟨_, h⟩ := Bool.and_eq_true_iff.mp h
  exact (Bool.and_eq_true_iff.mp h).2
theorem tabU_of {T : Tx} {K : PySem.W.Frag} (h : T.ex K = true) : tabU K = true := by
  obtain ⟨_, h⟩ := Bool.and_eq_true_iff.mp h
  obtain ⟨_, h⟩ := Bool.and_eq_true_iff.mp h
  obtain ⟨_, h⟩ := Bool.and_eq_true_iff.mp h
  obtain ⟨_, h⟩ := Bool.and_eq_true_iff.mp h
  exact (Bool.and_eq_true_iff.mp h).1
theorem kb_mk {K : PySem.W.Frag} {x qual : Str} {params : Arguments} {body : List Stmt} {scope : Scope} {kws : List (Str × V)} {f : Addr} {fd : FuncData} {ps ks : List Str} {idx : List Nat} (F : FunD K x qual params body scope [] kws f fd) (h1 : ps.length = idx.length) (h2 : ∀ j ∈ idx, j < ks.length)
    (h : ∀ (kV doc pm : Value) (an : Option Addr) (cdv ct : Value) (ws : List Value), ws.length = ks.length → bindArgs (PySem.W.fnOf x qual params body scope .none kV doc pm an cdv ct) ⟨[], ks.zip ws⟩ = pure (ps.zip (pickV idx ws))) : KB0 K fd ps ks idx := by
  obtain ⟨oc, od, dV, kV, doc, pm, an, cdv, ct, osl, rfl, lk, hcd, hD, hK⟩ := F.ex
  rcases hD with ⟨_, rfl⟩ | ⟨e, _⟩
  · exact ⟨h1, h2, fun s ws _ hl => .of_eq (h kV doc pm an cdv ct ws hl)⟩
  · exact absurd rfl e
theorem led_mk {P : Program} {w : World} {K : PySem.W.Frag} {mg : Str → Option Value} {cs : List (Addr × Addr)} {params fp : Arguments} {fs sc : Scope} {w1 w2 w3 w4 w5 w6 q1 q2 q3 : Pos} {fd : FuncData}
    (F : FunD K "led_by" "led_by" params (ledB fp (farB w1 w2 w3 w4 w5 w6) fs q1 q2 q3) sc [] [] (He.fAd K ("led_by", none)) fd) (S : LedS sc) (FS : FarS fs)
    (hfree : ∀ y ∈ fs.names, y.2 = .free → y.1 = ("place" : Str)) (hpl : (("place" : Str), NameKind.free) ∈ fs.names) (hd0 : fp.defaults = []) (hk0 : fp.kw_defaults = []) (han : ∀ env, annTrees fp none env = [])
    (hcs : He.cT K ("led_by", none) ∈ cs) (hmg : mg "led_by" = some (.ref (He.fAd K ("led_by", none)))) (TU : tabU K = true) (hb : Binds K fd ["place"] [])
    (hbr : ∀ (F : NdefX.NF) (doc pm ctv : Value) (us : List Value), LedF fp (farB w1 w2 w3 w4 w5 w6) fs F → us.length = 1 → bindArgs (F.fd doc pm ctv) ⟨us, []⟩ = pure ([("row" : Str)].zip us)) (ha : mg ("abs" : Str) = none) :
    ∃ (f : Addr) (fd : FuncData) (fp : Arguments) (fs : Scope) (w1 w2 w3 w4 w5 w6 : Pos), (∀ base k, K.In base → base.Ns mainGlobals mg → (∀ p ∈ cs, LamX.TabB base mg p.1 p.2) → FnOk P w K mg base (L2.CX P w) (k + 1) f fd ["place"] (spLed K fp (farB w1 w2 w3 w4 w5 w6) fs)) ∧
      mg "led_by" = some (.ref f) ∧ PySem.W.keepIn K (.ref f) = true ∧ Binds K fd ["place"] [] ∧ FarS fs ∧
      (∀ (F : NdefX.NF) (doc pm ctv : Value) (us : List Value), LedF fp (farB w1 w2 w3 w4 w5 w6) fs F → us.length = 1 → bindArgs (F.fd doc pm ctv) ⟨us, []⟩ = pure ([("row" : Str)].zip us)) ∧ mg ("abs" : Str) = none := by
  have kp := F.kp
  obtain ⟨oc, od, dV, kV, doc, pm, an, cdv, ct, osl, rfl, lk, hcd, hD, hK⟩ := F.ex
  obtain ⟨c₀, rfl⟩ := He.codeIn_ref hcd
  have ec : He.codeOf K ("led_by", none) = c₀ := He.codeOf_eq lk rfl
  have hTm : ((He.cT K ("led_by", none)).2, ledNm) ∈ tabsK K := tabs_mem (p := ("led_by", "far_off")) List.mem_cons_self (fnB_of lk rfl)
  refine ⟨_, _, fp, fs, w1, w2, w3, w4, w5, w6, fun base k X G TB => ?_, hmg, kp, hb, FS, hbr, ha⟩
  refine led_ok lk hcd S (T₀ := (He.cT K ("led_by", none)).2) ?_ hTm (fun q hq e => tabU_ok TU q hq _ hTm e) hfree hpl hd0 hk0 han
  have z := TB _ hcs
  have e1 : (He.cT K ("led_by", none)).1 = c₀ := ec
  rw [e1] at z
  exact z
end
end It

set_option Elab.async false
set_option linter.all false
set_option maxRecDepth 100000
set_option maxHeartbeats 1000000
/-! ItY: calls whose answers are known: a run in parts. -/
namespace It
open PySem PySem.Spec PyProof.Rows L2
noncomputable section
/-- the first statement of a class's suite -/
def clsI : Stmt → Stmt
  | .ClassDef (body := b) .. => b.headD (.Pass ⟨0, 0, 0, 0⟩)
  | st => st
def initH (x : Str) (q : Str) (st : Stmt) : He.DefD := ⟨(x, some "__init__"), "__init__", q, defArgs (clsI st), defBody (clsI st), defScope (clsI st), [], []⟩
theorem bodyS_some (s : S) : bodyS (some s) = s := rfl
/-! ### the same value, told by its form -/
noncomputable def sameL (f : W → W → Bool) (l : List W) : List W → Bool := List.rec (fun r => List.casesOn r true (fun _ _ => false)) (fun x _ ih r => List.casesOn r false (fun y r' => cond (f x y) (ih r') false)) l
noncomputable def same (n : Nat) : W → W → Bool :=
  Nat.rec (fun _ _ => false)
    (fun _ ih a b => W.casesOn a
      (W.casesOn b true (fun _ => false) (fun _ => false) (fun _ => false) (fun _ => false) (fun _ => false) (fun _ => false) (fun _ _ => false))
      (fun p => W.casesOn b false (fun q => cond p q (not q)) (fun _ => false) (fun _ => false) (fun _ => false) (fun _ => false) (fun _ => false) (fun _ _ => false))
      (fun i => W.casesOn b false (fun _ => false) (fun j => ieq i j) (fun _ => false) (fun _ => false) (fun _ => false) (fun _ => false) (fun _ _ => false))
      (fun p => W.casesOn b false (fun _ => false) (fun _ => false) (fun q => sE p q) (fun _ => false) (fun _ => false) (fun _ => false) (fun _ _ => false))
      (fun l => W.casesOn b false (fun _ => false) (fun _ => false) (fun _ => false) (fun r => sameL ih l r) (fun _ => false) (fun _ => false) (fun _ _ => false))
      (fun _ => false)
      (fun l => W.casesOn b false (fun _ => false) (fun _ => false) (fun _ => false) (fun _ => false) (fun _ => false) (fun r => sameL ih l r) (fun _ _ => false))
      (fun _ _ => false)) n
theorem ieq_eq {i j : Int} (h : ieq i j = true) : i = j := by
  cases i <;> cases j
  · exact congrArg Int.ofNat (Nat.eq_of_beq_eq_true h)
  · cases h
  · cases h
  · exact congrArg Int.negSucc (Nat.eq_of_beq_eq_true h)
theorem sameL_ok {f : W → W → Bool} (hf : ∀ a b, f a b = true → a = b) : ∀ {l r : List W}, sameL f l r = true → l = r
  | [], [], _ => rfl
  | [], _ :: _, h => by cases (show false = true from h)
  | _ :: _, [], h => by cases (show false = true from h)
  | x :: l, y :: r, h => by
    have h' : cond (f x y) (sameL f l r) false = true := h
    cases q : f x y with
    | false => rw [q] at h'; cases h'
    | true => rw [q] at h'; rw [hf x y q, sameL_ok hf h']
theorem same_ok : ∀ {n : Nat} {a b : W}, same n a b = true → a = b
  | 0, a, b, h => by cases (show false = true from h)
  | n + 1, a, b, h => by
    cases a <;> cases b <;> first | rfl | (exact absurd (show false = true from h) (fun z => nomatch z)) | skip
    · rename_i p q
      cases p <;> cases q <;> first | rfl | cases (show false = true from h)
    · exact congrArg W.int (ieq_eq h)
    · exact congrArg W.str (sE_ok h)
    · exact congrArg W.tup (sameL_ok (fun a b => same_ok) h)
    · exact congrArg W.fl (sameL_ok (fun a b => same_ok) h)
/-- a call whose answer is known: its rank, the levels it takes, the arguments, the answer -/
structure Ent where
  r : Nat
  d : Nat
  ws : List W
  w : W
inductive MT where
  | l (es : List Ent) | n (m : Nat) (a b : MT)
noncomputable def MT.getK (t : MT) : Nat → (List Ent → Bool) → Bool := MT.rec (fun es _ c => c es) (fun m _ _ fa fb i c => cond (Nat.blt i m) (fa i c) (fb i c)) t
noncomputable def MT.look (t : MT) : Nat → List Ent := MT.rec (fun es _ => es) (fun m _ _ fa fb i => cond (Nat.blt i m) (fa i) (fb i)) t
theorem MT.getK_eq : ∀ (t : MT) (i : Nat) (c : List Ent → Bool), t.getK i c = c (t.look i)
  | .l _, _, _ => rfl
  | .n m a b, i, c => by
    show cond (Nat.blt i m) (a.getK i c) (b.getK i c) = c (cond (Nat.blt i m) (a.look i) (b.look i))
    cases Nat.blt i m
    · exact MT.getK_eq b i c
    · exact MT.getK_eq a i c
noncomputable def memK (es : List Ent) (R m : Nat) (ws : List W) (c : W → Bool) (z : Bool) : Bool :=
  List.rec z (fun e _ ih => Ent.casesOn e fun r d us w => cond (Nat.blt r R) (cond (Nat.ble d m) (cond (sameL (same 40) us ws) (c w) ih) ih) ih) es
theorem memK_eq {R m : Nat} {ws : List W} {c : W → Bool} {z : Bool} : ∀ {es : List Ent}, (∀ e ∈ es, e.r < R → e.d ≤ m → e.ws = ws → c e.w = z) → memK es R m ws c z = z
  | [], _ => rfl
  | e :: es, h => by
    have ih := memK_eq (es := es) fun e' he => h e' (List.mem_cons_of_mem _ he)
    have h0 := h e List.mem_cons_self
    obtain ⟨r, d, us, w⟩ := e
    show cond (Nat.blt r R) (cond (Nat.ble d m) (cond (sameL (same 40) us ws) (c w) (memK es R m ws c z)) (memK es R m ws c z)) (memK es R m ws c z) = z
    rw [ih]
    cases q1 : Nat.blt r R with
    | false => rfl
    | true =>
      cases q2 : Nat.ble d m with
      | false => rfl
      | true =>
        cases q3 : sameL (same 40) us ws with
        | false => rfl
        | true => exact h0 (Nat.le_of_ble_eq_true q1) (Nat.le_of_ble_eq_true q2) (sameL_ok (fun a b => same_ok) q3)
noncomputable def wrapO (tb : MT) (R m : Nat) (c : Orc) : Orc := fun i ws h k x => cond (Nat.blt i 1000) (c i ws h k x) (tb.getK (Nat.sub i 1000) fun es => memK es R m ws (fun w => k w ih0) (c i ws h k x))
noncomputable def mx (tb : MT) (R : Nat) (t : DT) (n : Nat) (m : Nat) : Orc := Nat.rec (orc t n) (fun m ih => wrapO tb R (Nat.succ m) (orcS t ih)) m
def FactOk (t : DT) (i : Nat) (e : Ent) : Prop := ∀ n h k x, orc t (n + e.d) (Nat.add i 1000) e.ws h k x = k e.w ih0
def Good (tb : MT) (t : DT) (R : Nat) : Prop := ∀ i, ∀ e ∈ tb.look i, e.r < R → FactOk t i e
theorem mx_eq {tb : MT} {t : DT} {R : Nat} (g : Good tb t R) (n : Nat) : ∀ m, mx tb R t n m = orc t (n + m)
  | 0 => rfl
  | m + 1 => by
    have ih := mx_eq g n m
    show wrapO tb R (Nat.succ m) (orcS t (mx tb R t n m)) = orc t (n + (m + 1))
    rw [ih]
    have e0 : orcS t (orc t (n + m)) = orc t (n + (m + 1)) := rfl
    rw [e0]
    funext i ws h k x
    unfold wrapO
    cases q : Nat.blt i 1000 with
    | true => rfl
    | false =>
      have hi : 1000 ≤ i := by
        cases z : decide (i < 1000) with
        | true =>
          have : Nat.blt i 1000 = true := Nat.ble_eq_true_of_le (of_decide_eq_true z)
          rw [q] at this; cases this
        | false => have := of_decide_eq_false z; omega
      show tb.getK (Nat.sub i 1000) (fun es => memK es R (Nat.succ m) ws (fun w => k w ih0) (orc t (n + (m + 1)) i ws h k x)) = _
      rw [MT.getK_eq]
      refine memK_eq fun e he hr hd hw => ?_
      subst hw
      have f := g (Nat.sub i 1000) e he hr (n + (m + 1) - e.d) h k x
      have e1 : n + (m + 1) - e.d + e.d = n + (m + 1) := by
        have : e.d ≤ m + 1 := hd
        omega
      have e2 : Nat.add (Nat.sub i 1000) 1000 = i := by
        show i - 1000 + 1000 = i
        omega
      rw [e1, e2] at f
      exact f.symm
def nthE : List (Nat × Ent) → Nat → Option (Nat × Ent)
  | [], _ => none
  | e :: _, 0 => some e
  | _ :: l, n + 1 => nthE l n
def atE (t : DT) : Option (Nat × Ent) → Prop
  | some q => FactOk t q.1 q.2
  | none => True
def Till (t : DT) (l : List (Nat × Ent)) (R : Nat) : Prop := ∀ j, j < R → atE t (nthE l j)
def ListP {α : Type} (P : α → Prop) : List α → Prop
  | [] => True
  | a :: l => P a ∧ ListP P l
theorem ListP.get {α : Type} {P : α → Prop} : ∀ {l : List α}, ListP P l → ∀ a ∈ l, P a
  | [], _, _, h => by cases h
  | b :: l, p, a, h => by
    cases h with
    | head => exact p.1
    | tail _ h => exact ListP.get p.2 a h
/-- each entry of the tree stands in the row at its rank -/
def MT.Fit (l : List (Nat × Ent)) (lo hi : Nat) : MT → Prop
  | .l es => match es with
    | [] => True
    | e :: es' => hi = lo + 1 ∧ ListP (fun e => nthE l e.r = some (lo, e)) (e :: es')
  | .n m a b => MT.Fit l lo m a ∧ MT.Fit l m hi b
theorem MT.Fit.get {l : List (Nat × Ent)} : ∀ {t : MT} {lo hi : Nat}, MT.Fit l lo hi t → ∀ i, lo ≤ i → i < hi → ∀ e ∈ t.look i, nthE l e.r = some (i, e)
  | .l es, lo, hi, f, i, h1, h2, e, he => by
    cases es with
    | nil => cases he
    | cons e' es' =>
      obtain ⟨h3, h4⟩ := f
      have : i = lo := by omega
      subst this
      exact h4.get e he
  | .n m a b, lo, hi, f, i, h1, h2, e, he => by
    have he' : e ∈ cond (Nat.blt i m) (a.look i) (b.look i) := he
    cases q : Nat.blt i m with
    | true => rw [q] at he'; exact f.1.get i h1 (Nat.le_of_ble_eq_true q) e he'
    | false =>
      rw [q] at he'
      refine f.2.get i ?_ h2 e he'
      cases z : decide (i < m) with
      | true =>
        have : Nat.blt i m = true := Nat.ble_eq_true_of_le (of_decide_eq_true z)
        rw [q] at this; cases this
      | false => have := of_decide_eq_false z; omega
theorem good_of {a : MT} {t : DT} {l : List (Nat × Ent)} {R hi : Nat} (f : MT.Fit l 0 hi a) (g : Till t l R) : Good (.n hi a (.l [])) t R := fun i e he hr => by
  have he' : e ∈ cond (Nat.blt i hi) (a.look i) [] := he
  cases q : Nat.blt i hi with
  | true =>
    rw [q] at he'
    have q' := f.get i (Nat.zero_le _) (Nat.le_of_ble_eq_true q) e he'
    have z := g e.r hr
    rw [q'] at z
    exact z
  | false => rw [q] at he'; cases he'
theorem till_0 {t : DT} {l : List (Nat × Ent)} : Till t l 0 := fun j h => by cases h
theorem till_s {tb : MT} {t : DT} {l : List (Nat × Ent)} {R i : Nat} {e : Ent} (g : Good tb t R) (T : Till t l R) (q : nthE l R = some (i, e)) (h : ∀ n h k x, mx tb R t n e.d (Nat.add i 1000) e.ws h k x = k e.w ih0) : Till t l (R + 1) := fun j hj => by
  by_cases z : j < R
  · exact T j z
  · have : j = R := by omega
    subst this
    rw [q]
    intro n h' k x
    rw [← mx_eq g]
    exact h n h' k x
end
end It

set_option Elab.async false
set_option linter.all false
set_option maxRecDepth 100000
set_option maxHeartbeats 1000000
/-! ItZ: what a law draws of its script. -/
namespace It
open PySem PySem.Spec PyProof.Rows L2
noncomputable section
/-! ### heaps told by their lists -/
inductive Shp : Nat → T → Prop
  | e {d : Nat} : Shp d .e
  | v {l : List W} : Shp 0 (.v l)
  | n {d : Nat} {l r : T} : Shp d l → Shp d r → Shp (d + 1) (.n l r)
theorem setK_run : ∀ (d : Nat) (t : T) (k : Nat) (x : List W) (c : T → Bool), Shp d t → k < 2 ^ d → ∃ t', T.setK d t k x c = c t' ∧ Shp d t' ∧ (∀ k', k' < 2 ^ d → T.look d t' k' = if k' = k then some x else T.look d t k')
  | 0, t, k, x, c, s, hk => ⟨.v x, rfl, .v, fun k' hk' => by
      have e : k' = k := by
        have h1 : k' < 1 := hk'
        have h2 : k < 1 := hk
        omega
      rw [if_pos e]; rfl⟩
  | d + 1, t, k, x, c, s, hk => by
    have hd : ∀ j, j < 2 ^ (d + 1) → Nat.div j 2 < 2 ^ d := fun j hj => by
      have e : Nat.div j 2 = j / 2 := rfl
      have e2 : 2 ^ (d + 1) = 2 ^ d * 2 := rfl
      rw [e]; omega
    have key : ∀ l r : T, Shp d l → Shp d r → ∃ t', (cond (Nat.beq (Nat.mod k 2) 0) (T.setK d l (Nat.div k 2) x (fun l' => c (.n l' r))) (T.setK d r (Nat.div k 2) x (fun r' => c (.n l r')))) = c t' ∧ Shp (d + 1) t' ∧ ∀ k', k' < 2 ^ (d + 1) → T.look (d + 1) t' k' = if k' = k then some x else T.look (d + 1) (.n l r) k' := fun l r sl sr => by
      cases hb : Nat.beq (Nat.mod k 2) 0 with
      | true =>
        obtain ⟨l', h1, h2, h3⟩ := setK_run d l (Nat.div k 2) x (fun l' => c (.n l' r)) sl (hd k hk)
        refine ⟨.n l' r, h1, .n h2 sr, fun k' hk' => ?_⟩
        show cond (Nat.beq (Nat.mod k' 2) 0) (T.look d l' (Nat.div k' 2)) (T.look d r (Nat.div k' 2)) = if k' = k then some x else cond (Nat.beq (Nat.mod k' 2) 0) (T.look d l (Nat.div k' 2)) (T.look d r (Nat.div k' 2))
        cases hb' : Nat.beq (Nat.mod k' 2) 0 with
        | true =>
          show T.look d l' (Nat.div k' 2) = if k' = k then some x else T.look d l (Nat.div k' 2)
          rw [h3 _ (hd k' hk')]
          by_cases z : k' = k
          · subst z; rw [if_pos rfl, if_pos rfl]
          · rw [if_neg z, if_neg (fun e => z (bit_of (hb'.trans hb.symm) e))]
        | false =>
          have z : k' ≠ k := fun e => by rw [e, hb] at hb'; cases hb'
          rw [if_neg z]; rfl
      | false =>
        obtain ⟨r', h1, h2, h3⟩ := setK_run d r (Nat.div k 2) x (fun r' => c (.n l r')) sr (hd k hk)
        refine ⟨.n l r', h1, .n sl h2, fun k' hk' => ?_⟩
        show cond (Nat.beq (Nat.mod k' 2) 0) (T.look d l (Nat.div k' 2)) (T.look d r' (Nat.div k' 2)) = if k' = k then some x else cond (Nat.beq (Nat.mod k' 2) 0) (T.look d l (Nat.div k' 2)) (T.look d r (Nat.div k' 2))
        cases hb' : Nat.beq (Nat.mod k' 2) 0 with
        | true =>
          have z : k' ≠ k := fun e => by rw [e, hb] at hb'; cases hb'
          rw [if_neg z]; rfl
        | false =>
          show T.look d r' (Nat.div k' 2) = if k' = k then some x else T.look d r (Nat.div k' 2)
          rw [h3 _ (hd k' hk')]
          by_cases z : k' = k
          · subst z; rw [if_pos rfl, if_pos rfl]
          · rw [if_neg z, if_neg (fun e => z (bit_of (hb'.trans hb.symm) e))]
    cases s with
    | e =>
      obtain ⟨t', h1, h2, h3⟩ := key .e .e .e .e
      refine ⟨t', h1, h2, fun k' hk' => ?_⟩
      rw [h3 k' hk']
      have emp : T.look (d + 1) (.n .e .e) k' = T.look (d + 1) .e k' := by
        show cond (Nat.beq (Nat.mod k' 2) 0) (T.look d .e (Nat.div k' 2)) (T.look d .e (Nat.div k' 2)) = none
        rw [T.look_e]
        cases Nat.beq (Nat.mod k' 2) 0 <;> rfl
      rw [emp]
    | n sl sr => exact key _ _ sl sr
theorem getK_run : ∀ (d : Nat) (t : T) (k : Nat) (L : List W) (c : List W → Bool), T.look d t k = some L → T.getK d t k c = c L
  | 0, t, k, L, c, h => by
    cases t with
    | v l => have h' : some l = some L := h; cases h'; rfl
    | e => cases (show (none : Option (List W)) = some L from h)
    | n _ _ => cases (show (none : Option (List W)) = some L from h)
  | d + 1, t, k, L, c, h => by
    cases t with
    | v l => cases (show (none : Option (List W)) = some L from h)
    | e => cases (show (none : Option (List W)) = some L from h)
    | n l r =>
      have h' : cond (Nat.beq (Nat.mod k 2) 0) (T.look d l (Nat.div k 2)) (T.look d r (Nat.div k 2)) = some L := h
      show cond (Nat.beq (Nat.mod k 2) 0) (T.getK d l (Nat.div k 2) c) (T.getK d r (Nat.div k 2) c) = c L
      cases hb : Nat.beq (Nat.mod k 2) 0 with
      | true => rw [hb] at h'; exact getK_run d l _ L c h'
      | false => rw [hb] at h'; exact getK_run d r _ L c h'
/-- the heap holds these lists, at 0, 1, .. -/
structure Hh (l : List (List W)) (h : IH) : Prop where
  n : h.n = l.length
  s : Shp depth h.t
  g : ∀ i L, l[i]? = some L → hlook h i = some L
theorem hG {l : List (List W)} {h : IH} (H : Hh l h) {i : Nat} {L : List W} (e : l[i]? = some L) {c : List W → Bool} (q : c L = true) : hget h i c = true := by
  have := H.g i L e
  cases h with
  | mk n t => rw [show hget (.mk n t) i c = T.getK depth t i c by unfold hget; rfl, getK_run depth t i L c this]; exact q
theorem hA {l : List (List W)} {h : IH} (H : Hh l h) (hc : l.length < cap) {L : List W} {c : W → IH → Bool} (q : ∀ h', Hh (l ++ [L]) h' → c (.ref l.length) h' = true) : halloc h L c = true := by
  have hn := H.n
  cases h with
  | mk n t =>
    have hn' : n = l.length := hn
    subst hn'
    unfold halloc
    show cond (Nat.blt l.length cap) (T.setK depth t l.length L fun t' => c (.ref l.length) (.mk (Nat.succ l.length) t')) false = true
    rw [show Nat.blt l.length cap = true from Nat.ble_eq_true_of_le hc]
    obtain ⟨t', h1, h2, h3⟩ := setK_run depth t l.length L (fun t' => c (.ref l.length) (.mk (Nat.succ l.length) t')) H.s (by rw [← cap_eq]; exact hc)
    rw [h1]
    show c (.ref l.length) (.mk (Nat.succ l.length) t') = true
    refine q _ ⟨by rw [List.length_append]; rfl, h2, fun i L' e => ?_⟩
    have hi : i < (l ++ [L]).length := (List.getElem?_eq_some_iff.mp e).1
    rw [List.length_append] at hi
    have hi2 : i < 2 ^ depth := by rw [← cap_eq]; have : ([L] : List (List W)).length = 1 := rfl; omega
    show T.look depth t' i = some L'
    rw [h3 i hi2]
    by_cases z : i = l.length
    · subst z
      rw [if_pos rfl]
      rw [List.getElem?_append_right (Nat.le_refl _), Nat.sub_self] at e
      exact e
    · rw [if_neg z]
      have : ([L] : List (List W)).length = 1 := rfl
      rw [List.getElem?_append_left (by omega)] at e
      exact H.g i L' e
theorem hS {l : List (List W)} {h : IH} (H : Hh l h) {i : Nat} (hi : i < l.length) (hc : l.length ≤ cap) {L : List W} {c : IH → Bool} (q : ∀ h', Hh (l.set i L) h' → c h' = true) : hset h i L c = true := by
  have hn := H.n
  cases h with
  | mk n t =>
    obtain ⟨t', h1, h2, h3⟩ := setK_run depth t i L (fun t' => c (.mk n t')) H.s (by rw [← cap_eq]; omega)
    have e0 : hset (.mk n t) i L c = T.setK depth t i L (fun t' => c (.mk n t')) := by unfold hset; rfl
    rw [e0, h1]
    refine q _ ⟨by rw [List.length_set]; exact hn, h2, fun j L' e => ?_⟩
    have hj : j < (l.set i L).length := (List.getElem?_eq_some_iff.mp e).1
    rw [List.length_set] at hj
    show T.look depth t' j = some L'
    rw [h3 j (by rw [← cap_eq]; omega)]
    by_cases z : j = i
    · subst z
      rw [if_pos rfl]
      rw [List.getElem?_set_self hi] at e
      exact e
    · rw [if_neg z]
      rw [List.getElem?_set_ne (fun q => z q.symm)] at e
      exact H.g j L' e
theorem hh0 : Hh [] ih0 := ⟨rfl, .e, fun i L e => by simp at e⟩
end
end It

set_option Elab.async false
set_option linter.all false
set_option maxRecDepth 100000
set_option maxHeartbeats 4000000
namespace It
open PySem PySem.Spec PyProof.Rows L2
noncomputable section
set_option exponentiation.threshold 3000


def cTake : S := (sSeq (sIf (tCmp cGt (eBin subscrK (eVar 0) (eInt (.ofNat (nat_lit 0)))) (eInt (.ofNat (nat_lit 0)))) (sSeq (sAsg (eBin (intsK modK) (eUn intK (eBin subscrK (eVar 0) (eInt (.ofNat (nat_lit 0))))) (eVar 1)) (gName 5)) (sSeq (sAsg (eBin (intsK fdivK) (eBin subscrK (eVar 0) (eInt (.ofNat (nat_lit 0)))) (eVar 1)) (gSub (eVar 0) (eInt (.ofNat (nat_lit 0))))) (sRet (eVar 5)))) sNil) (sSeq (sAsg (eBin addK (eBin subscrK (eVar 0) (eInt (.ofNat (nat_lit 2)))) (eInt (.ofNat (nat_lit 1)))) (gSub (eVar 0) (eInt (.ofNat (nat_lit 2))))) (sSeq (sAsg (eBin (intsK modK) (eUn intK (eBin mulK (eBin addK (eBin subscrK (eVar 0) (eInt (.ofNat (nat_lit 1)))) (eBin mulK (eInt (.ofNat (nat_lit 48271))) (eBin subscrK (eVar 0) (eInt (.ofNat (nat_lit 2)))))) (eBin addK (eInt (.ofNat (nat_lit 39373))) (eBin subscrK (eVar 0) (eInt (.ofNat (nat_lit 2))))))) (eInt (.ofNat (nat_lit 2147483647)))) (gName 2)) (sSeq (sAsg (eBin addK (eBin (intsK modK) (eUn intK (eVar 2)) (eInt (.ofNat (nat_lit 40009)))) (eInt (.ofNat (nat_lit 7)))) (gName 3)) (sSeq (sAsg (eBin (intsK modK) (eUn intK (eBin mulK (eBin addK (eBin addK (eVar 2) (eBin subscrK (eVar 0) (eInt (.ofNat (nat_lit 2))))) (eBin (intsK fdivK) (eBin subscrK (eVar 0) (eInt (.ofNat (nat_lit 1)))) (eInt (.ofNat (nat_lit 1000003))))) (eVar 3))) (eInt (.ofNat (nat_lit 2147483629)))) (gName 4)) (sRet (eBin (intsK modK) (eUn intK (eBin (intsK fdivK) (eBin (intsK modK) (eUn intK (eBin addK (eBin mulK (eVar 4) (eInt (.ofNat (nat_lit 48271)))) (eVar 2))) (eInt (.ofNat (nat_lit 2147483587)))) (eInt (.ofNat (nat_lit 64))))) (eVar 1))))))))
theorem mulOk_l {i j : Int} (h : i.natAbs < 18446744073709551616) : mulOk i j = true := by
  unfold mulOk
  rw [iabs_ok, blt_ok, show big64 = 18446744073709551616 from rfl, decide_eq_true h]; rfl
theorem mulOk_r {i j : Int} (h : j.natAbs < 18446744073709551616) : mulOk i j = true := by
  unfold mulOk
  rw [iabs_ok j, blt_ok j.natAbs, show big64 = 18446744073709551616 from rfl, decide_eq_true h]
  cases Nat.blt (iabs i) 18446744073709551616 <;> rfl
theorem no_tf {b : Bool} {p : Prop} (h : b = true) (h' : b = false) : p := by rw [h] at h'; cases h'
theorem fmod_in (x : Int) {n : Int} (hn : 0 < n) : 0 ≤ Int.fmod x n ∧ Int.fmod x n < n := ⟨Int.fmod_nonneg_of_pos x hn, Int.fmod_lt_of_pos x hn⟩
theorem take_ok (c : Orc) {l : List (List W)} {h : IH} (H : Hh l h) (hc : l.length ≤ cap) {r : Nat} {a b d n : Int} (hn : 0 < n) (hn2 : n < 1000) (hd : 0 ≤ d) (hd2 : d < 1000) (e : l[r]? = some [.int a, .int b, .int d]) {k x : KE}
    (q : ∀ (t a' d' : Int) h', 0 ≤ t → t < n → 0 ≤ d' → d' ≤ d + 1 → Hh (l.set r [.int a', .int b, .int d']) h' → k (.int t) h' = true) : runDef ⟨2, [none, none, none, none], cTake⟩ c [.ref r, .int n] h k x = true := by
  show cTake c [some (.ref r), some (.int n), none, none, none, none] h _ k _ _ _ = true
  have hr : r < l.length := (List.getElem?_eq_some_iff.mp e).1
  have n0 : ieq n 0 = false := by rw [ieq_ok]; exact decide_eq_false (by omega)
  have nb : Nat.blt (iabs n) bigD = true := by
    rw [blt_ok, iabs_ok]
    refine decide_eq_true (Nat.lt_trans (m := 1000) (by omega) ?_)
    show 1000 < Nat.pow 2 1000
    exact Nat.lt_of_lt_of_le (by decide : 1000 < 2 ^ 10) (Nat.pow_le_pow_right (by decide) (by decide))
  conv => lhs; whnf
  refine hG H e ?_
  conv => lhs; whnf
  split
  · conv => lhs; whnf
    refine hG H e ?_
    conv => lhs; whnf
    split
    · rename_i hq; exact no_tf hq n0
    conv => lhs; whnf
    refine hG H e ?_
    conv => lhs; whnf
    split
    · rename_i hq; exact no_tf hq n0
    conv => lhs; whnf
    split
    rotate_left
    · rename_i hq; exact no_tf nb hq
    conv => lhs; whnf
    refine hG H e ?_
    conv => lhs; whnf
    refine hS H hr hc fun h' H' => ?_
    conv => lhs; whnf
    exact q _ _ _ _ (fmod_in a hn).1 (fmod_in a hn).2 hd (by omega) H'
  · conv => lhs; whnf
    refine hG H e ?_
    conv => lhs; whnf
    refine hG H e ?_
    conv => lhs; whnf
    refine hS H hr hc fun h' H' => ?_
    have e' := List.getElem?_set_self (a := [W.int a, .int b, .int (Int.add d (.ofNat 1))]) hr
    conv => lhs; whnf
    refine hG H' e' ?_
    conv => lhs; whnf
    refine hG H' e' ?_
    conv => lhs; whnf
    split
    rotate_left
    · rename_i hq; exact no_tf (mulOk_l (by decide +kernel)) hq
    conv => lhs; whnf
    refine hG H' e' ?_
    conv => lhs; whnf
    have hd3 : Int.add d (.ofNat 1) = d + 1 := rfl
    split
    rotate_left
    · rename_i hq
      refine no_tf (mulOk_r ?_) hq
      have : Int.add (.ofNat 39373) (Int.add d (.ofNat 1)) = 39373 + (d + 1) := rfl
      rw [this]; omega
    conv => lhs; whnf
    refine hG H' e' ?_
    conv => lhs; whnf
    refine hG H' e' ?_
    conv => lhs; whnf
    split
    rotate_left
    · rename_i hq
      refine no_tf (mulOk_r ?_) hq
      generalize hz : Int.fmod _ (.ofNat 40009) = z
      have hz2 : 0 ≤ z ∧ z < 40009 := by rw [← hz]; exact fmod_in _ (by decide +kernel)
      have : Int.add z (.ofNat 7) = z + 7 := rfl
      rw [this]; omega
    conv => lhs; whnf
    split
    rotate_left
    · rename_i hq; exact no_tf (mulOk_r (by decide +kernel)) hq
    conv => lhs; whnf
    split
    · rename_i hq; exact no_tf hq n0
    conv => lhs; whnf
    exact q _ _ _ _ (fmod_in _ hn).1 (fmod_in _ hn).2 (by rw [hd3]; omega) (by rw [hd3]; omega) H'
end
noncomputable section

def cBox (z : Nat) : S := (sSeq (sAsg (eIf (tCmp cLt (eVar 1) (eUn lenK (eVar 0))) (eBin subscrK (eVar 0) (eVar 1)) (eInt (.ofNat (nat_lit 0)))) (gName 2)) (sRet (eLay (asCons (eBin mulK (eUn absK (eVar 2)) (eUn intK (eTst (tCmp cGe (eUn absK (eVar 2)) (eBin (intsK powK) (eInt (.ofNat (nat_lit 10))) (eInt (.ofNat (nat_lit 18)))))))) (asCons (eBin addK (eBin addK (eBin (intsK modK) (eUn intK (eVar 2)) (eInt (.ofNat (nat_lit 2305843009213693951)))) (eBin mulK (eInt (.ofNat (nat_lit 39373))) (eVar 1))) (eInt (.ofNat z))) (asCons (eInt (.ofNat (nat_lit 0))) asNil))))))
theorem b2i_small (p : Bool) : (b2i p).natAbs < 18446744073709551616 := by cases p <;> decide
theorem box_ok (c : Orc) (z : Nat) {l : List (List W)} {h : IH} (H : Hh l h) (hc : l.length < cap) {r : Nat} {v : Int} (e : l[r]? = some [.int v]) {k x : KE}
    (q : ∀ (a b : Int) h', Hh (l ++ [[.int a, .int b, .int 0]]) h' → k (.ref l.length) h' = true) : runDef ⟨2, [none], cBox z⟩ c [.ref r, .int (.ofNat 0)] h k x = true := by
  show cBox z c [some (.ref r), some (.int (.ofNat 0)), none] h _ k _ _ _ = true
  conv => lhs; whnf
  refine hG H e ?_
  conv => lhs; whnf
  refine hG H e ?_
  conv => lhs; whnf
  split
  rotate_left
  · rename_i hq; exact no_tf (mulOk_r (b2i_small _)) hq
  conv => lhs; whnf
  split
  rotate_left
  · rename_i hq; exact no_tf (mulOk_l (by decide +kernel)) hq
  conv => lhs; whnf
  refine hA H hc fun h' H' => ?_
  exact q _ _ h' H'
end
noncomputable section

def bCells : S := (sSeq (sAsg (eBin (intsK modK) (eUn intK (eVar 3)) (eVar 1)) (gName 5)) (sAsg (eBin addK (eBin subscrK (eVar 2) (eVar 5)) (eBin mulK (eVar 4) (eBin addK (eVar 3) (eInt (.ofNat (nat_lit 2)))))) (gSub (eVar 2) (eVar 5))))
def gCells : G := gTup 2 (gCons (gName 3) (gCons (gName 4) gNil))
def cCells : S := (sSeq (sAsg (eOrV (eLay (sItems (eSlice (eVar 0) oNone (oSome (eVar 1))))) (eLay (asCons (eInt (.ofNat (nat_lit 0))) asNil))) (gName 2)) (sSeq (sFor (iEnum (eSlice (eVar 0) (oSome (eVar 1)) (oSome (eInt (.ofNat (nat_lit 63)))))) gCells bCells) (sRet (eVar 2))))
theorem dropN_eq (j : Nat) : ∀ l : List W, dropN j l = l.drop j := by
  unfold dropN
  induction j with
  | zero => intro l; rfl
  | succ j ih =>
    intro l
    cases l with
    | nil => rfl
    | cons x l => exact ih l
theorem for_step (n : Nat) (g : G) (b : S) (c : Orc) (nx : KS) (rt : KE) (ex : Loc → KE) (s : Src) (l : Loc) (h : IH) : forLoop (n + 1) g b c nx rt ex s l h = nextK s h (nx l h) (fun w s' => g c w l h (fun l1 h1 => b c l1 h1 (forLoop n g b c nx rt ex s') rt nx (forLoop n g b c nx rt ex s') ex) ex) := by
  unfold forLoop; rfl
theorem loop_ok (c : Orc) {sv : W} {rc rM : Nat} (hcm : rc ≠ rM) {ms : List Int} (hms : ms.length ≤ 63) {nx : KS} {rt : KE} {ex : Loc → KE} : ∀ (fu j : Nat) (i cur : Int) (l3 l4 l5 : Option W) {l : List (List W)} {h : IH}, Hh l h → l.length ≤ cap → l[rM]? = some (ms.map W.int) → l[rc]? = some [.int cur] → 0 ≤ i → i = j → j ≤ ms.length → ms.length - j < fu →
    (∀ (cur' : Int) l' h' m3 m4 m5, Hh l' h' → l'.length = l.length → l'[rc]? = some [.int cur'] → nx [some sv, some (.int (.ofNat 1)), some (.ref rc), m3, m4, m5] h' = true) →
    forLoop fu gCells bCells c nx rt ex (.enum i (.lst rM j)) [some sv, some (.int (.ofNat 1)), some (.ref rc), l3, l4, l5] h = true
  | 0, j, i, cur, l3, l4, l5, l, h, H, hc, hM, hC, h0, hij, hj, hf, q => by omega
  | fu + 1, j, i, cur, l3, l4, l5, l, h, H, hc, hM, hC, h0, hij, hj, hf, q => by
    rw [for_step]
    have hrc : rc < l.length := (List.getElem?_eq_some_iff.mp hC).1
    conv => lhs; whnf
    refine hG H hM ?_
    by_cases z : j < ms.length
    · have hd : dropN j (ms.map W.int) = .int ms[j] :: (ms.map W.int).drop (j + 1) := by
        rw [dropN_eq, List.drop_eq_getElem_cons (by rw [List.length_map]; exact z), List.getElem_map]
      conv => lhs; whnf
      rw [hd]
      conv => lhs; whnf
      have hm : Int.fmod i (.ofNat 1) = .ofNat 0 := Int.fmod_one i
      rw [hm]
      refine hG H hC ?_
      conv => lhs; whnf
      split
      rotate_left
      · rename_i hq
        refine no_tf (mulOk_r ?_) hq
        have : Int.add i (.ofNat 2) = i + 2 := rfl
        rw [this]; omega
      conv => lhs; whnf
      refine hG H hC ?_
      conv => lhs; whnf
      refine hS H hrc hc fun h' H' => ?_
      refine loop_ok c hcm hms fu (j + 1) (i + 1) _ _ _ _ H' (by rw [List.length_set]; exact hc) ?_ (List.getElem?_set_self hrc) (by omega) (by omega) (by omega) (by omega) fun cur' l' h' m3 m4 m5 a1 a2 a3 => q cur' l' h' m3 m4 m5 a1 (by rw [a2, List.length_set]) a3
      rw [List.getElem?_set_ne hcm]; exact hM
    · have hd : dropN j (ms.map W.int) = [] := by
        rw [dropN_eq, List.drop_eq_nil_of_le (by rw [List.length_map]; omega)]
      conv => lhs; whnf
      rw [hd]
      exact q cur l h l3 l4 l5 H rfl hC
theorem takeN_eq (j : Nat) : ∀ l : List W, takeN j l = l.take j := by
  unfold takeN
  induction j with
  | zero => intro l; cases l <;> rfl
  | succ j ih =>
    intro l
    cases l with
    | nil => rfl
    | cons x l => exact congrArg (List.cons x) (ih l)
theorem cut1 (L : List Int) : cutL none (some (.ofNat 1)) (L.map W.int) = (L.take 1).map W.int := by
  show takeN (sliceN (.ofNat 1) (lenW (L.map W.int))) (L.map W.int) = _
  rw [takeN_eq, lenW_ok]
  cases L with
  | nil => rfl
  | cons v r => rfl
theorem cut2 (L : List Int) : ∃ ms : List Int, cutL (some (.ofNat 1)) (some (.ofNat 63)) (L.map W.int) = ms.map W.int ∧ ms.length ≤ L.length := by
  refine ⟨(L.take (sliceN (.ofNat 63) (lenW (L.map W.int)))).drop (sliceN (.ofNat 1) (lenW (L.map W.int))), ?_, ?_⟩
  · show dropN _ (takeN _ _) = _
    rw [dropN_eq, takeN_eq, List.map_drop, List.map_take]
  · rw [List.length_drop, List.length_take]; omega
theorem cells_ok (c : Orc) {sv : W} {L : List Int} (hL : L.length ≤ 63) {l0 : List (List W)} {h : IH} (H : Hh l0 h) (hb : l0.length + 10 < cap)
    (cut : ∀ (l : List (List W)) (h : IH) (lo hi : Option Int) (k : KE), Hh (l0 ++ l) h → l.length < 8 → (∀ h', Hh (l0 ++ l ++ [cutL lo hi (L.map W.int)]) h' → k (.ref (l0 ++ l).length) h' = true) → cutK sv lo hi h k = true) {k x : KE}
    (q : ∀ (v : Int) (r : Nat) (l' : List (List W)) (h' : IH), Hh l' h' → l'.length ≤ l0.length + 6 → l'[r]? = some [.int v] → k (.ref r) h' = true) : runDef ⟨2, [none, none, none, none], cCells⟩ c [sv, .int (.ofNat 1)] h k x = true := by
  show cCells c [some sv, some (.int (.ofNat 1)), none, none, none, none] h _ k _ _ _ = true
  obtain ⟨ms, hm1, hm2⟩ := cut2 L
  have fin : ∀ (l : List (List W)) (h' : IH) (rc : Nat) (v : Int), Hh (l0 ++ l) h' → l.length < 5 → (l0 ++ l)[rc]? = some [.int v] → cutK sv (some (.ofNat 1)) (some (.ofNat 63)) h' (fun w h1 => srcK w fun s => forLoop fuel gCells bCells c (fun l1 h2 => sRet (eVar 2) c l1 h2 (fun _ h3 => k .non h3) k (fun _ _ => false) (fun _ _ => false) (fun _ => x)) k (fun _ => x) (.enum 0 s) [some sv, some (.int (.ofNat 1)), some (.ref rc), none, none, none] h1) = true := fun l h' rc v H' hl hv => by
    refine cut l h' _ _ _ H' (by omega) fun h1 H1 => ?_
    rw [hm1] at H1
    have hlen : (l0 ++ l ++ [ms.map W.int]).length = l0.length + l.length + 1 := by rw [List.length_append, List.length_append]; rfl
    have hrc : rc < (l0 ++ l).length := (List.getElem?_eq_some_iff.mp hv).1
    conv => lhs; whnf
    refine loop_ok c (rc := rc) (rM := (l0 ++ l).length) (by omega) (ms := ms) (by omega) fuel 0 0 v none none none H1 (by rw [hlen]; omega) ?_ ?_ (by omega) rfl (Nat.zero_le _) (by show _ < 1000000; omega) fun cur' l' h2 m3 m4 m5 a1 a2 a3 => ?_
    · rw [List.getElem?_append_right (Nat.le_refl _), Nat.sub_self]; rfl
    · rw [List.getElem?_append_left hrc]; exact hv
    · conv => lhs; whnf
      exact q cur' rc l' h2 a1 (by rw [a2, hlen]; omega) a3
  have ap : ∀ (l : List (List W)) (z : List W), (l0 ++ l ++ [z]) = l0 ++ (l ++ [z]) := fun l z => List.append_assoc _ _ _
  have gl : ∀ (l : List (List W)) (z : List W), (l0 ++ (l ++ [z]))[(l0 ++ l).length]? = some z := fun l z => by
    rw [← ap, List.getElem?_append_right (Nat.le_refl _), Nat.sub_self]; rfl
  conv => lhs; whnf
  refine cut [] h _ _ _ (by rw [List.append_nil]; exact H) (by decide) fun h1 H1 => ?_
  rw [cut1, ap] at H1
  conv => lhs; whnf
  refine hG H1 (gl [] _) ?_
  conv => lhs; whnf
  refine hA H1 (by rw [List.length_append]; show l0.length + 1 < cap; omega) fun h2 H2 => ?_
  rw [ap] at H2
  conv => lhs; whnf
  refine hG H2 (gl _ _) ?_
  cases L with
  | nil =>
    conv => lhs; whnf
    refine hA H2 (by rw [List.length_append]; show l0.length + 2 < cap; omega) fun h3 H3 => ?_
    rw [ap] at H3
    conv => lhs; whnf
    exact fin _ h3 _ 0 H3 (by show 3 < 5; decide) (gl _ _)
  | cons v r =>
    conv => lhs; whnf
    exact fin _ h2 _ v H2 (by show 2 < 5; decide) (gl _ _)
end
end It

set_option Elab.async false
set_option linter.all false
set_option maxRecDepth 100000
set_option maxHeartbeats 1000000
/-! ItZb: a law that draws. -/
namespace It
open PySem PySem.Spec PyProof.Rows L2
noncomputable section
theorem ints_rvs {K : PySem.W.Frag} {m : Mp} {H : Hp} : ∀ is : List Int, RVs K m H (is.map W.int) (is.map V.int)
  | [] => .nil
  | i :: is => .cons (.int i) (ints_rvs is)
/-- how the script stands: as a list of the evaluator's, or as one that no one writes -/
structure Scr (L : List Int) (sv : W) (h : IH) : Prop where
  ex : ∃ l0, Hh l0 h ∧ l0.length + 10 < cap ∧ ∀ (l : List (List W)) (h : IH) (lo hi : Option Int) (k : KE), Hh (l0 ++ l) h → l.length < 8 → (∀ h', Hh (l0 ++ l ++ [cutL lo hi (L.map W.int)]) h' → k (.ref (l0 ++ l).length) h' = true) → cutK sv lo hi h k = true
theorem scr_fl (L : List Int) : Scr L (.fl (L.map W.int)) ih0 := ⟨[], hh0, by decide, fun l h lo hi k H hl q => by
  have e : cutK (.fl (L.map W.int)) lo hi h k = halloc h (cutL lo hi (L.map W.int)) k := by unfold cutK; rfl
  rw [e]
  exact hA H (by show l.length < cap; exact Nat.lt_trans hl (by decide)) q⟩
theorem scr_ref {L : List Int} {h0 : IH} (H0 : Hh [L.map W.int] h0) : Scr L (.ref 0) h0 := ⟨[L.map W.int], H0, (by show 1 + 10 < cap; decide), fun l h lo hi k H hl q => by
  have e : cutK (.ref 0) lo hi h k = hget h 0 fun l => halloc h (cutL lo hi l) k := by unfold cutK; rfl
  rw [e]
  refine hG H (L := L.map W.int) rfl ?_
  exact hA H (by rw [List.length_append]; show 1 + l.length < cap; exact Nat.lt_of_le_of_lt (by omega : 1 + l.length ≤ 8) (by decide)) q⟩
section
variable {P : Program} {w : World} {K : PySem.W.Frag} {mg : Str → Option Value} {cs : List (Addr × Addr)} {g : Cc} {sc : Sc} {B : Bag} {L : List DefI} {t : DT} {base : Heap}
theorem law_drawn (wf : WF P w K mg cs g sc B L t) (hK : K.In base) (hN : base.Ns mainGlobals mg) (hT : ∀ p ∈ cs, LamX.TabB base mg p.1 p.2) {D : DefI} (hnl : lamB D.x = false) {f : Addr} {fd : FuncData} {a : Str} (F : FunD K D.x D.x (defArgs D.st) (defBody D.st) (defScope D.st) [] [] f fd) (hs : FnScope D.N [a] (defScope D.st)) (n : Nat)
    (e : ∀ (ns : List Int) (sv : W) (h : IH), ns.length ≤ 63 → Scr ns sv h → bodyOf g sc D (orc t n) (some sv :: List.replicate (D.N.length - 1) none) h (fun _ _ => false) isT (fun _ _ => false) (fun _ _ => false) (fun _ => kno) = true)
    {sp : Sp} (len : ∀ vs H Q E, sp vs H Q E → vs.length = 1) (hsp : ∀ vs H Q E, sp vs H Q E → ∃ (b : Addr) (ns : List Int), vs = [V.ref b] ∧ ns.length ≤ 63 ∧ SqL K H b (ns.map V.int) ∧ NdefX.TabsN (tabsK K) H ∧ ∀ H', Q (.bl true) H') :
    FnOk P w K mg base (L2.CX P w) (n + 2) f fd [a] sp := by
  obtain ⟨oc, od, dV, kV, doc, pm, an, cdv, ct, osl, rfl, lk, hcd, _, _⟩ := F.ex
  refine fn_of lk hcd hs len fun A outer s H vs Q E hr q => ?_
  have ok := ctx_ok0 wf hK hN hT (fun i D h => snd_ok wf hK hN hT n i D h) hs (x := D.x) (f := f) (cdv := cdv) (A := A) (outer := outer) (s := s) (H := H) (E := E) (fun hb => by rw [hnl] at hb; cases hb) hr
  refine ⟨_, cSs_ok (fun st => cS_ok (rcN_ok 40) 30 ok st) (defBody D.st), ?_⟩
  obtain ⟨b, ns, rfl, hl, hS, q1, q2⟩ := hsp _ _ _ _ q
  have r0 : RepH K m0 ih0 H := rep00 q1
  have hNl : 0 < D.N.length := by
    have q := congrArg List.length hs.pre
    rw [List.length_take] at q
    have : ([a] : List Str).length = 1 := rfl
    omega
  have fin : ∀ (m : Mp) (sv : W) (h : IH), RepH K m h H → RV K m H sv (.ref b) → Scr ns sv h → tS K (B.at (orc t n)) (fun cls d _ H => E cls d H) (bodyOf g sc D) { nx := fun _ H' => Q .non H', rt := Q } (L2.start D.N [V.ref b]) H := fun m sv h rh rv S => by
    refine ⟨m, _, h, _, _, _, _, _, rh, ?_, e ns sv h hl S, ?_⟩
    · exact start_rep (ws := [sv]) (np := 1) (.cons rv .nil) rfl
    · exact {
        nx := fun _ _ _ _ _ _ _ _ q => Bool.noConfusion q
        rt := fun m' v w' h' H' x1 _ rv e3 => by
          cases isT_ok rv e3; exact q2 H'
        bk := fun _ _ _ _ _ _ _ _ q => Bool.noConfusion q
        ct := fun _ _ _ _ _ _ _ _ q => Bool.noConfusion q
        ex := fun _ _ _ _ _ _ _ _ _ _ _ _ q => Bool.noConfusion q }
  rcases hS with (hS | ⟨o, hS⟩) | hS
  · obtain ⟨t', h1, h2, h3⟩ := setK_run depth .e 0 (ns.map W.int) (fun _ => true) .e (by decide)
    have H0 : Hh [ns.map W.int] (.mk 1 t') := ⟨rfl, h2, fun i L' e => by
      have hi : i < 1 := (List.getElem?_eq_some_iff.mp e).1
      have : i = 0 := by omega
      subst this
      show T.look depth t' 0 = some L'
      rw [h3 0 (by decide), if_pos rfl]; exact e⟩
    refine fin (put m0 0 b) (.ref 0) (.mk 1 t') ?_ (.ref put_same) (scr_ref H0)
    exact r0.take (h' := .mk 1 t') (ws := ns.map W.int) hS (m0_no _) (by decide) rfl (fun k' hk' => by
      show T.look depth t' k' = if k' = 0 then some (ns.map W.int) else T.look depth .e k'
      exact h3 k' (by rw [← cap_eq]; exact hk')) (ints_rvs ns) fun t => RVs.put rfl t
  · exact fin m0 (.fl (ns.map W.int)) ih0 r0 (.fl (.inl ⟨o, hS⟩) (ints_rvs ns)) (scr_fl ns)
  · exact fin m0 (.fl (ns.map W.int)) ih0 r0 (.fl (.inr hS) (ints_rvs ns)) (scr_fl ns)
end

theorem draw1 {c c' : Orc} {iC iB iT z : Nat} (hC : ∀ ws h k x, c iC ws h k x = runDef ⟨2, [none, none, none, none], cCells⟩ c' ws h k x) (hB : ∀ ws h k x, c iB ws h k x = runDef ⟨2, [none], cBox z⟩ c' ws h k x) (hT : ∀ ws h k x, c iT ws h k x = runDef ⟨2, [none, none, none, none], cTake⟩ c' ws h k x)
    {L : List Int} (hL : L.length ≤ 63) {sv : W} {h : IH} (S : Scr L sv h) {l : Loc} {N : Int} (n0 : 0 < N) (n1 : N < 1000) {k x : KE} (q : ∀ (t : Int) h', 0 ≤ t → t < N → k (.int t) h' = true) :
    eCallG iT (asCons (eCallG iB (asCons (eCall iC (asCons (eVar 0) (asCons (eInt (.ofNat 1)) asNil))) (asCons (eInt (.ofNat 0)) asNil))) (asCons (eInt N) asNil)) c (some sv :: l) h k x = true := by
  obtain ⟨l0, H, hb, cut⟩ := S.ex
  show c iC [sv, .int (.ofNat 1)] h _ _ = true
  rw [hC]
  refine cells_ok c' hL H hb cut fun v r l' h' H' hl e => ?_
  show c iB [.ref r, .int (.ofNat 0)] h' _ _ = true
  rw [hB]
  refine box_ok c' z H' (by omega) e fun a b h2 H2 => ?_
  show c iT [.ref l'.length, .int N] h2 _ _ = true
  rw [hT]
  refine take_ok c' H2 (by rw [List.length_append]; show l'.length + 1 ≤ cap; omega) (d := 0) n0 n1 (by omega) (by omega) (by rw [List.getElem?_append_right (Nat.le_refl _), Nat.sub_self]; rfl) fun t a' d' h3 t0 t1 _ _ _ => q t h3 t0 t1
theorem draw_law {c c' : Orc} {iC iB iT z : Nat} (hC : ∀ ws h k x, c iC ws h k x = runDef ⟨2, [none, none, none, none], cCells⟩ c' ws h k x) (hB : ∀ ws h k x, c iB ws h k x = runDef ⟨2, [none], cBox z⟩ c' ws h k x) (hT : ∀ ws h k x, c iT ws h k x = runDef ⟨2, [none, none, none, none], cTake⟩ c' ws h k x)
    {L : List Int} (hL : L.length ≤ 63) {sv : W} {h : IH} (S : Scr L sv h) {l : Loc} {N : Int} (n0 : 0 < N) (n1 : N < 1000) {REST : It.S} {nx : KS} {rt : KE} {bk ct : KS} {ex : Loc → KE} (q : ∀ (t : Int) h', 0 ≤ t → t < N → REST c (some sv :: some (.int t) :: l) h' nx rt bk ct ex = true) :
    sSeq (sAsg (eCallG iT (asCons (eCallG iB (asCons (eCall iC (asCons (eVar 0) (asCons (eInt (.ofNat 1)) asNil))) (asCons (eInt (.ofNat 0)) asNil))) (asCons (eInt N) asNil))) (It.gName 1)) REST c (some sv :: none :: l) h nx rt bk ct ex = true := by
  show eCallG iT (asCons (eCallG iB (asCons (eCall iC (asCons (eVar 0) (asCons (eInt (.ofNat 1)) asNil))) (asCons (eInt (.ofNat 0)) asNil))) (asCons (eInt N) asNil)) c (some sv :: none :: l) h (fun w h1 => It.gName 1 c w (some sv :: none :: l) h1 (fun l1 h2 => REST c l1 h2 nx rt bk ct ex) (fun l2 => ex l2)) _ = true
  refine draw1 hC hB hT hL S n0 n1 fun t h' t0 t1 => ?_
  exact q t h' t0 t1
end
end It

set_option Elab.async false
set_option linter.all false
set_option maxRecDepth 100000
set_option maxHeartbeats 1000000
/-! ItZc: a law whose first statements draw of the script; the others run in a heap of their own. -/
namespace It
open PySem PySem.Spec PyProof.Rows L2
noncomputable section
set_option exponentiation.threshold 3000
def cleanW (o : Option W) : Option W := Option.casesOn o none fun w => cond (noref w) (some w) none
def clean (l : Loc) : Loc := List.rec [] (fun o _ r => cleanW o :: r) l
theorem clean_ok {K : PySem.W.Frag} {m : Mp} {H : Hp} : ∀ {l : Loc} {σ : L2.St}, RepL K m H l σ → RepL K m0 H (clean l) σ := by
  intro l σ r
  have key : ∀ (l : Loc), (clean l).length = l.length ∧ ∀ (i : Nat) (w : W), (clean l)[i]? = some (some w) → l[i]? = some (some w) ∧ noref w = true := by
    intro l
    induction l with
    | nil => exact ⟨rfl, fun i w e => by cases i <;> cases e⟩
    | cons o l ih =>
      refine ⟨congrArg Nat.succ ih.1, fun i w e => ?_⟩
      cases i with
      | zero =>
        have e' : some (cleanW o) = some (some w) := e
        cases o with
        | none => cases e'
        | some w' =>
          cases z : noref w' with
          | true =>
            rw [show cleanW (some w') = cond (noref w') (some w') none from rfl, z] at e'
            cases e'
            exact ⟨rfl, z⟩
          | false =>
            rw [show cleanW (some w') = cond (noref w') (some w') none from rfl, z] at e'
            cases e'
      | succ i => exact ih.2 i w e
  refine ⟨by rw [(key l).1]; exact r.1, fun i w e => ?_⟩
  obtain ⟨e1, e2⟩ := (key l).2 i w e
  obtain ⟨v, e3, e4⟩ := r.2 i w e1
  exact ⟨v, e3, RV.noref e4 e2⟩
/-- statements ahead of others -/
def preS (f : Stmt → S) : List Stmt → S
  | [] => sNil
  | a :: l => sSeq (f a) (preS f l)
def preO (f : Stmt → Option S) : List Stmt → Option S
  | [] => some sNil
  | a :: l => (f a).bind fun x => (preO f l).bind fun y => some (sSeq x y)
theorem preO_eq {f : Stmt → S} {fO : Stmt → Option S} (h : ∀ a, fO a = some (f a)) : ∀ l, preO fO l = some (preS f l)
  | [] => rfl
  | a :: l => by
    show ((fO a).bind fun x => (preO fO l).bind fun y => some (sSeq x y)) = _
    rw [h a, preO_eq h l]; rfl
def fOf (g : Cc) (sc : Sc) (D : DefI) : Stmt → S := cS (rcN 40) (ccOf g D) sc 30
def fO (g : Cc) (sc : Sc) (D : DefI) : Stmt → Option S := cSO (rcN 40) (ccOf g D) sc 30
theorem fO_eq (g : Cc) (sc : Sc) (D : DefI) : ∀ a, fO g sc D a = some (fOf g sc D a) := cSO_eq 30
def tPre (tf : Stmt → TS) (T : TS) : List Stmt → TS
  | [] => T
  | a :: l => tSeq (tf a) (tPre tf T l)
section
variable {X : Cx} {B : Bag} {Wx : WX}
theorem pre_ps {tf : Stmt → TS} {post : List Stmt} {T : TS} (hf : ∀ st, PS X st (tf st)) (hT : PSs X post T) : ∀ l, PSs X (l ++ post) (tPre tf T l)
  | [] => hT
  | a :: l => pss_cons (hf a) (pre_ps hf hT l)
theorem tS_nx {K : PySem.W.Frag} {s : S} {D : Ends} {N N' : L2.St → Hp → Prop} {σ : L2.St} {H : Hp} (h : ∀ σ H, N σ H → N' σ H) (q : tS K B Wx s { D with nx := N } σ H) : tS K B Wx s { D with nx := N' } σ H := by
  obtain ⟨m, l, hh, nx, rt, bk, ct, ex, rh, rl, e, r⟩ := q
  exact ⟨m, l, hh, nx, rt, bk, ct, ex, rh, rl, e, ⟨fun m' l' σ' h' H' x1 r1 rl1 e1 => h _ _ (r.nx m' l' σ' h' H' x1 r1 rl1 e1), r.rt, r.bk, r.ct, r.ex⟩⟩
theorem pre_imp {K : PySem.W.Frag} {f : Stmt → S} {T : TS} : ∀ (l : List Stmt) (D : Ends) (σ : L2.St) (H : Hp), tS K B Wx (preS f l) { D with nx := T D } σ H → tPre (fun st => tS K B Wx (f st)) T l D σ H
  | [], D, σ, H, q => by
    obtain ⟨m, l, hh, nx, rt, bk, ct, ex, rh, rl, e, r⟩ := q
    exact r.nx m l σ hh H .refl rh rl e
  | a :: l, D, σ, H, q => by
    obtain ⟨m, l0, h, nx, rt, bk, ct, ex, rh, rl, e, r⟩ := q
    refine ⟨m, l0, h, _, rt, bk, ct, ex, rh, rl, e, ⟨fun m1 l1 σ1 h1 H1 x1 r1 rl1 e1 => ?_, r.rt, r.bk, r.ct, r.ex⟩⟩
    exact pre_imp l D σ1 H1 ⟨m1, l1, h1, nx, rt, bk, ct, ex, r1, rl1, e1, r.mono x1⟩
end
section
variable {P : Program} {w : World} {K : PySem.W.Frag} {mg : Str → Option Value} {cs : List (Addr × Addr)} {g : Cc} {sc : Sc} {B : Bag} {L : List DefI} {t : DT} {base : Heap}
theorem law_split (wf : WF P w K mg cs g sc B L t) (hK : K.In base) (hN : base.Ns mainGlobals mg) (hT : ∀ p ∈ cs, LamX.TabB base mg p.1 p.2) {D : DefI} (hnl : lamB D.x = false) {f : Addr} {fd : FuncData} {a : Str} (F : FunD K D.x D.x (defArgs D.st) (defBody D.st) (defScope D.st) [] [] f fd) (hs : FnScope D.N [a] (defScope D.st)) (n : Nat) (pre post : List Stmt) (hp : defBody D.st = pre ++ post)
    (e : ∀ (ns : List Int) (sv : W) (h : IH), ns.length ≤ 63 → Scr ns sv h → preS (fOf g sc D) pre (orc t n) (some sv :: List.replicate (D.N.length - 1) none) h (fun l _ => cSs (fOf g sc D) post (orc t n) (clean l) ih0 (fun _ _ => false) isT (fun _ _ => false) (fun _ _ => false) (fun _ => kno)) isT (fun _ _ => false) (fun _ _ => false) (fun _ => kno) = true)
    {sp : Sp} (len : ∀ vs H Q E, sp vs H Q E → vs.length = 1) (hsp : ∀ vs H Q E, sp vs H Q E → ∃ (b : Addr) (ns : List Int), vs = [V.ref b] ∧ ns.length ≤ 63 ∧ SqL K H b (ns.map V.int) ∧ NdefX.TabsN (tabsK K) H ∧ ∀ H', Q (.bl true) H') :
    FnOk P w K mg base (L2.CX P w) (n + 2) f fd [a] sp := by
  obtain ⟨oc, od, dV, kV, doc, pm, an, cdv, ct, osl, rfl, lk, hcd, _, _⟩ := F.ex
  refine fn_of lk hcd hs len fun A outer s H vs Q E hr q => ?_
  have ok := ctx_ok0 wf hK hN hT (fun i D h => snd_ok wf hK hN hT n i D h) hs (x := D.x) (f := f) (cdv := cdv) (A := A) (outer := outer) (s := s) (H := H) (E := E) (fun hb => by rw [hnl] at hb; cases hb) hr
  have hf := fun st => cS_ok (rcN_ok 40) 30 ok st
  refine ⟨_, hp ▸ pre_ps hf (cSs_ok hf post) pre, ?_⟩
  obtain ⟨b, ns, rfl, hl, hS, q1, q2⟩ := hsp _ _ _ _ q
  have r0 : RepH K m0 ih0 H := rep00 q1
  have hNl : 0 < D.N.length := by
    have q := congrArg List.length hs.pre
    rw [List.length_take] at q
    have : ([a] : List Str).length = 1 := rfl
    omega
  have fin : ∀ (m : Mp) (sv : W) (h : IH), RepH K m h H → RV K m H sv (.ref b) → Scr ns sv h → tPre (fun st => tS K (B.at (orc t n)) (fun cls d _ H => E cls d H) (fOf g sc D st)) (tS K (B.at (orc t n)) (fun cls d _ H => E cls d H) (cSs (fOf g sc D) post)) pre { nx := fun _ H' => Q .non H', rt := Q } (L2.start D.N [V.ref b]) H := fun m sv h rh rv S => by
    refine pre_imp (Wx := fun cls d _ H => E cls d H) pre { nx := fun _ H' => Q .non H', rt := Q } _ H ⟨m, _, h, _, _, _, _, _, rh, ?_, e ns sv h hl S, ?_⟩
    · exact start_rep (ws := [sv]) (np := 1) (.cons rv .nil) rfl
    · exact {
        nx := fun m1 l1 σ1 h1 H1 x1 r1 rl1 e1 => ⟨m0, _, ih0, _, _, _, _, _, rep0 r1, clean_ok rl1, e1, {
          nx := fun _ _ _ _ _ _ _ _ q => Bool.noConfusion q
          rt := fun m' v w' h' H' x1 _ rv e3 => by
            cases isT_ok rv e3; exact q2 H'
          bk := fun _ _ _ _ _ _ _ _ q => Bool.noConfusion q
          ct := fun _ _ _ _ _ _ _ _ q => Bool.noConfusion q
          ex := fun _ _ _ _ _ _ _ _ _ _ _ _ q => Bool.noConfusion q }⟩
        rt := fun m' v w' h' H' x1 _ rv e3 => by
          cases isT_ok rv e3; exact q2 H'
        bk := fun _ _ _ _ _ _ _ _ q => Bool.noConfusion q
        ct := fun _ _ _ _ _ _ _ _ q => Bool.noConfusion q
        ex := fun _ _ _ _ _ _ _ _ _ _ _ _ q => Bool.noConfusion q }
  rcases hS with (hS | ⟨o, hS⟩) | hS
  · obtain ⟨t', h1, h2, h3⟩ := setK_run depth .e 0 (ns.map W.int) (fun _ => true) .e (by decide)
    have H0 : Hh [ns.map W.int] (.mk 1 t') := ⟨rfl, h2, fun i L' e => by
      have hi : i < 1 := (List.getElem?_eq_some_iff.mp e).1
      have : i = 0 := by omega
      subst this
      show T.look depth t' 0 = some L'
      rw [h3 0 (by decide), if_pos rfl]; exact e⟩
    refine fin (put m0 0 b) (.ref 0) (.mk 1 t') ?_ (.ref put_same) (scr_ref H0)
    exact r0.take (h' := .mk 1 t') (ws := ns.map W.int) hS (m0_no _) (by decide) rfl (fun k' hk' => by
      show T.look depth t' k' = if k' = 0 then some (ns.map W.int) else T.look depth .e k'
      exact h3 k' (by rw [← cap_eq]; exact hk')) (ints_rvs ns) fun t => RVs.put rfl t
  · exact fin m0 (.fl (ns.map W.int)) ih0 r0 (.fl (.inl ⟨o, hS⟩) (ints_rvs ns)) (scr_fl ns)
  · exact fin m0 (.fl (ns.map W.int)) ih0 r0 (.fl (.inr hS) (ints_rvs ns)) (scr_fl ns)
end
/-! ### draws -/
/-- int(cells(script, 1)[0]) % N -/
theorem cell_mod {c c' : Orc} {iC : Nat} (hC : ∀ ws h k x, c iC ws h k x = runDef ⟨2, [none, none, none, none], cCells⟩ c' ws h k x) {L : List Int} (hL : L.length ≤ 63) {sv : W} {h : IH} (S : Scr L sv h) {l : Loc} {N : Int} (n0 : 0 < N) (n1 : N < 1000) {k x : KE} (q : ∀ (t : Int) h', 0 ≤ t → t < N → k (.int t) h' = true) :
    eBin (intsK modK) (eUn intK (eBin subscrK (eCall iC (asCons (eVar 0) (asCons (eInt (.ofNat 1)) asNil))) (eInt (.ofNat 0)))) (eInt N) c (some sv :: l) h k x = true := by
  obtain ⟨l0, H, hb, cut⟩ := S.ex
  show c iC [sv, .int (.ofNat 1)] h _ _ = true
  rw [hC]
  refine cells_ok c' hL H hb cut fun v r l' h' H' hl e => ?_
  have n0' : ieq N 0 = false := by rw [ieq_ok]; exact decide_eq_false (by omega)
  conv => lhs; whnf
  refine hG H' e ?_
  conv => lhs; whnf
  split
  · rename_i hq; exact no_tf hq n0'
  exact q _ _ (fmod_in v n0).1 (fmod_in v n0).2
/-- box(cells(script, 1), 0) -/
theorem box_draw {c c' : Orc} {iC iB z : Nat} (hC : ∀ ws h k x, c iC ws h k x = runDef ⟨2, [none, none, none, none], cCells⟩ c' ws h k x) (hB : ∀ ws h k x, c iB ws h k x = runDef ⟨2, [none], cBox z⟩ c' ws h k x)
    {L : List Int} (hL : L.length ≤ 63) {sv : W} {h : IH} (S : Scr L sv h) {l : Loc} {k x : KE} (q : ∀ (a b : Int) (l' : List (List W)) (h' : IH), Hh (l' ++ [[.int a, .int b, .int 0]]) h' → l'.length + 4 < cap → k (.ref l'.length) h' = true) :
    eCallG iB (asCons (eCall iC (asCons (eVar 0) (asCons (eInt (.ofNat 1)) asNil))) (asCons (eInt (.ofNat 0)) asNil)) c (some sv :: l) h k x = true := by
  obtain ⟨l0, H, hb, cut⟩ := S.ex
  show c iC [sv, .int (.ofNat 1)] h _ _ = true
  rw [hC]
  refine cells_ok c' hL H hb cut fun v r l' h' H' hl e => ?_
  show c iB [.ref r, .int (.ofNat 0)] h' _ _ = true
  rw [hB]
  exact box_ok c' z H' (by omega) e fun a b h2 H2 => q a b l' h2 H2 (by omega)
theorem cell_law {c c' : Orc} {iC : Nat} (hC : ∀ ws h k x, c iC ws h k x = runDef ⟨2, [none, none, none, none], cCells⟩ c' ws h k x) {L : List Int} (hL : L.length ≤ 63) {sv : W} {h : IH} (S : Scr L sv h) {l : Loc} {N : Int} (n0 : 0 < N) (n1 : N < 1000) {nx : KS} {rt : KE} {bk ct : KS} {ex : Loc → KE} (q : ∀ (t : Int) h', 0 ≤ t → t < N → nx (some sv :: some (.int t) :: l) h' = true) :
    sSeq (sAsg (eBin (intsK modK) (eUn intK (eBin subscrK (eCall iC (asCons (eVar 0) (asCons (eInt (.ofNat 1)) asNil))) (eInt (.ofNat 0)))) (eInt N)) (It.gName 1)) sNil c (some sv :: none :: l) h nx rt bk ct ex = true := by
  show eBin (intsK modK) (eUn intK (eBin subscrK (eCall iC (asCons (eVar 0) (asCons (eInt (.ofNat 1)) asNil))) (eInt (.ofNat 0)))) (eInt N) c (some sv :: none :: l) h (fun w h1 => It.gName 1 c w (some sv :: none :: l) h1 (fun l1 h2 => sNil c l1 h2 nx rt bk ct ex) (fun l2 => ex l2)) _ = true
  refine cell_mod hC hL S n0 n1 fun t h' t0 t1 => ?_
  exact q t h' t0 t1
/-- goods[take(tin, len(goods))] -/
def cOfX (iT : Nat) : S := sRet (eBin subscrK (eVar 1) (eCall iT (asCons (eVar 0) (asCons (eUn lenK (eVar 1)) asNil))))
end
end It

set_option Elab.async false
set_option linter.all false
set_option maxRecDepth 100000
set_option maxHeartbeats 1000000
/-! ItZd: one of a few, drawn. -/
namespace It
open PySem PySem.Spec PyProof.Rows L2
noncomputable section
set_option exponentiation.threshold 3000
def goodsS (gs : List Int) : Es := List.rec asNil (fun x _ ih => asCons (eInt x) ih) gs
theorem goods_run (c : Orc) (l : Loc) (h : IH) (x : KE) : ∀ (gs : List Int) (k : KL), goodsS gs c l h k x = k (gs.map W.int) h
  | [], k => rfl
  | g :: gs, k => by
    show goodsS gs c l h (fun ws h2 => k (W.int g :: ws) h2) x = _
    rw [goods_run c l h x gs]; rfl
theorem lay_goods (c : Orc) (l : Loc) (h : IH) (k x : KE) (gs : List Int) : eLay (goodsS gs) c l h k x = halloc h (gs.map W.int) k := goods_run c l h x gs _
theorem nthK_run : ∀ {n : Nat} {l : List W} {w : W} {c : W → Bool}, l[n]? = some w → nthK n l c = c w
  | 0, [], _, _, h => by cases h
  | 0, x :: _, _, _, h => by cases h; rfl
  | n + 1, [], _, _, h => by cases h
  | n + 1, x :: l, w, c, h => nthK_run (n := n) (l := l) h
/-- goods[take(tin, len(goods))], the box at r, the goods at g -/
theorem of_ok {c' c'' : Orc} {iT : Nat} (hT : ∀ ws h k x, c' iT ws h k x = runDef ⟨2, [none, none, none, none], cTake⟩ c'' ws h k x) {l : List (List W)} {h : IH} (H : Hh l h) (hc : l.length ≤ cap) {r g : Nat} {a b : Int} {gs : List Int} (g0 : 0 < gs.length) (g1 : gs.length < 1000)
    (er : l[r]? = some [.int a, .int b, .int 0]) (eg : l[g]? = some (gs.map W.int)) (ne : r ≠ g) {k x : KE} (q : ∀ (t : Int) h', t ∈ gs → k (.int t) h' = true) : runDef ⟨2, [], cOfX iT⟩ c' [.ref r, .ref g] h k x = true := by
  conv => lhs; whnf
  refine hG H eg ?_
  show c' iT [.ref r, .int (.ofNat (lenW (gs.map W.int)))] h _ _ = true
  rw [hT]
  have hl : lenW (gs.map W.int) = gs.length := by rw [lenW_ok, List.length_map]
  rw [hl]
  refine take_ok c'' H hc (n := (gs.length : Int)) (by omega) (by omega) (Int.le_refl 0) (by decide) er fun t a' d' h' t0 t1 d0 d1 H' => ?_
  obtain ⟨j, rfl⟩ := Int.eq_ofNat_of_zero_le t0
  have hj : j < gs.length := by omega
  have eg' : (l.set r [.int a', .int b, .int d'])[g]? = some (gs.map W.int) := by
    rw [List.getElem?_set_ne ne]; exact eg
  show subscrK (.ref g) (.int (.ofNat j)) h' k = true
  unfold subscrK
  refine hG H' eg' ?_
  show nthK j (gs.map W.int) (fun w => k w h') = true
  rw [nthK_run (w := W.int gs[j]) (by rw [List.getElem?_map, List.getElem?_eq_getElem hj]; rfl)]
  exact q _ h' (List.getElem_mem hj)
/-- tin = box(cells(script, 1), 0); x = of(tin, goods) -/
theorem of_law {c c' c'' : Orc} {iC iB iO iT z : Nat} (hC : ∀ ws h k x, c iC ws h k x = runDef ⟨2, [none, none, none, none], cCells⟩ c' ws h k x) (hB : ∀ ws h k x, c iB ws h k x = runDef ⟨2, [none], cBox z⟩ c' ws h k x) (hO : ∀ ws h k x, c iO ws h k x = runDef ⟨2, [], cOfX iT⟩ c' ws h k x) (hT : ∀ ws h k x, c' iT ws h k x = runDef ⟨2, [none, none, none, none], cTake⟩ c'' ws h k x)
    {L : List Int} (hL : L.length ≤ 63) {sv : W} {h : IH} (S : Scr L sv h) {l : Loc} {gs : List Int} (g0 : 0 < gs.length) (g1 : gs.length < 1000) {nx : KS} {rt : KE} {bk ct : KS} {ex : Loc → KE} (q : ∀ (r : Nat) (t : Int) h', t ∈ gs → nx (some sv :: some (.ref r) :: some (.int t) :: l) h' = true) :
    sSeq (sAsg (eCallG iB (asCons (eCall iC (asCons (eVar 0) (asCons (eInt (.ofNat 1)) asNil))) (asCons (eInt (.ofNat 0)) asNil))) (It.gName 1)) (sSeq (sAsg (eCallG iO (asCons (eVar 1) (asCons (eLay (goodsS gs)) asNil))) (It.gName 2)) sNil) c (some sv :: none :: none :: l) h nx rt bk ct ex = true := by
  show eCallG iB (asCons (eCall iC (asCons (eVar 0) (asCons (eInt (.ofNat 1)) asNil))) (asCons (eInt (.ofNat 0)) asNil)) c (some sv :: none :: none :: l) h (fun w h1 => sSeq (sAsg (eCallG iO (asCons (eVar 1) (asCons (eLay (goodsS gs)) asNil))) (It.gName 2)) sNil c (some sv :: some w :: none :: l) h1 nx rt bk ct ex) _ = true
  refine box_draw hC hB hL S fun a b l' h' H' hl => ?_
  show eLay (goodsS gs) c (some sv :: some (.ref l'.length) :: none :: l) h' (fun w h1 => goG c iO [.ref l'.length, w] h1 (fun w h2 => nx (some sv :: some (.ref l'.length) :: some w :: l) h2) _) _ = true
  rw [lay_goods]
  have hln : (l' ++ [[W.int a, .int b, .int 0]]).length = l'.length + 1 := by rw [List.length_append]; rfl
  refine hA H' (by omega) fun h2 H2 => ?_
  show c iO [.ref l'.length, .ref (l' ++ [[W.int a, .int b, .int 0]]).length] h2 _ _ = true
  rw [hO]
  refine of_ok hT H2 (by rw [List.length_append, hln]; show l'.length + 1 + 1 ≤ cap; omega) g0 g1 (a := a) (b := b) ?_ ?_ (by omega) fun t h3 ht => q _ t h3 ht
  · rw [List.getElem?_append_left (by omega), List.getElem?_append_right (Nat.le_refl _), Nat.sub_self]; rfl
  · rw [List.getElem?_append_right (Nat.le_refl _), Nat.sub_self]; rfl
end
end It

set_option Elab.async false
set_option linter.all false
set_option maxRecDepth 100000
set_option maxHeartbeats 0
namespace Tg
open PySem PySem.Spec PyProof.Rows L2 It
noncomputable section
abbrev Rl := PySem.Challenge.rw_sharesuntold_k74_texts_that_are_none
abbrev Ro : PySem.W.OpenRow := PySem.W.OpenLaw.row Rl
def top (i : Nat) : Stmt := PySem.Challenge.pw_sharesuntold_k74_texts_that_are_none.main.body.getD i (.Pass ⟨0, 0, 0, 0⟩)
def n0 : Dn := ⟨"tupled", top 4, ["matter", "bit"], ["matter"], false⟩
def n1 : Dn := ⟨"set_of", top 5, ["things"], ["things"], false⟩
def n2 : Dn := ⟨"row_text", top 12, ["row", "number"], ["row"], false⟩
def n3 : Dn := ⟨"wish_text", top 13, ["wish", "letters", "hidden", "lines", "told", "near", "far"], ["wish"], false⟩
def n4 : Dn := ⟨"facts_text", top 14, ["facts", "kept", "broken", "wish"], ["facts"], false⟩
def n5 : Dn := ⟨"line_text", top 15, ["line", "bit", "number", "times"], ["line"], false⟩
def n6 : Dn := ⟨"program_text", top 16, ["program", "letters", "lines", "line"], ["program"], false⟩
def n7 : Dn := ⟨"count_in", top 17, ["word", "sign"], ["word"], false⟩
def n8 : Dn := ⟨"number_in", top 18, ["word", "found"], ["word"], false⟩
def n9 : Dn := ⟨"row_in", top 19, ["text", "found", "word"], ["text"], false⟩
def n10 : Dn := ⟨"counts_behind", top 20, ["word", "text", "many", "words", "found", "own"], ["word", "text", "many"], true⟩
def n11 : Dn := ⟨"wish_in", top 21, ["text", "parts", "lines", "sizes", "part", "rows", "own", "row"], ["text"], false⟩
def n12 : Dn := ⟨"wish_read", top 22, ["text", "found"], ["text"], false⟩
def n13 : Dn := ⟨"lines_in", top 23, ["text"], ["text"], true⟩
def n14 : Dn := ⟨"facts_read", top 24, ["text", "kept", "broken", "number", "line", "heading", "_", "rest", "wish"], ["text"], false⟩
def n15 : Dn := ⟨"parts_in", top 25, ["texts", "number", "found", "ahead", "own", "pair"], ["texts", "number"], false⟩
def n16 : Dn := ⟨"line_in", top 26, ["text", "letters", "number", "lots", "taken", "shared", "parts"], ["text", "letters", "number"], false⟩
def n17 : Dn := ⟨"program_read", top 27, ["text", "lines", "found", "sizes", "number", "line", "own"], ["text"], false⟩
def n18 : Dn := ⟨"_law_same", top 29, ["_law_got", "_law_due", "_law_mine", "_law_its"], ["_law_got", "_law_due"], false⟩
def n19 : Dn := ⟨"_law_told", top 30, ["_law_door", "_law_text", "_law_found", "_law_caught", "error"], ["_law_door", "_law_text"], true⟩
def n20 : Dn := ⟨"_law_wishes_right", top 31, ["_law_bads", "_law_got", "_law_due", "_law_long", "_law_goods", "_law_held", "_law_text"], [], false⟩
def n21 : Dn := ⟨"_law_facts_right", top 32, ["_law_one", "_law_two", "_law_texts", "_law_got", "_law_due", "_law_text"], [], false⟩
def n22 : Dn := ⟨"_law_programs_right", top 33, ["_law_texts", "_law_got", "_law_due", "_law_head", "_law_bad", "_law_took", "_law_held", "_law_text"], [], false⟩
def o0 : He.DefD := initH "BadLine" "BadLine.__init__" (top 2)
def gw0 : W := .str "0123456789"
def gw1 : W := .str "-"
def gw2 : W := .str " | "
def gw3 : W := .str " as "
def gw4 : W := .str "; "
def T : Tx := ⟨[n0, n1, n2, n3, n4, n5, n6, n7, n8, n9, n10, n11, n12, n13, n14, n15, n16, n17, n18, n19, n20, n21, n22], ["BadText"], ["ValueError", "all", "bool", "enumerate", "int", "isinstance", "len", "list", "set", "sorted", "str", "tuple", "zip"], [], [("ValueError", "ValueError", [true, true])], false, [("FIGURES", gw0), ("EMPTY", gw1), ("LINE", gw2), ("AS", gw3), ("NEXT", gw4)], [("BadLine", o0)], []⟩
def c0 : S := (sRet (eIf (tVal (eIsi (Ty.of [.list, .tuple]) (eVar 0))) (eTupL (sLc [1] (iVal (eVar 0)) (gName 1) tYes (eCallG 0 (asCons (eVar 1) asNil)))) (eVar 0)))
theorem co0 : bodyO T.g T.s n0.i0 = some c0 := by kernel_rfl
def d0 : Def := ⟨1, [none], c0⟩
theorem dd0 : T.d n0 = d0 := by show (⟨_, _, bodyS (bodyO T.g T.s n0.i0)⟩ : Def) = _; rw [co0, bodyS_some]; rfl
def c1 : S := (sRet (eTupL (sSortSetG (eVar 0))))
theorem co1 : bodyO T.g T.s n1.i0 = some c1 := by kernel_rfl
def d1 : Def := ⟨1, [], c1⟩
theorem dd1 : T.d n1 = d1 := by show (⟨_, _, bodyS (bodyO T.g T.s n1.i0)⟩ : Def) = _; rw [co1, bodyS_some]; rfl
def c2 : S := (sRet (eIf (tCmp cGt (eUn lenK (eVar 0)) (eInt (.ofNat (nat_lit 0)))) (eJoin (eStr " ") (sLc [1] (iVal (eVar 0)) (gName 1) tYes (eUn strK (eVar 1)))) (eGlo gw1)))
theorem co2 : bodyO T.g T.s n2.i0 = some c2 := by kernel_rfl
def d2 : Def := ⟨1, [none], c2⟩
theorem dd2 : T.d n2 = d2 := by show (⟨_, _, bodyS (bodyO T.g T.s n2.i0)⟩ : Def) = _; rw [co2, bodyS_some]; rfl
def c3 : S := (sSeq (sAsg (eCallG 0 (asCons (eVar 0) asNil)) (gTup 3 (gCons (gName 1) (gCons (gName 2) (gCons (gName 3) gNil))))) (sSeq (sAsg (eLay (sLc [5, 6] (iVal (eVar 3)) (gTup 2 (gCons (gName 5) (gCons (gName 6) gNil))) tYes (eFst [(.e (eCallG 2 (asCons (eVar 5) asNil))), (.e (eGlo gw3)), (.e (eCallG 2 (asCons (eVar 6) asNil)))]))) (gName 4)) (sRet (eJoinV (eGlo gw4) (eBin addSK (eLay (asCons (eFst [(.s "wish "), (.e (eVar 1)), (.s " "), (.e (eVar 2))]) asNil)) (eVar 4))))))
theorem co3 : bodyO T.g T.s n3.i0 = some c3 := by kernel_rfl
def d3 : Def := ⟨1, [none, none, none, none, none, none], c3⟩
theorem dd3 : T.d n3 = d3 := by show (⟨_, _, bodyS (bodyO T.g T.s n3.i0)⟩ : Def) = _; rw [co3, bodyS_some]; rfl
def c4 : S := (sSeq (sAsg (eCallG 0 (asCons (eVar 0) asNil)) (gTup 2 (gCons (gName 1) (gCons (gName 2) gNil)))) (sRet (eJoin (eStr "\n") (sCat (sLc [3] (iVal (eVar 1)) (gName 3) tYes (eFst [(.s "keep "), (.e (eCallG 3 (asCons (eVar 3) asNil)))])) (sLc [3] (iVal (eVar 2)) (gName 3) tYes (eFst [(.s "break "), (.e (eCallG 3 (asCons (eVar 3) asNil)))]))))))
theorem co4 : bodyO T.g T.s n4.i0 = some c4 := by kernel_rfl
def d4 : Def := ⟨1, [none, none, none], c4⟩
theorem dd4 : T.d n4 = d4 := by show (⟨_, _, bodyS (bodyO T.g T.s n4.i0)⟩ : Def) = _; rw [co4, bodyS_some]; rfl
def c5 : S := (sSeq (sIf (tCmp cEq (eBin subscrSK (eVar 0) (eInt (.ofNat (nat_lit 0)))) (eStr "sum")) (sRet (eJoin (eGlo gw2) (sCat (asCons (eStr "sum") asNil) (sLc [2, 3] (iVal (eBin subscrSK (eVar 0) (eInt (.ofNat (nat_lit 1))))) (gTup 2 (gCons (gName 2) (gCons (gName 3) gNil))) tYes (eFst [(.e (eVar 2)), (.s " "), (.e (eVar 3))]))))) sNil) (sRet (eJoin (eStr " ") (sLc [1] (iVal (eVar 0)) (gName 1) tYes (eUn strK (eVar 1))))))
theorem co5 : bodyO T.g T.s n5.i0 = some c5 := by kernel_rfl
def d5 : Def := ⟨1, [none, none, none], c5⟩
theorem dd5 : T.d n5 = d5 := by show (⟨_, _, bodyS (bodyO T.g T.s n5.i0)⟩ : Def) = _; rw [co5, bodyS_some]; rfl
def c6 : S := (sSeq (sAsg (eCallG 0 (asCons (eVar 0) asNil)) (gTup 2 (gCons (gName 1) (gCons (gName 2) gNil)))) (sRet (eJoin (eStr "\n") (sCat (asCons (eFst [(.s "program "), (.e (eVar 1))]) asNil) (sLc [3] (iVal (eVar 2)) (gName 3) tYes (eCallG 5 (asCons (eVar 3) asNil)))))))
theorem co6 : bodyO T.g T.s n6.i0 = some c6 := by kernel_rfl
def d6 : Def := ⟨1, [none, none, none], c6⟩
theorem dd6 : T.d n6 = d6 := by show (⟨_, _, bodyS (bodyO T.g T.s n6.i0)⟩ : Def) = _; rw [co6, bodyS_some]; rfl
def c7 : S := (sSeq (sIf (tOr (tCmp cEq (eVar 0) (eStr "")) (tNot (tVal (eAll (sLc [1] (iVal (eVar 0)) (gName 1) tYes (eTst (tCmp cInS (eVar 1) (eGlo gw0)))))))) (sRet eNon) sNil) (sRet (eIf (tOr (tCmp cEq (eVar 0) (eStr "0")) (tCmp cNe (eBin subscrSK (eVar 0) (eInt (.ofNat (nat_lit 0)))) (eStr "0"))) (eUn intSK (eVar 0)) eNon)))
theorem co7 : bodyO T.g T.s n7.i0 = some c7 := by kernel_rfl
def d7 : Def := ⟨1, [none], c7⟩
theorem dd7 : T.d n7 = d7 := by show (⟨_, _, bodyS (bodyO T.g T.s n7.i0)⟩ : Def) = _; rw [co7, bodyS_some]; rfl
def c8 : S := (sSeq (sIf (tCmp cNe (eSliceS (eVar 0) oNone (oSome (eInt (.ofNat (nat_lit 1))))) (eStr "-")) (sRet (eCallG 7 (asCons (eVar 0) asNil))) sNil) (sSeq (sAsg (eCallG 7 (asCons (eSliceS (eVar 0) (oSome (eInt (.ofNat (nat_lit 1)))) oNone) asNil)) (gName 1)) (sRet (eIf (tOr (tIsN (eVar 1)) (tCmp cEq (eVar 1) (eInt (.ofNat (nat_lit 0))))) eNon (eUn negK (eVar 1))))))
theorem co8 : bodyO T.g T.s n8.i0 = some c8 := by kernel_rfl
def d8 : Def := ⟨1, [none], c8⟩
theorem dd8 : T.d n8 = d8 := by show (⟨_, _, bodyS (bodyO T.g T.s n8.i0)⟩ : Def) = _; rw [co8, bodyS_some]; rfl
def c9 : S := (sSeq (sAsg (eIf (tCmp cNe (eVar 0) (eGlo gw1)) (eTupL (sLc [2] (iFresh (sSplit (eVar 0) (eStr " "))) (gName 2) tYes (eCallG 8 (asCons (eVar 2) asNil)))) (eTup asNil)) (gName 1)) (sRet (eIf (tCmp cInS eNon (eVar 1)) eNon (eVar 1))))
theorem co9 : bodyO T.g T.s n9.i0 = some c9 := by kernel_rfl
def d9 : Def := ⟨1, [none, none], c9⟩
theorem dd9 : T.d n9 = d9 := by show (⟨_, _, bodyS (bodyO T.g T.s n9.i0)⟩ : Def) = _; rw [co9, bodyS_some]; rfl
def c10 : S := (sSeq (sAsg (eLay (sSplit (eVar 1) (eStr " "))) (gName 3)) (sSeq (sAsg (eLay (sLc [5] (iVal (eSliceS (eVar 3) (oSome (eInt (.ofNat (nat_lit 1)))) oNone)) (gName 5) tYes (eCallG 7 (asCons (eVar 5) asNil)))) (gName 4)) (sRet (eIf (tAnd (tCmp cEq (eBin subscrSK (eVar 3) (eInt (.ofNat (nat_lit 0)))) (eVar 0)) (tAnd (tCmp cEq (eUn lenK (eVar 4)) (eVar 2)) (tCmp cNotInS eNon (eVar 4)))) (eVar 4) eNon))))
theorem co10 : bodyO T.g T.s n10.i0 = some c10 := by kernel_rfl
def d10 : Def := ⟨3, [none, none, none], c10⟩
theorem dd10 : T.d n10 = d10 := by show (⟨_, _, bodyS (bodyO T.g T.s n10.i0)⟩ : Def) = _; rw [co10, bodyS_some]; rfl
def c11 : S := (sSeq (sPar (asCons (eLay (sSplit (eVar 0) (eGlo gw4))) (asCons (eLay asNil) asNil)) (gCons (gName 1) (gCons (gName 2) gNil))) (sSeq (sAsg (eCall 10 (asCons (eStr "wish") (asCons (eBin subscrSK (eVar 1) (eInt (.ofNat (nat_lit 0)))) (asCons (eInt (.ofNat (nat_lit 2))) asNil)))) (gName 3)) (sSeq (sIf (tOr (tIsN (eVar 3)) (tCmp cLt (eBin subscrSK (eVar 3) (eInt (.ofNat (nat_lit 0)))) (eInt (.ofNat (nat_lit 1))))) (sRet eNon) sNil) (sSeq (sFor (iVal (eSliceS (eVar 1) (oSome (eInt (.ofNat (nat_lit 1)))) oNone)) (gName 4) (sSeq (sAsg (eLay (sLc [6] (iFresh (sSplit (eVar 4) (eGlo gw3))) (gName 6) tYes (eCallG 9 (asCons (eVar 6) asNil)))) (gName 5)) (sSeq (sIf (tOr (tCmp cInS eNon (eVar 5)) (tCmp cNe (eLay (sLc [7] (iVal (eVar 5)) (gName 7) tYes (eUn lenK (eVar 7)))) (eVar 3))) (sRet eNon) sNil) (sDrop (eAppend (eVar 2) (eUn tupK (eVar 5))))))) (sRet (eTup (asCons (eBin subscrSK (eVar 3) (eInt (.ofNat (nat_lit 0)))) (asCons (eBin subscrSK (eVar 3) (eInt (.ofNat (nat_lit 1)))) (asCons (eUn tupK (eVar 2)) asNil)))))))))
theorem co11 : bodyO T.g T.s n11.i0 = some c11 := by kernel_rfl
def d11 : Def := ⟨1, [none, none, none, none, none, none, none], c11⟩
theorem dd11 : T.d n11 = d11 := by show (⟨_, _, bodyS (bodyO T.g T.s n11.i0)⟩ : Def) = _; rw [co11, bodyS_some]; rfl
def c12 : S := (sSeq (sAsg (eCallG 11 (asCons (eVar 0) asNil)) (gName 1)) (sSeq (sIf (tIsN (eVar 1)) (sRaise 0 asNil) sNil) (sRet (eVar 1))))
theorem co12 : bodyO T.g T.s n12.i0 = some c12 := by kernel_rfl
def d12 : Def := ⟨1, [none], c12⟩
theorem dd12 : T.d n12 = d12 := by show (⟨_, _, bodyS (bodyO T.g T.s n12.i0)⟩ : Def) = _; rw [co12, bodyS_some]; rfl
def c13 : S := (sRet (eIf (tCmp cNe (eVar 0) (eStr "")) (eLay (sSplit (eVar 0) (eStr "\n"))) (eLay asNil)))
theorem co13 : bodyO T.g T.s n13.i0 = some c13 := by kernel_rfl
def d13 : Def := ⟨1, [], c13⟩
theorem dd13 : T.d n13 = d13 := by show (⟨_, _, bodyS (bodyO T.g T.s n13.i0)⟩ : Def) = _; rw [co13, bodyS_some]; rfl
def c14 : S := (sSeq (sPar (asCons (eLay asNil) (asCons (eLay asNil) asNil)) (gCons (gName 1) (gCons (gName 2) gNil))) (sSeq (sFor (iEnum (eCall 13 (asCons (eVar 0) asNil))) (gTup 2 (gCons (gName 3) (gCons (gName 4) gNil))) (sSeq (sAsg (ePart (eVar 4) (eStr " ")) (gTup 3 (gCons (gName 5) (gCons (gName 6) (gCons (gName 7) gNil))))) (sSeq (sAsg (eCallG 11 (asCons (eVar 7) asNil)) (gName 8)) (sSeq (sIf (tOr (tIsN (eVar 8)) (tOr (tCmp cNotInS (eVar 5) (eTup (asCons (eStr "keep") (asCons (eStr "break") asNil)))) (tAnd (tCmp cEq (eVar 5) (eStr "keep")) (tCmp cNe (eVar 2) (eLay asNil))))) (sRaise 1 (asCons (eVar 3) asNil)) sNil) (sSeq (sIf (tAnd (tCmp cGt (eVar 3) (eInt (.ofNat (nat_lit 0)))) (tCmp cNe (eBin subscrSK (eVar 8) (eInt (.ofNat (nat_lit 0)))) (eBin subscrSK (eBin subscrSK (eBin addSK (eVar 1) (eVar 2)) (eInt (.ofNat (nat_lit 0)))) (eInt (.ofNat (nat_lit 0)))))) (sRaise 1 (asCons (eVar 3) asNil)) sNil) (sIf (tCmp cEq (eVar 5) (eStr "keep")) (sDrop (eAppend (eVar 1) (eVar 8))) (sDrop (eAppend (eVar 2) (eVar 8))))))))) (sRet (eTup (asCons (eUn tupK (eVar 1)) (asCons (eUn tupK (eVar 2)) asNil))))))
theorem co14 : bodyO T.g T.s n14.i0 = some c14 := by kernel_rfl
def d14 : Def := ⟨1, [none, none, none, none, none, none, none, none], c14⟩
theorem dd14 : T.d n14 = d14 := by show (⟨_, _, bodyS (bodyO T.g T.s n14.i0)⟩ : Def) = _; rw [co14, bodyS_some]; rfl
def c15 : S := (sSeq (sAsg (eLay (sLc [4] (iVal (eVar 0)) (gName 4) tYes (eCallG 9 (asCons (eVar 4) asNil)))) (gName 2)) (sSeq (sIf (tOr (tCmp cInS eNon (eVar 2)) (tNot (tVal (eAll (sLc [5] (iVal (eVar 2)) (gName 5) tYes (eAndV (eTst (tCmp cEq (eUn lenK (eVar 5)) (eInt (.ofNat (nat_lit 2))))) (eAndV (eTst (tCh cLe cLt (eInt (.ofNat (nat_lit 0))) (eBin subscrSK (eVar 5) (eInt (.ofNat (nat_lit 0)))) (eVar 1))) (eTst (tCmp cNe (eBin subscrSK (eVar 5) (eInt (.ofNat (nat_lit 1)))) (eInt (.ofNat (nat_lit 0)))))))))))) (sRet eNon) sNil) (sSeq (sAsg (eTupL (sLc [5] (iVal (eVar 2)) (gName 5) tYes (eBin subscrSK (eVar 5) (eInt (.ofNat (nat_lit 0)))))) (gName 3)) (sRet (eIf (tCmp cEq (eVar 3) (eCallG 1 (asCons (eVar 3) asNil))) (eUn tupK (eVar 2)) eNon)))))
theorem co15 : bodyO T.g T.s n15.i0 = some c15 := by kernel_rfl
def d15 : Def := ⟨2, [none, none, none, none], c15⟩
theorem dd15 : T.d n15 = d15 := by show (⟨_, _, bodyS (bodyO T.g T.s n15.i0)⟩ : Def) = _; rw [co15, bodyS_some]; rfl
def c16 : S := (sSeq (sAsg (eLay (sSplit (eVar 0) (eGlo gw2))) (gName 3)) (sSeq (sIf (tCmp cEq (eBin subscrSK (eVar 3) (eInt (.ofNat (nat_lit 0)))) (eStr "sum")) (sSeq (sAsg (eCallG 15 (asCons (eSliceS (eVar 3) (oSome (eInt (.ofNat (nat_lit 1)))) oNone) (asCons (eVar 2) asNil))) (gName 6)) (sRet (eIf (tIsN (eVar 6)) eNon (eTup (asCons (eStr "sum") (asCons (eVar 6) asNil)))))) sNil) (sSeq (sPar (asCons (eCall 10 (asCons (eStr "take") (asCons (eVar 0) (asCons (eInt (.ofNat (nat_lit 1))) asNil)))) (asCons (eCall 10 (asCons (eStr "share") (asCons (eVar 0) (asCons (eInt (.ofNat (nat_lit 2))) asNil)))) asNil)) (gCons (gName 4) (gCons (gName 5) gNil))) (sSeq (sIf (tNot (tIsN (eVar 4))) (sRet (eIf (tCmp cLt (eBin subscrSK (eVar 4) (eInt (.ofNat (nat_lit 0)))) (eVar 1)) (eTup (asCons (eStr "take") (asCons (eBin subscrSK (eVar 4) (eInt (.ofNat (nat_lit 0)))) asNil))) eNon)) sNil) (sSeq (sIf (tOr (tIsN (eVar 5)) (tCmp cGe (eBin subscrSK (eVar 5) (eInt (.ofNat (nat_lit 0)))) (eVar 2))) (sRet eNon) sNil) (sRet (eTup (asCons (eStr "share") (asCons (eBin subscrSK (eVar 5) (eInt (.ofNat (nat_lit 0)))) (asCons (eBin subscrSK (eVar 5) (eInt (.ofNat (nat_lit 1)))) asNil))))))))))
theorem co16 : bodyO T.g T.s n16.i0 = some c16 := by kernel_rfl
def d16 : Def := ⟨3, [none, none, none, none], c16⟩
theorem dd16 : T.d n16 = d16 := by show (⟨_, _, bodyS (bodyO T.g T.s n16.i0)⟩ : Def) = _; rw [co16, bodyS_some]; rfl
def c17 : S := (sSeq (sPar (asCons (eCall 13 (asCons (eVar 0) asNil)) (asCons (eLay asNil) asNil)) (gCons (gName 1) (gCons (gName 2) gNil))) (sSeq (sAsg (eIf (tCmp cNe (eVar 1) (eLay asNil)) (eCall 10 (asCons (eStr "program") (asCons (eBin subscrSK (eVar 1) (eInt (.ofNat (nat_lit 0)))) (asCons (eInt (.ofNat (nat_lit 1))) asNil)))) eNon) (gName 3)) (sSeq (sIf (tOr (tIsN (eVar 3)) (tCmp cLt (eBin subscrSK (eVar 3) (eInt (.ofNat (nat_lit 0)))) (eInt (.ofNat (nat_lit 1))))) (sRaise 1 (asCons (eInt (.ofNat (nat_lit 0))) asNil)) sNil) (sSeq (sFor (iEnum (eSliceS (eVar 1) (oSome (eInt (.ofNat (nat_lit 1)))) oNone)) (gTup 2 (gCons (gName 4) (gCons (gName 5) gNil))) (sSeq (sAsg (eCallG 16 (asCons (eVar 5) (asCons (eBin subscrSK (eVar 3) (eInt (.ofNat (nat_lit 0)))) (asCons (eVar 4) asNil)))) (gName 6)) (sSeq (sIf (tIsN (eVar 6)) (sRaise 1 (asCons (eBin addSK (eVar 4) (eInt (.ofNat (nat_lit 1)))) asNil)) sNil) (sDrop (eAppend (eVar 2) (eVar 6)))))) (sSeq (sIf (tCmp cEq (eVar 2) (eLay asNil)) (sRaise 1 (asCons (eInt (.ofNat (nat_lit 1))) asNil)) sNil) (sRet (eTup (asCons (eBin subscrSK (eVar 3) (eInt (.ofNat (nat_lit 0)))) (asCons (eUn tupK (eVar 2)) asNil)))))))))
theorem co17 : bodyO T.g T.s n17.i0 = some c17 := by kernel_rfl
def d17 : Def := ⟨1, [none, none, none, none, none, none], c17⟩
theorem dd17 : T.d n17 = d17 := by show (⟨_, _, bodyS (bodyO T.g T.s n17.i0)⟩ : Def) = _; rw [co17, bodyS_some]; rfl
def c18 : S := (sSeq (sIf (tVal (eIsi (Ty.of [.list, .tuple]) (eVar 1))) (sSeq (sIf (tOr (tCmp cNe (eIsi (Ty.of [.list]) (eVar 0)) (eIsi (Ty.of [.list]) (eVar 1))) (tCmp cNe (eIsi (Ty.of [.tuple]) (eVar 0)) (eIsi (Ty.of [.tuple]) (eVar 1)))) (sRet (eBl false)) sNil) (sRet (eAndV (eTst (tCmp cEq (eUn lenK (eVar 0)) (eUn lenK (eVar 1)))) (eAll (sLc [2, 3] (iZip (eVar 0) (eVar 1)) (gTup 2 (gCons (gName 2) (gCons (gName 3) gNil))) tYes (eCallG 18 (asCons (eVar 2) (asCons (eVar 3) asNil)))))))) sNil) (sSeq (sIf (tOr (tIsN (eVar 1)) (tVal (eIsi (Ty.of [.bool, .str]) (eVar 1)))) (sRet (eAndV (eTst (tCmp cEq (eVar 0) (eVar 1))) (eAndV (eTst (tCmp cEq (eIsi (Ty.of [.bool]) (eVar 0)) (eIsi (Ty.of [.bool]) (eVar 1)))) (eTst (tCmp cEq (eTst (tIsN (eVar 0))) (eTst (tIsN (eVar 1)))))))) sNil) (sRet (eAndV (eIsi (Ty.of [.int]) (eVar 0)) (eAndV (eNotV (eIsi (Ty.of [.bool]) (eVar 0))) (eTst (tCmp cEq (eVar 0) (eVar 1))))))))
theorem co18 : bodyO T.g T.s n18.i0 = some c18 := by kernel_rfl
def d18 : Def := ⟨2, [none, none], c18⟩
theorem dd18 : T.d n18 = d18 := by show (⟨_, _, bodyS (bodyO T.g T.s n18.i0)⟩ : Def) = _; rw [co18, bodyS_some]; rfl
def c19 : S := (sSeq (sAsg (eTup (asCons eNon (asCons eNon asNil))) (gTup 2 (gCons (gName 2) (gCons (gName 3) gNil)))) (sSeq (sTry (sIf (tCmp cEq (eVar 0) (eInt (.ofNat (nat_lit 0)))) (sAsg (eCallG 12 (asCons (eVar 1) asNil)) (gName 2)) (sAsg (eIf (tCmp cEq (eVar 0) (eInt (.ofNat (nat_lit 1)))) (eCallG 14 (asCons (eVar 1) asNil)) (eCallG 17 (asCons (eVar 1) asNil))) (gName 2))) (hConsAs 0 4 (fun i ws => sAsg (eLay (asCons (eStr "bad") (asCons (eIsE (flg [true, true]) i) asNil))) (gName 3)) (hConsAs 1 4 (fun i ws => sAsg (eLay (asCons (eStr "line") (asCons (eExF ws) asNil))) (gName 3)) hNil))) (sRet (eIf (tIsN (eVar 3)) (eVar 2) (eVar 3)))))
theorem co19 : bodyO T.g T.s n19.i0 = some c19 := by kernel_rfl
def d19 : Def := ⟨2, [none, none, none], c19⟩
theorem dd19 : T.d n19 = d19 := by show (⟨_, _, bodyS (bodyO T.g T.s n19.i0)⟩ : Def) = _; rw [co19, bodyS_some]; rfl
def c20 : S := (sSeq (sAsg (eLay (asCons (eStr "") (asCons (eStr " ") (asCons (eStr "wish") (asCons (eStr "wish 1") (asCons (eStr "wish 0 1") (asCons (eStr "wish 1 -1") (asCons (eStr "wish 1 1 1") (asCons (eStr "wish  1 1") (asCons (eStr "Wish 1 1") (asCons (eStr "wish 01 1") (asCons (eStr "wish 1 1 ") (asCons (eStr " wish 1 1") (asCons (eStr "wish 1 1;") (asCons (eStr "wish 1 1; ") (asCons (eStr "wish 1 1\n") asNil)))))))))))))))) (gName 0)) (sSeq (sAsg (eBin addSK (eVar 0) (eLay (asCons (eStr "wish 1 1; 1") (asCons (eStr "wish 1 1; 1 as") (asCons (eStr "wish 1 1; 1 as ") (asCons (eStr "wish 1 1; as 1") (asCons (eStr "wish 1 1; 1 as 1 as 1") (asCons (eStr "wish 1 1; 1 as -") (asCons (eStr "wish 1 1; - as 1") (asCons (eStr "wish 1 0; 1 as 0") (asCons (eStr "wish 1 0; 1 as ") asNil))))))))))) (gName 0)) (sSeq (sAsg (eBin addSK (eVar 0) (eLay (asCons (eStr "wish 1 1;1 as 2") (asCons (eStr "wish 1 1 ; 1 as 2") (asCons (eStr "wish 1 1; 1 as 2;") (asCons (eStr "wish 1 1; 1 As 2") (asCons (eStr "wish 1 1; 1  as 2") (asCons (eStr "wish 1 1; 1 as  2") (asCons (eStr "wish 2 1; 1 as 2") (asCons (eStr "wish 2 1; 1 2 3 as 2") (asCons (eStr "wish 2 1; 1  2 as 2") asNil))))))))))) (gName 0)) (sSeq (sAsg (eBin addSK (eVar 0) (eLay (asCons (eStr "wish 1 1; -0 as 2") (asCons (eStr "wish 1 1; +1 as 2") (asCons (eStr "wish 1 1; 1 as 2/1") (asCons (eStr "wish 1 1; 1_0 as 2") (asCons (eStr "wish 1 1; 1 as 02") (asCons (eStr "wish 1 1; 1 as x") (asCons (eStr "wish 1 1; --1 as 2") (asCons (eStr "keep wish 1 1") (asCons (eStr "wish 1 1, 1 as 2") (asCons (eStr "wish - 1") asNil)))))))))))) (gName 0)) (sSeq (sAsg (eLay (sLc [6] (iVal (eVar 0)) (gName 6) tYes (eCall 19 (asCons (eInt (.ofNat (nat_lit 0))) (asCons (eVar 6) asNil))))) (gName 1)) (sSeq (sAsg (eBin mulSK (eLay (asCons (eLay (asCons (eStr "bad") (asCons (eBl true) asNil))) asNil)) (eInt (.ofNat (nat_lit 43)))) (gName 2)) (sSeq (sAsg (eBin mulSK (eStr "7") (eInt (.ofNat (nat_lit 190)))) (gName 3)) (sSeq (sAsg (eLay (asCons (eStr "wish 1 0") (asCons (eStr "wish 1 1; -1 as 0") (asCons (eStr "wish 2 2; 0 -3 as 4 5; 1 1 as 0 0") (asCons (eStr "wish 1 0; 3 as -") (asCons (eBin addSK (eBin addSK (eBin addSK (eStr "wish 1 1; ") (eVar 3)) (eStr " as -")) (eVar 3)) (asCons (eStr "wish 12 10") asNil))))))) (gName 4)) (sSeq (sDrop (eAppend (eVar 1) (eLay (sLc [6] (iVal (eVar 4)) (gName 6) tYes (eCall 19 (asCons (eInt (.ofNat (nat_lit 0))) (asCons (eVar 6) asNil))))))) (sSeq (sDrop (eAppend (eVar 2) (eLay (asCons (eTup (asCons (eInt (.ofNat (nat_lit 1))) (asCons (eInt (.ofNat (nat_lit 0))) (asCons (eTup asNil) asNil)))) (asCons (eTup (asCons (eInt (.ofNat (nat_lit 1))) (asCons (eInt (.ofNat (nat_lit 1))) (asCons (eTup (asCons (eTup (asCons (eTup (asCons (eUn negK (eInt (.ofNat (nat_lit 1)))) asNil)) (asCons (eTup (asCons (eInt (.ofNat (nat_lit 0))) asNil)) asNil))) asNil)) asNil)))) (asCons (eTup (asCons (eInt (.ofNat (nat_lit 2))) (asCons (eInt (.ofNat (nat_lit 2))) (asCons (eTup (asCons (eTup (asCons (eTup (asCons (eInt (.ofNat (nat_lit 0))) (asCons (eUn negK (eInt (.ofNat (nat_lit 3)))) asNil))) (asCons (eTup (asCons (eInt (.ofNat (nat_lit 4))) (asCons (eInt (.ofNat (nat_lit 5))) asNil))) asNil))) (asCons (eTup (asCons (eTup (asCons (eInt (.ofNat (nat_lit 1))) (asCons (eInt (.ofNat (nat_lit 1))) asNil))) (asCons (eTup (asCons (eInt (.ofNat (nat_lit 0))) (asCons (eInt (.ofNat (nat_lit 0))) asNil))) asNil))) asNil))) asNil)))) (asCons (eTup (asCons (eInt (.ofNat (nat_lit 1))) (asCons (eInt (.ofNat (nat_lit 0))) (asCons (eTup (asCons (eTup (asCons (eTup (asCons (eInt (.ofNat (nat_lit 3))) asNil)) (asCons (eTup asNil) asNil))) asNil)) asNil)))) (asCons (eTup (asCons (eInt (.ofNat (nat_lit 1))) (asCons (eInt (.ofNat (nat_lit 1))) (asCons (eTup (asCons (eTup (asCons (eTup (asCons (eUn intSK (eVar 3)) asNil)) (asCons (eTup (asCons (eBin subK (eInt (.ofNat (nat_lit 0))) (eUn intSK (eVar 3))) asNil)) asNil))) asNil)) asNil)))) (asCons (eTup (asCons (eInt (.ofNat (nat_lit 12))) (asCons (eInt (.ofNat (nat_lit 10))) (asCons (eTup asNil) asNil)))) asNil))))))))) (sSeq (sAsg (eLay (asCons (eInt (.ofNat (nat_lit 1))) (asCons (eInt (.ofNat (nat_lit 1))) (asCons (eLay (asCons (eLay (asCons (eLay (asCons (eInt (.ofNat (nat_lit 1))) asNil)) (asCons (eLay (asCons (eInt (.ofNat (nat_lit 2))) asNil)) asNil))) asNil)) asNil)))) (gName 5)) (sSeq (sAsg (eBin addSK (eVar 1) (eLay (asCons (eCallG 3 (asCons (eTup (asCons (eInt (.ofNat (nat_lit 1))) (asCons (eInt (.ofNat (nat_lit 1))) (asCons (eTup (asCons (eLay (asCons (eLay (asCons (eInt (.ofNat (nat_lit 1))) asNil)) (asCons (eTup (asCons (eInt (.ofNat (nat_lit 2))) asNil)) asNil))) asNil)) asNil)))) asNil)) (asCons (eCallG 4 (asCons (eTup (asCons (eLay (asCons (eVar 5) asNil)) (asCons (eTup asNil) asNil))) asNil)) asNil)))) (gName 1)) (sSeq (sAsg (eBin addSK (eVar 2) (eLay (asCons (eStr "wish 1 1; 1 as 2") (asCons (eStr "keep wish 1 1; 1 as 2") asNil)))) (gName 2)) (sSeq (sAsg (eBin addSK (eVar 1) (eLay (asCons (eCallG 3 (asCons (eVar 5) asNil)) (asCons (eVar 5) (asCons (eCallG 4 (asCons (eLay (asCons (eLay (asCons (eVar 5) asNil)) (asCons (eLay (asCons (eVar 5) asNil)) asNil))) asNil)) asNil))))) (gName 1)) (sRet (eCallG 18 (asCons (eVar 1) (asCons (eBin addSK (eVar 2) (eLay (asCons (eStr "wish 1 1; 1 as 2") (asCons (eLay (asCons (eInt (.ofNat (nat_lit 1))) (asCons (eInt (.ofNat (nat_lit 1))) (asCons (eLay (asCons (eLay (asCons (eLay (asCons (eInt (.ofNat (nat_lit 1))) asNil)) (asCons (eLay (asCons (eInt (.ofNat (nat_lit 2))) asNil)) asNil))) asNil)) asNil)))) (asCons (eStr "keep wish 1 1; 1 as 2\nbreak wish 1 1; 1 as 2") asNil))))) asNil))))))))))))))))))
theorem co20 : bodyO T.g T.s n20.i0 = some c20 := by kernel_rfl
def d20 : Def := ⟨0, [none, none, none, none, none, none, none], c20⟩
theorem dd20 : T.d n20 = d20 := by show (⟨_, _, bodyS (bodyO T.g T.s n20.i0)⟩ : Def) = _; rw [co20, bodyS_some]; rfl
def c21 : S := (sSeq (sAsg (eTup (asCons (eTup (asCons (eInt (.ofNat (nat_lit 1))) (asCons (eInt (.ofNat (nat_lit 0))) (asCons (eTup asNil) asNil)))) (asCons (eTup (asCons (eInt (.ofNat (nat_lit 2))) (asCons (eInt (.ofNat (nat_lit 0))) (asCons (eTup asNil) asNil)))) asNil))) (gTup 2 (gCons (gName 0) (gCons (gName 1) gNil)))) (sSeq (sAsg (eLay (asCons (eStr "") (asCons (eStr "\n") (asCons (eStr "keep") (asCons (eStr "keep ") (asCons (eStr "wish 1 0") (asCons (eStr "keep wish 1 0") (asCons (eStr "break wish 1 0") (asCons (eStr "keep wish 1 0\n") (asCons (eStr "keep  wish 1 0") (asCons (eStr "Keep wish 1 0") (asCons (eStr "keep wish 1 0 ") (asCons (eStr " keep wish 1 0") asNil))))))))))))) (gName 2)) (sSeq (sAsg (eLay (asCons (eLay (sLc [5] (iVal (eVar 2)) (gName 5) tYes (eCall 19 (asCons (eInt (.ofNat (nat_lit 1))) (asCons (eVar 5) asNil))))) asNil)) (gName 3)) (sSeq (sAsg (eLay (asCons (eBin addSK (eBin addSK (eBin addSK (eLay (asCons (eTup (asCons (eTup asNil) (asCons (eTup asNil) asNil))) asNil)) (eBin mulSK (eLay (asCons (eLay (asCons (eStr "line") (asCons (eInt (.ofNat (nat_lit 0))) asNil))) asNil)) (eInt (.ofNat (nat_lit 4))))) (eLay (asCons (eTup (asCons (eTup (asCons (eVar 0) asNil)) (asCons (eTup asNil) asNil))) (asCons (eTup (asCons (eTup asNil) (asCons (eTup (asCons (eVar 0) asNil)) asNil))) (asCons (eLay (asCons (eStr "line") (asCons (eInt (.ofNat (nat_lit 1))) asNil))) asNil))))) (eBin mulSK (eLay (asCons (eLay (asCons (eStr "line") (asCons (eInt (.ofNat (nat_lit 0))) asNil))) asNil)) (eInt (.ofNat (nat_lit 4))))) asNil)) (gName 4)) (sSeq (sAsg (eLay (asCons (eStr "keep wish 1 0\nbreak wish 1 0") (asCons (eStr "break wish 1 0\nkeep wish 1 0") (asCons (eStr "keep wish 1 0\nkeep wish 2 0") (asCons (eStr "keep wish 2 0\nbreak wish 1 0") (asCons (eStr "break wish 2 0\nbreak wish 2 0\nkeep wish 2 0") asNil)))))) (gName 2)) (sSeq (sAsg (eBin addSK (eVar 2) (eLay (asCons (eStr "keep wish 1 0\n\nbreak wish 1 0") (asCons (eStr "keep wish 1 0\nbreak wish 1 0\nx") (asCons (eStr "keep wish 1 0\nbreak wish 0 0\nkeep x") (asCons (eStr "keep wish 1 0\nkeep wish 1 0\nbreak wish 1 0") (asCons (eStr "break") asNil))))))) (gName 2)) (sSeq (sDrop (eAppend (eVar 3) (eLay (sLc [5] (iVal (eVar 2)) (gName 5) tYes (eCall 19 (asCons (eInt (.ofNat (nat_lit 1))) (asCons (eVar 5) asNil))))))) (sSeq (sDrop (eAppend (eVar 4) (eLay (asCons (eTup (asCons (eTup (asCons (eVar 0) asNil)) (asCons (eTup (asCons (eVar 0) asNil)) asNil))) (asCons (eLay (asCons (eStr "line") (asCons (eInt (.ofNat (nat_lit 1))) asNil))) (asCons (eLay (asCons (eStr "line") (asCons (eInt (.ofNat (nat_lit 1))) asNil))) (asCons (eLay (asCons (eStr "line") (asCons (eInt (.ofNat (nat_lit 1))) asNil))) (asCons (eLay (asCons (eStr "line") (asCons (eInt (.ofNat (nat_lit 2))) asNil))) (asCons (eLay (asCons (eStr "line") (asCons (eInt (.ofNat (nat_lit 1))) asNil))) (asCons (eLay (asCons (eStr "line") (asCons (eInt (.ofNat (nat_lit 2))) asNil))) (asCons (eLay (asCons (eStr "line") (asCons (eInt (.ofNat (nat_lit 1))) asNil))) (asCons (eTup (asCons (eTup (asCons (eVar 0) (asCons (eVar 0) asNil))) (asCons (eTup (asCons (eVar 0) asNil)) asNil))) (asCons (eLay (asCons (eStr "line") (asCons (eInt (.ofNat (nat_lit 0))) asNil))) asNil))))))))))))) (sSeq (sDrop (eAppend (eVar 3) (eCall 19 (asCons (eInt (.ofNat (nat_lit 1))) (asCons (eStr "keep wish 2 0\nkeep wish 2 1") asNil))))) (sRet (eCallG 18 (asCons (eVar 3) (asCons (eBin addSK (eVar 4) (eLay (asCons (eTup (asCons (eTup (asCons (eVar 1) (asCons (eTup (asCons (eInt (.ofNat (nat_lit 2))) (asCons (eInt (.ofNat (nat_lit 1))) (asCons (eTup asNil) asNil)))) asNil))) (asCons (eTup asNil) asNil))) asNil))) asNil)))))))))))))
theorem co21 : bodyO T.g T.s n21.i0 = some c21 := by kernel_rfl
def d21 : Def := ⟨0, [none, none, none, none, none, none], c21⟩
theorem dd21 : T.d n21 = d21 := by show (⟨_, _, bodyS (bodyO T.g T.s n21.i0)⟩ : Def) = _; rw [co21, bodyS_some]; rfl
def c22 : S := (sSeq (sAsg (eLay (asCons (eStr "") (asCons (eStr "program") (asCons (eStr "program 0") (asCons (eStr "program -1") (asCons (eStr "program 1 1") (asCons (eStr "program 01") (asCons (eStr "Program 1") (asCons (eStr "take 0") (asCons (eStr " program 1") (asCons (eStr "program 1") (asCons (eStr "program 1\n") (asCons (eStr "program 1\nx") (asCons (eStr "program 1\ntake") asNil)))))))))))))) (gName 0)) (sSeq (sAsg (eLay (asCons (eLay (sLc [7] (iVal (eVar 0)) (gName 7) tYes (eCall 19 (asCons (eInt (.ofNat (nat_lit 2))) (asCons (eVar 7) asNil))))) asNil)) (gName 1)) (sSeq (sAsg (eLay (asCons (eBin addSK (eBin mulSK (eLay (asCons (eLay (asCons (eStr "line") (asCons (eInt (.ofNat (nat_lit 0))) asNil))) asNil)) (eInt (.ofNat (nat_lit 9)))) (eBin mulSK (eLay (asCons (eLay (asCons (eStr "line") (asCons (eInt (.ofNat (nat_lit 1))) asNil))) asNil)) (eInt (.ofNat (nat_lit 4))))) asNil)) (gName 2)) (sSeq (sAsg (eStr "program 2\ntake 1\n") (gName 3)) (sSeq (sAsg (eLay (asCons (eStr "take 0") (asCons (eStr "take 2") (asCons (eStr "take -1") (asCons (eStr "take 0 0") (asCons (eStr "take  0") (asCons (eStr "take 01") (asCons (eStr "share 0 2") (asCons (eStr "share 1 2") (asCons (eStr "share 0") (asCons (eStr "share 0 -2") (asCons (eStr "share 0 2 1") (asCons (eStr "share 0 0") (asCons (eStr "sum") (asCons (eStr "sum ") (asCons (eStr "sum |") (asCons (eStr "sum | ") asNil))))))))))))))))) (gName 0)) (sSeq (sAsg (eBin addSK (eVar 0) (eLay (asCons (eStr "sum | 0 1") (asCons (eStr "sum | 0") (asCons (eStr "sum | 0 0") (asCons (eStr "sum | 1 1") (asCons (eStr "sum | -1 1") (asCons (eStr "sum | 0 1 2") (asCons (eStr "sum | 0 1 | 0 1") (asCons (eStr "sum |0 1") (asCons (eStr "sum| 0 1") (asCons (eStr "sum 0 1") (asCons (eStr "sum | 0 -3") (asCons (eStr "Sum") (asCons (eStr "sum | 0 +1") (asCons (eStr "sum | 0 1 |") (asCons (eStr "") (asCons (eStr "take 0 | 0 1") asNil)))))))))))))))))) (gName 0)) (sSeq (sDrop (eAppend (eVar 1) (eLay (sLc [7] (iVal (eVar 0)) (gName 7) tYes (eCall 19 (asCons (eInt (.ofNat (nat_lit 2))) (asCons (eBin addSK (eVar 3) (eVar 7)) asNil))))))) (sSeq (sPar (asCons (eLay (asCons (eStr "line") (asCons (eInt (.ofNat (nat_lit 2))) asNil))) (asCons (eTup (asCons (eStr "take") (asCons (eInt (.ofNat (nat_lit 1))) asNil))) asNil)) (gCons (gName 4) (gCons (gName 5) gNil))) (sSeq (sDrop (eAppend (eVar 2) (eBin addSK (eBin addSK (eBin addSK (eBin addSK (eBin addSK (eBin addSK (eBin addSK (eBin addSK (eBin addSK (eLay (asCons (eTup (asCons (eInt (.ofNat (nat_lit 2))) (asCons (eTup (asCons (eVar 5) (asCons (eTup (asCons (eStr "take") (asCons (eInt (.ofNat (nat_lit 0))) asNil))) asNil))) asNil))) asNil)) (eBin mulSK (eLay (asCons (eVar 4) asNil)) (eInt (.ofNat (nat_lit 5))))) (eLay (asCons (eTup (asCons (eInt (.ofNat (nat_lit 2))) (asCons (eTup (asCons (eVar 5) (asCons (eTup (asCons (eStr "share") (asCons (eInt (.ofNat (nat_lit 0))) (asCons (eInt (.ofNat (nat_lit 2))) asNil)))) asNil))) asNil))) asNil))) (eBin mulSK (eLay (asCons (eVar 4) asNil)) (eInt (.ofNat (nat_lit 4))))) (eLay (asCons (eTup (asCons (eInt (.ofNat (nat_lit 2))) (asCons (eTup (asCons (eVar 5) (asCons (eTup (asCons (eStr "share") (asCons (eInt (.ofNat (nat_lit 0))) (asCons (eInt (.ofNat (nat_lit 0))) asNil)))) asNil))) asNil))) (asCons (eTup (asCons (eInt (.ofNat (nat_lit 2))) (asCons (eTup (asCons (eVar 5) (asCons (eTup (asCons (eStr "sum") (asCons (eTup asNil) asNil))) asNil))) asNil))) asNil)))) (eBin mulSK (eLay (asCons (eVar 4) asNil)) (eInt (.ofNat (nat_lit 3))))) (eLay (asCons (eTup (asCons (eInt (.ofNat (nat_lit 2))) (asCons (eTup (asCons (eVar 5) (asCons (eTup (asCons (eStr "sum") (asCons (eTup (asCons (eTup (asCons (eInt (.ofNat (nat_lit 0))) (asCons (eInt (.ofNat (nat_lit 1))) asNil))) asNil)) asNil))) asNil))) asNil))) asNil))) (eBin mulSK (eLay (asCons (eVar 4) asNil)) (eInt (.ofNat (nat_lit 9))))) (eLay (asCons (eTup (asCons (eInt (.ofNat (nat_lit 2))) (asCons (eTup (asCons (eVar 5) (asCons (eTup (asCons (eStr "sum") (asCons (eTup (asCons (eTup (asCons (eInt (.ofNat (nat_lit 0))) (asCons (eUn negK (eInt (.ofNat (nat_lit 3)))) asNil))) asNil)) asNil))) asNil))) asNil))) asNil))) (eBin mulSK (eLay (asCons (eVar 4) asNil)) (eInt (.ofNat (nat_lit 5))))))) (sSeq (sAsg (eLay (asCons (eStr "take 0\nsum | 0 1 | 1 2") (asCons (eStr "take 0\nsum | 1 1 | 0 2") (asCons (eStr "take 0\nsum | 0 1 | 2 2") (asCons (eStr "x\ny") (asCons (eStr "take 0\nx\ntake 7") (asCons (eStr "take 0\n") (asCons (eStr "sum | 00 1") (asCons (eStr "sum | 0 01") (asCons (eStr "share 00 2") (asCons (eBin addSK (eBin mulSK (eStr "take 0\n") (eInt (.ofNat (nat_lit 9)))) (eStr "x")) asNil))))))))))) (gName 0)) (sSeq (sDrop (eAppend (eVar 1) (eLay (sLc [7] (iVal (eVar 0)) (gName 7) tYes (eCall 19 (asCons (eInt (.ofNat (nat_lit 2))) (asCons (eBin addSK (eVar 3) (eVar 7)) asNil))))))) (sSeq (sDrop (eAppend (eVar 2) (eLay (asCons (eTup (asCons (eInt (.ofNat (nat_lit 2))) (asCons (eTup (asCons (eVar 5) (asCons (eTup (asCons (eStr "take") (asCons (eInt (.ofNat (nat_lit 0))) asNil))) (asCons (eTup (asCons (eStr "sum") (asCons (eTup (asCons (eTup (asCons (eInt (.ofNat (nat_lit 0))) (asCons (eInt (.ofNat (nat_lit 1))) asNil))) (asCons (eTup (asCons (eInt (.ofNat (nat_lit 1))) (asCons (eInt (.ofNat (nat_lit 2))) asNil))) asNil))) asNil))) asNil)))) asNil))) (asCons (eLay (asCons (eStr "line") (asCons (eInt (.ofNat (nat_lit 3))) asNil))) (asCons (eLay (asCons (eStr "line") (asCons (eInt (.ofNat (nat_lit 3))) asNil))) (asCons (eLay (asCons (eStr "line") (asCons (eInt (.ofNat (nat_lit 2))) asNil))) (asCons (eLay (asCons (eStr "line") (asCons (eInt (.ofNat (nat_lit 3))) asNil))) (asCons (eLay (asCons (eStr "line") (asCons (eInt (.ofNat (nat_lit 3))) asNil))) (asCons (eLay (asCons (eStr "line") (asCons (eInt (.ofNat (nat_lit 2))) asNil))) (asCons (eLay (asCons (eStr "line") (asCons (eInt (.ofNat (nat_lit 2))) asNil))) (asCons (eLay (asCons (eStr "line") (asCons (eInt (.ofNat (nat_lit 2))) asNil))) (asCons (eLay (asCons (eStr "line") (asCons (eInt (.ofNat (nat_lit 11))) asNil))) asNil))))))))))))) (sSeq (sAsg (eLay (asCons (eInt (.ofNat (nat_lit 1))) (asCons (eLay (asCons (eLay (asCons (eStr "take") (asCons (eInt (.ofNat (nat_lit 0))) asNil))) (asCons (eLay (asCons (eStr "sum") (asCons (eLay (asCons (eLay (asCons (eInt (.ofNat (nat_lit 0))) (asCons (eInt (.ofNat (nat_lit 2))) asNil))) asNil)) asNil))) (asCons (eLay (asCons (eStr "share") (asCons (eInt (.ofNat (nat_lit 1))) (asCons (eInt (.ofNat (nat_lit 3))) asNil)))) asNil)))) asNil))) (gName 6)) (sSeq (sAsg (eBin addSK (eVar 1) (eLay (asCons (eCallG 6 (asCons (eVar 6) asNil)) (asCons (eVar 6) asNil)))) (gName 1)) (sRet (eCallG 18 (asCons (eVar 1) (asCons (eBin addSK (eVar 2) (eLay (asCons (eStr "program 1\ntake 0\nsum | 0 2\nshare 1 3") (asCons (eLay (asCons (eInt (.ofNat (nat_lit 1))) (asCons (eLay (asCons (eLay (asCons (eStr "take") (asCons (eInt (.ofNat (nat_lit 0))) asNil))) (asCons (eLay (asCons (eStr "sum") (asCons (eLay (asCons (eLay (asCons (eInt (.ofNat (nat_lit 0))) (asCons (eInt (.ofNat (nat_lit 2))) asNil))) asNil)) asNil))) (asCons (eLay (asCons (eStr "share") (asCons (eInt (.ofNat (nat_lit 1))) (asCons (eInt (.ofNat (nat_lit 3))) asNil)))) asNil)))) asNil))) asNil)))) asNil))))))))))))))))))
theorem co22 : bodyO T.g T.s n22.i0 = some c22 := by kernel_rfl
def d22 : Def := ⟨0, [none, none, none, none, none, none, none, none], c22⟩
theorem dd22 : T.d n22 = d22 := by show (⟨_, _, bodyS (bodyO T.g T.s n22.i0)⟩ : Def) = _; rw [co22, bodyS_some]; rfl
def t : DT := (.n 11 (.n 5 (.n 2 (.n 1 (.l d0) (.l d1)) (.n 3 (.l d2) (.n 4 (.l d3) (.l d4)))) (.n 8 (.n 6 (.l d5) (.n 7 (.l d6) (.l d7))) (.n 9 (.l d8) (.n 10 (.l d9) (.l d10))))) (.n 17 (.n 14 (.n 12 (.l d11) (.n 13 (.l d12) (.l d13))) (.n 15 (.l d14) (.n 16 (.l d15) (.l d16)))) (.n 20 (.n 18 (.l d17) (.n 19 (.l d18) (.l d19))) (.n 21 (.l d20) (.n 22 (.l d21) (.l d22))))))
def D : DefI := ⟨"law", top 34, ["_law_script"], ["_law_script"], ⟨0, [], sStuck⟩⟩
def cl : S := (sRet (eAndV (eCallG 20 asNil) (eAndV (eCallG 21 asNil) (eCallG 22 asNil))))
theorem col : bodyO T.g T.s D = some cl := by kernel_rfl
def e0 : Ent := ⟨0, 5, [.str "wish 1 1; 7777777777777777777777777777777777777777777777777777777777777777777777777777777777777777777777777777777777777777777777777777777777777777777777777777777777777777777777777777777777777777777777 as -7777777777777777777777777777777777777777777777777777777777777777777777777777777777777777777777777777777777777777777777777777777777777777777777777777777777777777777777777777777777777777777777"], .tup [.int (.ofNat (nat_lit 1)), .int (.ofNat (nat_lit 1)), .tup [.tup [.tup [.int (.ofNat (nat_lit 7777777777777777777777777777777777777777777777777777777777777777777777777777777777777777777777777777777777777777777777777777777777777777777777777777777777777777777777777777777777777777777777))], .tup [.int (.negSucc (nat_lit 7777777777777777777777777777777777777777777777777777777777777777777777777777777777777777777777777777777777777777777777777777777777777777777777777777777777777777777777777777777777777777777776))]]]]⟩
def e1 : Ent := ⟨1, 10, [], .bl true⟩
def e2 : Ent := ⟨2, 8, [], .bl true⟩
def e3 : Ent := ⟨3, 10, [], .bl true⟩
def es : List (Nat × Ent) := [(11, e0), (20, e1), (21, e2), (22, e3)]
def mt0 : MT := (.n 11 (.l []) (.n 17 (.n 14 (.n 12 (.l [e0]) (.l [])) (.l [])) (.n 20 (.l []) (.n 21 (.l [e1]) (.n 22 (.l [e2]) (.l [e3]))))))
def mt : MT := .n 23 mt0 (.l [])
theorem fit : MT.Fit es 0 23 mt0 := ⟨trivial, ⟨⟨⟨⟨rfl, ⟨rfl, trivial⟩⟩, trivial⟩, trivial⟩, ⟨trivial, ⟨⟨rfl, ⟨rfl, trivial⟩⟩, ⟨⟨rfl, ⟨rfl, trivial⟩⟩, ⟨rfl, ⟨rfl, trivial⟩⟩⟩⟩⟩⟩⟩
theorem t_0 : Till t es 0 := till_0
theorem f0 : ∀ n h k x, mx mt 0 t n e0.d (Nat.add 11 1000) e0.ws h k x = k e0.w ih0 := by intro n h k x; kernel_rfl
theorem t_1 : Till t es 1 := till_s (good_of fit t_0) t_0 rfl f0
theorem f1 : ∀ n h k x, mx mt 1 t n e1.d (Nat.add 20 1000) e1.ws h k x = k e1.w ih0 := by intro n h k x; kernel_rfl
theorem t_2 : Till t es 2 := till_s (good_of fit t_1) t_1 rfl f1
theorem f2 : ∀ n h k x, mx mt 2 t n e2.d (Nat.add 21 1000) e2.ws h k x = k e2.w ih0 := by intro n h k x; kernel_rfl
theorem t_3 : Till t es 3 := till_s (good_of fit t_2) t_2 rfl f2
theorem f3 : ∀ n h k x, mx mt 3 t n e3.d (Nat.add 22 1000) e3.ws h k x = k e3.w ih0 := by intro n h k x; kernel_rfl
theorem t_4 : Till t es 4 := till_s (good_of fit t_3) t_3 rfl f3
theorem mx_all : mx mt 4 t 0 40 = orc t 40 := (mx_eq (good_of fit t_4) 0 40).trans (by rw [Nat.zero_add])
theorem run_ok0 : cl (mx mt 4 t 0 40) (List.replicate D.N.length none) ih0 (fun _ _ => false) isT (fun _ _ => false) (fun _ _ => false) (fun _ => kno) = true := by decide +kernel
theorem run_ok : bodyOf T.g T.s D (orc t 40) (List.replicate D.N.length none) ih0 (fun _ _ => false) isT (fun _ _ => false) (fun _ _ => false) (fun _ => kno) = true := by rw [← bodyS_eq, col, bodyS_some, ← mx_all]; exact run_ok0
theorem fs_ok : (T.ds.all fun D => fsB D.N D.ps (defScope D.st)) = true := by decide +kernel
theorem fs_law : fsB D.N D.ps (defScope D.st) = true := by decide +kernel
theorem kit_ok : T.kits.all kitB = true := by decide +kernel
theorem ex_nd : T.all.Nodup := by decide +kernel
theorem nm_nd : (T.ds.map (·.x)).Nodup := by decide +kernel
theorem b0 : BindP T 0 n0 := fun K f fd F => F.bindsN fun _ _ _ _ _ _ us hl => match us, hl with | [_], _ => rfl
theorem b1 : BindP T 1 n1 := fun K f fd F => F.bindsN fun _ _ _ _ _ _ us hl => match us, hl with | [_], _ => rfl
theorem b2 : BindP T 2 n2 := fun K f fd F => F.bindsN fun _ _ _ _ _ _ us hl => match us, hl with | [_], _ => rfl
theorem b3 : BindP T 3 n3 := fun K f fd F => F.bindsN fun _ _ _ _ _ _ us hl => match us, hl with | [_], _ => rfl
theorem b4 : BindP T 4 n4 := fun K f fd F => F.bindsN fun _ _ _ _ _ _ us hl => match us, hl with | [_], _ => rfl
theorem b5 : BindP T 5 n5 := fun K f fd F => F.bindsN fun _ _ _ _ _ _ us hl => match us, hl with | [_], _ => rfl
theorem b6 : BindP T 6 n6 := fun K f fd F => F.bindsN fun _ _ _ _ _ _ us hl => match us, hl with | [_], _ => rfl
theorem b7 : BindP T 7 n7 := fun K f fd F => F.bindsN fun _ _ _ _ _ _ us hl => match us, hl with | [_], _ => rfl
theorem b8 : BindP T 8 n8 := fun K f fd F => F.bindsN fun _ _ _ _ _ _ us hl => match us, hl with | [_], _ => rfl
theorem b9 : BindP T 9 n9 := fun K f fd F => F.bindsN fun _ _ _ _ _ _ us hl => match us, hl with | [_], _ => rfl
theorem b10 : BindP T 10 n10 := fun K f fd F => F.bindsN fun _ _ _ _ _ _ us hl => match us, hl with | [_, _, _], _ => rfl
theorem b11 : BindP T 11 n11 := fun K f fd F => F.bindsN fun _ _ _ _ _ _ us hl => match us, hl with | [_], _ => rfl
theorem b12 : BindP T 12 n12 := fun K f fd F => F.bindsN fun _ _ _ _ _ _ us hl => match us, hl with | [_], _ => rfl
theorem b13 : BindP T 13 n13 := fun K f fd F => F.bindsN fun _ _ _ _ _ _ us hl => match us, hl with | [_], _ => rfl
theorem b14 : BindP T 14 n14 := fun K f fd F => F.bindsN fun _ _ _ _ _ _ us hl => match us, hl with | [_], _ => rfl
theorem b15 : BindP T 15 n15 := fun K f fd F => F.bindsN fun _ _ _ _ _ _ us hl => match us, hl with | [_, _], _ => rfl
theorem b16 : BindP T 16 n16 := fun K f fd F => F.bindsN fun _ _ _ _ _ _ us hl => match us, hl with | [_, _, _], _ => rfl
theorem b17 : BindP T 17 n17 := fun K f fd F => F.bindsN fun _ _ _ _ _ _ us hl => match us, hl with | [_], _ => rfl
theorem b18 : BindP T 18 n18 := fun K f fd F => F.bindsN fun _ _ _ _ _ _ us hl => match us, hl with | [_, _], _ => rfl
theorem b19 : BindP T 19 n19 := fun K f fd F => F.bindsN fun _ _ _ _ _ _ us hl => match us, hl with | [_, _], _ => rfl
theorem b20 : BindP T 20 n20 := fun K f fd F => F.bindsN fun _ _ _ _ _ _ us hl => match us, hl with | [], _ => rfl
theorem b21 : BindP T 21 n21 := fun K f fd F => F.bindsN fun _ _ _ _ _ _ us hl => match us, hl with | [], _ => rfl
theorem b22 : BindP T 22 n22 := fun K f fd F => F.bindsN fun _ _ _ _ _ _ us hl => match us, hl with | [], _ => rfl
theorem b_ok : AllI (BindP T) 0 T.ds := ⟨b0, b1, b2, b3, b4, b5, b6, b7, b8, b9, b10, b11, b12, b13, b14, b15, b16, b17, b18, b19, b20, b21, b22, trivial⟩
theorem t_ok : AllI (fun i D => ∀ c, t.getK i c = c (T.d D)) 0 T.ds := ⟨fun c => congrArg c dd0.symm, fun c => congrArg c dd1.symm, fun c => congrArg c dd2.symm, fun c => congrArg c dd3.symm, fun c => congrArg c dd4.symm, fun c => congrArg c dd5.symm, fun c => congrArg c dd6.symm, fun c => congrArg c dd7.symm, fun c => congrArg c dd8.symm, fun c => congrArg c dd9.symm, fun c => congrArg c dd10.symm, fun c => congrArg c dd11.symm, fun c => congrArg c dd12.symm, fun c => congrArg c dd13.symm, fun c => congrArg c dd14.symm, fun c => congrArg c dd15.symm, fun c => congrArg c dd16.symm, fun c => congrArg c dd17.symm, fun c => congrArg c dd18.symm, fun c => congrArg c dd19.symm, fun c => congrArg c dd20.symm, fun c => congrArg c dd21.symm, fun c => congrArg c dd22.symm, trivial⟩
theorem k_ok : AllI (KwP T) 0 T.kws := trivial
def lawH : He.DefD := ⟨("law", none), "law", "law", defArgs D.st, defBody D.st, defScope D.st, [], []⟩
def fn : List He.DefD := lawH :: (T.ds.map Dn.h ++ T.ons.map (·.2))
theorem on_ok : ∀ p ∈ T.ons, p.2 ∈ fn ∧ InitP p.2 := fun p hp => ⟨List.mem_cons_of_mem _ (List.mem_append_right _ (List.mem_map_of_mem hp)), ListP.get (P := fun p : PySem.Str × He.DefD => InitP p.2) (show ListP (fun p : PySem.Str × He.DefD => InitP p.2) T.ons from ⟨⟨_, _, _, _, _, _, rfl, rfl, rfl, rfl, rfl, rfl⟩, trivial⟩) p hp⟩
def fa : List He.Fa := .glo "law" :: T.fa
def tf : List He.Defn := T.lams.map fun x => (x, none)
abbrev hk : PySem.W.Hook := He.hookX 4 fa fn [] tf T.ex
def ob (s : PySem.W.SharedT) : He.AlX := He.obsX 4 fa fn [] tf T.ex (HandSHeadRun.getT s)
theorem ob_eq (s : PySem.W.SharedT) : ob s = hk.obs s.abs := He.obsX_eq (HandSHeadRun.getT_eq s)
def lo : List Str := (["tupled", "set_of", "row_text", "wish_text", "facts_text", "line_text", "program_text", "count_in", "number_in", "row_in", "counts_behind", "wish_in"] : List Str) ++ (["wish_read", "lines_in", "facts_read", "parts_in", "line_in", "program_read", "_law_same", "_law_told", "_law_wishes_right", "_law_facts_right", "_law_programs_right", "BadText"] : List Str) ++ (["BadLine", "AS", "EMPTY", "FIGURES", "LINE", "NEXT"] : List Str)
theorem head_run (w : World) : HandSHeadRun.RunEq Ro (PySem.W.view Ro.prog [34]) hk ob 12000 lo w := by
  intro os
  kernel_rfl
theorem fnb {K : PySem.W.Frag} {f : Addr} {fd : FuncData} (F : FunD K D.x D.x (defArgs D.st) (defBody D.st) (defScope D.st) [] [] f fd) (s : Shared) (v : Value) : BindsTo s fd ⟨[v], []⟩ [("_law_script", v)] :=
  FunD.bindsA (ps := ["_law_script"]) F (fun _ _ _ _ _ _ us hl => match us, hl with | [_], _ => rfl) s [v] rfl
theorem law_at (w : World) (mg : Str → Option Value) (fa' : Addr) (h : Heap) (Y : hk.says w h) (G : h.Ns mainGlobals mg) (hmg : mg ("law" : Str) = some (.ref fa')) : ∃ K : PySem.W.Frag, K.In h ∧ LamX.LawAtS Rl w K (L2.CX Rl.prog w) 42 63 "_law_script" mg fa' h := by
  obtain ⟨K, X, c⟩ := Y
  refine ⟨K, X, ?_⟩
  have cd := c.t.d
  obtain ⟨fd, F⟩ := cd.defs (d := lawH) List.mem_cons_self
  have e := hmg.symm.trans (He.glo_ok X G (cd.facts (f := .glo "law") List.mem_cons_self))
  cases e
  have wf : WF Rl.prog w K mg (T.lams.map fun x => He.cT K (x, none)) T.g T.s (T.B K) T.L t := wf_mk T t X G cd (fun f hf => List.mem_cons_of_mem _ hf) c.more (fun D hD => List.mem_cons_of_mem _ (List.mem_append_left _ (List.mem_map_of_mem hD))) b_ok k_ok t_ok fs_ok ex_nd on_ok nm_nd kit_ok (by decide) (fun x hx => List.mem_map_of_mem (f := fun x => He.cT K (x, none)) hx) ?_
  · refine ⟨fd, T.lams.map fun x => He.cT K (x, none), fun vs H Q E => ∃ v, vs = [v] ∧ NdefX.TabsN (tabsK K) H ∧ ∀ H', Q (.bl true) H', fun p hp => by { obtain ⟨x, hx, rfl⟩ := List.mem_map.mp hp; exact c.empty _ (List.mem_map_of_mem (f := fun x => ((x, none) : He.Defn)) hx) }, fun p hp => by { obtain ⟨x, hx, rfl⟩ := List.mem_map.mp hp; exact c.out _ (List.mem_map_of_mem (f := fun x => ((x, none) : He.Defn)) hx) }, fun p hp => by { obtain ⟨x, hx, rfl⟩ := List.mem_map.mp hp; exact PySem.W.codeHd_of_K X (c.hd _ (List.mem_map_of_mem (f := fun x => ((x, none) : He.Defn)) hx)) }, fun s u => fnb F s u, fun H a ns hl _ hH hS => ⟨_, rfl, ?_, fun _ => rfl⟩, fun base KB NB TB => ?_⟩
    · exact tabs_of (tabM_ok c.more) hH
    · exact law_ground wf KB NB TB (by decide +kernel) F (fsB_ok fs_law) 40 run_ok (fun vs H Q E ⟨v, e, _⟩ => by rw [e]; rfl) fun vs H Q E ⟨v, _, a, b⟩ => ⟨a, b⟩
  · intro h
    have z : T.led = false := rfl
    rw [z] at h; cases h
end
end Tg
open PySem PySem.W PySem.Calls PyProof.Rows
theorem PySem.Challenge.cw_sharesuntold_k74_texts_that_are_none_holds : PySem.Challenge.rw_sharesuntold_k74_texts_that_are_none.Holds := by
  w_on; o_law
  refine HandSHeadRun.head_any (r := Tg.Ro) (q := view Tg.Ro.prog [34]) (H := Tg.hk) (ob := Tg.ob) (M := 12000) (loose := Tg.lo) (d := HandSHeadRun.topDef Tg.Ro.prog 34) (kwd := []) Tg.ob_eq
    (by kernel_rfl) (fun s => by kernel_rfl) Tg.head_run (by kernel_rfl) (by kernel_rfl) (by kernel_rfl) (by rfl) (by first | assumption | decide +kernel) (by decide +kernel) ⟨rfl, rfl, rfl, rfl, rfl, by decide +kernel⟩ ?hw ?hc
  case hw => w_witness2
  case hc =>
    refine LamX.walk_ofTsE (l := Tg.Rl) (n := 63) (k := 42) (x := "_law_script") (CX := fun w => L2.CX Tg.Rl.prog w) rfl (by decide) (by kernel_rfl) ⟨rfl, by decide, by decide⟩ ?F (fun _ _ _ _ _ z => by obtain ⟨_, _, _, _, _, _, _, _, _, _, _, _, e⟩ := z; exact e)
    intro w mg fa' h Y G hm
    exact Tg.law_at w mg fa' h Y G (by
      have e : (HandSHeadRun.topDef Tg.Ro.prog 34).name = ("law" : PySem.Str) := by kernel_rfl
      rw [← e]
      exact hm)

