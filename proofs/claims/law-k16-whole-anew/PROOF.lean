import PyProof.Rows.All
import Wide.All
import OpenK.AllK
import Wide.FinOn
import PyProof.Dict
import PySem.Builtin.Tuple.Common
import HandS.ForMost
import HandS.Deep
import HandS.Style
import HandS.IsInst
import HandS.Conv
import KE.SortData
import KE.DataMinMax
import HandS.Words
import HandS.Defaults
import KE.KDictZip
import KE.KDictKeyed
import HandS.Zip
import PyProof.ReprRoads
import PyProof.Rows.ReprR
import PyProof.Rows.RegFStrParts
import HandS.Lambda
import HandS.Nested
import KE.KeyNested
import HandS.TupSets
import HandS.SetFor
import HandS.Head0
import HandS.Head1
import HandS.Head2
import HandS.HeadEnd
import HandS.HeadHook1
import HandS.HeadHook2
import HandS.HeadHook3
import HandS.HeadHook4
import HandS.HeadWalk
import HandS.EndTab
import PySem.Challenge.RW_storyturns_k16_whole_anew
set_option Elab.async false
set_option linter.all false
set_option maxRecDepth 100000
set_option maxHeartbeats 0
/-! K1: values, heaps and the combinators of a small interpreter, in continuation style with answers in Bool (so that the kernel evaluates by value). No library. -/
noncomputable section
namespace G
/-- values: tuples inline (tn, tc), lists, dicts, instances, lambdas by their cell (ref); ln, lc: lists as data only; rep d: the text str(d); und: no value -/
inductive W where
  | und | non | bl (b : Bool) | int (i : Int) | sp | so | tn | tc (a b : W) | ref (n : Nat) | ln | lc (a b : W) | rep (d : W)
inductive Cell where
  | lst (l : List W) | dct (lk : Bool) (l : List (List Int × W)) | ins (c : Nat) (fs : List (Nat × W)) | lam (q : Nat) | tab | opq
inductive Tr where
  | lf | nd (c : Cell) (l r : Tr)
structure Hh where
  n : Nat
  t : Tr
abbrev St := List W
abbrev KW := W → Hh → Bool
abbrev KL := List W → Hh → Bool
abbrev KS := St → Hh → Bool
abbrev D := St → Hh → KW → Bool
abbrev DA := St → Hh → KL → Bool
/-- what is walked: a list's cell, a locked dict's cell (its keys), a tuple's items, 0 .. n - 1, two lists' cells, a list's cell numbered -/
inductive IT where
  | il (n : Nat) | idk (n : Nat) | fix (l : List W) | rng (n : Nat) | iz (a b : Nat) | ie (a : Nat)
abbrev DI := St → Hh → (IT → Hh → Bool) → Bool
abbrev DG := W → St → Hh → KS → Bool
structure En where
  nx : KS
  rt : KW
abbrev DT := En → St → Hh → Bool
abbrev Fn := List W → Hh → KW → Bool

/-! ### the heap: a tree of cells -/
noncomputable def Tr.get (t : Tr) : Nat → (Cell → Bool) → Bool := Tr.rec (fun _ _ => false) (fun c _ _ il ir i k => Nat.rec (k c) (fun j _ => Bool.rec (il (Nat.div j 2) k) (ir (Nat.div j 2) k) (Nat.beq (Nat.mod j 2) 1)) i) t
noncomputable def Tr.set (t : Tr) : Nat → Cell → (Tr → Bool) → Bool := Tr.rec (fun i x k => Nat.rec (k (.nd x .lf .lf)) (fun _ _ => false) i) (fun c l r il ir i x k => Nat.rec (k (.nd x l r)) (fun j _ => Bool.rec (il (Nat.div j 2) x fun l' => k (.nd c l' r)) (ir (Nat.div j 2) x fun r' => k (.nd c l r')) (Nat.beq (Nat.mod j 2) 1)) i) t
/-- a Nat as a numeral -/
def forceN (n : Nat) (k : Nat → Bool) : Bool := Nat.rec (k 0) (fun m _ => k (Nat.succ m)) n
def forceI (i : Int) (k : Int → Bool) : Bool := match i with
  | .ofNat n => forceN n fun m => k (.ofNat m)
  | .negSucc n => forceN n fun m => k (.negSucc m)
def alloc (h : Hh) (c : Cell) (k : Nat → Hh → Bool) : Bool := Hh.rec (fun n t => t.set n c fun t' => forceN n fun m => k m ⟨Nat.succ m, t'⟩) h
def geth (h : Hh) (n : Nat) (k : Cell → Bool) : Bool := Hh.rec (fun m t => Bool.rec false (t.get n k) (Nat.blt n m)) h
def puth (h : Hh) (n : Nat) (c : Cell) (k : Hh → Bool) : Bool := Hh.rec (fun m t => Bool.rec false (t.set n c fun t' => k ⟨m, t'⟩) (Nat.blt n m)) h

/-! ### small things -/
noncomputable def nth (l : List W) : Nat → (W → Bool) → Bool := List.rec (fun _ _ => false) (fun x _ ih n k => Nat.rec (k x) (fun m _ => ih m k) n) l
noncomputable def setn (l : List W) : Nat → W → (List W → Bool) → Bool := List.rec (fun _ _ _ => false) (fun x xs ih n w k => Nat.rec (k (w :: xs)) (fun m _ => ih m w fun ys => k (x :: ys)) n) l
/-- a tuple of these -/
def toTup : List W → W
  | [] => .tn
  | x :: xs => .tc x (toTup xs)
def tupK (w : W) : (List W → Bool) → Bool := W.rec (motive := fun _ => (List W → Bool) → Bool) (fun _ => false) (fun _ => false) (fun _ _ => false) (fun _ _ => false) (fun _ => false) (fun _ => false) (fun k => k []) (fun a _ _ ib k => ib fun l => k (a :: l)) (fun _ _ => false) (fun _ => false) (fun _ _ _ _ _ => false) (fun _ _ _ => false) w
/-- a list, its items as they are, its cells made -/
def forceL (l : List W) : (List W → Bool) → Bool := List.rec (fun k => k []) (fun x _ ih k => ih fun ys => k (x :: ys)) l
/-- at most so many -/
def short (l : List W) : Nat → Bool := List.rec (fun _ => true) (fun _ _ ih n => Nat.rec false (fun m _ => ih m) n) l
def onB (b : Bool) (h : Hh) (k : KW) : Bool := match b with
  | false => k (.bl false) h
  | true => k (.bl true) h
def onI (i : Int) (h : Hh) (k : KW) : Bool := forceI i fun j => k (.int j) h
def newL (l : List W) (h : Hh) (k : KW) : Bool := match short l 100 with
  | true => forceL l fun l' => alloc h (.lst l') fun n h' => k (.ref n) h'
  | false => false
def i2 (a b : W) (k : Int → Int → Bool) : Bool := match a with
  | .int i => (match b with
    | .int j => k i j
    | _ => false)
  | _ => false
def bK (w : W) (k : Bool → Bool) : Bool := match w with
  | .bl b => k b
  | _ => false
def onSome {α : Type} (o : Option α) (k : α → Bool) : Bool := match o with
  | none => false
  | some x => k x
def lstAt (w : W) (h : Hh) (k : Nat → List W → Bool) : Bool := match w with
  | .ref n => geth h n fun c => (match c with
    | .lst l => k n l
    | _ => false)
  | _ => false
def dctAt (w : W) (h : Hh) (k : Nat → Bool → List (List Int × W) → Bool) : Bool := match w with
  | .ref n => geth h n fun c => (match c with
    | .dct b l => k n b l
    | _ => false)
  | _ => false
def insAt (w : W) (h : Hh) (k : Nat → Nat → List (Nat × W) → Bool) : Bool := match w with
  | .ref n => geth h n fun c => (match c with
    | .ins q l => k n q l
    | _ => false)
  | _ => false
/-- a list or a tuple: its items -/
def seqAt (w : W) (h : Hh) (k : List W → Bool) : Bool := match w with
  | .ref n => geth h n fun c => (match c with
    | .lst l => k l
    | _ => false)
  | .tn => k []
  | .tc a b => tupK (.tc a b) k
  | _ => false
/-- items of written places: xs[i], i below nought from the end -/
def atI (l : List W) (i : Int) (k : W → Bool) : Bool := match i with
  | .ofNat m => nth l m k
  | .negSucc m => nth l.reverse m k
def clampI (n : Nat) (i : Int) : Nat := match i with
  | .ofNat m => Nat.min m n
  | .negSucc m => n - (m + 1)

/-! ### data -/
def mapK (f : W → (W → Bool) → Bool) (l : List W) : (W → Bool) → Bool := List.rec (fun k => k .ln) (fun x _ ih k => f x fun x' => ih fun y => k (.lc x' y)) l
/-- a value read deep -/
def rd (n : Nat) : Hh → W → (W → Bool) → Bool := Nat.rec (fun _ _ _ => false) (fun _ ih h w k => W.rec (motive := fun _ => Bool) false (k .non) (fun b => k (.bl b)) (fun i => k (.int i)) (k .sp) (k .so) (k .tn) (fun a b _ _ => ih h a fun a' => ih h b fun b' => k (.tc a' b')) (fun m => geth h m fun c => (match c with
      | .lst l => mapK (ih h) l k
      | _ => false)) false (fun _ _ _ _ => false) (fun _ _ => false) w) n
/-- are two data the same, where that can be told -/
def eqK (p : W) : W → (Bool → Bool) → Bool := W.rec (motive := fun _ => W → (Bool → Bool) → Bool) (fun _ _ => false) (fun q k => (W.rec (motive := fun _ => Bool) (false) (k true) (fun _ => k false) (fun _ => k false) (k false) (k false) (k false) (fun _ _ _ _ => k false) (fun _ => false) (k false) (fun _ _ _ _ => k false) (fun _ _ => false) q)) (fun a q k => (W.rec (motive := fun _ => Bool) (false) (k false) (fun b => match a with | true => (match b with | true => k true | false => k false) | false => (match b with | true => k false | false => k true)) (fun _ => false) (k false) (k false) (k false) (fun _ _ _ _ => k false) (fun _ => false) (false) (fun _ _ _ _ => false) (fun _ _ => false) q)) (fun i q k => (W.rec (motive := fun _ => Bool) (false) (k false) (fun _ => false) (fun j => match decide (i = j) with | true => k true | false => k false) (k false) (k false) (k false) (fun _ _ _ _ => k false) (fun _ => false) (false) (fun _ _ _ _ => false) (fun _ _ => false) q)) (fun q k => (W.rec (motive := fun _ => Bool) (false) (k false) (fun _ => false) (fun _ => k false) (k true) (k false) (k false) (fun _ _ _ _ => k false) (fun _ => false) (false) (fun _ _ _ _ => false) (fun _ _ => false) q)) (fun q k => (W.rec (motive := fun _ => Bool) (false) (k false) (fun _ => false) (fun _ => k false) (k false) (k true) (k false) (fun _ _ _ _ => k false) (fun _ => false) (false) (fun _ _ _ _ => false) (fun _ _ => false) q)) (fun q k => (W.rec (motive := fun _ => Bool) (false) (k false) (fun _ => false) (fun _ => k false) (k false) (k false) (k true) (fun _ _ _ _ => k false) (fun _ => false) (false) (fun _ _ _ _ => false) (fun _ _ => false) q)) (fun _ _ ia ib q k => (W.rec (motive := fun _ => Bool) (false) (k false) (fun _ => false) (fun _ => k false) (k false) (k false) (k false) (fun c d _ _ => ia c fun e => (match e with | true => ib d k | false => k false)) (fun _ => false) (false) (fun _ _ _ _ => false) (fun _ _ => false) q)) (fun _ _ _ => false) (fun q k => (W.rec (motive := fun _ => Bool) (false) (false) (fun _ => false) (fun _ => false) (false) (false) (false) (fun _ _ _ _ => false) (fun _ => false) (k true) (fun _ _ _ _ => k false) (fun _ _ => false) q)) (fun _ _ ia ib q k => (W.rec (motive := fun _ => Bool) (false) (false) (fun _ => false) (fun _ => false) (false) (false) (false) (fun _ _ _ _ => false) (fun _ => false) (k false) (fun c d _ _ => ia c fun e => (match e with | true => ib d k | false => k false)) (fun _ _ => false) q)) (fun _ _ _ _ => false) p
/-- the same -/
def eqT : W → W → Bool → Bool
  | .non, q, k => (match q with | .non => k | _ => false)
  | .bl true, q, k => (match q with | .bl true => k | _ => false)
  | .bl false, q, k => (match q with | .bl false => k | _ => false)
  | .int i, q, k => (match q with | .int j => (match decide (i = j) with | true => k | false => false) | _ => false)
  | .sp, q, k => (match q with | .sp => k | _ => false)
  | .so, q, k => (match q with | .so => k | _ => false)
  | .tn, q, k => (match q with | .tn => k | _ => false)
  | .ln, q, k => (match q with | .ln => k | _ => false)
  | .tc a b, q, k => (match q with | .tc c d => eqT a c (eqT b d k) | _ => false)
  | .lc a b, q, k => (match q with | .lc c d => eqT a c (eqT b d k) | _ => false)
  | _, _, _ => false
/-- a below b, where that can be told: ints, tuples and lists of alike things -/
def ltK : W → W → (Bool → Bool) → Bool
  | .int i, q, k => (match q with | .int j => (match decide (i < j) with | true => k true | false => k false) | _ => false)
  | .tn, q, k => (match q with | .tn => k false | .tc _ _ => k true | _ => false)
  | .ln, q, k => (match q with | .ln => k false | .lc _ _ => k true | _ => false)
  | .tc a b, q, k => (match q with | .tc c d => eqK a c fun e => (match e with | true => ltK b d k | false => ltK a c k) | .tn => k false | _ => false)
  | .lc a b, q, k => (match q with | .lc c d => eqK a c fun e => (match e with | true => ltK b d k | false => ltK a c k) | .ln => k false | _ => false)
  | _, _, _ => false
/-- pairs (data, value) -/
def rds (h : Hh) : List W → (List (W × W) → Bool) → Bool
  | [], k => k []
  | x :: xs, k => rd 40 h x fun d => rds h xs fun r => k ((d, x) :: r)
def fstL : List (W × W) → List W
  | [] => []
  | x :: xs => x.1 :: fstL xs
def insK (x : W × W) : List (W × W) → (List (W × W) → Bool) → Bool
  | [], k => k [x]
  | y :: ys, k => ltK x.1 y.1 fun e => (match e with
    | true => k (x :: y :: ys)
    | false => ltK y.1 x.1 fun e' => (match e' with
      | true => insK x ys fun zs => k (y :: zs)
      | false => false))
/-- sorted: no two alike -/
def srtK : List (W × W) → (List (W × W) → Bool) → Bool
  | [], k => k []
  | x :: xs, k => srtK xs fun ys => insK x ys k
def sndL : List (W × W) → List W
  | [] => []
  | x :: xs => x.2 :: sndL xs
/-- the greatest, from the left -/
def maxK : W → List W → (W → Bool) → Bool
  | m, [], k => k m
  | m, x :: xs, k => ltK m x fun e => (match e with
    | true => maxK x xs k
    | false => maxK m xs k)
def memK (x : W) (l : List W) : (Bool → Bool) → Bool := List.rec (fun k => k false) (fun y _ ih k => eqK y x fun e => (match e with | true => k true | false => ih k)) l
def eqIs (l : List Int) : List Int → Bool := List.rec (fun q => List.rec true (fun _ _ _ => false) q) (fun a _ ih q => List.rec false (fun b q _ => match decide (a = b) with | true => ih q | false => false) q) l
/-- a key: a tuple of ints -/
def keyK (w : W) : (List Int → Bool) → Bool := W.rec (motive := fun _ => (List Int → Bool) → Bool) (fun _ => false) (fun _ => false) (fun _ _ => false) (fun _ _ => false) (fun _ => false) (fun _ => false) (fun k => k []) (fun a _ _ ib k => match a with
    | .int i => ib fun l => k (i :: l)
    | _ => false) (fun _ _ => false) (fun _ => false) (fun _ _ _ _ _ => false) (fun _ _ _ => false) w
def ofKey : List Int → W
  | [] => .tn
  | i :: r => .tc (.int i) (ofKey r)
def lookK (x : List Int) (l : List (List Int × W)) : (Unit → Bool) → (W → Bool) → Bool := List.rec (fun n _ => n ()) (fun p _ ih n k => match eqIs p.1 x with | true => k p.2 | false => ih n k) l
def putK (x : List Int) (y : W) : List (List Int × W) → (List (List Int × W) → Bool) → Bool
  | [], k => k [(x, y)]
  | (a, b) :: r, k => match eqIs a x with
    | true => k ((a, y) :: r)
    | false => putK x y r fun r' => k ((a, b) :: r')
def shortD : List (List Int × W) → Nat → Bool
  | [], _ => true
  | _ :: _, 0 => false
  | _ :: xs, n + 1 => shortD xs n
def fldK (f : Nat) : List (Nat × W) → (W → Bool) → Bool
  | [], _ => false
  | (a, b) :: r, k => match Nat.beq a f with
    | true => k b
    | false => fldK f r k
def shortF : List (Nat × W) → Nat → Bool
  | [], _ => true
  | _ :: _, 0 => false
  | _ :: xs, n + 1 => shortF xs n
def fputK (f : Nat) (y : W) : List (Nat × W) → (List (Nat × W) → Bool) → Bool
  | [], k => k [(f, y)]
  | (a, b) :: r, k => match Nat.beq a f with
    | true => k ((a, y) :: r)
    | false => fputK f y r fun r' => k ((a, b) :: r')

/-! ### expressions -/
def isUnd (w : W) : Bool := W.rec (motive := fun _ => Bool) true false (fun _ => false) (fun _ => false) false false false (fun _ _ _ _ => false) (fun _ => false) false (fun _ _ _ _ => false) (fun _ _ => false) w
def dVar (i : Nat) : D := fun s h k => nth s i fun w => Bool.rec (k w h) false (isUnd w)
def dCon (w : W) : D := fun _ h k => k w h
def aNil : DA := fun _ h k => k [] h
def aCons (a : D) (b : DA) : DA := fun s h k => a s h fun x h => b s h fun xs h => k (x :: xs) h
def dTup (a : DA) : D := fun s h k => a s h fun l h => match short l 100 with
  | true => k (toTup l) h
  | false => false
def dLst (a : DA) : D := fun s h k => a s h fun l h => newL l h k
def dDict : D := fun _ h k => alloc h (.dct false []) fun n h => k (.ref n) h
def addW (x y : W) (h : Hh) (k : KW) : Bool := match x with
  | .int i => (match y with
    | .int j => onI (i + j) h k
    | _ => false)
  | x => lstAt x h fun _ l => lstAt y h fun _ r => newL (l ++ r) h k
def dAdd (a b : D) : D := fun s h k => a s h fun x h => b s h fun y h => addW x y h k
def dSub (a b : D) : D := fun s h k => a s h fun x h => b s h fun y h => i2 x y fun i j => onI (i - j) h k
/-- xs * n -/
def repL : Nat → List W → List W
  | 0, _ => []
  | n + 1, l => l ++ repL n l
def dMul (a b : D) : D := fun s h k => a s h fun x h => b s h fun y h => lstAt x h fun _ l => match y with
  | .int (.ofNat n) => (match Nat.blt n 1000 with
    | true => newL (repL n l) h k
    | false => false)
  | _ => false
def dNeg (a : D) : D := fun s h k => a s h fun x h => match x with
  | .int i => onI (-i) h k
  | _ => false
def dNot (a : D) : D := fun s h k => a s h fun x h => bK x fun b => match b with
  | true => k (.bl false) h
  | false => k (.bl true) h
def dEq (a b : D) : D := fun s h k => a s h fun x h => b s h fun y h => rd 40 h x fun p => rd 40 h y fun q => eqK p q fun e => onB e h k
/-- two texts str(d), or two data -/
def neW (x y : W) (h : Hh) (k : KW) : Bool := match x with
  | .rep a => (match y with
    | .rep b => eqT a b (k (.bl false) h)
    | _ => false)
  | x => rd 40 h x fun p => rd 40 h y fun q => eqK p q fun e => onB (!e) h k
def dNe (a b : D) : D := fun s h k => a s h fun x h => b s h fun y h => neW x y h k
def dLt (a b : D) : D := fun s h k => a s h fun x h => b s h fun y h => i2 x y fun i j => onB (decide (i < j)) h k
def dLe (a b : D) : D := fun s h k => a s h fun x h => b s h fun y h => i2 x y fun i j => onB (decide (i ≤ j)) h k
def dGt (a b : D) : D := fun s h k => a s h fun x h => b s h fun y h => i2 x y fun i j => onB (decide (j < i)) h k
def dGe (a b : D) : D := fun s h k => a s h fun x h => b s h fun y h => i2 x y fun i j => onB (decide (j ≤ i)) h k
/-- x in a list (data), in a tuple of ints -/
def memI (i : Int) : List W → (Bool → Bool) → Bool
  | [], k => k false
  | y :: ys, k => (match y with
    | .int j => (match decide (j = i) with
      | true => memI i ys fun _ => k true
      | false => memI i ys k)
    | _ => false)
def inTup (x y : W) (k : Bool → Bool) : Bool := match x with
  | .int i => tupK y fun l => memI i l k
  | _ => false
def inW (x y : W) (h : Hh) (k : Bool → Bool) : Bool := match y with
  | .ref n => rd 40 h x fun p => lstAt (.ref n) h fun _ l => rds h l fun ps => memK p (fstL ps) k
  | y => inTup x y k
def dIn (a b : D) : D := fun s h k => a s h fun x h => b s h fun y h => inW x y h fun e => onB e h k
def dNin (a b : D) : D := fun s h k => a s h fun x h => b s h fun y h => inW x y h fun e => onB (!e) h k
/-- x in a dict -/
def dInD (a b : D) : D := fun s h k => a s h fun x h => b s h fun y h => dctAt y h fun _ _ l => keyK x fun q => lookK q l (fun _ => k (.bl false) h) fun _ => k (.bl true) h
def dNinD (a b : D) : D := fun s h k => a s h fun x h => b s h fun y h => dctAt y h fun _ _ l => keyK x fun q => lookK q l (fun _ => k (.bl true) h) fun _ => k (.bl false) h
def dIsN (a : D) : D := fun s h k => a s h fun x h => match x with
  | .non => k (.bl true) h
  | _ => k (.bl false) h
def dNotN (a : D) : D := fun s h k => a s h fun x h => match x with
  | .non => k (.bl false) h
  | _ => k (.bl true) h
/-- a <= b <= c, a <= b < c -/
def dChLL (a b c : D) : D := fun s h k => a s h fun x h => b s h fun y h => i2 x y fun i j => match decide (i ≤ j) with
  | true => c s h fun z h => i2 y z fun i j => onB (decide (i ≤ j)) h k
  | false => k (.bl false) h
def dChLT (a b c : D) : D := fun s h k => a s h fun x h => b s h fun y h => i2 x y fun i j => match decide (i ≤ j) with
  | true => c s h fun z h => i2 y z fun i j => onB (decide (i < j)) h k
  | false => k (.bl false) h
def dAnd (a b : D) : D := fun s h k => a s h fun x h => bK x fun e => match e with
  | true => b s h fun y h => bK y fun c => onB c h k
  | false => k (.bl false) h
def dOr (a b : D) : D := fun s h k => a s h fun x h => bK x fun e => match e with
  | true => k (.bl true) h
  | false => b s h fun y h => bK y fun c => onB c h k
def dIte (c a b : D) : D := fun s h k => c s h fun x h => bK x fun e => match e with
  | true => a s h k
  | false => b s h k
/-- xs[i], t[i] -/
def dIx (a b : D) : D := fun s h k => a s h fun x h => b s h fun y h => match y with
  | .int i => seqAt x h fun l => atI l i fun w => k w h
  | _ => false
/-- d[k] -/
def dIxD (a b : D) : D := fun s h k => a s h fun x h => b s h fun y h => dctAt x h fun _ _ l => keyK y fun q => lookK q l (fun _ => false) fun w => k w h
/-- a slice's part: none, or an int -/
def partK (w : W) (k : Option Int → Bool) : Bool := match w with
  | .non => k none
  | .int i => k (some i)
  | _ => false
def sIdx (n d : Nat) : Option Int → Nat
  | none => d
  | some i => clampI n i
def cutL (l : List W) (lo hi : Option Int) : List W := (l.drop (sIdx l.length 0 lo)).take (sIdx l.length l.length hi - sIdx l.length 0 lo)
/-- xs[a:b] of a list -/
def dSl (a lo hi : D) : D := fun s h k => a s h fun x h => lo s h fun p h => partK p fun o => hi s h fun q h => partK q fun o' => lstAt x h fun _ l => newL (cutL l o o') h k
/-- t[a:b] of a tuple, less than all of it -/
def dSlT (a lo hi : D) : D := fun s h k => a s h fun x h => lo s h fun p h => partK p fun o => hi s h fun q h => partK q fun o' => tupK x fun l => match Nat.blt (cutL l o o').length l.length with
  | true => forceL (cutL l o o') fun r => k (toTup r) h
  | false => false
def dRev (a : D) : D := fun s h k => a s h fun x h => lstAt x h fun _ l => newL l.reverse h k
def dFld (a : D) (f : Nat) : D := fun s h k => a s h fun x h => insAt x h fun _ c fs => match Nat.blt c 7 with
  | true => fldK f fs fun w => k w h
  | false => false
def dCall (F : Fn) (a : DA) : D := fun s h k => a s h fun l h => F l h k
def dMk (c : Nat) (F : Fn) (a : DA) : D := fun s h k => a s h fun l h => alloc h (.ins c []) fun n h => F (.ref n :: l) h fun w h => match w with
  | .non => k (.ref n) h
  | _ => false
def pick (c : Nat) : List (Nat × Fn) → (Fn → Bool) → Bool
  | [], _ => false
  | (q, F) :: r, k => match Nat.beq q c with
    | true => k F
    | false => pick c r k
def dMth (fs : List (Nat × Fn)) (a : D) (as : DA) : D := fun s h k => a s h fun x h => insAt x h fun _ c _ => pick c fs fun F => as s h fun l h => F (x :: l) h k
/-- a local that holds a lambda, called -/
def dClv (L : Nat → Fn) (i : Nat) (as : DA) : D := fun s h k => nth s i fun x => match x with
  | .ref n => geth h n fun c => (match c with
    | .lam _ => as s h fun l h => geth h n fun c => (match c with
      | .lam q => L q l h k
      | _ => false)
    | _ => false)
  | _ => false
/-- cell 0: the table of the lambdas' code objects -/
def dLam (q : Nat) : D := fun _ h k => geth h 0 fun c => match c with
  | .tab => alloc h (.lam q) fun n h => k (.ref n) h
  | _ => false
/-- slots' values -/
def slots (s : St) : List Nat → (List W → Bool) → Bool
  | [], k => k []
  | i :: r, k => nth s i fun w => slots s r fun l => k (w :: l)
def dCallG (F : List W → Fn) (js : List Nat) (a : DA) : D := fun s h k => a s h fun l h => slots s js fun g => F g l h k
/-- isinstance -/
def isIntW (x : W) (h : Hh) (k : KW) : Bool := match x with
  | .int _ => k (.bl true) h
  | .bl _ => k (.bl true) h
  | .non => k (.bl false) h
  | .sp => k (.bl false) h
  | .so => k (.bl false) h
  | .tn => k (.bl false) h
  | .tc _ _ => k (.bl false) h
  | _ => false
def dIsInt (a : D) : D := fun s h k => a s h fun x h => isIntW x h k
def isBoolW (x : W) (h : Hh) (k : KW) : Bool := match x with
  | .int _ => k (.bl false) h
  | .bl _ => k (.bl true) h
  | _ => false
def dIsBool (a : D) : D := fun s h k => a s h fun x h => isBoolW x h k
def isTupW (x : W) (h : Hh) (k : KW) : Bool := match x with
  | .non => k (.bl false) h
  | .bl _ => k (.bl false) h
  | .int _ => k (.bl false) h
  | .sp => k (.bl false) h
  | .so => k (.bl false) h
  | .tn => k (.bl true) h
  | .tc _ _ => k (.bl true) h
  | .ref n => geth h n fun c => (match c with
    | .lst _ => k (.bl false) h
    | _ => false)
  | _ => false
def dIsTup (a : D) : D := fun s h k => a s h fun x h => isTupW x h k
def isStrW (x : W) (h : Hh) (k : KW) : Bool := match x with
  | .sp => k (.bl true) h
  | .so => k (.bl true) h
  | _ => false
def dIsStr (a : D) : D := fun s h k => a s h fun x h => isStrW x h k
def isListW (x : W) (h : Hh) (k : KW) : Bool := match x with
  | .non => k (.bl false) h
  | .bl _ => k (.bl false) h
  | .int _ => k (.bl false) h
  | .sp => k (.bl false) h
  | .so => k (.bl false) h
  | .tn => k (.bl false) h
  | .tc _ _ => k (.bl false) h
  | .ref n => geth h n fun c => (match c with
    | .lst _ => k (.bl true) h
    | _ => false)
  | _ => false
def dIsList (a : D) : D := fun s h k => a s h fun x h => isListW x h k
def isLTW (x : W) (h : Hh) (k : KW) : Bool := match x with
  | .non => k (.bl false) h
  | .bl _ => k (.bl false) h
  | .int _ => k (.bl false) h
  | .sp => k (.bl false) h
  | .so => k (.bl false) h
  | .tn => k (.bl true) h
  | .tc _ _ => k (.bl true) h
  | .ref n => geth h n fun c => (match c with
    | .lst _ => k (.bl true) h
    | _ => false)
  | _ => false
def dIsLT (a : D) : D := fun s h k => a s h fun x h => isLTW x h k
def dIsCls (a : D) (q : Nat) : D := fun s h k => a s h fun x h => insAt x h fun _ c _ => match Nat.blt c 7 with
  | true => onB (Nat.beq c q) h k
  | false => false
def dLen (a : D) : D := fun s h k => a s h fun x h => seqAt x h fun l => onI l.length h k
def dLenD (a : D) : D := fun s h k => a s h fun x h => dctAt x h fun _ _ l => onI l.length h k
/-- list(xs), list(d), tuple(xs) -/
def dList (a : D) : D := fun s h k => a s h fun x h => lstAt x h fun _ l => newL l h k
def keysL : List (List Int × W) → (List W → Bool) → Bool
  | [], k => k []
  | (a, _) :: r, k => keysL r fun l => k (ofKey a :: l)
def dListD (a : D) : D := fun s h k => a s h fun x h => dctAt x h fun _ _ l => keysL l fun q => newL q h k
def dTuple (a : D) : D := fun s h k => a s h fun x h => lstAt x h fun _ l => forceL l fun l' => k (toTup l') h
/-- a datum of a pattern's kind: ints, tuples place by place, lists of alike items -/
def shK : W → W → Bool
  | .int _, q => (match q with | .int _ => true | _ => false)
  | .tn, q => (match q with | .tn => true | _ => false)
  | .tc a b, q => (match q with | .tc c d => (match shK a c with | true => shK b d | false => false) | _ => false)
  | .lc a _, q => shLs (shK a) q
  | _, _ => false
where shLs (f : W → Bool) : W → Bool
  | .ln => true
  | .lc c d => (match f c with | true => shLs f d | false => false)
  | _ => false
def shAll (t : W) : List W → Bool
  | [] => true
  | x :: xs => (match shK t x with | true => shAll t xs | false => false)
/-- sorted(xs), all of the first one's kind -/
def srtS (ps : List (W × W)) (k : List (W × W) → Bool) : Bool := match ps with
  | [] => k []
  | p :: r => match shAll p.1 (p.1 :: fstL r) with
    | true => (match p.1 with
      | .tn => false
      | _ => srtK (p :: r) k)
    | false => false
def dSorted (a : D) : D := fun s h k => a s h fun x h => lstAt x h fun _ l => rds h l fun ps => srtS ps fun qs => newL (sndL qs) h k
/-- items that hold nothing but what they show -/
def plK (h : Hh) : List W → Bool → Bool
  | [], k => k
  | x :: xs, k => rd 40 h x fun d => eqT d x (plK h xs k)
def anyK : List W → (Bool → Bool) → Bool
  | [], k => k false
  | x :: xs, k => bK x fun e => anyK xs fun r => (match e with
    | true => k true
    | false => k r)
def allK : List W → (Bool → Bool) → Bool
  | [], k => k true
  | x :: xs, k => bK x fun e => allK xs fun r => (match e with
    | true => k r
    | false => k false)
def dAny (a : D) : D := fun s h k => a s h fun x h => lstAt x h fun _ l => anyK l fun e => onB e h k
def dAll (a : D) : D := fun s h k => a s h fun x h => lstAt x h fun _ l => allK l fun e => onB e h k
def sumK : List W → (Int → Bool) → Bool
  | [], k => k 0
  | x :: xs, k => (match x with
    | .int i => sumK xs fun j => k (i + j)
    | _ => false)
def dSum (a : D) : D := fun s h k => a s h fun x h => lstAt x h fun _ l => sumK l fun i => onI i h k
def dMax (a : D) : D := fun s h k => a s h fun x h => lstAt x h fun _ l => match l with
  | [] => false
  | y :: ys => plK h (y :: ys) (match shAll y (y :: ys) with
    | true => maxK y ys fun w => k w h
    | false => false)
def dMx2 (a b : D) : D := fun s h k => a s h fun x h => b s h fun y h => i2 x y fun i j => match decide (j > i) with
  | true => k (.int j) h
  | false => k (.int i) h
/-- small ints alone -/
def okS : W → Bool
  | .int (.ofNat n) => Nat.blt n 100
  | .int _ => false
  | .tc a b => (match okS a with | true => okS b | false => false)
  | .lc a b => (match okS a with | true => okS b | false => false)
  | _ => true
def wtK : W → Nat
  | .sp => 4
  | .so => 4
  | .int _ => 7
  | .tc a b => Nat.add (Nat.add (wtK a) 1) (wtK b)
  | .lc a b => Nat.add (Nat.add (wtK a) 1) (wtK b)
  | _ => 0
def strK (d : W) (k : Bool) : Bool := match okS d with
  | true => (match Nat.ble (wtK d) 1000000 with
    | true => k
    | false => false)
  | false => false
def dStr (a : D) : D := fun s h k => a s h fun x h => match x with
  | .ref n => rd 40 h (.ref n) fun d => strK d (k (.rep d) h)
  | _ => false
/-- dict(zip(xs, ys)), xs of keys, as many -/
def zipK : List W → List W → List (List Int × W) → (List (List Int × W) → Bool) → Bool
  | [], [], d, k => k d
  | x :: xs, y :: ys, d, k => keyK x fun q => putK q y d fun d' => zipK xs ys d' k
  | _, _, _, _ => false
def dDzip (a b : D) : D := fun s h k => a s h fun x h => b s h fun y h => lstAt x h fun _ l => lstAt y h fun _ r => zipK l r [] fun d => alloc h (.dct false d) fun n h => k (.ref n) h
/-- xs.append(y), xs.pop(), xs.extend(ys) -/
def dApp (a b : D) : D := fun s h k => a s h fun x h => lstAt x h fun _ _ => b s h fun y h => lstAt x h fun n l => match short l 100 with
  | true => forceL (l ++ [y]) fun l' => puth h n (.lst l') fun h => k .non h
  | false => false
def dPop (a : D) : D := fun s h k => a s h fun x h => lstAt x h fun n l => nth l (l.length - 1) fun w => forceL l.dropLast fun l' => puth h n (.lst l') fun h => k w h
def dExt (a b : D) : D := fun s h k => a s h fun x h => lstAt x h fun _ _ => b s h fun y h => lstAt x h fun n l => lstAt y h fun m r => match Nat.beq n m with
  | true => false
  | false => (match short (l ++ r) 100 with
    | true => forceL (l ++ r) fun l' => puth h n (.lst l') fun h => k .non h
    | false => false)

/-! ### what is walked -/
/-- a list or a tuple -/
def iSeq (a : D) : DI := fun s h k => a s h fun x h => match x with
  | .ref n => geth h n fun c => (match c with
    | .lst _ => k (.il n) h
    | _ => false)
  | .tn => k (.fix []) h
  | .tc a b => tupK (.tc a b) fun l => k (.fix l) h
  | _ => false
def iTup (a : D) : DI := fun s h k => a s h fun x h => tupK x fun l => k (.fix l) h
def iRange (a : D) : DI := fun s h k => a s h fun x h => match x with
  | .int (.ofNat n) => (match Nat.blt n 1000 with
    | true => k (.rng n) h
    | false => false)
  | _ => false
def iZip (a b : D) : DI := fun s h k => a s h fun x h => b s h fun y h => lstAt x h fun n _ => lstAt y h fun m _ => k (.iz n m) h
def iEnum (a : D) : DI := fun s h k => a s h fun x h => lstAt x h fun n _ => k (.ie n) h
def nthO (l : List W) : Nat → (Unit → Bool) → (W → Bool) → Bool := List.rec (fun _ n _ => n ()) (fun x _ ih i n k => Nat.rec (k x) (fun m _ => ih m n k) i) l
def nthKey : List (List Int × W) → Nat → (Unit → Bool) → (W → Bool) → Bool
  | [], _, n, _ => n ()
  | (a, _) :: _, 0, _, k => k (ofKey a)
  | _ :: xs, i + 1, n, k => nthKey xs i n k
def nextI (J : IT) (i : Nat) (h : Hh) (n : Unit → Bool) (k : W → Bool) : Bool := match J with
  | .il m => geth h m fun c => (match c with
    | .lst l => nthO l i n k
    | _ => false)
  | .idk m => geth h m fun c => (match c with
    | .dct true l => nthKey l i n k
    | _ => false)
  | .fix l => nthO l i n k
  | .rng m => (match Nat.blt i m with
    | true => forceN i fun j => k (.int (.ofNat j))
    | false => n ())
  | .iz a b => geth h a fun c => (match c with
    | .lst l => geth h b fun d => (match d with
      | .lst r => nthO l i n fun x => nthO r i n fun y => k (.tc x (.tc y .tn))
      | _ => false)
    | _ => false)
  | .ie a => geth h a fun c => (match c with
    | .lst l => nthO l i n fun x => forceN i fun j => k (.tc (.int (.ofNat j)) (.tc x .tn))
    | _ => false)
def gVar (i : Nat) : DG := fun w s h k => setn s i w fun s' => k s' h
abbrev DGs := List W → St → Hh → KS → Bool
def gNil : DGs := fun l s h k => match l with
  | [] => k s h
  | _ => false
def gCons (g : DG) (r : DGs) : DGs := fun l s h k => match l with
  | x :: xs => g x s h fun s h => r xs s h k
  | [] => false
def gTup (g : DGs) : DG := fun w s h k => tupK w fun l => g l s h k
def wipeK : List Nat → St → (St → Bool) → Bool
  | [], s, k => k s
  | i :: r, s, k => setn s i .und fun s' => wipeK r s' k
/-- turns of a comprehension whose list stands at m -/
def lcL (J : IT) (g : DG) (c e : D) (m : Nat) (s : St) (k : Hh → Bool) (n : Nat) : Nat → Hh → Bool := Nat.rec (fun _ _ => false) (fun _ ih i h => forceN i fun i => nextI J i h (fun _ => k h) fun x => g x s h fun s1 h => c s1 h fun b h => bK b fun b => match b with
    | true => e s1 h fun y h => geth h m fun q => (match q with
      | .lst l => (match short l 100 with
        | true => forceL (l ++ [y]) fun l' => puth h m (.lst l') fun h => ih (Nat.succ i) h
        | false => false)
      | _ => false)
    | false => ih (Nat.succ i) h) n
def dLc (own : List Nat) (it : DI) (g : DG) (c e : D) : D := fun s h k => it s h fun J h => alloc h (.lst []) fun m h => wipeK own s fun s' => lcL J g c e m s' (fun h => k (.ref m) h) 100 0 h
/-- a dict at hand is locked while it is walked -/
def lockK (w : W) (h : Hh) (k : Nat → Hh → Bool) : Bool := dctAt w h fun n b l => match b with
  | true => false
  | false => puth h n (.dct true l) fun h => k n h
def unlockK (n : Nat) (h : Hh) (k : Hh → Bool) : Bool := geth h n fun c => match c with
  | .dct true l => puth h n (.dct false l) k
  | _ => false
/-- .. a dict just made, by its keys; it stays locked -/
def dLcD (own : List Nat) (a : D) (g : DG) (c e : D) : D := fun s h k => a s h fun x h => lockK x h fun d h => alloc h (.lst []) fun m h => wipeK own s fun s' => lcL (.idk d) g c e m s' (fun h => k (.ref m) h) 100 0 h

/-! ### statements -/
def sSet (i : Nat) (e : D) : DT := fun E s h => e s h fun w h => setn s i w fun s' => E.nx s' h
def sUnp (g : DG) (e : D) : DT := fun E s h => e s h fun w h => g w s h E.nx
def setsK : List Nat → List W → St → (St → Bool) → Bool
  | [], [], s, k => k s
  | i :: r, x :: xs, s, k => setn s i x fun s' => setsK r xs s' k
  | _, _, _, _ => false
def sPar (is : List Nat) (a : DA) : DT := fun E s h => a s h fun l h => setsK is l s fun s' => E.nx s' h
def sFld (a : D) (f : Nat) (e : D) : DT := fun E s h => e s h fun w h => a s h fun x h => insAt x h fun n c fs => match Nat.blt c 7 with
  | true => (match shortF fs 100 with
    | true => fputK f w fs fun fs' => puth h n (.ins c fs') fun h => E.nx s h
    | false => false)
  | false => false
/-- d[k] = e -/
def sPut (a b e : D) : DT := fun E s h => e s h fun w h => a s h fun x h => b s h fun y h => dctAt x h fun n lk l => match lk with
  | true => false
  | false => match shortD l 100 with
    | true => keyK y fun q => putK q w l fun l' => puth h n (.dct false l') fun h => E.nx s h
    | false => false
/-- xs[i] = e -/
def sIx (a b e : D) : DT := fun E s h => e s h fun w h => a s h fun x h => b s h fun y h => lstAt x h fun n l => match y with
  | .int (.ofNat i) => setn l i w fun l' => puth h n (.lst l') fun h => E.nx s h
  | _ => false
/-- xs[i] -= e -/
def sIxSub (a b e : D) : DT := fun E s h => a s h fun x h => b s h fun y h => lstAt x h fun _ l => match y with
  | .int (.ofNat i) => nth l i fun u => e s h fun w h => i2 u w fun p q => forceI (p - q) fun r => lstAt x h fun n l => setn l i (.int r) fun l' => puth h n (.lst l') fun h => E.nx s h
  | _ => false
def sIf (c : D) (a b : DT) : DT := fun E s h => c s h fun x h => bK x fun e => match e with
  | true => a E s h
  | false => b E s h
def whL (c : D) (b : DT) (E : En) : Nat → St → Hh → Bool
  | 0, _, _ => false
  | n + 1, s, h => c s h fun x h => bK x fun e => match e with
    | true => b ⟨whL c b E n, E.rt⟩ s h
    | false => E.nx s h
def sWh (c : D) (b : DT) : DT := fun E s h => whL c b E 100 s h
def forL (J : IT) (g : DG) (b : DT) (nx : KS) (rt : KW) (n : Nat) : Nat → St → Hh → Bool := Nat.rec (fun _ _ _ => false) (fun _ ih i s h => forceN i fun i => nextI J i h (fun _ => nx s h) fun x => g x s h fun s h => b ⟨ih (Nat.succ i), rt⟩ s h) n
def sFor (it : DI) (g : DG) (b : DT) : DT := fun E s h => it s h fun J h => forL J g b E.nx E.rt 100 0 s h
/-- for k in d, d a name's dict; left by its end alone -/
def sForD (a : D) (g : DG) (b : DT) : DT := fun E s h => a s h fun x h => lockK x h fun d h => forL (.idk d) g b (fun s h => unlockK d h fun h => E.nx s h) (fun _ _ => false) 100 0 s h
def sRet (e : D) : DT := fun E s h => e s h E.rt
def sEx (e : D) : DT := fun E s h => e s h fun _ h => E.nx s h
def sSeq (a b : DT) : DT := fun E s h => a ⟨fun s h => b E s h, E.rt⟩ s h
def sNop : DT := fun E s h => E.nx s h
def sNever : DT := fun _ _ _ => false

/-! ### defs -/
def padK : Nat → List W
  | 0 => []
  | n + 1 => .und :: padK n
/-- a def of np parameters and nl more names -/
def fnK (np nl : Nat) (b : DT) : Fn := fun as h k => match Nat.beq as.length np with
  | true => b ⟨fun _ h => k .non h, k⟩ (as ++ padK nl) h
  | false => false
end G

end
/-! K1b: combinators that hash. -/
namespace G
noncomputable section
open PySem
/-- the hash of ints in tuples, and the items' hashes -/
def hI : W → Int × List Int
  | .int i => (hashInt i, [])
  | .tn => (reduceHash (Builtin.Tuple.tupleHashOf []), [])
  | .tc a b => (reduceHash (Builtin.Tuple.tupleHashOf ((hI a).1 :: (hI b).2)), (hI a).1 :: (hI b).2)
  | _ => (0, [])
def okI : W → Bool
  | .int _ => true
  | .tn => true
  | .tc a b => (match okI a with | true => okI b | false => false)
  | _ => false
def isTc : W → Bool
  | .tc _ _ => true
  | _ => false
def notIn (i : Int) : List Int → Bool
  | [] => true
  | j :: r => (match decide (i = j) with | true => false | false => notIn i r)
def distI : List Int → Bool
  | [] => true
  | i :: r => (match notIn i r with | true => distI r | false => false)
/-- at most so deep -/
def shal : W → Nat → Bool
  | .tc a b, n => (match n with | 0 => false | m + 1 => (match shal a m with | true => shal b (m + 1) | false => false))
  | .tn, n => (match n with | 0 => false | _ => true)
  | .int _, _ => true
  | .sp, _ => true
  | .so, _ => true
  | .non, _ => true
  | _, _ => false
def okAll : List W → Bool
  | [] => true
  | x :: r => (match isTc x with | true => (match okI x with | true => (match shal x 4 with | true => okAll r | false => false) | false => false) | false => false)
def hIs : List W → List Int
  | [] => []
  | x :: r => (hI x).1 :: hIs r
/-- len(set(xs)), at most four, no two alike -/
def dLset (a : D) : D := fun s h k => a s h fun x h => lstAt x h fun _ l => match short l 4 with
  | true => rds h l fun ps => (match okAll (fstL ps) with
    | true => (match distI (hIs (fstL ps)) with
      | true => onI l.length h k
      | false => false)
    | false => false)
  | false => false
/-- texts, ints, None in tuples -/
def okN : W → Bool
  | .int _ => true
  | .sp => true
  | .so => true
  | .non => true
  | .tn => true
  | .tc a b => (match okN a with | true => okN b | false => false)
  | _ => false
/-- sorted(set(xs)), xs of one item or none -/
def dSset (a : D) : D := fun s h k => a s h fun x h => lstAt x h fun _ l => match l with
  | [] => newL [] h k
  | [y] => rd 6 h y fun d => (match isTc d with
    | true => (match okN d with
      | true => (match shal d 4 with
        | true => newL [y] h k
        | false => false)
      | false => false)
    | false => false)
  | _ => false
end
end G
/-! K3: how the interpreter's heap stands for the layer's abstract heap; readings of the interpreter's terms. -/
namespace G
open PySem L2
/-- what never changes once it stands -/
def Imm : HO → Prop
  | .tup _ => True
  | .ext _ => True
  | .frz _ _ => True
  | _ => False
/-- .. a locked thing aside -/
def Imm2 : HO → Prop
  | .tup _ => True
  | .ext _ => True
  | _ => False
theorem Imm2.imm {o : HO} (h : Imm2 o) : Imm o := by cases o <;> first | trivial | exact h.elim
def Stay (H H' : Hp) : Prop := ∀ b o, H b = some o → Imm o → H' b = some o
theorem Stay.refl (H : Hp) : Stay H H := fun _ _ h _ => h
theorem Stay.trans {H H1 H2 : Hp} (a : Stay H H1) (b : Stay H1 H2) : Stay H H2 := fun c o h i => b c o (a c o h i) i
/-- the written part, the classes' places, the fields' names, what a lambda's cell and a table's cell mean -/
structure Par where
  K : PySem.W.Frag
  ca : Nat → Addr
  fname : Nat → Str
  fnj : ∀ i j, fname i = fname j → i = j
  lamP : Nat → Addr → Hp → Prop
  lamU : ∀ q a H H', (∀ b φ, H b = some (.ext φ) → H' b = some (.ext φ)) → H' a = H a → lamP q a H → lamP q a H'
  tabP : Addr → Hp → Prop
  tabU : ∀ a H H', (∀ b φ, H b = some (.ext φ) → H' b = some (.ext φ)) → H' a = H a → tabP a H → tabP a H'
  /-- what else is known all along -/
  J : (Nat → Addr) → Nat → Hp → Prop
  jU : ∀ ρ ρ' N N' H H', (∀ i, i < N → ρ' i = ρ i) → N ≤ N' → (∀ b o, H b = some o → Imm2 o → H' b = some o) → J ρ N H → J ρ' N' H'
/-- data -/
def dat : W → PyData
  | .non => .none
  | .bl b => .bool b
  | .int i => .int i
  | .sp => .str "part"
  | .so => .str "out"
  | .tn => .tuple []
  | .tc a b => (match dat b with
    | .tuple l => .tuple (dat a :: l)
    | _ => .none)
  | .ln => .list []
  | .lc a b => (match dat b with
    | .list l => .list (dat a :: l)
    | _ => .none)
  | .rep d => .str (dat d).shown
  | _ => .none
section
variable (ρ : Nat → Addr) (N : Nat) (H : Hp)
/-- w stands for the value v (RT: a tuple's items for these values) -/
def RP : W → (V → Prop) × (List V → Prop)
  | .non => (fun v => v = .non, fun _ => False)
  | .bl b => (fun v => v = .bl b, fun _ => False)
  | .int i => (fun v => v = .int i, fun _ => False)
  | .sp => (fun v => v = .str "part", fun _ => False)
  | .so => (fun v => v = .str "out", fun _ => False)
  | .tn => (fun v => ∃ a, v = .ref a ∧ H a = some (.tup []), fun xs => xs = [])
  | .tc a b => (fun v => ∃ p x r, v = .ref p ∧ H p = some (.tup (x :: r)) ∧ (RP a).1 x ∧ (RP b).2 r, fun xs => ∃ x r, xs = x :: r ∧ (RP a).1 x ∧ (RP b).2 r)
  | .ref n => (fun v => n < N ∧ v = .ref (ρ n), fun _ => False)
  | .rep d => (fun v => v = .str (dat d).shown, fun _ => False)
  | _ => (fun _ => False, fun _ => False)
def RW (w : W) (v : V) : Prop := (RP ρ N H w).1 v
def RT (w : W) (xs : List V) : Prop := (RP ρ N H w).2 xs
def RL : List W → List V → Prop
  | [], xs => xs = []
  | w :: l, xs => ∃ x r, xs = x :: r ∧ RW ρ N H w x ∧ RL l r
def RD : List (List Int × W) → List (List Key × V) → Prop
  | [], xs => xs = []
  | (k, w) :: l, xs => ∃ x r, xs = (k.map Sum.inl, x) :: r ∧ RW ρ N H w x ∧ RD l r
def RF (fn : Nat → Str) : List (Nat × W) → List (Str × V) → Prop
  | [], xs => xs = []
  | (k, w) :: l, xs => ∃ x r, xs = (fn k, x) :: r ∧ RW ρ N H w x ∧ RF fn l r
/-- slots -/
def RS : List W → List (Option V) → Prop
  | [], s => s = []
  | w :: l, s => ∃ x r, s = x :: r ∧ (w = .und ∨ ∃ v, x = some v ∧ RW ρ N H w v) ∧ RS l r
variable (Z : Par)
def CellOk (a : Addr) : Cell → Prop
  | .lst l => ∃ xs, H a = some (.lst xs) ∧ RL ρ N H l xs ∧ l.length ≤ 101
  | .dct false l => ∃ kvs, H a = some (.dT kvs) ∧ RD ρ N H l kvs ∧ (l.map (·.1)).Nodup ∧ l.length ≤ 101
  | .dct true l => ∃ o kvs, H a = some (.frz o (.dT kvs)) ∧ RD ρ N H l kvs ∧ (l.map (·.1)).Nodup ∧ l.length ≤ 101
  | .ins c fs => ∃ dx xs, H a = some (.ins (Z.ca c) dx xs) ∧ RF ρ N H Z.fname fs xs
  | .lam q => (∃ φ, H a = some (.ext φ)) ∧ Z.lamP q a H
  | .tab => (∃ ps, H a = some (.tbl ps)) ∧ Z.tabP a H
  | .opq => ∃ ns : List Int, Rd H a (.lst (ns.map V.int))
end
theorem Rd_eq {H H' : Hp} {a : Addr} {u : HO} (e : H' a = H a) (h : Rd H a u) : Rd H' a u := h.imp e.trans fun ⟨o, z⟩ => ⟨o, e.trans z⟩
/-- the cell at a place -/
def Tr.at : Tr → Nat → Option Cell
  | .lf, _ => none
  | .nd c l r, i => match i with
    | 0 => some c
    | j + 1 => match Nat.beq (Nat.mod j 2) 1 with
      | false => l.at (Nat.div j 2)
      | true => r.at (Nat.div j 2)
structure Rel (Z : Par) (ρ : Nat → Addr) (h : Hh) (H : Hp) : Prop where
  inj : ∀ i j, i < h.n → j < h.n → ρ i = ρ j → i = j
  cell : ∀ i, i < h.n → ∃ c, h.t.at i = some c ∧ CellOk ρ h.n H Z (ρ i) c
  jay : Z.J ρ h.n H
structure Ext (ρ : Nat → Addr) (n : Nat) (H : Hp) (ρ' : Nat → Addr) (n' : Nat) (H' : Hp) : Prop where
  le : n ≤ n'
  same : ∀ i, i < n → ρ' i = ρ i
  new : ∀ i, n ≤ i → i < n' → H (ρ' i) = none
  stay : Stay H H'
  keep : ∀ b o, H b = some o → (∀ i, i < n → ρ i ≠ b) → H' b = some o
  dom : ∀ b, H' b = none → H b = none
theorem Ext.refl {ρ : Nat → Addr} {n : Nat} {H : Hp} : Ext ρ n H ρ n H :=
  ⟨Nat.le_refl _, fun _ _ => rfl, fun _ a b => absurd (Nat.lt_of_lt_of_le b a) (Nat.lt_irrefl _), Stay.refl H, fun _ _ h _ => h, fun _ h => h⟩
theorem Ext.trans {ρ ρ1 ρ2 : Nat → Addr} {n n1 n2 : Nat} {H H1 H2 : Hp} (a : Ext ρ n H ρ1 n1 H1) (b : Ext ρ1 n1 H1 ρ2 n2 H2) : Ext ρ n H ρ2 n2 H2 where
  le := Nat.le_trans a.le b.le
  same := fun i hi => (b.same i (Nat.lt_of_lt_of_le hi a.le)).trans (a.same i hi)
  new := fun i h1 h2 => by
    by_cases h : i < n1
    · rw [b.same i h]; exact a.new i h1 h
    · exact a.dom _ (b.new i (Nat.le_of_not_lt h) h2)
  stay := a.stay.trans b.stay
  keep := fun c o h hn => b.keep c o (a.keep c o h hn) fun i hi => by
    by_cases hi' : i < n
    · rw [a.same i hi']; exact hn i hi'
    · intro e
      have z := a.new i (Nat.le_of_not_lt hi') hi
      rw [e, h] at z; cases z
  dom := fun c h => a.dom c (b.dom c h)
/-! ### what stays -/
section
variable {ρ ρ' : Nat → Addr} {N N' : Nat} {H H' : Hp} (hs : ∀ i, i < N → ρ' i = ρ i) (le : N ≤ N') (st : Stay H H')
include hs le st
theorem RP_mono : ∀ w : W, (∀ v, (RP ρ N H w).1 v → (RP ρ' N' H' w).1 v) ∧ ∀ xs, (RP ρ N H w).2 xs → (RP ρ' N' H' w).2 xs
  | .und => ⟨fun _ h => h, fun _ h => h⟩
  | .non => ⟨fun _ h => h, fun _ h => h⟩
  | .bl _ => ⟨fun _ h => h, fun _ h => h⟩
  | .int _ => ⟨fun _ h => h, fun _ h => h⟩
  | .sp => ⟨fun _ h => h, fun _ h => h⟩
  | .so => ⟨fun _ h => h, fun _ h => h⟩
  | .ln => ⟨fun _ h => h, fun _ h => h⟩
  | .lc _ _ => ⟨fun _ h => h, fun _ h => h⟩
  | .rep _ => ⟨fun _ h => h, fun _ h => h⟩
  | .ref n => ⟨fun v h => ⟨Nat.lt_of_lt_of_le h.1 le, by rw [hs n h.1]; exact h.2⟩, fun _ h => h⟩
  | .tn => ⟨fun v ⟨a, e, h⟩ => ⟨a, e, st _ _ h trivial⟩, fun _ h => h⟩
  | .tc a b => by
    have ia := RP_mono a
    have ib := RP_mono b
    exact ⟨fun v ⟨p, x, r, e, h, h1, h2⟩ => ⟨p, x, r, e, st _ _ h trivial, ia.1 _ h1, ib.2 _ h2⟩, fun xs ⟨x, r, e, h1, h2⟩ => ⟨x, r, e, ia.1 _ h1, ib.2 _ h2⟩⟩
theorem RW_mono {w : W} {v : V} (h : RW ρ N H w v) : RW ρ' N' H' w v := (RP_mono hs le st w).1 v h
theorem RT_mono {w : W} {xs : List V} (h : RT ρ N H w xs) : RT ρ' N' H' w xs := (RP_mono hs le st w).2 xs h
theorem RL_mono : ∀ {l : List W} {xs : List V}, RL ρ N H l xs → RL ρ' N' H' l xs
  | [], _, h => h
  | _ :: _, _, ⟨x, r, e, h1, h2⟩ => ⟨x, r, e, RW_mono hs le st h1, RL_mono h2⟩
theorem RD_mono : ∀ {l : List (List Int × W)} {xs : List (List Key × V)}, RD ρ N H l xs → RD ρ' N' H' l xs
  | [], _, h => h
  | (_, _) :: _, _, ⟨x, r, e, h1, h2⟩ => ⟨x, r, e, RW_mono hs le st h1, RD_mono h2⟩
theorem RF_mono {fn : Nat → Str} : ∀ {l : List (Nat × W)} {xs : List (Str × V)}, RF ρ N H fn l xs → RF ρ' N' H' fn l xs
  | [], _, h => h
  | (_, _) :: _, _, ⟨x, r, e, h1, h2⟩ => ⟨x, r, e, RW_mono hs le st h1, RF_mono h2⟩
theorem RS_mono : ∀ {l : List W} {s : List (Option V)}, RS ρ N H l s → RS ρ' N' H' l s
  | [], _, h => h
  | _ :: _, _, ⟨x, r, e, h1, h2⟩ => ⟨x, r, e, h1.imp id fun ⟨v, e', h⟩ => ⟨v, e', RW_mono hs le st h⟩, RS_mono h2⟩
theorem CellOk_mono {Z : Par} {a : Addr} (ha : H' a = H a) : ∀ {c : Cell}, CellOk ρ N H Z a c → CellOk ρ' N' H' Z a c
  | .lst _, ⟨xs, h, r, z⟩ => ⟨xs, ha.trans h, RL_mono hs le st r, z⟩
  | .dct false _, ⟨kvs, h, r, z⟩ => ⟨kvs, ha.trans h, RD_mono hs le st r, z⟩
  | .dct true _, ⟨o, kvs, h, r, z⟩ => ⟨o, kvs, ha.trans h, RD_mono hs le st r, z⟩
  | .ins _ _, ⟨dx, xs, h, r⟩ => ⟨dx, xs, ha.trans h, RF_mono hs le st r⟩
  | .lam q, ⟨⟨φ, h⟩, r⟩ => ⟨⟨φ, ha.trans h⟩, Z.lamU q a H H' (fun b φ e => st b _ e trivial) ha r⟩
  | .tab, ⟨⟨φ, h⟩, r⟩ => ⟨⟨φ, ha.trans h⟩, Z.tabU a H H' (fun b φ e => st b _ e trivial) ha r⟩
  | .opq, ⟨ns, r⟩ => ⟨ns, Rd_eq ha r⟩
end
section
variable {ρ ρ' : Nat → Addr} {n n' : Nat} {H H' : Hp} (x : Ext ρ n H ρ' n' H')
include x
theorem Ext.rw {w : W} {v : V} (h : RW ρ n H w v) : RW ρ' n' H' w v := RW_mono x.same x.le x.stay h
theorem Ext.rl {l : List W} {xs : List V} (h : RL ρ n H l xs) : RL ρ' n' H' l xs := RL_mono x.same x.le x.stay h
theorem Ext.rs {l : List W} {s : List (Option V)} (h : RS ρ n H l s) : RS ρ' n' H' l s := RS_mono x.same x.le x.stay h
end
/-! ### the tree -/
theorem Tr.get_some : ∀ {t : Tr} {i : Nat} {k : Cell → Bool}, t.get i k = true → ∃ c, t.at i = some c ∧ k c = true
  | .lf, _, _, h => by cases h
  | .nd c l r, 0, k, h => ⟨c, rfl, h⟩
  | .nd c l r, j + 1, k, h => by
    unfold Tr.get at h
    unfold Tr.at
    simp only at h ⊢
    cases e : Nat.beq (Nat.mod j 2) 1 with
    | true => rw [e] at h; simp only at h ⊢; exact Tr.get_some h
    | false => rw [e] at h; simp only at h ⊢; exact Tr.get_some h
theorem beq_mod (i : Nat) : Nat.beq (Nat.mod i 2) 1 = decide (i % 2 = 1) := by
  show Nat.beq (i % 2) 1 = decide (i % 2 = 1)
  cases e : Nat.beq (i % 2) 1 with
  | true => exact (decide_eq_true (Nat.eq_of_beq_eq_true e)).symm
  | false => exact (decide_eq_false (Nat.ne_of_beq_eq_false e)).symm
theorem half_inj {i j : Nat} (hm : Nat.beq (Nat.mod i 2) 1 = Nat.beq (Nat.mod j 2) 1) (hd : Nat.div i 2 = Nat.div j 2) : i = j := by
  rw [beq_mod, beq_mod] at hm
  have h2 : i / 2 = j / 2 := hd
  have h1 : (i % 2 = 1) ↔ (j % 2 = 1) := by
    constructor
    · intro z; exact of_decide_eq_true (hm ▸ decide_eq_true z)
    · intro z; exact of_decide_eq_true (hm.symm ▸ decide_eq_true z)
  by_cases z : i % 2 = 1
  · have := h1.mp z; omega
  · have : ¬ j % 2 = 1 := fun q => z (h1.mpr q)
    omega
theorem Tr.set_some : ∀ {t : Tr} {i : Nat} {c : Cell} {k : Tr → Bool}, t.set i c k = true → ∃ t', k t' = true ∧ t'.at i = some c ∧ ∀ j, j ≠ i → t'.at j = t.at j
  | .lf, 0, c, k, h => ⟨_, h, rfl, fun j hj => by
    cases j with
    | zero => exact absurd rfl hj
    | succ j =>
      unfold Tr.at
      simp only
      cases Nat.beq (Nat.mod j 2) 1 <;> rfl⟩
  | .lf, i + 1, c, k, h => by cases h
  | .nd x l r, 0, c, k, h => ⟨_, h, rfl, fun j hj => by
    cases j with
    | zero => exact absurd rfl hj
    | succ j => rfl⟩
  | .nd x l r, i + 1, c, k, h => by
    unfold Tr.set at h
    simp only at h
    cases e : Nat.beq (Nat.mod i 2) 1 with
    | true =>
      rw [e] at h
      simp only at h
      obtain ⟨t', h1, h2, h3⟩ := Tr.set_some h
      refine ⟨_, h1, ?_, fun j hj => ?_⟩
      · unfold Tr.at; simp only; rw [e]; exact h2
      · cases j with
        | zero => rfl
        | succ j =>
          unfold Tr.at
          simp only
          cases e' : Nat.beq (Nat.mod j 2) 1 with
          | true => exact h3 _ fun z => hj (congrArg Nat.succ (half_inj (by rw [e, e']) z))
          | false => rfl
    | false =>
      rw [e] at h
      simp only at h
      obtain ⟨t', h1, h2, h3⟩ := Tr.set_some h
      refine ⟨_, h1, ?_, fun j hj => ?_⟩
      · unfold Tr.at; simp only; rw [e]; exact h2
      · cases j with
        | zero => rfl
        | succ j =>
          unfold Tr.at
          simp only
          cases e' : Nat.beq (Nat.mod j 2) 1 with
          | false => exact h3 _ fun z => hj (congrArg Nat.succ (half_inj (by rw [e, e']) z))
          | true => rfl
/-! ### small things -/
theorem forceN_eq (n : Nat) (k : Nat → Bool) : forceN n k = k n := by cases n <;> rfl
theorem forceI_eq (i : Int) (k : Int → Bool) : forceI i k = k i := by
  cases i with
  | ofNat n => exact forceN_eq n fun m => k (.ofNat m)
  | negSucc n => exact forceN_eq n fun m => k (.negSucc m)
theorem forceL_eq : ∀ (l : List W) (k : List W → Bool), forceL l k = k l
  | [], _ => rfl
  | x :: xs, k => forceL_eq xs fun ys => k (x :: ys)
theorem short_le : ∀ {l : List W} {n : Nat}, short l n = true → l.length ≤ n
  | [], _, _ => Nat.zero_le _
  | _ :: _, 0, h => by cases h
  | _ :: xs, n + 1, h => Nat.succ_le_succ (short_le (l := xs) (n := n) h)
theorem nth_some : ∀ {l : List W} {i : Nat} {k : W → Bool}, nth l i k = true → ∃ w, l[i]? = some w ∧ k w = true
  | [], _, _, h => by cases h
  | x :: _, 0, _, h => ⟨x, rfl, h⟩
  | _ :: xs, i + 1, k, h => by simpa using nth_some (l := xs) (i := i) (k := k) h
theorem setn_some : ∀ {l : List W} {i : Nat} {w : W} {k : List W → Bool}, setn l i w k = true → i < l.length ∧ k (l.set i w) = true
  | [], _, _, _, h => by cases h
  | _ :: _, 0, _, _, h => ⟨Nat.succ_pos _, h⟩
  | _ :: xs, i + 1, w, k, h => by
    obtain ⟨h1, h2⟩ := setn_some (l := xs) (i := i) (w := w) h
    exact ⟨Nat.succ_lt_succ h1, h2⟩
theorem tupK_some : ∀ {w : W} {k : List W → Bool}, tupK w k = true → ∃ l, w = toTup l ∧ k l = true
  | .tn, _, h => ⟨[], rfl, h⟩
  | .tc a b, k, h => by
    obtain ⟨l, e, h⟩ := tupK_some (w := b) h
    exact ⟨a :: l, by rw [e]; rfl, h⟩
  | .und, _, h => by cases h
  | .non, _, h => by cases h
  | .bl _, _, h => by cases h
  | .int _, _, h => by cases h
  | .sp, _, h => by cases h
  | .so, _, h => by cases h
  | .ref _, _, h => by cases h
  | .ln, _, h => by cases h
  | .lc _ _, _, h => by cases h
  | .rep _, _, h => by cases h
section
variable {ρ : Nat → Addr} {N : Nat} {H : Hp}
theorem RT_toTup : ∀ {l : List W} {xs : List V}, RT ρ N H (toTup l) xs ↔ RL ρ N H l xs
  | [], _ => Iff.rfl
  | w :: l, xs => ⟨fun ⟨x, r, e, h1, h2⟩ => ⟨x, r, e, h1, RT_toTup.mp h2⟩, fun ⟨x, r, e, h1, h2⟩ => ⟨x, r, e, h1, RT_toTup.mpr h2⟩⟩
theorem RW_toTup {l : List W} {v : V} : RW ρ N H (toTup l) v ↔ ∃ p xs, v = .ref p ∧ H p = some (.tup xs) ∧ RL ρ N H l xs := by
  cases l with
  | nil => exact ⟨fun ⟨a, e, h⟩ => ⟨a, [], e, h, rfl⟩, fun ⟨p, xs, e, h, r⟩ => by cases r; exact ⟨p, e, h⟩⟩
  | cons w l =>
    constructor
    · rintro ⟨p, x, r, e, h, h1, h2⟩
      exact ⟨p, x :: r, e, h, x, r, rfl, h1, RT_toTup.mp h2⟩
    · rintro ⟨p, xs, e, h, x, r, e2, h1, h2⟩
      subst e2
      exact ⟨p, x, r, e, h, h1, RT_toTup.mpr h2⟩
theorem RL_length : ∀ {l : List W} {xs : List V}, RL ρ N H l xs → xs.length = l.length
  | [], _, h => by cases h; rfl
  | _ :: l, _, ⟨x, r, e, _, h2⟩ => by subst e; simp [RL_length h2]
theorem RL_get : ∀ {l : List W} {xs : List V} {i : Nat} {w : W}, RL ρ N H l xs → l[i]? = some w → ∃ v, xs[i]? = some v ∧ RW ρ N H w v
  | [], _, _, _, _, e => by simp at e
  | _ :: _, _, 0, w, ⟨x, r, e, h1, _⟩, e2 => by
    subst e
    simp at e2; subst e2
    exact ⟨x, rfl, h1⟩
  | _ :: l, _, i + 1, w, ⟨x, r, e, _, h2⟩, e2 => by
    subst e
    obtain ⟨v, e3, h3⟩ := RL_get (i := i) (w := w) h2 (by simpa using e2)
    exact ⟨v, by simpa using e3, h3⟩
theorem RL_none : ∀ {l : List W} {xs : List V} {i : Nat}, RL ρ N H l xs → l[i]? = none → xs.length ≤ i := fun {l xs i} h e => by
  rw [RL_length h]; exact List.getElem?_eq_none_iff.mp e
theorem RL_append : ∀ {l m : List W} {xs ys : List V}, RL ρ N H l xs → RL ρ N H m ys → RL ρ N H (l ++ m) (xs ++ ys)
  | [], _, _, _, h, h' => by cases h; exact h'
  | _ :: l, _, _, _, ⟨x, r, e, h1, h2⟩, h' => by subst e; exact ⟨x, r ++ _, rfl, h1, RL_append h2 h'⟩
theorem RL_set : ∀ {l : List W} {xs : List V} {i : Nat} {w : W} {v : V}, RL ρ N H l xs → RW ρ N H w v → RL ρ N H (l.set i w) (xs.set i v)
  | [], _, _, _, _, h, _ => by cases h; exact rfl
  | _ :: _, _, 0, _, _, ⟨x, r, e, _, h2⟩, hw => by subst e; exact ⟨_, r, rfl, hw, h2⟩
  | _ :: l, _, i + 1, _, _, ⟨x, r, e, h1, h2⟩, hw => by subst e; exact ⟨x, _, rfl, h1, RL_set h2 hw⟩
theorem RL_drop : ∀ {l : List W} {xs : List V} (n : Nat), RL ρ N H l xs → RL ρ N H (l.drop n) (xs.drop n)
  | _, _, 0, h => h
  | [], _, _ + 1, h => by cases h; exact rfl
  | _ :: l, _, n + 1, ⟨x, r, e, _, h2⟩ => by subst e; exact RL_drop n h2
theorem RL_take : ∀ {l : List W} {xs : List V} (n : Nat), RL ρ N H l xs → RL ρ N H (l.take n) (xs.take n)
  | _, _, 0, _ => by simp [RL]
  | [], _, _ + 1, h => by cases h; exact rfl
  | _ :: l, _, n + 1, ⟨x, r, e, h1, h2⟩ => by subst e; exact ⟨x, _, rfl, h1, RL_take n h2⟩
theorem RL_snoc {l : List W} {xs : List V} {w : W} {v : V} (h : RL ρ N H l xs) (hw : RW ρ N H w v) : RL ρ N H (l ++ [w]) (xs ++ [v]) := RL_append h ⟨v, [], rfl, hw, rfl⟩
theorem RL_reverse : ∀ {l : List W} {xs : List V}, RL ρ N H l xs → RL ρ N H l.reverse xs.reverse
  | [], _, h => by cases h; exact rfl
  | _ :: l, _, ⟨x, r, e, h1, h2⟩ => by
    subst e
    rw [List.reverse_cons, List.reverse_cons]
    exact RL_snoc (RL_reverse h2) h1
theorem RS_length : ∀ {l : List W} {s : List (Option V)}, RS ρ N H l s → s.length = l.length
  | [], _, h => by cases h; rfl
  | _ :: l, _, ⟨x, r, e, _, h2⟩ => by subst e; simp [RS_length h2]
theorem RS_get : ∀ {l : List W} {s : List (Option V)} {i : Nat} {w : W}, RS ρ N H l s → l[i]? = some w → w ≠ .und → ∃ v, s[i]? = some (some v) ∧ RW ρ N H w v
  | [], _, _, _, _, e, _ => by simp at e
  | _ :: _, _, 0, w, ⟨x, r, e, h1, _⟩, e2, hu => by
    subst e
    simp at e2; subst e2
    rcases h1 with h1 | ⟨v, e1, h1⟩
    · exact absurd h1 hu
    · exact ⟨v, by rw [e1]; rfl, h1⟩
  | _ :: l, _, i + 1, w, ⟨x, r, e, _, h2⟩, e2, hu => by
    subst e
    obtain ⟨v, e3, h3⟩ := RS_get (i := i) (w := w) h2 (by simpa using e2) hu
    exact ⟨v, by simpa using e3, h3⟩
theorem RS_set : ∀ {l : List W} {s : List (Option V)} {i : Nat} {w : W} {v : V}, RS ρ N H l s → RW ρ N H w v → RS ρ N H (l.set i w) (s.set i (some v))
  | [], _, _, _, _, h, _ => by cases h; exact rfl
  | _ :: _, _, 0, _, _, ⟨x, r, e, _, h2⟩, hw => by subst e; exact ⟨_, r, rfl, .inr ⟨_, rfl, hw⟩, h2⟩
  | _ :: l, _, i + 1, _, _, ⟨x, r, e, h1, h2⟩, hw => by subst e; exact ⟨x, _, rfl, h1, RS_set h2 hw⟩
theorem RS_wipe : ∀ {l : List W} {s : List (Option V)} {i : Nat} {o : Option V}, RS ρ N H l s → RS ρ N H (l.set i .und) (s.set i o)
  | [], _, _, _, h => by cases h; exact rfl
  | _ :: _, _, 0, _, ⟨x, r, e, _, h2⟩ => by subst e; exact ⟨_, r, rfl, .inl rfl, h2⟩
  | _ :: l, _, i + 1, _, ⟨x, r, e, h1, h2⟩ => by subst e; exact ⟨x, _, rfl, h1, RS_wipe h2⟩
theorem RS_pad : ∀ {l : List W} {vs : List V} (n : Nat), RL ρ N H l vs → RS ρ N H (l ++ padK n) (vs.map some ++ List.replicate n none)
  | [], _, 0, h => by cases h; exact rfl
  | [], _, n + 1, h => by
    cases h
    exact ⟨none, List.replicate n none, rfl, .inl rfl, RS_pad (l := []) (vs := []) n rfl⟩
  | _ :: l, _, n, ⟨x, r, e, h1, h2⟩ => by
    subst e
    exact ⟨some x, _, rfl, .inr ⟨x, rfl, h1⟩, RS_pad n h2⟩
end
/-! ### the heap's steps -/
section
variable {Z : Par} {ρ : Nat → Addr} {h : Hh} {H : Hp}
theorem Stay.upd_new {p : Addr} {o : HO} (hp : H p = none) : Stay H (upd H p o) := fun b u e _ => by rw [upd_ne (ne_of_none e hp)]; exact e
theorem Stay.upd_mut {p : Addr} {o u : HO} (hp : H p = some u) (hi : ¬ Imm u) : Stay H (upd H p o) := fun b q e i => by
  rw [upd_ne]
  · exact e
  · rintro rfl
    rw [hp] at e; cases e; exact hi i
theorem dom_upd {p b : Addr} {o : HO} (h : upd H p o b = none) : H b = none := by
  by_cases e : b = p
  · rw [e, upd_same] at h; cases h
  · rw [upd_ne e] at h; exact h
/-- the heap with a new cell's place -/
def snoc (ρ : Nat → Addr) (n : Nat) (p : Addr) : Nat → Addr := fun i => if i = n then p else ρ i
theorem snoc_old {n : Nat} {p : Addr} {i : Nat} (hi : i < n) : snoc ρ n p i = ρ i := by unfold snoc; rw [if_neg (by omega)]
theorem snoc_new {n : Nat} {p : Addr} : snoc ρ n p n = p := by unfold snoc; rw [if_pos rfl]
theorem Rel.some_at (R : Rel Z ρ h H) {i : Nat} (hi : i < h.n) : ∃ o, H (ρ i) = some o := by
  obtain ⟨c, _, k⟩ := R.cell i hi
  cases c with
  | lst l => obtain ⟨xs, e, _⟩ := k; exact ⟨_, e⟩
  | dct b l => cases b with
    | false => obtain ⟨xs, e, _⟩ := k; exact ⟨_, e⟩
    | true => obtain ⟨o, xs, e, _⟩ := k; exact ⟨_, e⟩
  | ins c fs => obtain ⟨dx, xs, e, _⟩ := k; exact ⟨_, e⟩
  | lam q => obtain ⟨⟨φ, e⟩, _⟩ := k; exact ⟨_, e⟩
  | tab => obtain ⟨⟨φ, e⟩, _⟩ := k; exact ⟨_, e⟩
  | opq => obtain ⟨ns, e | ⟨_, e⟩⟩ := k <;> exact ⟨_, e⟩
theorem Ext.snoc {p : Addr} {o : HO} {H2 : Hp} (hp : H p = none) (st : Stay H H2) (kp : ∀ b u, H b = some u → H2 b = some u) : Ext ρ h.n H (snoc ρ h.n p) (h.n + 1) (upd H2 p o) := by
  refine ⟨Nat.le_succ _, fun i hi => snoc_old hi, fun i h1 h2 => ?_, fun b u e i => ?_, fun b u e _ => ?_, fun b e => ?_⟩
  · have e : i = h.n := by omega
    subst e
    rw [snoc_new]; exact hp
  · rw [upd_ne (ne_of_none e hp)]; exact st b u e i
  · rw [upd_ne (ne_of_none e hp)]; exact kp b u e
  · have z := dom_upd e
    cases q : H b with
    | none => rfl
    | some u => rw [kp b u q] at z; cases z
/-- a new cell -/
theorem Rel.alloc (R : Rel Z ρ h H) {p : Addr} {o : HO} {c : Cell} {H2 : Hp} (hp : H p = none) (kp : ∀ b u, H b = some u → H2 b = some u) (hc : CellOk (G.snoc ρ h.n p) (h.n + 1) (upd H2 p o) Z p c) {k : Nat → Hh → Bool} (e : alloc h c k = true) :
    ∃ h', k h.n h' = true ∧ h'.n = h.n + 1 ∧ Rel Z (G.snoc ρ h.n p) h' (upd H2 p o) ∧ Ext ρ h.n H (G.snoc ρ h.n p) h'.n (upd H2 p o) := by
  obtain ⟨n, t⟩ := h
  have e' : t.set n c (fun t' => forceN n fun m => k m ⟨Nat.succ m, t'⟩) = true := e
  obtain ⟨t', e1, e2, e3⟩ := Tr.set_some e'
  rw [forceN_eq] at e1
  have st : Stay H H2 := fun b u q _ => kp b u q
  have X : Ext ρ n H (G.snoc ρ n p) (n + 1) (upd H2 p o) := Ext.snoc (h := ⟨n, t⟩) hp st kp
  refine ⟨⟨n + 1, t'⟩, e1, rfl, ⟨fun i j hi hj q => ?_, fun i hi => ?_, ?_⟩, X⟩
  · have hi : i < n + 1 := hi
    have hj : j < n + 1 := hj
    have ho : ∀ i, i < n → ρ i ≠ p := fun i hi z => by
      obtain ⟨u, hu⟩ := R.some_at (i := i) hi
      rw [z, hp] at hu; cases hu
    by_cases h1 : i = n
    · by_cases h2 : j = n
      · omega
      · rw [h1, snoc_new, snoc_old (show j < n by omega)] at q
        exact absurd q.symm (ho j (by omega))
    · by_cases h2 : j = n
      · rw [h2, snoc_new, snoc_old (show i < n by omega)] at q
        exact absurd q (ho i (by omega))
      · rw [snoc_old (show i < n by omega), snoc_old (show j < n by omega)] at q
        exact R.inj i j (show i < n by omega) (show j < n by omega) q
  · have hi : i < n + 1 := hi
    by_cases h1 : i = n
    · subst h1
      exact ⟨c, e2, by rw [snoc_new]; exact hc⟩
    · obtain ⟨ci, a, b⟩ := R.cell i (show i < n by omega)
      refine ⟨ci, (e3 i h1).trans a, ?_⟩
      rw [snoc_old (show i < n by omega)]
      obtain ⟨u, hu⟩ := R.some_at (i := i) (show i < n by omega)
      exact CellOk_mono X.same X.le X.stay (by rw [upd_ne (ne_of_none hu hp), kp _ _ hu, hu]) b
  · exact Z.jU _ _ _ _ _ _ X.same X.le (fun b o e i => X.stay b o e i.imm) R.jay
/-- H grows where nothing stood -/
theorem Rel.grow (R : Rel Z ρ h H) {H2 : Hp} (kp : ∀ b u, H b = some u → H2 b = some u) : Rel Z ρ h H2 ∧ Ext ρ h.n H ρ h.n H2 := by
  have st : Stay H H2 := fun b u q _ => kp b u q
  refine ⟨⟨R.inj, fun i hi => ?_, Z.jU _ _ _ _ _ _ (fun _ _ => rfl) (Nat.le_refl _) (fun b o e i => st b o e i.imm) R.jay⟩, ⟨Nat.le_refl _, fun _ _ => rfl, fun _ a b => absurd (Nat.lt_of_lt_of_le b a) (Nat.lt_irrefl _), st, fun b u e _ => kp b u e, fun b e => ?_⟩⟩
  · obtain ⟨c, a, b⟩ := R.cell i hi
    obtain ⟨u, hu⟩ := R.some_at hi
    exact ⟨c, a, CellOk_mono (fun _ _ => rfl) (Nat.le_refl _) st (by rw [kp _ _ hu, hu]) b⟩
  · cases q : H b with
    | none => rfl
    | some u => rw [kp b u q] at e; cases e
theorem Rel.tup (R : Rel Z ρ h H) {p : Addr} {xs : List V} (hp : H p = none) : Rel Z ρ h (upd H p (.tup xs)) ∧ Ext ρ h.n H ρ h.n (upd H p (.tup xs)) := R.grow fun b u e => by rw [upd_ne (ne_of_none e hp)]; exact e
/-- a cell is written -/
theorem Rel.put (R : Rel Z ρ h H) {i : Nat} {c : Cell} {o u : HO} (hu : H (ρ i) = some u) (hm : ¬ Imm u) (hc : Ext ρ h.n H ρ h.n (upd H (ρ i) o) → CellOk ρ h.n (upd H (ρ i) o) Z (ρ i) c) {k : Hh → Bool} (e : puth h i c k = true) :
    ∃ h', k h' = true ∧ h'.n = h.n ∧ Rel Z ρ h' (upd H (ρ i) o) ∧ Ext ρ h.n H ρ h'.n (upd H (ρ i) o) := by
  obtain ⟨n, t⟩ := h
  unfold puth at e
  simp only at e
  cases el : Nat.blt i n with
  | false => rw [el] at e; cases e
  | true =>
    rw [el] at e
    simp only at e
    have hi : i < n := Nat.le_of_ble_eq_true el
    obtain ⟨t', e1, e2, e3⟩ := Tr.set_some e
    have X : Ext ρ n H ρ n (upd H (ρ i) o) := by
      refine ⟨Nat.le_refl _, fun _ _ => rfl, fun _ a b => absurd (Nat.lt_of_lt_of_le b a) (Nat.lt_irrefl _), Stay.upd_mut hu hm, fun b q e hn => ?_, fun b e => dom_upd e⟩
      rw [upd_ne fun z => hn i hi z.symm]; exact e
    refine ⟨⟨n, t'⟩, e1, rfl, ⟨R.inj, fun j hj => ?_, Z.jU _ _ _ _ _ _ X.same X.le (fun b o e i => X.stay b o e i.imm) R.jay⟩, X⟩
    by_cases hji : j = i
    · subst hji
      exact ⟨c, e2, hc X⟩
    · obtain ⟨cj, a, b⟩ := R.cell j hj
      refine ⟨cj, (e3 j hji).trans a, CellOk_mono (fun _ _ => rfl) (Nat.le_refl _) X.stay ?_ b⟩
      rw [upd_ne fun z => hji (R.inj j i hj hi z)]
/-- a locked dict is let go: over the state ρ0 n0 H0 ahead of its locking -/
theorem Rel.unlock {ρ0 : Nat → Addr} {n0 : Nat} {H0 : Hp} {i : Nat} {k : Hh → Bool} (hi0 : i < n0) (h0 : ∃ kvs, H0 (ρ0 i) = some (.dT kvs)) (X0 : Ext ρ0 n0 H0 ρ h.n H) (R : Rel Z ρ h H) {l : List (List Int × W)} {kvs : List (List Key × V)} {o : PySem.Obj} (hf : H (ρ i) = some (.frz o (.dT kvs))) (hl : RD ρ h.n H l kvs) (hnd : (l.map (·.1)).Nodup ∧ l.length ≤ 101) (e : puth h i (.dct false l) k = true) :
    ∃ h', k h' = true ∧ h'.n = h.n ∧ Rel Z ρ h' (upd H (ρ i) (.dT kvs)) ∧ Ext ρ0 n0 H0 ρ h'.n (upd H (ρ i) (.dT kvs)) ∧ Stay (fun b => if b = ρ i then none else H b) (upd H (ρ i) (.dT kvs)) := by
  obtain ⟨n, t⟩ := h
  unfold puth at e
  simp only at e
  cases el : Nat.blt i n with
  | false => rw [el] at e; cases e
  | true =>
    rw [el] at e
    simp only at e
    have hi : i < n := Nat.le_of_ble_eq_true el
    obtain ⟨t', e1, e2, e3⟩ := Tr.set_some e
    have tupS : ∀ b xs, H b = some (.tup xs) → upd H (ρ i) (.dT kvs) b = some (.tup xs) := fun b xs q => by
      rw [upd_ne fun z => by rw [z, hf] at q; cases q]; exact q
    have st' : Stay (fun b => if b = ρ i then none else H b) (upd H (ρ i) (.dT kvs)) := fun b q e _ => by
      have e' : (if b = ρ i then none else H b) = some q := e
      by_cases z : b = ρ i
      · rw [if_pos z] at e'; cases e'
      · rw [if_neg z] at e'; rw [upd_ne z]; exact e'
    -- the values lean on tuples alone: they stand in the heap without the dict, too
    have G1 : ∀ w v, RW ρ n H w v → RW ρ n (fun b => if b = ρ i then none else H b) w v := fun w v r => by
      have : ∀ w : W, (∀ v, (RP ρ n H w).1 v → (RP ρ n (fun b => if b = ρ i then none else H b) w).1 v) ∧ ∀ xs, (RP ρ n H w).2 xs → (RP ρ n (fun b => if b = ρ i then none else H b) w).2 xs := by
        have ne : ∀ b xs, H b = some (.tup xs) → (if b = ρ i then none else H b) = some (.tup xs) := fun b xs q => by
          rw [if_neg fun z => by rw [z, hf] at q; cases q]; exact q
        intro w
        induction w with
        | tc a b ia ib => exact ⟨fun v ⟨p, x, r, e, h, h1, h2⟩ => ⟨p, x, r, e, ne _ _ h, ia.1 _ h1, ib.2 _ h2⟩, fun xs ⟨x, r, e, h1, h2⟩ => ⟨x, r, e, ia.1 _ h1, ib.2 _ h2⟩⟩
        | tn => exact ⟨fun v ⟨a, e, h⟩ => ⟨a, e, ne _ _ h⟩, fun _ h => h⟩
        | _ => exact ⟨fun _ h => h, fun _ h => h⟩
      exact (this w).1 v r
    have GL : ∀ (l : List W) xs, RL ρ n H l xs → RL ρ n (fun b => if b = ρ i then none else H b) l xs := by
      intro l
      induction l with
      | nil => exact fun _ h => h
      | cons w l ih => exact fun xs ⟨x, r, e, h1, h2⟩ => ⟨x, r, e, G1 _ _ h1, ih _ h2⟩
    have GD : ∀ (l : List (List Int × W)) xs, RD ρ n H l xs → RD ρ n (fun b => if b = ρ i then none else H b) l xs := by
      intro l
      induction l with
      | nil => exact fun _ h => h
      | cons w l ih => exact fun xs ⟨x, r, e, h1, h2⟩ => ⟨x, r, e, G1 _ _ h1, ih _ h2⟩
    have GF : ∀ (fn : Nat → Str) (l : List (Nat × W)) xs, RF ρ n H fn l xs → RF ρ n (fun b => if b = ρ i then none else H b) fn l xs := by
      intro fn l
      induction l with
      | nil => exact fun _ h => h
      | cons w l ih => exact fun xs ⟨x, r, e, h1, h2⟩ => ⟨x, r, e, G1 _ _ h1, ih _ h2⟩
    have ss : ∀ j, j < n → ρ j = ρ j := fun _ _ => rfl
    refine ⟨⟨n, t'⟩, e1, rfl, ⟨R.inj, fun j hj => ?_, Z.jU _ _ _ _ _ _ (fun _ _ => rfl) (Nat.le_refl _) (fun b o q i => by
      rw [upd_ne fun z => by rw [z, hf] at q; cases q; exact i.elim]; exact q) R.jay⟩, ?_, st'⟩
    · by_cases hji : j = i
      · subst hji
        exact ⟨_, e2, kvs, upd_same, RD_mono ss (Nat.le_refl _) st' (GD _ _ hl), hnd⟩
      · obtain ⟨cj, a, b⟩ := R.cell j hj
        have nej : ρ j ≠ ρ i := fun z => hji (R.inj j i hj hi z)
        have ej : upd H (ρ i) (.dT kvs) (ρ j) = H (ρ j) := upd_ne nej
        have stL : ∀ φ, H (ρ j) = some (.ext φ) → True := fun _ _ => trivial
        refine ⟨cj, (e3 j hji).trans a, ?_⟩
        cases cj with
        | lst l => obtain ⟨xs, p, q, r⟩ := b; exact ⟨xs, ej.trans p, RL_mono ss (Nat.le_refl _) st' (GL _ _ q), r⟩
        | dct lk l => cases lk with
          | false => obtain ⟨xs, p, q, z⟩ := b; exact ⟨xs, ej.trans p, RD_mono ss (Nat.le_refl _) st' (GD _ _ q), z⟩
          | true => obtain ⟨o, xs, p, q, z⟩ := b; exact ⟨o, xs, ej.trans p, RD_mono ss (Nat.le_refl _) st' (GD _ _ q), z⟩
        | ins c fs => obtain ⟨dx, xs, p, q⟩ := b; exact ⟨dx, xs, ej.trans p, RF_mono ss (Nat.le_refl _) st' (GF _ _ _ q)⟩
        | lam q => exact ⟨b.1.imp fun φ z => ej.trans z, Z.lamU q _ _ _ (fun c φ hc => by rw [upd_ne fun z => by rw [z, hf] at hc; cases hc]; exact hc) ej b.2⟩
        | tab => exact ⟨b.1.imp fun φ z => ej.trans z, Z.tabU _ _ _ (fun c φ hc => by rw [upd_ne fun z => by rw [z, hf] at hc; cases hc]; exact hc) ej b.2⟩
        | opq => obtain ⟨ns, z⟩ := b; exact ⟨ns, Rd_eq ej z⟩
    · have ei : ρ i = ρ0 i := X0.same i hi0
      obtain ⟨kv0, z0⟩ := h0
      refine ⟨X0.le, X0.same, X0.new, fun b q e im => ?_, fun b q e hn => ?_, fun b e => X0.dom b (dom_upd e)⟩
      · rw [upd_ne fun z => ?_]
        · exact X0.stay b q e im
        · rw [z, ei, z0] at e; cases e; exact im
      · rw [upd_ne fun z => hn i hi0 (ei.symm.trans z.symm)]
        exact X0.keep b q e hn
theorem Rel.get (R : Rel Z ρ h H) {i : Nat} {k : Cell → Bool} (e : geth h i k = true) : i < h.n ∧ ∃ c, CellOk ρ h.n H Z (ρ i) c ∧ k c = true := by
  obtain ⟨n, t⟩ := h
  unfold geth at e
  simp only at e
  cases el : Nat.blt i n with
  | false => rw [el] at e; cases e
  | true =>
    rw [el] at e
    simp only at e
    have hi : i < n := Nat.le_of_ble_eq_true el
    obtain ⟨c, e1, e2⟩ := Tr.get_some e
    obtain ⟨c', a, b⟩ := R.cell i hi
    have z : some c = some c' := e1.symm.trans a
    cases z
    exact ⟨hi, c, b, e2⟩
theorem Rel.lst (R : Rel Z ρ h H) {w : W} {v : V} (r : RW ρ h.n H w v) {k : Nat → List W → Bool} (e : lstAt w h k = true) : ∃ i l xs, i < h.n ∧ w = .ref i ∧ v = .ref (ρ i) ∧ H (ρ i) = some (.lst xs) ∧ RL ρ h.n H l xs ∧ l.length ≤ 101 ∧ k i l = true := by
  cases w with
  | ref i =>
    obtain ⟨hi, c, hc, hk⟩ := R.get (show geth h i _ = true from e)
    cases c with
    | lst l =>
      obtain ⟨xs, h1, h2, h3⟩ := hc
      exact ⟨i, l, xs, hi, rfl, r.2, h1, h2, h3, hk⟩
    | _ => cases hk
  | _ => cases e
theorem Rel.dct (R : Rel Z ρ h H) {w : W} {v : V} (r : RW ρ h.n H w v) {k : Nat → Bool → List (List Int × W) → Bool} (e : dctAt w h k = true) : ∃ i b l kvs, i < h.n ∧ w = .ref i ∧ v = .ref (ρ i) ∧ Rd H (ρ i) (.dT kvs) ∧ (b = false → H (ρ i) = some (.dT kvs)) ∧ RD ρ h.n H l kvs ∧ ((l.map (·.1)).Nodup ∧ l.length ≤ 101) ∧ k i b l = true := by
  cases w with
  | ref i =>
    obtain ⟨hi, c, hc, hk⟩ := R.get (show geth h i _ = true from e)
    cases c with
    | dct b l =>
      cases b with
      | false =>
        obtain ⟨kvs, h1, h2, h3⟩ := hc
        exact ⟨i, false, l, kvs, hi, rfl, r.2, .inl h1, fun _ => h1, h2, h3, hk⟩
      | true =>
        obtain ⟨o, kvs, h1, h2, h3⟩ := hc
        exact ⟨i, true, l, kvs, hi, rfl, r.2, .inr ⟨o, h1⟩, (fun z => Bool.noConfusion z), h2, h3, hk⟩
    | _ => cases hk
  | _ => cases e
theorem Rel.ins (R : Rel Z ρ h H) {w : W} {v : V} (r : RW ρ h.n H w v) {k : Nat → Nat → List (Nat × W) → Bool} (e : insAt w h k = true) : ∃ i c fs dx xs, i < h.n ∧ w = .ref i ∧ v = .ref (ρ i) ∧ H (ρ i) = some (.ins (Z.ca c) dx xs) ∧ RF ρ h.n H Z.fname fs xs ∧ k i c fs = true := by
  cases w with
  | ref i =>
    obtain ⟨hi, c, hc, hk⟩ := R.get (show geth h i _ = true from e)
    cases c with
    | ins c fs =>
      obtain ⟨dx, xs, h1, h2⟩ := hc
      exact ⟨i, c, fs, dx, xs, hi, rfl, r.2, h1, h2, hk⟩
    | _ => cases hk
  | _ => cases e
/-- a list or a tuple -/
theorem Rel.seq (R : Rel Z ρ h H) {w : W} {v : V} (r : RW ρ h.n H w v) {k : List W → Bool} (e : seqAt w h k = true) : ∃ a l xs, v = .ref a ∧ (H a = some (.lst xs) ∨ H a = some (.tup xs)) ∧ RL ρ h.n H l xs ∧ k l = true := by
  cases w with
  | ref i =>
    obtain ⟨hi, c, hc, hk⟩ := R.get (show geth h i _ = true from e)
    cases c with
    | lst l =>
      obtain ⟨xs, h1, h2, h3⟩ := hc
      exact ⟨_, l, xs, r.2, .inl h1, h2, hk⟩
    | _ => cases hk
  | tn =>
    obtain ⟨a, e1, h1⟩ := r
    exact ⟨a, [], [], e1, .inr h1, rfl, e⟩
  | tc a b =>
    obtain ⟨l, e1, hk⟩ := tupK_some (show tupK (.tc a b) k = true from e)
    rw [e1] at r
    obtain ⟨p, xs, e2, h1, h2⟩ := RW_toTup.mp r
    exact ⟨p, l, xs, e2, .inr h1, h2, hk⟩
  | _ => cases e
end
end G
/-! K4: the readings of the interpreter's terms, and that each construct keeps them. -/
namespace G
open PySem L2
/-! ### readings -/
/-- whatever the interpreter hands on keeps what is wanted -/
def Cont (Z : Par) (ρ : Nat → Addr) (h : Hh) (H : Hp) (k : KW) (Q : VK) : Prop := ∀ ρ' h' H' w v, k w h' = true → Ext ρ h.n H ρ' h'.n H' → Rel Z ρ' h' H' → RW ρ' h'.n H' w v → Q v H'
def ContL (Z : Par) (ρ : Nat → Addr) (h : Hh) (H : Hp) (k : KL) (Q : List V → Hp → Prop) : Prop := ∀ ρ' h' H' l vs, k l h' = true → Ext ρ h.n H ρ' h'.n H' → Rel Z ρ' h' H' → RL ρ' h'.n H' l vs → Q vs H'
def ContS (Z : Par) (ρ : Nat → Addr) (h : Hh) (H : Hp) (k : KS) (Q : L2.St → Hp → Prop) : Prop := ∀ ρ' h' H' s σ, k s h' = true → Ext ρ h.n H ρ' h'.n H' → Rel Z ρ' h' H' → RS ρ' h'.n H' s σ → Q σ H'
def tD (Z : Par) (d : D) : TE := fun σ H Q => ∃ ρ s h k, d s h k = true ∧ Rel Z ρ h H ∧ RS ρ h.n H s σ ∧ Cont Z ρ h H k Q
def tA (Z : Par) (d : DA) : TA := fun σ H Q => ∃ ρ s h k, d s h k = true ∧ Rel Z ρ h H ∧ RS ρ h.n H s σ ∧ ContL Z ρ h H k Q
/-- a test -/
def tT (Z : Par) (d : D) : TT := fun σ H Q => tD Z d σ H fun v H' => ∃ b, v = .bl b ∧ Q b H'
def tS (Z : Par) (d : DT) : TS := fun D σ H => ∃ ρ s h E, d E s h = true ∧ Rel Z ρ h H ∧ RS ρ h.n H s σ ∧ ContS Z ρ h H E.nx D.nx ∧ Cont Z ρ h H E.rt D.rt
/-- a target that stores at the slots is -/
def tG (Z : Par) (g : DG) (is : List Nat) : TG := fun v σ H Q => ∃ ρ w s h k, g w s h k = true ∧ Rel Z ρ h H ∧ RW ρ h.n H w v ∧ RS ρ h.n H s σ ∧
  ContS Z ρ h H k (fun σ' H' => σ'.length = σ.length → (∀ i, i ∉ is → σ'[i]? = σ[i]?) → Q σ' H')
def tGs (Z : Par) (g : DGs) (is : List Nat) : TGs := fun vs σ H Q => ∃ ρ l s h k, g l s h k = true ∧ Rel Z ρ h H ∧ RL ρ h.n H l vs ∧ RS ρ h.n H s σ ∧
  ContS Z ρ h H k (fun σ' H' => σ'.length = σ.length → (∀ i, i ∉ is → σ'[i]? = σ[i]?) → Q σ' H')
/-- what is walked -/
inductive IR (Z : Par) (ρ : Nat → Addr) (n : Nat) (H : Hp) : IT → It → Prop
  | il {m : Nat} (h : m < n) : IR Z ρ n H (.il m) (Itl Z.K (ρ m))
  | fix {l : List W} {a : Addr} {xs : List V} (h : H a = some (.tup xs)) (r : RL ρ n H l xs) : IR Z ρ n H (.fix l) (Itt Z.K a)
  | rng {m : Nat} : IR Z ρ n H (.rng m) (Itr 0 m)
  | iz {a b : Nat} (h : a < n) (h' : b < n) : IR Z ρ n H (.iz a b) (Itz Z.K (ρ a) (ρ b))
  | ie {a : Nat} (h : a < n) : IR Z ρ n H (.ie a) (Ite Z.K (ρ a))
  | idk {d : Nat} {o : PySem.Obj} {kvs : List (List Key × V)} (h : d < n) (e : H (ρ d) = some (.frz o (.dT kvs))) : IR Z ρ n H (.idk d) (Itkt (ρ d) o kvs)

/-! ### weakening -/
section
variable {X : Cx}
theorem pe_of {e : Expr} {t t' : TE} (h : PE X e t) (i : ∀ σ H Q, t' σ H Q → t σ H Q) : PE X e t' := ⟨fun pins s σ H Q I q => h.run pins s σ H Q I (i σ H Q q)⟩
theorem pt_of {e : Expr} {t t' : TT} (h : PT X e t) (i : ∀ σ H Q, t' σ H Q → t σ H Q) : PT X e t' := ⟨fun pins s σ H Q I q => h.run pins s σ H Q I (i σ H Q q)⟩
theorem pw_of {e : Expr} {t t' : TT} (h : PW X e t) (i : ∀ σ H Q, t' σ H Q → t σ H Q) : PW X e t' := ⟨fun wh pins s σ H Q I q => h.run wh pins s σ H Q I (i σ H Q q)⟩
theorem pa_of {e : List Expr} {t t' : TA} (h : PA X e t) (i : ∀ σ H Q, t' σ H Q → t σ H Q) : PA X e t' := ⟨fun p pins s σ H Q I q => h.run p pins s σ H Q I (i σ H Q q)⟩
theorem ps_of {e : Stmt} {t t' : TS} (h : PS X e t) (i : ∀ D σ H, t' D σ H → t D σ H) : PS X e t' := ⟨fun pins s σ H D I q => h.run pins s σ H D I (i D σ H q)⟩
theorem pss_of {e : List Stmt} {t t' : TS} (h : PSs X e t) (i : ∀ D σ H, t' D σ H → t D σ H) : PSs X e t' := ⟨fun pins s σ H D I q => h.run pins s σ H D I (i D σ H q)⟩
theorem pg_of {e : Expr} {t t' : TG} (h : PG X e t) (i : ∀ v σ H Q, t' v σ H Q → t v σ H Q) : PG X e t' := ⟨fun pins s σ H v u Q I r q => h.run pins s σ H v u Q I r (i v σ H Q q)⟩
theorem pgs_of {e : List Expr} {t t' : TGs} (h : PGs X e t) (i : ∀ v σ H Q, t' v σ H Q → t v σ H Q) : PGs X e t' := ⟨fun pins s σ H v u Q I r q => h.run pins s σ H v u Q I r (i v σ H Q q)⟩
theorem pi_of {tg e : Expr} {t t' : TI} (h : PI X tg e t) (i : ∀ σ H R, t' σ H R → t σ H R) : PI X tg e t' := ⟨fun pins s σ H R I q => h.run pins s σ H R I (i σ H R q)⟩
theorem pe_alt {e : Expr} {t u : TE} (h : PE X e t) (h' : PE X e u) : PE X e (fun σ H Q => t σ H Q ∨ u σ H Q) := ⟨fun pins s σ H Q I q => q.elim (h.run pins s σ H Q I) (h'.run pins s σ H Q I)⟩
theorem pi_alt {tg e : Expr} {t u : TI} (h : PI X tg e t) (h' : PI X tg e u) : PI X tg e (fun σ H Q => t σ H Q ∨ u σ H Q) := ⟨fun pins s σ H Q I q => q.elim (h.run pins s σ H Q I) (h'.run pins s σ H Q I)⟩
end
section
variable {Z : Par} {ρ ρ' : Nat → Addr} {h h' : Hh} {H H' : Hp}
theorem Cont.ext {k : KW} {Q : VK} (c : Cont Z ρ h H k Q) (x : Ext ρ h.n H ρ' h'.n H') : Cont Z ρ' h' H' k Q := fun ρ2 h2 H2 w v e y => c ρ2 h2 H2 w v e (x.trans y)
theorem ContL.ext {k : KL} {Q : List V → Hp → Prop} (c : ContL Z ρ h H k Q) (x : Ext ρ h.n H ρ' h'.n H') : ContL Z ρ' h' H' k Q := fun ρ2 h2 H2 w v e y => c ρ2 h2 H2 w v e (x.trans y)
theorem ContS.ext {k : KS} {Q : L2.St → Hp → Prop} (c : ContS Z ρ h H k Q) (x : Ext ρ h.n H ρ' h'.n H') : ContS Z ρ' h' H' k Q := fun ρ2 h2 H2 w v e y => c ρ2 h2 H2 w v e (x.trans y)
theorem Cont.now {k : KW} {Q : VK} {w : W} {v : V} (c : Cont Z ρ h H k Q) (R : Rel Z ρ h H) (r : RW ρ h.n H w v) (e : k w h = true) : Q v H := c ρ h H w v e Ext.refl R r
/-- two operands -/
theorem two {da db : D} {f : W → W → Hh → KW → Bool} {r : R2} (hr : ∀ ρ h H x y v u k Q, f x y h k = true → Rel Z ρ h H → RW ρ h.n H x v → RW ρ h.n H y u → Cont Z ρ h H k Q → r v u H Q) {σ : L2.St} {H : Hp} {Q : VK}
    (w : tD Z (fun s h k => da s h fun x h => db s h fun y h => f x y h k) σ H Q) : tOp r (tD Z da) (tD Z db) σ H Q := by
  obtain ⟨ρ, s, h, k, e, R, S, q⟩ := w
  exact ⟨ρ, s, h, _, e, R, S, fun ρ1 h1 H1 x v e1 x1 R1 r1 => ⟨ρ1, s, h1, _, e1, R1, x1.rs S, fun ρ2 h2 H2 y u e2 x2 R2 r2 => hr ρ2 h2 H2 x y v u k Q e2 R2 (x2.rw r1) r2 (q.ext (x1.trans x2))⟩⟩
/-- one operand -/
theorem one {da : D} {f : W → Hh → KW → Bool} {r : V → Hp → VK → Prop} (hr : ∀ ρ h H x v k Q, f x h k = true → Rel Z ρ h H → RW ρ h.n H x v → Cont Z ρ h H k Q → r v H Q) {σ : L2.St} {H : Hp} {Q : VK}
    (w : tD Z (fun s h k => da s h fun x h => f x h k) σ H Q) : tD Z da σ H (fun v H1 => r v H1 Q) := by
  obtain ⟨ρ, s, h, k, e, R, S, q⟩ := w
  exact ⟨ρ, s, h, _, e, R, S, fun ρ1 h1 H1 x v e1 x1 R1 r1 => hr ρ1 h1 H1 x v k Q e1 R1 r1 (q.ext x1)⟩
/-- arguments -/
theorem many {da : DA} {f : List W → Hh → KW → Bool} {r : List V → Hp → VK → Prop} (hr : ∀ ρ h H l vs k Q, f l h k = true → Rel Z ρ h H → RL ρ h.n H l vs → Cont Z ρ h H k Q → r vs H Q) {σ : L2.St} {H : Hp} {Q : VK}
    (w : tD Z (fun s h k => da s h fun x h => f x h k) σ H Q) : tA Z da σ H (fun v H1 => r v H1 Q) := by
  obtain ⟨ρ, s, h, k, e, R, S, q⟩ := w
  exact ⟨ρ, s, h, _, e, R, S, fun ρ1 h1 H1 x v e1 x1 R1 r1 => hr ρ1 h1 H1 x v k Q e1 R1 r1 (q.ext x1)⟩
theorem onI_eq {i : Int} {k : KW} (e : onI i h k = true) : k (.int i) h = true := by
  unfold onI at e
  rw [forceI_eq] at e
  exact e
theorem onB_eq {b : Bool} {k : KW} (e : onB b h k = true) : k (.bl b) h = true := by cases b <;> exact e
theorem i2_eq {x y : W} {f : Int → Int → Bool} (e : i2 x y f = true) : ∃ i j, x = .int i ∧ y = .int j ∧ f i j = true := by
  cases x with
  | int i => cases y with
    | int j => exact ⟨i, j, rfl, rfl, e⟩
    | _ => cases e
  | _ => cases e
theorem bK_eq {x : W} {f : Bool → Bool} (e : bK x f = true) : ∃ b, x = .bl b ∧ f b = true := by
  cases x with
  | bl b => exact ⟨b, rfl, e⟩
  | _ => cases e
theorem newL_ok {l : List W} {xs : List V} {k : KW} {Q : VK} (R : Rel Z ρ h H) (r : RL ρ h.n H l xs) (e : newL l h k = true) (q : Cont Z ρ h H k Q) : l.length ≤ 100 ∧ ∀ p, H p = none → Q (.ref p) (upd H p (.lst xs)) := by
  unfold newL at e
  cases es : short l 100 with
  | false => rw [es] at e; cases e
  | true =>
    rw [es] at e
    simp only [forceL_eq] at e
    have hl := short_le es
    refine ⟨hl, fun p hp => ?_⟩
    have X : Ext ρ h.n H (snoc ρ h.n p) (h.n + 1) (upd H p (.lst xs)) := Ext.snoc hp (Stay.refl H) fun _ _ e => e
    obtain ⟨h', e1, e2, R', X'⟩ := R.alloc (H2 := H) (o := .lst xs) (c := .lst l) hp (fun _ _ e => e) ⟨xs, upd_same, X.rl r, by omega⟩ e
    exact q _ h' _ (.ref h.n) (.ref p) e1 X' R' ⟨by rw [e2]; exact Nat.lt_succ_self _, by rw [snoc_new]⟩
theorem newT_ok {l : List W} {xs : List V} {k : KW} {Q : VK} (R : Rel Z ρ h H) (r : RL ρ h.n H l xs) (e : k (toTup l) h = true) (q : Cont Z ρ h H k Q) : ∀ p, H p = none → Q (.ref p) (upd H p (.tup xs)) := fun p hp => by
  obtain ⟨R', X⟩ := R.tup (xs := xs) hp
  exact q ρ h _ (toTup l) (.ref p) e X R' (RW_toTup.mpr ⟨p, xs, rfl, upd_same, X.rl r⟩)
end
theorem len100 {n : Nat} (h : n ≤ 101) : n ≤ sizeLine := Nat.le_trans h (by decide)
theorem len100' {n : Nat} (h : n ≤ 101) : n < sizeLine := Nat.lt_of_le_of_lt h (by decide)
section
variable {X : Cx} {Z : Par} {pos : Pos} {a b c : Expr} {da db dc : D}
/-! ### names, constants, displays -/
theorem eVar (i : Nat) {x : Str} (hN : X.N[i]? = some x := by rfl) (hv : Vis X.env.scope x := by first | exact Or.inl rfl | exact Or.inr (Or.inl rfl) | exact Or.inr (Or.inr rfl)) (hd : (x == ("__debug__" : Str)) = false := by decide)
    (hcd : (x == ("__classdict__" : Str)) = false := by decide) : PE X (.Name x pos) (tD Z (dVar i)) :=
  pe_of (pe_var hN hv hd hcd) fun σ H Q ⟨ρ, s, h, k, e, R, S, q⟩ => by
    obtain ⟨w, ew, e⟩ := nth_some (show nth s i _ = true from e)
    by_cases hu : w = .und
    · rw [hu] at e; cases e
    · obtain ⟨v, ev, rv⟩ := RS_get S ew hu
      exact ⟨v, ev, q.now R rv (by cases w <;> first | exact e | exact absurd rfl hu)⟩
theorem con_ok {w : W} {v : V} (hw : ∀ ρ N H, RW ρ N H w v) {σ : L2.St} {H : Hp} {Q : VK} (t : tD Z (dCon w) σ H Q) : tC v σ H Q := by
  obtain ⟨ρ, s, h, k, e, R, S, q⟩ := t
  exact q.now R (hw _ _ _) e
theorem eInt {i j} : PE X (.Constant (.int i) j pos) (tD Z (dCon (.int i))) := pe_of pe_int fun _ _ _ => con_ok (w := .int i) (v := .int i) fun _ _ _ => rfl
theorem eBl {i j} : PE X (.Constant (.bool i) j pos) (tD Z (dCon (.bl i))) := pe_of pe_bl fun _ _ _ => con_ok (w := .bl i) (v := .bl i) fun _ _ _ => rfl
theorem eNon {j} : PE X (.Constant .none j pos) (tD Z (dCon .non)) := pe_of pe_non fun _ _ _ => con_ok (w := .non) (v := .non) fun _ _ _ => rfl
theorem eSp {j} : PE X (.Constant (.str "part") j pos) (tD Z (dCon .sp)) := pe_of pe_str fun _ _ _ => con_ok (w := .sp) (v := .str "part") fun _ _ _ => rfl
theorem eSo {j} : PE X (.Constant (.str "out") j pos) (tD Z (dCon .so)) := pe_of pe_str fun _ _ _ => con_ok (w := .so) (v := .str "out") fun _ _ _ => rfl
theorem eGlob {x : Str} {i : Int} {t : Tok} (hg : Gl X x) (hm : X.mg x = some (.int i t)) (hd : (x == ("__debug__" : Str)) = false := by decide) : PE X (.Name x pos) (tD Z (dCon (.int i))) := pe_of (pe_glob (v := .int i) hg hm ⟨t, rfl⟩ hd) fun _ _ _ => con_ok (w := .int i) (v := .int i) fun _ _ _ => rfl
theorem aNil_ok : PA X [] (tA Z aNil) := pa_of pa_nil fun σ H Q ⟨ρ, s, h, k, e, R, S, q⟩ => q ρ h H [] [] e Ext.refl R rfl
theorem aCons_ok {es : List Expr} {ds : DA} (ha : PE X a (tD Z da)) (hb : PA X es (tA Z ds)) (hs : starEach (a :: es) X.env = (false, eval a X.env) :: starEach es X.env := by rfl) : PA X (a :: es) (tA Z (aCons da ds)) :=
  pa_of (pa_cons ha hb hs) fun σ H Q ⟨ρ, s, h, k, e, R, S, q⟩ => ⟨ρ, s, h, _, e, R, S, fun ρ1 h1 H1 x v e1 x1 R1 r1 =>
    ⟨ρ1, s, h1, _, e1, R1, x1.rs S, fun ρ2 h2 H2 l vs e2 x2 R2 r2 => q ρ2 h2 H2 _ _ e2 (x1.trans x2) R2 ⟨v, vs, rfl, x2.rw r1, r2⟩⟩⟩
theorem eTup {es : List Expr} {ds : DA} {x1} (ha : PA X es (tA Z ds)) : PE X (.Tuple es x1 pos) (tD Z (dTup ds)) :=
  pe_of (pe_tup ha) fun σ H Q w => many (f := fun l h k => match short l 100 with | true => k (toTup l) h | false => false) (r := fun xs H1 Q => xs.length ≤ sizeLine ∧ ∀ p, H1 p = none → Q (.ref p) (upd H1 p (.tup xs))) (fun ρ h H l vs k Q e R r q => by
    cases es : short l 100 with
    | false => rw [es] at e; cases e
    | true =>
      rw [es] at e
      exact ⟨by rw [RL_length r]; exact len100 (Nat.le_succ_of_le (short_le es)), newT_ok R r e q⟩) w
theorem eLst {es : List Expr} {ds : DA} (ha : PA X es (tA Z ds)) : PE X (.List es pos) (tD Z (dLst ds)) :=
  pe_of (pe_lst ha) fun σ H Q w => many (f := newL) (r := fun xs H1 Q => xs.length ≤ sizeLine ∧ ∀ p, H1 p = none → Q (.ref p) (upd H1 p (.lst xs))) (fun ρ h H l vs k Q e R r q => by
    obtain ⟨hl, n⟩ := newL_ok R r e q
    exact ⟨by rw [RL_length r]; exact len100 (Nat.le_succ_of_le hl), n⟩) w
theorem eDict : PE X (.Dict [] [] pos) (tD Z dDict) := pe_of pe_dnewT fun σ H Q ⟨ρ, s, h, k, e, R, S, q⟩ p hp => by
  obtain ⟨h', e1, e2, R', X'⟩ := R.alloc (H2 := H) (o := .dT []) (c := .dct false []) hp (fun _ _ e => e) ⟨[], upd_same, rfl, List.nodup_nil, Nat.zero_le _⟩ e
  exact q _ h' _ (.ref h.n) (.ref p) e1 X' R' ⟨by rw [e2]; exact Nat.lt_succ_self _, by rw [snoc_new]⟩
/-! ### arithmetic -/
theorem eAdd (ha : PE X a (tD Z da)) (hb : PE X b (tD Z db)) : PE X (.BinOp a .Add b pos) (tD Z (dAdd da db)) :=
  pe_of (pe_op (OpR.or op_add op_cat) ha hb) fun σ H Q w => two (f := addW) (fun ρ h H x y v u k Q e R rx ry q => by
    have lists : ∀ {x}, RW ρ h.n H x v → (lstAt x h fun _ l => lstAt y h fun _ r => newL (l ++ r) h k) = true → rCat v u H Q := fun rx e => by
      obtain ⟨i, l, xs, hi, ex, ev, ho, rl, hl, e⟩ := R.lst rx e
      obtain ⟨j, l', ys, hj, ey, eu, ho', rl', hl', e⟩ := R.lst ry e
      obtain ⟨hz, n⟩ := newL_ok R (RL_append rl rl') e q
      refine ⟨_, _, xs, ys, ev, eu, ho, ho', ?_, n⟩
      rw [RL_length rl, RL_length rl', ← List.length_append]
      exact len100 (Nat.le_succ_of_le hz)
    cases x with
    | int i => cases y with
      | int j => exact .inl ⟨i, j, rx, ry, q.now (w := .int (i + j)) (v := .int (i + j)) R rfl (onI_eq e)⟩
      | _ => cases e
    | _ => exact .inr (lists rx e)) w
end
end G
/-! K5: data, comparisons, subscripts, tests. -/
namespace G
open PySem L2
/-! ### data -/
def IsTl : W → Prop
  | .tn => True
  | .tc _ _ => True
  | _ => False
def IsLl : W → Prop
  | .ln => True
  | .lc _ _ => True
  | _ => False
/-- proper data -/
def Pr : W → Prop
  | .non => True
  | .bl _ => True
  | .int _ => True
  | .sp => True
  | .so => True
  | .tn => True
  | .ln => True
  | .tc a b => Pr a ∧ Pr b ∧ IsTl b
  | .lc a b => Pr a ∧ Pr b ∧ IsLl b
  | _ => False
theorem tl_dat : ∀ {b : W}, Pr b → IsTl b → ∃ l, dat b = .tuple l
  | .tn, _, _ => ⟨[], rfl⟩
  | .tc a b, h, _ => by
    obtain ⟨l, e⟩ := tl_dat h.2.1 h.2.2
    exact ⟨dat a :: l, by show (match dat b with | .tuple l => PyData.tuple (dat a :: l) | _ => .none) = _; rw [e]⟩
theorem ll_dat : ∀ {b : W}, Pr b → IsLl b → ∃ l, dat b = .list l
  | .ln, _, _ => ⟨[], rfl⟩
  | .lc a b, h, _ => by
    obtain ⟨l, e⟩ := ll_dat h.2.1 h.2.2
    exact ⟨dat a :: l, by show (match dat b with | .list l => PyData.list (dat a :: l) | _ => .none) = _; rw [e]⟩
theorem dat_tc {a b : W} {l : List PyData} (e : dat b = .tuple l) : dat (.tc a b) = .tuple (dat a :: l) := by
  show (match dat b with | .tuple l => PyData.tuple (dat a :: l) | _ => .none) = _; rw [e]
theorem dat_lc {a b : W} {l : List PyData} (e : dat b = .list l) : dat (.lc a b) = .list (dat a :: l) := by
  show (match dat b with | .list l => PyData.list (dat a :: l) | _ => .none) = _; rw [e]
/-- d is what v holds, at most so deep -/
structure Good (K : PySem.W.Frag) (H : Hp) (n : Nat) (v : V) (d : W) : Prop where
  pr : Pr d
  dp : Dp K H v (dat d)
  lay : (dat d).canLay0 = true
  dep : (dat d).depth ≤ n
structure GoodT (K : PySem.W.Frag) (H : Hp) (n : Nat) (xs : List V) (d : W) : Prop where
  pr : Pr d
  tl : IsTl d
  ex : ∃ ds, dat d = .tuple ds ∧ DpAll K H xs ds ∧ PyData.canLayAll0 ds = true ∧ PyData.depthAll ds + 1 ≤ n
structure GoodL (K : PySem.W.Frag) (H : Hp) (n : Nat) (xs : List V) (d : W) : Prop where
  pr : Pr d
  tl : IsLl d
  ex : ∃ ds, dat d = .list ds ∧ DpAll K H xs ds ∧ PyData.canLayAll0 ds = true ∧ PyData.depthAll ds + 1 ≤ n
section
variable {Z : Par} {ρ : Nat → Addr} {h : Hh} {H : Hp}
theorem mapK_ok {f : W → (W → Bool) → Bool} {n : Nat} (hf : ∀ w v k, f w k = true → RW ρ h.n H w v → ∃ d, k d = true ∧ Good Z.K H n v d) : ∀ (l : List W) (xs : List V) (k : W → Bool), mapK f l k = true → RL ρ h.n H l xs →
    ∃ d, k d = true ∧ GoodL Z.K H (n + 1) xs d
  | [], xs, k, e, r => by
    cases r
    exact ⟨.ln, e, trivial, trivial, [], rfl, .nil, rfl, Nat.succ_le_succ (Nat.zero_le _)⟩
  | w :: l, xs, k, e, ⟨x, r, ex, h1, h2⟩ => by
    subst ex
    obtain ⟨d, e1, g1⟩ := hf w x _ e h1
    obtain ⟨d2, e2, g2⟩ := mapK_ok hf l r _ e1 h2
    obtain ⟨ds, z1, z2, z3, z4⟩ := g2.ex
    refine ⟨.lc d d2, e2, ⟨g1.pr, g2.pr, g2.tl⟩, trivial, dat d :: ds, dat_lc z1, .cons g1.dp z2, ?_, ?_⟩
    · show (PyData.canLay0 (dat d) && PyData.canLayAll0 ds) = true
      rw [g1.lay, z3]; rfl
    · show max (dat d).depth (PyData.depthAll ds) + 1 ≤ n + 1
      have := g1.dep
      omega
theorem rd_ok (R : Rel Z ρ h H) : ∀ n : Nat, (∀ w v k, rd n h w k = true → RW ρ h.n H w v → ∃ d, k d = true ∧ Good Z.K H n v d) ∧ (∀ w xs k, rd n h w k = true → RT ρ h.n H w xs → ∃ d, k d = true ∧ GoodT Z.K H n xs d)
  | 0 => ⟨fun _ _ _ e _ => Bool.noConfusion e, fun _ _ _ e _ => Bool.noConfusion e⟩
  | n + 1 => by
    obtain ⟨i1, i2⟩ := rd_ok R n
    refine ⟨fun w v k e r => ?_, fun w xs k e r => ?_⟩
    · cases w with
      | non => cases r; exact ⟨_, e, trivial, .non, rfl, Nat.zero_le _⟩
      | bl b => cases r; exact ⟨_, e, trivial, .bl b, rfl, Nat.zero_le _⟩
      | int i => cases r; exact ⟨_, e, trivial, .int i, rfl, Nat.zero_le _⟩
      | sp => cases r; exact ⟨_, e, trivial, .str _, by decide +kernel, Nat.zero_le _⟩
      | so => cases r; exact ⟨_, e, trivial, .str _, by decide +kernel, Nat.zero_le _⟩
      | tn =>
        obtain ⟨a, ev, ha⟩ := r
        subst ev
        exact ⟨_, e, trivial, .tup (SqT.of ha) .nil, rfl, Nat.succ_le_succ (Nat.zero_le _)⟩
      | tc a b =>
        obtain ⟨p, x, r', ev, hp, h1, h2⟩ := r
        subst ev
        obtain ⟨d1, e1, g1⟩ := i1 a x _ e h1
        obtain ⟨d2, e2, g2⟩ := i2 b r' _ e1 h2
        obtain ⟨ds, z1, z2, z3, z4⟩ := g2.ex
        refine ⟨.tc d1 d2, e2, ⟨g1.pr, g2.pr, g2.tl⟩, ?_, ?_, ?_⟩
        · rw [dat_tc z1]
          exact .tup (SqT.of hp) (.cons g1.dp z2)
        · rw [dat_tc z1]
          show (PyData.canLay0 (dat d1) && PyData.canLayAll0 ds) = true
          rw [g1.lay, z3]; rfl
        · rw [dat_tc z1]
          show max (dat d1).depth (PyData.depthAll ds) + 1 ≤ n + 1
          have := g1.dep
          omega
      | ref m =>
        obtain ⟨hi, c, hc, hk⟩ := R.get (show geth h m _ = true from e)
        cases c with
        | lst l =>
          obtain ⟨xs, h1, h2, h3⟩ := hc
          obtain ⟨d, e1, g⟩ := mapK_ok (Z := Z) i1 l xs k hk h2
          obtain ⟨ds, z1, z2, z3, z4⟩ := g.ex
          have ev : v = .ref (ρ m) := r.2
          subst ev
          refine ⟨d, e1, g.pr, ?_, ?_, ?_⟩
          · rw [z1]; exact .lst (SqL.of h1) z2
          · rw [z1]; exact z3
          · rw [z1]; exact z4
        | _ => cases hk
      | _ => cases e
    · cases w with
      | tn => cases r; exact ⟨_, e, trivial, trivial, [], rfl, .nil, rfl, Nat.succ_le_succ (Nat.zero_le _)⟩
      | tc a b =>
        obtain ⟨x, r', ev, h1, h2⟩ := r
        subst ev
        obtain ⟨d1, e1, g1⟩ := i1 a x _ e h1
        obtain ⟨d2, e2, g2⟩ := i2 b r' _ e1 h2
        obtain ⟨ds, z1, z2, z3, z4⟩ := g2.ex
        refine ⟨.tc d1 d2, e2, ⟨g1.pr, g2.pr, g2.tl⟩, trivial, _, dat_tc z1, .cons g1.dp z2, ?_, ?_⟩
        · show (PyData.canLay0 (dat d1) && PyData.canLayAll0 ds) = true
          rw [g1.lay, z3]; rfl
        · show max (dat d1).depth (PyData.depthAll ds) + 1 ≤ n + 1
          have := g1.dep
          omega
      | _ => exact absurd r (fun z => z)
end
theorem Good.shaped {K : PySem.W.Frag} {H : Hp} {n : Nat} {v : V} {d : W} (g : Good K H n v d) (hn : n ≤ 64) : SeqAt.shaped (dat d) = true := by
  unfold SeqAt.shaped
  rw [g.lay, decide_eq_true (Nat.le_trans g.dep hn)]
  rfl
/-! ### == of data -/
theorem eqvTail {a b c d : W} {l m : List PyData} (e1 : dat b = .tuple l) (e2 : dat d = .tuple m) : PyData.eqv (dat (.tc a b)) (dat (.tc c d)) = (PyData.eqv (dat a) (dat c) && PyData.eqv (dat b) (dat d)) := by
  rw [dat_tc e1, dat_tc e2, e1, e2]
  rfl
theorem eqvTailL {a b c d : W} {l m : List PyData} (e1 : dat b = .list l) (e2 : dat d = .list m) : PyData.eqv (dat (.lc a b)) (dat (.lc c d)) = (PyData.eqv (dat a) (dat c) && PyData.eqv (dat b) (dat d)) := by
  rw [dat_lc e1, dat_lc e2, e1, e2]
  rfl
theorem tcTuple {a b : W} (h : Pr (.tc a b)) : ∃ x l, dat (.tc a b) = .tuple (x :: l) := by
  obtain ⟨l, e⟩ := tl_dat h.2.1 h.2.2
  exact ⟨_, _, dat_tc e⟩
theorem lcList {a b : W} (h : Pr (.lc a b)) : ∃ x l, dat (.lc a b) = .list (x :: l) := by
  obtain ⟨l, e⟩ := ll_dat h.2.1 h.2.2
  exact ⟨_, _, dat_lc e⟩
theorem eqK_ok : ∀ (p q : W) (k : Bool → Bool), Pr p → Pr q → eqK p q k = true → k (PyData.eqv (dat p) (dat q)) = true
  | .non, q, k, _, hq, e => by
    cases q with
    | tc a b => obtain ⟨x, l, z⟩ := tcTuple hq; rw [z]; exact e
    | lc a b => obtain ⟨x, l, z⟩ := lcList hq; rw [z]; exact e
    | _ => first | exact e | cases e
  | .bl a, q, k, _, hq, e => by
    cases q with
    | tc x b => obtain ⟨x, l, z⟩ := tcTuple hq; rw [z]; exact e
    | bl b => cases a <;> cases b <;> exact e
    | _ => first | exact e | cases e
  | .int i, q, k, _, hq, e => by
    cases q with
    | tc x b => obtain ⟨x, l, z⟩ := tcTuple hq; rw [z]; exact e
    | int j =>
      have e' : (match decide (i = j) with | true => k true | false => k false) = true := e
      show k (i == j) = true
      by_cases z : i = j
      · rw [decide_eq_true z] at e'
        rw [show (i == j) = true from by simp [z]]
        exact e'
      · rw [decide_eq_false z] at e'
        rw [show (i == j) = false from by simp [z]]
        exact e'
    | _ => first | exact e | cases e
  | .sp, q, k, _, hq, e => by
    cases q with
    | tc x b => obtain ⟨x, l, z⟩ := tcTuple hq; rw [z]; exact e
    | so =>
      have z : PyData.eqv (dat .sp) (dat .so) = false := by decide +kernel
      rw [z]; exact e
    | sp =>
      have z : PyData.eqv (dat .sp) (dat .sp) = true := by decide +kernel
      rw [z]; exact e
    | _ => first | exact e | cases e
  | .so, q, k, _, hq, e => by
    cases q with
    | tc x b => obtain ⟨x, l, z⟩ := tcTuple hq; rw [z]; exact e
    | so =>
      have z : PyData.eqv (dat .so) (dat .so) = true := by decide +kernel
      rw [z]; exact e
    | sp =>
      have z : PyData.eqv (dat .so) (dat .sp) = false := by decide +kernel
      rw [z]; exact e
    | _ => first | exact e | cases e
  | .tn, q, k, _, hq, e => by
    cases q with
    | tc x b => obtain ⟨x, l, z⟩ := tcTuple hq; rw [z]; exact e
    | _ => first | exact e | cases e
  | .tc a b, q, k, hp, hq, e => by
    cases q with
    | tc c d =>
      obtain ⟨l, e1⟩ := tl_dat hp.2.1 hp.2.2
      obtain ⟨m, e2⟩ := tl_dat hq.2.1 hq.2.2
      have z := eqK_ok a c _ hp.1 hq.1 e
      rw [eqvTail e1 e2]
      cases y : PyData.eqv (dat a) (dat c) with
      | true => rw [y] at z; exact eqK_ok b d k hp.2.1 hq.2.1 z
      | false => rw [y] at z; exact z
    | _ => first
      | (obtain ⟨x, l, z⟩ := tcTuple hp; rw [z]; exact e)
      | cases e
  | .ln, q, k, _, hq, e => by
    cases q with
    | lc a b => obtain ⟨x, l, z⟩ := lcList hq; rw [z]; exact e
    | _ => first | exact e | cases e
  | .lc a b, q, k, hp, hq, e => by
    cases q with
    | lc c d =>
      obtain ⟨l, e1⟩ := ll_dat hp.2.1 hp.2.2
      obtain ⟨m, e2⟩ := ll_dat hq.2.1 hq.2.2
      have z := eqK_ok a c _ hp.1 hq.1 e
      rw [eqvTailL e1 e2]
      cases y : PyData.eqv (dat a) (dat c) with
      | true => rw [y] at z; exact eqK_ok b d k hp.2.1 hq.2.1 z
      | false => rw [y] at z; exact z
    | _ => first
      | (obtain ⟨x, l, z⟩ := lcList hp; rw [z]; exact e)
      | cases e
  | .und, _, _, _, _, e => by cases e
  | .ref _, _, _, _, _, e => by cases e
  | .rep _, _, _, _, _, e => by cases e
theorem eqT_ok : ∀ (p q : W) (k : Bool), eqT p q k = true → p = q ∧ k = true
  | .non, q, k, e => by cases q <;> first | exact ⟨rfl, e⟩ | cases e
  | .bl true, q, k, e => by
    cases q with
    | bl b => cases b <;> first | exact ⟨rfl, e⟩ | cases e
    | _ => cases e
  | .bl false, q, k, e => by
    cases q with
    | bl b => cases b <;> first | exact ⟨rfl, e⟩ | cases e
    | _ => cases e
  | .int i, q, k, e => by
    cases q with
    | int j =>
      have e' : (match decide (i = j) with | true => k | false => false) = true := e
      by_cases z : i = j
      · rw [decide_eq_true z] at e'
        exact ⟨by rw [z], e'⟩
      · rw [decide_eq_false z] at e'; cases e'
    | _ => cases e
  | .sp, q, k, e => by cases q <;> first | exact ⟨rfl, e⟩ | cases e
  | .so, q, k, e => by cases q <;> first | exact ⟨rfl, e⟩ | cases e
  | .tn, q, k, e => by cases q <;> first | exact ⟨rfl, e⟩ | cases e
  | .ln, q, k, e => by cases q <;> first | exact ⟨rfl, e⟩ | cases e
  | .tc a b, q, k, e => by
    cases q with
    | tc c d =>
      obtain ⟨z1, z2⟩ := eqT_ok a c _ e
      obtain ⟨z3, z4⟩ := eqT_ok b d _ z2
      exact ⟨by rw [z1, z3], z4⟩
    | _ => cases e
  | .lc a b, q, k, e => by
    cases q with
    | lc c d =>
      obtain ⟨z1, z2⟩ := eqT_ok a c _ e
      obtain ⟨z3, z4⟩ := eqT_ok b d _ z2
      exact ⟨by rw [z1, z3], z4⟩
    | _ => cases e
  | .und, _, _, e => by cases e
  | .ref _, _, _, e => by cases e
  | .rep _, _, _, e => by cases e
/-! ### lists of data -/
section
variable {Z : Par} {ρ : Nat → Addr} {h : Hh} {H : Hp}
/-- data and values, pairs -/
def Gs (K : PySem.W.Frag) (H : Hp) (n : Nat) : List V → List (W × W) → Prop
  | xs, [] => xs = []
  | xs, p :: ps => ∃ x r, xs = x :: r ∧ Good K H n x p.1 ∧ Gs K H n r ps
theorem rds_ok (R : Rel Z ρ h H) : ∀ (l : List W) (xs : List V) (k : List (W × W) → Bool), rds h l k = true → RL ρ h.n H l xs → ∃ ps, k ps = true ∧ Gs Z.K H 40 xs ps ∧ sndL ps = l
  | [], xs, k, e, r => by cases r; exact ⟨[], e, rfl, rfl⟩
  | w :: l, xs, k, e, ⟨x, r, ex, h1, h2⟩ => by
    subst ex
    obtain ⟨d, e1, g1⟩ := (rd_ok R 40).1 w x _ e h1
    obtain ⟨ps, e2, g2, g3⟩ := rds_ok R l r _ e1 h2
    exact ⟨(d, w) :: ps, e2, ⟨x, r, rfl, g1, g2⟩, by show w :: sndL ps = w :: l; rw [g3]⟩
theorem Gs.all {K : PySem.W.Frag} {n : Nat} : ∀ {ps : List (W × W)} {xs : List V}, Gs K H n xs ps → DpAll K H xs ((fstL ps).map dat) ∧ PyData.canLayAll0 ((fstL ps).map dat) = true ∧ PyData.depthAll ((fstL ps).map dat) ≤ n ∧ ∀ d ∈ fstL ps, Pr d
  | [], _, h => by cases h; exact ⟨.nil, rfl, Nat.zero_le _, fun _ h => nomatch h⟩
  | p :: ps, _, ⟨x, r, e, g, h2⟩ => by
    subst e
    obtain ⟨a, b, c, d⟩ := Gs.all h2
    refine ⟨.cons g.dp a, ?_, ?_, fun q hq => ?_⟩
    · show (PyData.canLay0 (dat p.1) && PyData.canLayAll0 ((fstL ps).map dat)) = true
      rw [g.lay, b]; rfl
    · show max (dat p.1).depth (PyData.depthAll ((fstL ps).map dat)) ≤ n
      have := g.dep
      omega
    · rcases List.mem_cons.mp (show q ∈ p.1 :: fstL ps from hq) with z | z
      · rw [z]; exact g.pr
      · exact d q z
theorem memK_ok {x : W} (hx : Pr x) : ∀ (l : List W) (k : Bool → Bool), (∀ d ∈ l, Pr d) → memK x l k = true → k ((l.map dat).any fun z => PyData.eqv z (dat x)) = true
  | [], _, _, e => e
  | y :: ys, k, hl, e => by
    have z := eqK_ok y x _ (hl y List.mem_cons_self) hx e
    rw [List.map_cons, List.any_cons]
    cases q : PyData.eqv (dat y) (dat x) with
    | true => rw [q] at z; exact z
    | false => rw [q] at z; exact memK_ok hx ys k (fun d hd => hl d (List.mem_cons_of_mem _ hd)) z
theorem memI_ok {i : Int} : ∀ (l : List W) (xs : List V) (k : Bool → Bool), RL ρ h.n H l xs → memI i l k = true → xs.all flatV = true ∧ k (inV (.int i) xs) = true
  | [], _, _, r, e => by cases r; exact ⟨rfl, e⟩
  | y :: ys, _, k, ⟨x, r, ex, h1, h2⟩, e => by
    subst ex
    cases y with
    | int j =>
      cases h1
      have e' : (match decide (j = i) with | true => memI i ys fun _ => k true | false => memI i ys k) = true := e
      by_cases z : j = i
      · rw [decide_eq_true z] at e'
        obtain ⟨a, b⟩ := memI_ok ys r _ h2 e'
        refine ⟨by simp [flatV, a], ?_⟩
        have : inV (.int i) (.int j :: r) = true := by simp [inV, eqV, z]
        rw [this]; exact b
      · rw [decide_eq_false z] at e'
        obtain ⟨a, b⟩ := memI_ok ys r _ h2 e'
        refine ⟨by simp [flatV, a], ?_⟩
        have : inV (.int i) (.int j :: r) = inV (.int i) r := by simp [inV, eqV, z]
        rw [this]; exact b
    | _ => cases e
/-- a comparison by an operator's rule, as a value and as a test -/
def CJ (X : Cx) (Z : Par) (op : CmpOp) (da db d : D) : Prop := ∃ r, OpR X (compareOp op) r ∧ ∀ σ H Q, tD Z d σ H Q → tOp r (tD Z da) (tD Z db) σ H Q
theorem CJ.e {X : Cx} {op : CmpOp} {a b : Expr} {da db d : D} {pos : Pos} (c : CJ X Z op da db d) (ha : PE X a (tD Z da)) (hb : PE X b (tD Z db)) (hm : behindInMarks op b = false) : PE X (.Compare a [op] [b] pos) (tD Z d) := by
  obtain ⟨r, ho, h⟩ := c
  exact pe_of (pe_cmpR ho ha hb hm) h
theorem CJ.x {X : Cx} {op : CmpOp} {a b : Expr} {da db d : D} {pos : Pos} (c : CJ X Z op da db d) (ha : PE X a (tD Z da)) (hb : PE X b (tD Z db)) (hm : behindInMarks op b = false) : PT X (.Compare a [op] [b] pos) (tT Z d) := by
  obtain ⟨r, ho, h⟩ := c
  exact pt_of (pt_cmpR ho ha hb hm) fun σ H Q w => h σ H _ w
/-- in: the two rules -/
def rInB (K : PySem.W.Frag) : R2 := fun x y H Q => rInD K x y H Q ∨ rIn K false x y H Q
def rNinB (K : PySem.W.Frag) : R2 := fun x y H Q => rNotInD K x y H Q ∨ rIn K true x y H Q
theorem inTup_ok {x y : W} {v u : V} {k : Bool → Bool} (e : inTup x y k = true) (rx : RW ρ h.n H x v) (ry : RW ρ h.n H y u) :
    ∃ p xs, u = .ref p ∧ (SqL Z.K H p xs ∨ SqT Z.K H p xs) ∧ flatV v = true ∧ xs.all flatV = true ∧ k (inV v xs) = true := by
  cases x with
  | int i =>
    have rx : v = .int i := rx
    subst rx
    obtain ⟨l, ey, e2⟩ := tupK_some (show tupK y (fun l => memI i l k) = true from e)
    subst ey
    obtain ⟨p, xs, eu, hp, r⟩ := RW_toTup.mp ry
    obtain ⟨a, b⟩ := memI_ok (h := h) l xs k r e2
    exact ⟨p, xs, eu, .inr (SqT.of hp), rfl, a, b⟩
  | _ => cases e
theorem inRef_ok {x : W} {n : Nat} {v u : V} {k : Bool → Bool} (R : Rel Z ρ h H) (e : (rd 40 h x fun p => lstAt (.ref n) h fun _ l => rds h l fun ps => memK p (fstL ps) k) = true) (rx : RW ρ h.n H x v) (ry : RW ρ h.n H (.ref n) u) :
    ∃ d ds, Dp Z.K H v d ∧ Dp Z.K H u (.list ds) ∧ SeqAt.shaped d = true ∧ SeqAt.shaped (.list ds) = true ∧ k (ds.any fun z => PyData.eqv z d) = true := by
  obtain ⟨d, e1, g1⟩ := (rd_ok R 40).1 x v _ e rx
  obtain ⟨i, l, xs, hi, ew, eu, ho, r, hl, e2⟩ := R.lst ry e1
  obtain ⟨ps, e3, g3, g4⟩ := rds_ok R l xs _ e2 r
  obtain ⟨a, b, c, d'⟩ := g3.all
  refine ⟨_, _, g1.dp, by rw [eu]; exact .lst (SqL.of ho) a, g1.shaped (by decide), ?_, memK_ok g1.pr _ _ d' e3⟩
  unfold SeqAt.shaped
  rw [show PyData.canLay0 (.list ((fstL ps).map dat)) = true from b, decide_eq_true (show (PyData.list ((fstL ps).map dat)).depth ≤ 64 from by show PyData.depthAll ((fstL ps).map dat) + 1 ≤ 64; omega)]
  rfl
theorem inW_ok {x y : W} {v u : V} {k : Bool → Bool} (R : Rel Z ρ h H) (e : inW x y h k = true) (rx : RW ρ h.n H x v) (ry : RW ρ h.n H y u) :
    (∃ d ds, Dp Z.K H v d ∧ Dp Z.K H u (.list ds) ∧ SeqAt.shaped d = true ∧ SeqAt.shaped (.list ds) = true ∧ k (ds.any fun z => PyData.eqv z d) = true) ∨
      ∃ p xs, u = .ref p ∧ (SqL Z.K H p xs ∨ SqT Z.K H p xs) ∧ flatV v = true ∧ xs.all flatV = true ∧ k (inV v xs) = true := by
  have t : inTup x y k = true → ∃ p xs, u = .ref p ∧ (SqL Z.K H p xs ∨ SqT Z.K H p xs) ∧ flatV v = true ∧ xs.all flatV = true ∧ k (inV v xs) = true := fun e => inTup_ok (Z := Z) e rx ry
  unfold inW at e
  split at e
  · exact .inl (inRef_ok R e rx ry)
  · exact .inr (t e)
end
section
variable {X : Cx} {Z : Par} (hZ : Z.K = X.K) (hu : X.A.units + 65 < cLine) {pos : Pos} {a b c : Expr} {da db dc : D}
include hZ hu
theorem jEq : CJ X Z .Eq da db (dEq da db) := ⟨_, (op_eqD (by omega)), fun σ H Q w => two (f := fun x y h k => rd 40 h x fun p => rd 40 h y fun q => eqK p q fun e => onB e h k) (fun ρ h H x y v u k Q e R rx ry q => by
    obtain ⟨p, e1, g1⟩ := (rd_ok R 40).1 x v _ e rx
    obtain ⟨p2, e2, g2⟩ := (rd_ok R 40).1 y u _ e1 ry
    rw [← hZ]
    exact ⟨_, _, g1.dp, g2.dp, g1.shaped (by decide), g2.shaped (by decide), q.now (w := .bl _) R rfl (onB_eq (eqK_ok _ _ _ g1.pr g2.pr e2))⟩) w⟩
theorem jNe : CJ X Z .NotEq da db (dNe da db) := ⟨_, ((op_neD (by omega)).or op_ne), fun σ H Q w => two (f := neW) (fun ρ h H x y v u k Q e R rx ry q => by
    have data : (rd 40 h x fun p => rd 40 h y fun q => eqK p q fun e => onB (!e) h k) = true → rNeD X.K v u H Q := fun e => by
      obtain ⟨p, e1, g1⟩ := (rd_ok R 40).1 x v _ e rx
      obtain ⟨p2, e2, g2⟩ := (rd_ok R 40).1 y u _ e1 ry
      rw [← hZ]
      exact ⟨_, _, g1.dp, g2.dp, g1.shaped (by decide), g2.shaped (by decide), q.now (w := .bl _) R rfl (onB_eq (eqK_ok _ _ (fun e => onB (!e) h k) g1.pr g2.pr e2))⟩
    cases x with
    | rep p => cases y with
      | rep p2 =>
        obtain ⟨z1, z2⟩ := eqT_ok p p2 _ e
        subst z1
        have rx : v = _ := rx
        have ry : u = _ := ry
        subst rx ry
        refine .inr ⟨rfl, ?_⟩
        rw [decide_eq_true rfl]
        exact q.now (w := .bl false) R rfl z2
      | _ => cases e
    | _ => exact .inl (data e)) w⟩
theorem jIn : CJ X Z .In da db (dIn da db) := ⟨_, ((op_inD hu).or op_in_seq), fun σ H Q w => two (f := fun x y h k => inW x y h fun e => onB e h k) (fun ρ h H x y v u k Q e R rx ry q => by
    rw [← hZ]
    rcases inW_ok R e rx ry with ⟨d, ds, h1, h2, h3, h4, h5⟩ | ⟨p, xs, h1, h2, h3, h4, h5⟩
    · exact .inl ⟨d, ds, h1, h2, h3, h4, q.now (w := .bl _) R rfl (onB_eq h5)⟩
    · exact .inr ⟨p, xs, h1, h2, h3, h4, q.now (w := .bl _) R rfl (onB_eq h5)⟩) w⟩
theorem jNin : CJ X Z .NotIn da db (dNin da db) := ⟨_, ((op_notInD hu).or op_notIn_seq), fun σ H Q w => two (f := fun x y h k => inW x y h fun e => onB (!e) h k) (fun ρ h H x y v u k Q e R rx ry q => by
    rw [← hZ]
    rcases inW_ok R e rx ry with ⟨d, ds, h1, h2, h3, h4, h5⟩ | ⟨p, xs, h1, h2, h3, h4, h5⟩
    · exact .inl ⟨d, ds, h1, h2, h3, h4, q.now (w := .bl _) R rfl (onB_eq (b := !_) h5)⟩
    · exact .inr ⟨p, xs, h1, h2, h3, h4, q.now (w := .bl _) R rfl (onB_eq (b := !_) h5)⟩) w⟩
end
end G
/-! K6: numbers, tests, subscripts, slices, fields, built-ins. -/
namespace G
open PySem L2
section
variable {X : Cx} {Z : Par} {pos : Pos} {a b c : Expr} {da db dc : D}
theorem eSub (ha : PE X a (tD Z da)) (hb : PE X b (tD Z db)) : PE X (.BinOp a .Sub b pos) (tD Z (dSub da db)) :=
  pe_of (pe_op op_sub ha hb) fun σ H Q w => two (f := fun x y h k => i2 x y fun i j => onI (i - j) h k) (fun ρ h H x y v u k Q e R rx ry q => by
    obtain ⟨i, j, e1, e2, e3⟩ := i2_eq e
    subst e1 e2
    exact ⟨i, j, rx, ry, q.now (w := .int (i - j)) R rfl (onI_eq e3)⟩) w
theorem eNeg (ha : PE X a (tD Z da)) : PE X (.UnaryOp .USub a pos) (tD Z (dNeg da)) :=
  pe_of (pe_un un_neg ha) fun σ H Q w => one (f := fun x h k => match x with | .int i => onI (-i) h k | _ => false) (r := rU fun i => .int (-i)) (fun ρ h H x v k Q e R rx q => by
    cases x with
    | int i => exact ⟨i, rx, q.now (w := .int (-i)) R rfl (onI_eq e)⟩
    | _ => cases e) w
theorem cmpI {op : CmpOp} {p : Int → Int → Bool} (ho : OpR X (compareOp op) (rI0 fun i j => .bl (p i j))) :
    CJ X Z op da db (fun s h k => da s h fun x h => db s h fun y h => i2 x y fun i j => onB (p i j) h k) :=
  ⟨_, ho, fun σ H Q w => two (f := fun x y h k => i2 x y fun i j => onB (p i j) h k) (fun ρ h H x y v u k Q e R rx ry q => by
    obtain ⟨i, j, e1, e2, e3⟩ := i2_eq e
    subst e1 e2
    exact ⟨i, j, rx, ry, q.now (w := .bl (p i j)) R rfl (onB_eq e3)⟩) w⟩
theorem jLt : CJ X Z .Lt da db (dLt da db) := cmpI op_lt
theorem jLe : CJ X Z .LtE da db (dLe da db) := cmpI op_le
theorem jGt : CJ X Z .Gt da db (dGt da db) := cmpI op_gt
theorem jGe : CJ X Z .GtE da db (dGe da db) := cmpI op_ge
theorem ch_ok {p p' : Int → Int → Bool} {σ : L2.St} {H : Hp} {Q : VK} (w : tD Z (fun s h k => da s h fun x h => db s h fun y h => i2 x y fun i j => match p i j with
      | true => dc s h fun z h => i2 y z fun i j => onB (p' i j) h k
      | false => k (.bl false) h) σ H Q) : tChain (rI0 fun i j => .bl (p i j)) (rI0 fun i j => .bl (p' i j)) (tD Z da) (tD Z db) (tD Z dc) σ H Q := by
  obtain ⟨ρ, s, h, k, e, R, S, q⟩ := w
  exact ⟨ρ, s, h, _, e, R, S, fun ρ1 h1 H1 x v e1 x1 R1 r1 => ⟨ρ1, s, h1, _, e1, R1, x1.rs S, fun ρ2 h2 H2 y u e2 x2 R2 r2 => by
    obtain ⟨i, j, z1, z2, e3⟩ := i2_eq e2
    subst z1 z2
    have r1 : v = .int i := r1
    have r2 : u = .int j := r2
    subst r1 r2
    refine ⟨i, j, rfl, rfl, p i j, rfl, ?_⟩
    cases hp : p i j with
    | true =>
      rw [hp] at e3
      rw [if_pos rfl]
      exact ⟨ρ2, s, h2, _, e3, R2, (x1.trans x2).rs S, fun ρ3 h3 H3 y u e4 x3 R3 r3 => by
        obtain ⟨i', j', z1, z2, e5⟩ := i2_eq e4
        cases z1
        subst z2
        exact ⟨j, j', rfl, r3, (q.ext ((x1.trans x2).trans x3)).now (w := .bl (p' j j')) R3 rfl (onB_eq e5)⟩⟩
    | false =>
      rw [hp] at e3
      rw [if_neg Bool.false_ne_true]
      exact (q.ext (x1.trans x2)).now (w := .bl false) R2 rfl e3⟩⟩
theorem eChLL (ha : PE X a (tD Z da)) (hb : PE X b (tD Z db)) (hc : PE X c (tD Z dc)) (hm : lastMarks [CmpOp.LtE, CmpOp.LtE] [b, c] = false := by rfl) : PE X (.Compare a [.LtE, .LtE] [b, c] pos) (tD Z (dChLL da db dc)) := pe_of (pe_chain op_le op_le ha hb hc (hm := hm)) fun _ _ _ w => ch_ok w
theorem eChLT (ha : PE X a (tD Z da)) (hb : PE X b (tD Z db)) (hc : PE X c (tD Z dc)) (hm : lastMarks [CmpOp.LtE, CmpOp.Lt] [b, c] = false := by rfl) : PE X (.Compare a [.LtE, .Lt] [b, c] pos) (tD Z (dChLT da db dc)) := pe_of (pe_chain op_le op_lt ha hb hc (hm := hm)) fun _ _ _ w => ch_ok w
/-! ### None -/
def nonB : W → Bool
  | .non => true
  | _ => false
theorem RW_non {ρ : Nat → Addr} {N : Nat} {H : Hp} {w : W} {v : V} (r : RW ρ N H w v) : nonB w = decide (v = .non) := by
  cases w with
  | non => have r : v = .non := r; subst r; rfl
  | bl _ => have r : v = .bl _ := r; subst r; rfl
  | int _ => have r : v = .int _ := r; subst r; rfl
  | sp => have r : v = .str _ := r; subst r; rfl
  | so => have r : v = .str _ := r; subst r; rfl
  | tn => obtain ⟨a, e, _⟩ := r; subst e; rfl
  | tc _ _ => obtain ⟨a, _, _, e, _⟩ := r; subst e; rfl
  | ref _ => have r := r.2; subst r; rfl
  | rep _ => have r : v = .str _ := r; subst r; rfl
  | _ => exact absurd r (fun z => z)
theorem isN_ok {σ : L2.St} {H : Hp} {Q : VK} (w : tD Z (dIsN da) σ H Q) : tIsN (tD Z da) σ H Q :=
  one (f := fun x h k => match x with | .non => k (.bl true) h | _ => k (.bl false) h) (r := fun x H1 Q => Q (.bl (decide (x = .non))) H1) (fun ρ h H x v k Q e R rx q => by
    rw [← RW_non rx]
    cases x with
    | non => exact q.now (w := .bl true) R rfl e
    | _ => exact q.now (w := .bl false) R rfl e) w
theorem notN_ok {σ : L2.St} {H : Hp} {Q : VK} (w : tD Z (dNotN da) σ H Q) : tNotN (tD Z da) σ H Q :=
  one (f := fun x h k => match x with | .non => k (.bl false) h | _ => k (.bl true) h) (r := fun x H1 Q => Q (.bl (!decide (x = .non))) H1) (fun ρ h H x v k Q e R rx q => by
    rw [← RW_non rx]
    cases x with
    | non => exact q.now (w := .bl false) R rfl e
    | _ => exact q.now (w := .bl true) R rfl e) w
theorem eIsN {j p2} (ha : PE X a (tD Z da)) : PE X (.Compare a [.Is] [.Constant .none j p2] pos) (tD Z (dIsN da)) := pe_of (pe_cmp (pc_isN ha) rfl) fun _ _ _ w => isN_ok w
theorem eNotN {j p2} (ha : PE X a (tD Z da)) : PE X (.Compare a [.IsNot] [.Constant .none j p2] pos) (tD Z (dNotN da)) := pe_of (pe_cmp (pc_notN ha) rfl) fun _ _ _ w => notN_ok w
theorem xIsN {j p2} (ha : PE X a (tD Z da)) : PT X (.Compare a [.Is] [.Constant .none j p2] pos) (tT Z (dIsN da)) := pt_of (pt_cmp (pc_isN ha) rfl) fun _ _ _ w => isN_ok w
theorem xNotN {j p2} (ha : PE X a (tD Z da)) : PT X (.Compare a [.IsNot] [.Constant .none j p2] pos) (tT Z (dNotN da)) := pt_of (pt_cmp (pc_notN ha) rfl) fun _ _ _ w => notN_ok w
/-! ### and, or, not, if: values and tests -/
theorem not_ok {σ : L2.St} {H : Hp} {Q : Bool → Hp → Prop} (w : tT Z (dNot da) σ H Q) : tNot (tT Z da) σ H Q := by
  obtain ⟨ρ, s, h, k, e, R, S, q⟩ := w
  refine ⟨ρ, s, h, _, e, R, S, fun ρ1 h1 H1 x v e1 x1 R1 r1 => ?_⟩
  obtain ⟨d, z, e2⟩ := bK_eq e1
  subst z
  refine ⟨d, r1, ?_⟩
  cases d with
  | true =>
    obtain ⟨b, z1, z2⟩ := q ρ1 h1 H1 (.bl false) (.bl false) e2 x1 R1 rfl
    cases z1
    exact z2
  | false =>
    obtain ⟨b, z1, z2⟩ := q ρ1 h1 H1 (.bl true) (.bl true) e2 x1 R1 rfl
    cases z1
    exact z2
theorem xNot (ha : PT X a (tT Z da)) : PT X (.UnaryOp .Not a pos) (tT Z (dNot da)) := pt_of (pt_not ha) fun σ H Q w => not_ok w
theorem vNot (ha : PE X a (tD Z da)) : PE X (.UnaryOp .Not a pos) (tD Z (dNot da)) :=
  pe_of (pe_not ha) fun σ H Q w => by
    obtain ⟨ρ, s, h, k, e, R, S, q⟩ := w
    refine ⟨ρ, s, h, _, e, R, S, fun ρ1 h1 H1 x v e1 x1 R1 r1 => ?_⟩
    obtain ⟨d, z, e2⟩ := bK_eq e1
    subst z
    refine ⟨d, r1, ?_⟩
    cases d with
    | true => exact q ρ1 h1 H1 (.bl false) (.bl false) e2 x1 R1 rfl
    | false => exact q ρ1 h1 H1 (.bl true) (.bl true) e2 x1 R1 rfl
/-- a value as a test -/
theorem xVal {e : Expr} {d : D} (h : PE X e (tD Z d)) (he : ∀ whole, isTrue e X.env whole = (do let v ← whole; standAt e.pos; holding [v] (truthy v)) := by intro _; rfl) : PT X e (tT Z d) := pt_of (pt_val h he) fun _ _ _ w => w
theorem and_ok {tb : D} {Qv : VK} {σ : L2.St} {H : Hp} (w : tD Z (dAnd da tb) σ H Qv) : tD Z da σ H fun x H1 => ∃ c, x = .bl c ∧ if c = true then tD Z tb σ H1 (fun y H2 => ∃ c, y = .bl c ∧ Qv (.bl c) H2) else Qv (.bl false) H1 := by
  obtain ⟨ρ, s, h, k, e, R, S, q⟩ := w
  refine ⟨ρ, s, h, _, e, R, S, fun ρ1 h1 H1 x v e1 x1 R1 r1 => ?_⟩
  obtain ⟨d, z, e2⟩ := bK_eq e1
  subst z
  refine ⟨d, r1, ?_⟩
  cases d with
  | true =>
    rw [if_pos rfl]
    refine ⟨ρ1, s, h1, _, e2, R1, x1.rs S, fun ρ2 h2 H2 y u e3 x2 R2 r2 => ?_⟩
    obtain ⟨c, z, e4⟩ := bK_eq e3
    subst z
    exact ⟨c, r2, q ρ2 h2 H2 (.bl c) (.bl c) (onB_eq e4) (x1.trans x2) R2 rfl⟩
  | false =>
    rw [if_neg Bool.false_ne_true]
    exact q ρ1 h1 H1 (.bl false) (.bl false) e2 x1 R1 rfl
theorem or_ok {tb : D} {Qv : VK} {σ : L2.St} {H : Hp} (w : tD Z (dOr da tb) σ H Qv) : tD Z da σ H fun x H1 => ∃ c, x = .bl c ∧ if c = true then Qv (.bl true) H1 else tD Z tb σ H1 (fun y H2 => ∃ c, y = .bl c ∧ Qv (.bl c) H2) := by
  obtain ⟨ρ, s, h, k, e, R, S, q⟩ := w
  refine ⟨ρ, s, h, _, e, R, S, fun ρ1 h1 H1 x v e1 x1 R1 r1 => ?_⟩
  obtain ⟨d, z, e2⟩ := bK_eq e1
  subst z
  refine ⟨d, r1, ?_⟩
  cases d with
  | false =>
    rw [if_neg Bool.false_ne_true]
    refine ⟨ρ1, s, h1, _, e2, R1, x1.rs S, fun ρ2 h2 H2 y u e3 x2 R2 r2 => ?_⟩
    obtain ⟨c, z, e4⟩ := bK_eq e3
    subst z
    exact ⟨c, r2, q ρ2 h2 H2 (.bl c) (.bl c) (onB_eq e4) (x1.trans x2) R2 rfl⟩
  | true =>
    rw [if_pos rfl]
    exact q ρ1 h1 H1 (.bl true) (.bl true) e2 x1 R1 rfl
/-- tD in Q -/
theorem tD_mono {d : D} {σ : L2.St} {H : Hp} {Q Q' : VK} (w : tD Z d σ H Q) (h : ∀ v H', Q v H' → Q' v H') : tD Z d σ H Q' := by
  obtain ⟨ρ, s, hh, k, e, R, S, q⟩ := w
  exact ⟨ρ, s, hh, k, e, R, S, fun ρ1 h1 H1 x v e1 x1 R1 r1 => h _ _ (q ρ1 h1 H1 x v e1 x1 R1 r1)⟩
variable {rest : List Expr}
theorem vAnd (ha : PE X a (tD Z da)) (hb : PE X (.BoolOp .And (b :: rest) pos) (tD Z db)) : PE X (.BoolOp .And (a :: b :: rest) pos) (tD Z (dAnd da db)) :=
  pe_of (pe_and ha hb) fun σ H Q w => tD_mono (and_ok w) fun v H' ⟨c, e, z⟩ => ⟨c, e, by
    cases c with
    | true => rw [if_pos rfl] at z ⊢; exact tD_mono z fun y H2 ⟨c, e, z⟩ => by rw [e]; exact z
    | false => exact z⟩
theorem vOr (ha : PE X a (tD Z da)) (hb : PE X (.BoolOp .Or (b :: rest) pos) (tD Z db)) : PE X (.BoolOp .Or (a :: b :: rest) pos) (tD Z (dOr da db)) :=
  pe_of (pe_or ha hb) fun σ H Q w => tD_mono (or_ok w) fun v H' ⟨c, e, z⟩ => ⟨c, e, by
    cases c with
    | false => rw [if_neg Bool.false_ne_true] at z ⊢; exact tD_mono z fun y H2 ⟨c, e, z⟩ => by rw [e]; exact z
    | true => exact z⟩
theorem vOne {op} (ha : PE X a (tD Z da)) : PE X (.BoolOp op [a] pos) (tD Z da) := pe_one ha
theorem wAnd (ha : PT X a (tT Z da)) (hb : PW X (.BoolOp .And (b :: rest) pos) (tT Z db)) : PW X (.BoolOp .And (a :: b :: rest) pos) (tT Z (dAnd da db)) :=
  pw_of (pw_and ha hb) fun σ H Q w => tD_mono (and_ok w) fun v H' ⟨c, e, z⟩ => ⟨c, e, by
    cases c with
    | true => rw [if_pos rfl] at z ⊢; exact tD_mono z fun y H2 ⟨c, e, b, e2, z⟩ => by cases e2; exact ⟨_, e, z⟩
    | false => obtain ⟨b, e2, z⟩ := z; cases e2; exact z⟩
theorem wOr (ha : PT X a (tT Z da)) (hb : PW X (.BoolOp .Or (b :: rest) pos) (tT Z db)) : PW X (.BoolOp .Or (a :: b :: rest) pos) (tT Z (dOr da db)) :=
  pw_of (pw_or ha hb) fun σ H Q w => tD_mono (or_ok w) fun v H' ⟨c, e, z⟩ => ⟨c, e, by
    cases c with
    | false => rw [if_neg Bool.false_ne_true] at z ⊢; exact tD_mono z fun y H2 ⟨c, e, b, e2, z⟩ => by cases e2; exact ⟨_, e, z⟩
    | true => obtain ⟨b, e2, z⟩ := z; cases e2; exact z⟩
theorem wAnd1 (ha : PT X a (tT Z da)) : PW X (.BoolOp .And [a] pos) (tT Z da) := pw_and1 ha
theorem wOr1 (ha : PT X a (tT Z da)) : PW X (.BoolOp .Or [a] pos) (tT Z da) := pw_or1 ha
theorem eIte (hc : PT X c (tT Z dc)) (ha : PE X a (tD Z da)) (hb : PE X b (tD Z db)) : PE X (.IfExp c a b pos) (tD Z (dIte dc da db)) :=
  pe_of (pe_ifExp hc ha hb) fun σ H Q ⟨ρ, s, h, k, e, R, S, q⟩ => ⟨ρ, s, h, _, e, R, S, fun ρ1 h1 H1 x v e1 x1 R1 r1 => by
    obtain ⟨d, z, e2⟩ := bK_eq e1
    subst z
    refine ⟨d, r1, ?_⟩
    cases d with
    | true => rw [if_pos rfl]; exact ⟨ρ1, s, h1, k, e2, R1, x1.rs S, q.ext x1⟩
    | false => rw [if_neg Bool.false_ne_true]; exact ⟨ρ1, s, h1, k, e2, R1, x1.rs S, q.ext x1⟩⟩
end
end G
/-! K7: subscripts, slices, fields, dicts, built-ins, list methods. -/
namespace G
open PySem L2
section
variable {Z : Par} {ρ : Nat → Addr} {h : Hh} {H : Hp}
theorem atI_ok {N : Nat} {l : List W} {xs : List V} {i : Int} {k : W → Bool} (r : RL ρ N H l xs) (e : G.atI l i k = true) : ∃ w v, k w = true ∧ L2.atI xs i = some v ∧ RW ρ N H w v := by
  have hl := RL_length r
  cases i with
  | ofNat m =>
    obtain ⟨w, e1, e2⟩ := nth_some (show nth l m k = true from e)
    obtain ⟨v, e3, r3⟩ := RL_get r e1
    refine ⟨w, v, e2, ?_, r3⟩
    have hm : m < xs.length := (List.getElem?_eq_some_iff.mp e3).1
    show (ixN xs.length (Int.ofNat m)).bind (fun j => xs[j]?) = some v
    have : ixN xs.length (Int.ofNat m) = some m := by
      unfold ixN
      rw [if_pos (by exact Int.natCast_nonneg m), if_pos (by simpa using hm)]
      rfl
    rw [this]
    exact e3
  | negSucc m =>
    obtain ⟨w, e1, e2⟩ := nth_some (show nth l.reverse m k = true from e)
    have hm : m < l.length := by
      have := (List.getElem?_eq_some_iff.mp e1).1
      simpa using this
    rw [List.getElem?_reverse hm] at e1
    obtain ⟨v, e3, r3⟩ := RL_get r e1
    refine ⟨w, v, e2, ?_, r3⟩
    show (ixN xs.length (Int.negSucc m)).bind (fun j => xs[j]?) = some v
    have : ixN xs.length (Int.negSucc m) = some (l.length - 1 - m) := by
      unfold ixN
      rw [if_neg (by omega), if_pos (by omega)]
      congr 1
      omega
    rw [this]
    exact e3
theorem sIdx_eq (n d : Nat) (o : Option Int) : sIdx n d o = HT.sIx n d o := by
  cases o with
  | none => rfl
  | some i => cases i with
    | ofNat m =>
      show Nat.min m n = if (Int.ofNat m) < 0 then (Int.ofNat m + (n : Int)).toNat else min (Int.ofNat m).toNat n
      rw [if_neg (by simp)]
      rfl
    | negSucc m =>
      show n - (m + 1) = if (Int.negSucc m) < 0 then (Int.negSucc m + (n : Int)).toNat else min (Int.negSucc m).toNat n
      rw [if_pos (Int.negSucc_lt_zero m)]
      omega
theorem cutL_ok {N : Nat} {l : List W} {xs : List V} {lo hi : Option Int} (r : RL ρ N H l xs) : RL ρ N H (cutL l lo hi) (cutV xs lo hi) ∧
    ((cutL l lo hi).length < l.length → ¬ (HT.sIx xs.length 0 lo = 0 ∧ HT.sIx xs.length xs.length hi = xs.length)) := by
  have hl := RL_length r
  unfold cutL cutV
  rw [hl, sIdx_eq, sIdx_eq]
  refine ⟨RL_take _ (RL_drop _ r), fun hz ⟨z1, z2⟩ => ?_⟩
  rw [z1, z2] at hz
  simp at hz
theorem partK_ok {N : Nat} {w : W} {v : V} {k : Option Int → Bool} (e : partK w k = true) (r : RW ρ N H w v) : ∃ o, k o = true ∧ ((v = .non ∧ o = none) ∨ ∃ i, v = .int i ∧ o = some i) := by
  cases w with
  | non => exact ⟨none, e, .inl ⟨r, rfl⟩⟩
  | int i => exact ⟨some i, e, .inr ⟨i, r, rfl⟩⟩
  | _ => cases e
/-- what a slice's part tells -/
def tP (Z : Par) (d : D) : TO := fun σ H Q => tD Z d σ H fun v H' => (v = .non ∧ Q none H') ∨ ∃ i, v = .int i ∧ Q (some i) H'
end
section
variable {X : Cx} {Z : Par} {pos : Pos} {a b c e : Expr} {da db dc : D}
theorem pNone : PO X none (tP Z (dCon .non)) := by
  refine ⟨fun pins s σ H Q I hw => po_none.run pins s σ H Q I ?_⟩
  have w := con_ok (w := .non) (v := .non) (fun _ _ _ => rfl) hw
  rcases w with ⟨_, q⟩ | ⟨i, z, _⟩
  · exact q
  · cases z
theorem pSome (h : PE X e (tD Z da)) : PO X (some e) (tP Z da) := by
  refine ⟨fun pins s σ H Q I hw => ?_⟩
  rw [evalPart_some]
  refine thn (h.run pins s σ H _ I hw) fun u s1 ⟨x, H1, I1, r1, q1⟩ => ?_
  rcases q1 with ⟨z, q⟩ | ⟨i, z, q⟩
  · subst z
    cases r1
    exact ⟨none, H1, I1, .none, q⟩
  · subst z
    obtain ⟨t, rfl⟩ := r1
    exact ⟨some i, H1, I1, .int i t, q⟩
/-- a value and a slice's parts -/
theorem slice3 {f : W → Option Int → Option Int → Hh → KW → Bool} {r : V → Option Int → Option Int → Hp → VK → Prop}
    (hr : ∀ ρ h H x v lo hi k Q, f x lo hi h k = true → Rel Z ρ h H → RW ρ h.n H x v → Cont Z ρ h H k Q → r v lo hi H Q) {σ : L2.St} {H : Hp} {Q : VK}
    (w : tD Z (fun s h k => da s h fun x h => db s h fun p h => partK p fun o => dc s h fun q h => partK q fun o' => f x o o' h k) σ H Q) : tSl r (tD Z da) (tP Z db) (tP Z dc) σ H Q := by
  obtain ⟨ρ, s, h, k, e, R, S, q⟩ := w
  refine ⟨ρ, s, h, _, e, R, S, fun ρ1 h1 H1 x v e1 x1 R1 r1 => ⟨ρ1, s, h1, _, e1, R1, x1.rs S, fun ρ2 h2 H2 y u e2 x2 R2 r2 => ?_⟩⟩
  obtain ⟨o, e3, ho⟩ := partK_ok e2 r2
  have go : tP Z dc σ H2 (fun hi H3 => r v o hi H3 Q) := ⟨ρ2, s, h2, _, e3, R2, (x1.trans x2).rs S, fun ρ3 h3 H3 y' u' e4 x3 R3 r3 => by
    obtain ⟨o', e5, ho'⟩ := partK_ok e4 r3
    have go := hr ρ3 h3 H3 x v o o' k Q e5 R3 ((x2.trans x3).rw r1) (q.ext ((x1.trans x2).trans x3))
    rcases ho' with ⟨z1, z2⟩ | ⟨i, z1, z2⟩
    · subst z2; exact .inl ⟨z1, go⟩
    · subst z2; exact .inr ⟨i, z1, go⟩⟩
  rcases ho with ⟨z1, z2⟩ | ⟨i, z1, z2⟩
  · subst z2; exact .inl ⟨z1, go⟩
  · subst z2; exact .inr ⟨i, z1, go⟩
variable (hZ : Z.K = X.K)
include hZ
theorem eSl {lo hi : Option Expr} {p2 : Pos} (ha : PE X a (tD Z da)) (hb : PO X lo (tP Z db)) (hc : PO X hi (tP Z dc)) : PE X (.Subscript a (.Slice lo hi none p2) pos) (tD Z (dSl da db dc)) :=
  pe_of (pe_slice sl_list ha hb hc) fun σ H Q w => slice3 (f := fun x o o' h k => lstAt x h fun _ l => newL (cutL l o o') h k) (fun ρ h H x v lo hi k Q e R rx q => by
    obtain ⟨i, l, xs, hi, ex, ev, ho, rl, hl, e⟩ := R.lst rx e
    obtain ⟨hz, n⟩ := newL_ok R (cutL_ok rl).1 e q
    rw [← hZ]
    exact ⟨_, xs, ev, SqL.of ho, n⟩) w
theorem eSlT {lo hi : Option Expr} {p2 : Pos} (ha : PE X a (tD Z da)) (hb : PO X lo (tP Z db)) (hc : PO X hi (tP Z dc)) : PE X (.Subscript a (.Slice lo hi none p2) pos) (tD Z (dSlT da db dc)) :=
  pe_of (pe_slice sl_tup ha hb hc) fun σ H Q w => slice3 (f := fun x o o' h k => tupK x fun l => match Nat.blt (cutL l o o').length l.length with | true => forceL (cutL l o o') fun r => k (toTup r) h | false => false) (fun ρ h H x v lo hi k Q e R rx q => by
    obtain ⟨l, ex, e'⟩ := tupK_some e
    clear e
    subst ex
    obtain ⟨p, xs, ev, hp, rl⟩ := RW_toTup.mp rx
    cases hb : Nat.blt (cutL l lo hi).length l.length with
    | false => rw [hb] at e'; cases e'
    | true =>
      rw [hb] at e'
      simp only [forceL_eq] at e'
      rw [← hZ]
      exact ⟨p, xs, ev, SqT.of hp, (cutL_ok rl).2 (Nat.le_of_ble_eq_true hb), newT_ok R (cutL_ok rl).1 e' q⟩) w
theorem eRev {k : Nat} {p1 p2 p3 : Pos} (ha : PE X a (tD Z da)) : PE X (.Subscript a (.Slice none none (some (.UnaryOp .USub (.Constant (.int 1) k p1) p2)) p3) pos) (tD Z (dRev da)) :=
  pe_of (pe_revL ha) fun σ H Q w => one (f := fun x h k => lstAt x h fun _ l => newL l.reverse h k) (r := fun x H1 Q => ∃ a xs, x = .ref a ∧ SqL X.K H1 a xs ∧ ∀ p, H1 p = none → Q (.ref p) (upd H1 p (.lst xs.reverse))) (fun ρ h H x v k Q e R rx q => by
    obtain ⟨i, l, xs, hi, ex, ev, ho, rl, hl, e⟩ := R.lst rx e
    obtain ⟨hz, n⟩ := newL_ok R (RL_reverse rl) e q
    exact ⟨_, xs, ev, SqL.of ho, n⟩) w
/-- xs[i], t[i] -/
theorem eIx (ha : PE X a (tD Z da)) (hb : PE X b (tD Z db)) (hs : PlainIx b := by exact fun _ _ => rfl) : PE X (.Subscript a b pos) (tD Z (dIx da db)) :=
  pe_of (pe_ix ix_seq ha hb hs) fun σ H Q w => two (f := fun x y h k => match y with | .int i => seqAt x h fun l => G.atI l i fun w => k w h | _ => false) (fun ρ h H x y v u k Q e R rx ry q => by
    cases y with
    | int i =>
      obtain ⟨p, l, xs, ev, ho, rl, e⟩ := R.seq rx e
      obtain ⟨w, z, e2, e3, rw'⟩ := atI_ok rl e
      have q' := q.now R rw' e2
      rcases ho with ho | ho
      · exact .inl ⟨p, xs, i, z, ev, ry, SqL.of ho, e3, q'⟩
      · exact .inr (.inl ⟨p, xs, i, z, ev, ry, SqT.of ho, e3, q'⟩)
    | _ => cases e) w
end
/-! ### dicts -/
theorem eqIs_eq : ∀ {a b : List Int}, eqIs a b = true → a = b
  | [], [], _ => rfl
  | [], _ :: _, e => by cases e
  | _ :: _, [], e => by cases e
  | x :: xs, y :: ys, e => by
    have e' : (match decide (x = y) with | true => eqIs xs ys | false => false) = true := e
    by_cases z : x = y
    · rw [decide_eq_true z] at e'
      rw [z, eqIs_eq e']
    · rw [decide_eq_false z] at e'; cases e'
theorem eqIs_self : ∀ a : List Int, eqIs a a = true
  | [] => rfl
  | x :: xs => by
    show (match decide (x = x) with | true => eqIs xs xs | false => false) = true
    rw [decide_eq_true rfl]
    exact eqIs_self xs
theorem eqIs_no {a b : List Int} (e : eqIs a b = false) : a ≠ b := fun z => by rw [z, eqIs_self] at e; cases e
theorem key_inj1 : ∀ {a b : List Int}, (a.map Sum.inl : List Key) = b.map Sum.inl → a = b
  | [], [], _ => rfl
  | [], _ :: _, e => by cases e
  | _ :: _, [], e => by cases e
  | x :: xs, y :: ys, e => by
    rw [List.map_cons, List.map_cons] at e
    injection e with e1 e2
    injection e1 with e1
    rw [e1, key_inj1 e2]
theorem key_inj {a b : List Int} : (a.map Sum.inl : List Key) = b.map Sum.inl ↔ a = b := ⟨key_inj1, fun e => by rw [e]⟩
section
variable {Z : Par} {ρ : Nat → Addr} {h : Hh} {N : Nat} {H : Hp}
theorem keyT_ok : ∀ {w : W} {xs : List V} {k : List Int → Bool}, keyK w k = true → RT ρ N H w xs → ∃ q, k q = true ∧ xs = (q.map Sum.inl).map kV
  | .tn, _, _, e, r => by cases r; exact ⟨[], e, rfl⟩
  | .tc a b, _, k, e, ⟨x, r, ex, h1, h2⟩ => by
    subst ex
    cases a with
    | int i =>
      obtain ⟨q, e1, e2⟩ := keyT_ok (w := b) (k := fun l => k (i :: l)) e h2
      cases h1
      exact ⟨i :: q, e1, by rw [e2]; rfl⟩
    | _ => cases e
theorem keyK_ok {w : W} {v : V} {k : List Int → Bool} (e : keyK w k = true) (r : RW ρ N H w v) : ∃ q b, k q = true ∧ v = .ref b ∧ H b = some (.tup ((q.map Sum.inl).map kV)) := by
  cases w with
  | tn =>
    obtain ⟨a, ev, ha⟩ := r
    exact ⟨[], a, e, ev, ha⟩
  | tc a b =>
    obtain ⟨p, x, r', ev, hp, h1, h2⟩ := r
    obtain ⟨q, e1, e2⟩ := keyT_ok (w := .tc a b) (k := k) e ⟨x, r', rfl, h1, h2⟩
    exact ⟨q, p, e1, ev, by rw [hp, e2]⟩
  | _ => cases e
theorem lookK_ok {q : List Int} : ∀ {l : List (List Int × W)} {kvs : List (List Key × V)} {n : Unit → Bool} {k : W → Bool}, lookK q l n k = true → RD ρ N H l kvs →
    (n () = true ∧ valV kvs (q.map Sum.inl : List Key) = none) ∨ ∃ w v, k w = true ∧ valV kvs (q.map Sum.inl : List Key) = some v ∧ RW ρ N H w v
  | [], _, n, k, e, r => by cases r; exact .inl ⟨e, rfl⟩
  | (a, b) :: l, _, n, k, e, ⟨x, r, ex, h1, h2⟩ => by
    subst ex
    have e : (match eqIs a q with | true => k b | false => lookK q l n k) = true := e
    cases z : eqIs a q with
    | true =>
      rw [z] at e
      have z' := eqIs_eq z
      refine .inr ⟨b, x, e, ?_, h1⟩
      unfold valV
      rw [List.find?_cons_of_pos (by simp [z'])]
      rfl
    | false =>
      rw [z] at e
      have z' : ¬ (a.map Sum.inl : List Key) = q.map Sum.inl := fun y => eqIs_no z (key_inj.mp y)
      have step : valV ((a.map Sum.inl, x) :: r) (q.map Sum.inl : List Key) = valV r (q.map Sum.inl : List Key) := by
        unfold valV
        rw [List.find?_cons_of_neg (by simpa using z')]
      rw [step]
      exact lookK_ok e h2
theorem RD_keys : ∀ {l : List (List Int × W)} {kvs : List (List Key × V)}, RD ρ N H l kvs → kvs.map (·.1) = l.map fun p => (p.1.map Sum.inl : List Key)
  | [], _, r => by cases r; rfl
  | (a, b) :: l, _, ⟨x, r, ex, h1, h2⟩ => by
    subst ex
    rw [List.map_cons, List.map_cons, RD_keys h2]
theorem RD_length {l : List (List Int × W)} {kvs : List (List Key × V)} (r : RD ρ N H l kvs) : kvs.length = l.length := by
  have := congrArg List.length (RD_keys r)
  simpa using this
theorem RD_any {l : List (List Int × W)} {kvs : List (List Key × V)} {q : List Int} (r : RD ρ N H l kvs) : (kvs.any fun kv => decide (kv.1 = (q.map Sum.inl : List Key))) = true ↔ q ∈ l.map (·.1) := by
  have e := RD_keys r
  rw [List.any_eq_true]
  constructor
  · rintro ⟨p, hp, hd⟩
    have : p.1 ∈ kvs.map (·.1) := List.mem_map.mpr ⟨p, hp, rfl⟩
    rw [e] at this
    obtain ⟨p', hp', e'⟩ := List.mem_map.mp this
    have z : (p'.1.map Sum.inl : List Key) = q.map Sum.inl := e'.trans (of_decide_eq_true hd)
    exact List.mem_map.mpr ⟨p', hp', key_inj.mp z⟩
  · intro hq
    obtain ⟨p', hp', e'⟩ := List.mem_map.mp hq
    have : (q.map Sum.inl : List Key) ∈ kvs.map (·.1) := by
      rw [e]
      exact List.mem_map.mpr ⟨p', hp', by rw [e']⟩
    obtain ⟨p, hp, e2⟩ := List.mem_map.mp this
    exact ⟨p, hp, decide_eq_true e2⟩
/-- the pairs with one value changed, the key being there once -/
theorem RD_map {y : W} {v : V} (hy : RW ρ N H y v) {q : List Int} : ∀ {l : List (List Int × W)} {kvs : List (List Key × V)}, q ∉ l.map (·.1) → RD ρ N H l kvs → kvs.map (fun kv => if kv.1 = (q.map Sum.inl : List Key) then (kv.1, v) else kv) = kvs
  | [], _, _, r => by cases r; rfl
  | (a, b) :: l, _, hn, ⟨x, r, ex, h1, h2⟩ => by
    subst ex
    have na : ¬ (a.map Sum.inl : List Key) = q.map Sum.inl := fun z => hn (by rw [key_inj.mp z]; exact List.mem_cons_self)
    rw [List.map_cons, RD_map hy (fun z => hn (List.mem_cons_of_mem _ z)) h2]
    rw [if_neg na]
theorem putK_ok {q : List Int} {y : W} {v : V} (hy : RW ρ N H y v) : ∀ {l : List (List Int × W)} {kvs : List (List Key × V)} {k : List (List Int × W) → Bool}, (l.map (·.1)).Nodup → G.putK q y l k = true → RD ρ N H l kvs →
    ∃ l', k l' = true ∧ RD ρ N H l' (L2.putK kvs (q.map Sum.inl : List Key) v) ∧ (l'.map (·.1)).Nodup ∧ (∀ a, a ∈ l'.map (·.1) → a = q ∨ a ∈ l.map (·.1)) ∧ l'.length ≤ l.length + 1
  | [], _, k, _, e, r => by
    cases r
    exact ⟨_, e, ⟨v, [], rfl, hy, rfl⟩, List.nodup_cons.mpr ⟨List.not_mem_nil, List.nodup_nil⟩, fun a ha => .inl (by simpa using ha), Nat.le_refl _⟩
  | (a, b) :: l, _, k, nd, e, ⟨x, r, ex, h1, h2⟩ => by
    subst ex
    obtain ⟨na, nd'⟩ := List.nodup_cons.mp nd
    unfold G.putK at e
    cases z : eqIs a q with
    | true =>
      rw [z] at e
      have z' := eqIs_eq z
      refine ⟨_, e, ?_, nd, fun a' ha => .inr ha, Nat.le_succ _⟩
      subst z'
      have : L2.putK ((a.map Sum.inl, x) :: r) (a.map Sum.inl : List Key) v = (a.map Sum.inl, v) :: r := by
        unfold L2.putK
        rw [if_pos (by simp), List.map_cons, if_pos rfl, RD_map hy na h2]
      rw [this]
      exact ⟨v, r, rfl, hy, h2⟩
    | false =>
      rw [z] at e
      have z0 := eqIs_no z
      have z' : ¬ (a.map Sum.inl : List Key) = q.map Sum.inl := fun y => z0 (key_inj.mp y)
      obtain ⟨l', e1, r1, nd1, m1, len1⟩ := putK_ok hy nd' e h2
      refine ⟨_, e1, ?_, List.nodup_cons.mpr ⟨fun hm => ?_, nd1⟩, fun a' ha => ?_, Nat.succ_le_succ len1⟩
      · have : L2.putK ((a.map Sum.inl, x) :: r) (q.map Sum.inl : List Key) v = (a.map Sum.inl, x) :: L2.putK r (q.map Sum.inl : List Key) v := by
          unfold L2.putK
          rw [List.any_cons, decide_eq_false z', Bool.false_or, List.map_cons, if_neg z']
          split <;> rfl
        rw [this]
        exact ⟨x, _, rfl, h1, r1⟩
      · rcases m1 a hm with y | y
        · exact z0 y
        · exact na y
      · rcases List.mem_cons.mp ha with y | y
        · exact .inr (by rw [y]; exact List.mem_cons_self)
        · exact (m1 a' y).imp id fun y => List.mem_cons_of_mem _ y
theorem shortD_le : ∀ {l : List (List Int × W)} {n : Nat}, shortD l n = true → l.length ≤ n
  | [], _, _ => Nat.zero_le _
  | _ :: _, 0, h => by cases h
  | _ :: xs, n + 1, h => Nat.succ_le_succ (shortD_le (l := xs) (n := n) h)
end
end G
/-! K8: dicts, fields, built-ins, list methods. -/
namespace G
open PySem L2
section
variable {X : Cx} {Z : Par} {pos p : Pos} {a b c e : Expr} {da db dc : D} {x : Str}
/-! ### dicts -/
theorem dGet_of {H : Hp} {a b : Addr} {kvs : List (List Key × V)} {q : List Key} (h : Rd H a (.dT kvs)) (hb : H b = some (.tup (q.map kV))) : DGet H a (.ref b) (valV kvs q) := .inr ⟨kvs, q, b, h, rfl, hb, rfl⟩
theorem eIxD (hu : X.A.units + 1 < cLine) (ha : PE X a (tD Z da)) (hb : PE X b (tD Z db)) (hs : NoSl b) : PE X (.Subscript a b pos) (tD Z (dIxD da db)) :=
  pe_of (pe_dget hu ha hb hs) fun σ H Q w => two (r := fun x y H2 Q => ∃ a v, x = .ref a ∧ DGet H2 a y (some v) ∧ Q v H2) (f := fun x y h k => dctAt x h fun _ _ l => keyK y fun q => lookK q l (fun _ => false) fun w => k w h) (fun ρ h H x y v u k Q e R rx ry q => by
    obtain ⟨i, lk, l, kvs, hi, ex, ev, ho, _, rd, _, e⟩ := R.dct rx e
    obtain ⟨ks, b, e2, eb, hb⟩ := keyK_ok e ry
    rcases lookK_ok e2 rd with ⟨z, _⟩ | ⟨w, z, e3, e4, rw'⟩
    · cases z
    · subst eb
      exact ⟨_, z, ev, by rw [← e4]; exact dGet_of ho hb, q.now R rw' e3⟩) w
theorem inD_ok {σ : L2.St} {H : Hp} {Q : VK} (w : tD Z (dInD da db) σ H Q) : tDIn (tD Z da) (tD Z db) σ H Q :=
  two (r := fun y x H2 Q => ∃ a o, x = .ref a ∧ DGet H2 a y o ∧ Q (.bl o.isSome) H2) (f := fun x y h k => dctAt y h fun _ _ l => keyK x fun q => lookK q l (fun _ => k (.bl false) h) fun _ => k (.bl true) h) (fun ρ h H x y v u k Q e R rx ry q => by
    obtain ⟨i, lk, l, kvs, hi, ex, ev, ho, _, rd, _, e⟩ := R.dct ry e
    obtain ⟨ks, b, e2, eb, hb⟩ := keyK_ok e rx
    subst eb
    refine ⟨_, _, ev, dGet_of ho hb, ?_⟩
    rcases lookK_ok e2 rd with ⟨z, e4⟩ | ⟨w, z, e3, e4, rw'⟩
    · rw [e4]; exact q.now (w := .bl false) R rfl z
    · rw [e4]; exact q.now (w := .bl true) R rfl e3) w
theorem ninD_ok {σ : L2.St} {H : Hp} {Q : VK} (w : tD Z (dNinD da db) σ H Q) : tDNotIn (tD Z da) (tD Z db) σ H Q :=
  two (r := fun y x H2 Q => ∃ a o, x = .ref a ∧ DGet H2 a y o ∧ Q (.bl (!o.isSome)) H2) (f := fun x y h k => dctAt y h fun _ _ l => keyK x fun q => lookK q l (fun _ => k (.bl true) h) fun _ => k (.bl false) h) (fun ρ h H x y v u k Q e R rx ry q => by
    obtain ⟨i, lk, l, kvs, hi, ex, ev, ho, _, rd, _, e⟩ := R.dct ry e
    obtain ⟨ks, b, e2, eb, hb⟩ := keyK_ok e rx
    subst eb
    refine ⟨_, _, ev, dGet_of ho hb, ?_⟩
    rcases lookK_ok e2 rd with ⟨z, e4⟩ | ⟨w, z, e3, e4, rw'⟩
    · rw [e4]; exact q.now (w := .bl true) R rfl z
    · rw [e4]; exact q.now (w := .bl false) R rfl e3) w
theorem eInD (hu : X.A.units + 1 < cLine) (ha : PE X a (tD Z da)) (hb : PE X b (tD Z db)) (hm : behindInMarks .In b = false := by rfl) : PE X (.Compare a [.In] [b] pos) (tD Z (dInD da db)) := pe_of (pe_cmp (pc_din hu ha hb) hm) fun _ _ _ w => inD_ok w
theorem xInD (hu : X.A.units + 1 < cLine) (ha : PE X a (tD Z da)) (hb : PE X b (tD Z db)) (hm : behindInMarks .In b = false := by rfl) : PT X (.Compare a [.In] [b] pos) (tT Z (dInD da db)) := pt_of (pt_cmp (pc_din hu ha hb) hm) fun _ _ _ w => inD_ok w
theorem eNinD (hu : X.A.units + 1 < cLine) (ha : PE X a (tD Z da)) (hb : PE X b (tD Z db)) (hm : behindInMarks .NotIn b = false := by rfl) : PE X (.Compare a [.NotIn] [b] pos) (tD Z (dNinD da db)) := pe_of (pe_cmp (pc_dnotin hu ha hb) hm) fun _ _ _ w => ninD_ok w
theorem xNinD (hu : X.A.units + 1 < cLine) (ha : PE X a (tD Z da)) (hb : PE X b (tD Z db)) (hm : behindInMarks .NotIn b = false := by rfl) : PT X (.Compare a [.NotIn] [b] pos) (tT Z (dNinD da db)) := pt_of (pt_cmp (pc_dnotin hu ha hb) hm) fun _ _ _ w => ninD_ok w
/-! ### fields -/
/-- what is known of the seven classes -/
structure ClsF (K : PySem.W.Frag) (Z : Par) : Prop where
  cl : ∀ c, c < 7 → Cls K (Z.ca c)
  na : ∀ c f, c < 7 → f < 8 → NoAttr K (Z.ca c) (Z.fname f)
  h1 : ∀ c, c < 7 → PySem.W.findIn K (.ref (Z.ca c)) "__class__" = some (some (.builtin "object.__class__"))
  h2 : PySem.W.specialIn K (.builtin "object.__class__") "__get__" = some (some (.builtin "getset_descriptor.__get__"))
  h3 : PySem.W.takesIn K (.builtin "object.__class__") = some true
  h4 : ∀ c, c < 7 → PySem.W.mroIn K (Z.ca c) (.type "object") = some true
  kit : ∀ c q, c < 7 → q < 7 → PySem.W.kitOne K (.ref (Z.ca c)) (.ref (Z.ca q)) = some (Nat.beq c q)
theorem fldK_ok {ρ : Nat → Addr} {N : Nat} {H : Hp} {fn : Nat → Str} (hf : ∀ i j, fn i = fn j → i = j) {f : Nat} : ∀ {fs : List (Nat × W)} {xs : List (Str × V)} {k : W → Bool}, fldK f fs k = true → RF ρ N H fn fs xs → ∃ w v, k w = true ∧ xs.lookup (fn f) = some v ∧ RW ρ N H w v
  | [], _, _, e, _ => by cases e
  | (i, w) :: r, _, k, e, ⟨x, r', ex, h1, h2⟩ => by
    subst ex
    unfold fldK at e
    cases z : Nat.beq i f with
    | true =>
      rw [z] at e
      have z' : i = f := Nat.eq_of_beq_eq_true z
      subst z'
      exact ⟨w, x, e, by rw [List.lookup_cons, beq_self_eq_true], h1⟩
    | false =>
      rw [z] at e
      have z' : ¬ fn f = fn i := fun y => Nat.ne_of_beq_eq_false z (hf f i y).symm
      obtain ⟨w', v, e1, e2, r2⟩ := fldK_ok hf e h2
      exact ⟨w', v, e1, by rw [List.lookup_cons, beq_false_of_ne z']; exact e2, r2⟩
theorem fputK_ok {ρ : Nat → Addr} {N : Nat} {H : Hp} {fn : Nat → Str} (hf : ∀ i j, fn i = fn j → i = j) {f : Nat} {y : W} {v : V} (hy : RW ρ N H y v) : ∀ {fs : List (Nat × W)} {xs : List (Str × V)} {k : List (Nat × W) → Bool}, fputK f y fs k = true → RF ρ N H fn fs xs →
    ∃ fs', k fs' = true ∧ RF ρ N H fn fs' (putF (fn f) v xs)
  | [], _, k, e, r => by cases r; exact ⟨_, e, v, [], rfl, hy, rfl⟩
  | (i, w) :: r, _, k, e, ⟨x, r', ex, h1, h2⟩ => by
    subst ex
    unfold fputK at e
    cases z : Nat.beq i f with
    | true =>
      rw [z] at e
      have z' : i = f := Nat.eq_of_beq_eq_true z
      subst z'
      refine ⟨_, e, ?_⟩
      have : putF (fn i) v ((fn i, x) :: r') = (fn i, v) :: r' := by
        show (if fn i = fn i then (fn i, v) :: r' else (fn i, x) :: putF (fn i) v r') = _
        rw [if_pos rfl]
      rw [this]
      exact ⟨v, r', rfl, hy, h2⟩
    | false =>
      rw [z] at e
      have z' : ¬ fn i = fn f := fun y => Nat.ne_of_beq_eq_false z (hf i f y)
      obtain ⟨fs', e1, r1⟩ := fputK_ok hf hy e h2
      refine ⟨_, e1, ?_⟩
      have : putF (fn f) v ((fn i, x) :: r') = (fn i, x) :: putF (fn f) v r' := by
        show (if fn i = fn f then (fn i, v) :: r' else (fn i, x) :: putF (fn f) v r') = _
        rw [if_neg z']
      rw [this]
      exact ⟨x, _, rfl, h1, r1⟩
theorem RF_length {ρ : Nat → Addr} {N : Nat} {H : Hp} {fn : Nat → Str} : ∀ {fs : List (Nat × W)} {xs : List (Str × V)}, RF ρ N H fn fs xs → xs.length = fs.length
  | [], _, r => by cases r; rfl
  | _ :: _, _, ⟨x, r', ex, h1, h2⟩ => by subst ex; simp [RF_length h2]
theorem shortF_le : ∀ {l : List (Nat × W)} {n : Nat}, shortF l n = true → l.length ≤ n
  | [], _, _ => Nat.zero_le _
  | _ :: _, 0, h => by cases h
  | _ :: xs, n + 1, h => Nat.succ_le_succ (shortF_le (l := xs) (n := n) h)
variable (hZ : Z.K = X.K) (C : ClsF X.K Z)
theorem ltb {m n : Nat} {α : Type} {a b : α} {P : α → Prop} (e : P (match Nat.blt m n with | true => a | false => b)) (hb : ¬ P b) : m < n ∧ P a := by
  cases z : Nat.blt m n with
  | true => rw [z] at e; exact ⟨Nat.le_of_ble_eq_true z, e⟩
  | false => rw [z] at e; exact absurd e hb
include C in
theorem eFld {f : Nat} {fx : Str} (hx : Z.fname f = fx) (hf : f < 8) (ha : PE X a (tD Z da)) (hb : attributeBase a fx X.env (eval a X.env) = eval a X.env := by rfl) : PE X (.Attribute a fx pos) (tD Z (dFld da f)) := by
  subst hx
  exact pe_of (pe_fld ha hb) fun σ H Q w => one (f := fun x h k => insAt x h fun _ c fs => match Nat.blt c 7 with | true => fldK f fs fun w => k w h | false => false) (r := fun x H1 Q => ∃ a C dx fs v, x = .ref a ∧ H1 a = some (.ins C dx fs) ∧ Cls X.K C ∧ NoAttr X.K C (Z.fname f) ∧ fs.lookup (Z.fname f) = some v ∧ Q v H1) (fun ρ h H x v k Q e R rx q => by
    obtain ⟨i, c, fs, dx, xs, hi, ex, ev, ho, rf, e⟩ := R.ins rx e
    obtain ⟨hc, e⟩ := ltb (P := fun b : Bool => b = true) e Bool.false_ne_true
    obtain ⟨w, z, e1, e2, rw'⟩ := fldK_ok Z.fnj e rf
    exact ⟨_, _, dx, xs, z, ev, ho, C.cl c hc, C.na c f hc hf, e2, q.now R rw' e1⟩) w
/-! ### built-ins by their names -/
/-- one argument -/
theorem bone {r : List V → Hp → VK → Prop} {f : W → Hh → KW → Bool} (hr : ∀ ρ h H x v k Q, f x h k = true → Rel Z ρ h H → RW ρ h.n H x v → Cont Z ρ h H k Q → r [v] H Q) {σ : L2.St} {H : Hp} {Q : VK}
    (w : tD Z (fun s h k => da s h fun x h => f x h k) σ H Q) : tCB r (tCons (tD Z da) tNil) σ H Q := one (f := f) (r := fun v H Q => r [v] H Q) hr w
/-- two -/
theorem btwo {r : List V → Hp → VK → Prop} {f : W → W → Hh → KW → Bool} (hr : ∀ ρ h H x y v u k Q, f x y h k = true → Rel Z ρ h H → RW ρ h.n H x v → RW ρ h.n H y u → Cont Z ρ h H k Q → r [v, u] H Q) {σ : L2.St} {H : Hp} {Q : VK}
    (w : tD Z (fun s h k => da s h fun x h => db s h fun y h => f x y h k) σ H Q) : tCB r (tCons (tD Z da) (tCons (tD Z db) tNil)) σ H Q := two (f := f) (r := fun x y H2 Q => r [x, y] H2 Q) hr w
theorem eLen (hg : Gl X "len") (hm : X.mg "len" = none) (ha : PE X a (tD Z da)) (he : starEach [a] X.env = (false, eval a X.env) :: starEach [] X.env := by rfl) (hpl : (backTo pos (starEach [] X.env)).any (·.1) = false := by rfl) :
    PE X (.Call (.Name "len" p) [a] [] pos) (tD Z (dLen da)) :=
  pe_of (pe_callB call_len_seq hg hm PySem.boot_len (pa_cons ha pa_nil he) (he := he) (hpl := hpl)) fun σ H Q w => bone (f := fun x h k => seqAt x h fun l => onI l.length h k) (fun ρ h H x v k Q e R rx q => by
    obtain ⟨a, l, xs, ev, ho, rl, e⟩ := R.seq rx e
    refine ⟨a, xs, by rw [ev], ho.imp SqL.of SqT.of, ?_⟩
    rw [RL_length rl]
    exact q.now (w := .int l.length) R rfl (onI_eq e)) w
theorem eList (hg : Gl X "list") (hm : X.mg "list" = none) (hv : bootBuiltins "list" = some (.type "list") := by decide +kernel) (ha : PE X a (tD Z da)) (he : starEach [a] X.env = (false, eval a X.env) :: starEach [] X.env := by rfl) (hpl : (backTo pos (starEach [] X.env)).any (·.1) = false := by rfl) :
    PE X (.Call (.Name "list" p) [a] [] pos) (tD Z (dList da)) :=
  pe_of (pe_callTy call_list_of hg hm hv (pa_cons ha pa_nil he) (he := he) (hpl := hpl)) fun σ H Q w => bone (f := fun x h k => lstAt x h fun _ l => newL l h k) (fun ρ h H x v k Q e R rx q => by
    obtain ⟨i, l, xs, hi, ex, ev, ho, rl, hl, e⟩ := R.lst rx e
    exact ⟨_, xs, by rw [ev], .inl (SqL.of ho), (newL_ok R rl e q).2⟩) w
theorem eTuple (hg : Gl X "tuple") (hm : X.mg "tuple" = none) (hv : bootBuiltins "tuple" = some (.type "tuple") := by decide +kernel) (ha : PE X a (tD Z da)) (he : starEach [a] X.env = (false, eval a X.env) :: starEach [] X.env := by rfl) (hpl : (backTo pos (starEach [] X.env)).any (·.1) = false := by rfl) :
    PE X (.Call (.Name "tuple" p) [a] [] pos) (tD Z (dTuple da)) :=
  pe_of (pe_callTy call_tuple_of hg hm hv (pa_cons ha pa_nil he) (he := he) (hpl := hpl)) fun σ H Q w => bone (f := fun x h k => lstAt x h fun _ l => forceL l fun l' => k (toTup l') h) (fun ρ h H x v k Q e R rx q => by
    obtain ⟨i, l, xs, hi, ex, ev, ho, rl, hl, e⟩ := R.lst rx e
    rw [forceL_eq] at e
    exact ⟨_, xs, by rw [ev], .inl ⟨SqL.of ho, newT_ok R rl e q⟩⟩) w
theorem keysL_ok {ρ : Nat → Addr} {N : Nat} {H : Hp} : ∀ {l : List (List Int × W)} {kvs : List (List Key × V)} {k : List W → Bool}, keysL l k = true → RD ρ N H l kvs → ∀ bs, IsKeys H kvs bs → ∃ q, k q = true ∧ RL ρ N H q (bs.map V.ref)
  | [], _, k, e, r, bs, hb => by cases r; cases hb; exact ⟨[], e, rfl⟩
  | (a, b) :: l, _, k, e, ⟨x, r, ex, h1, h2⟩, bs, hb => by
    subst ex
    cases hb with
    | cons hb1 hb2 =>
      obtain ⟨q, e1, r1⟩ := keysL_ok (k := fun l => k (ofKey a :: l)) e h2 _ hb2
      refine ⟨_, e1, _, _, rfl, ?_, r1⟩
      have : ∀ a : List Int, RT ρ N H (ofKey a) ((a.map Sum.inl).map kV) := fun a => by
        induction a with
        | nil => exact rfl
        | cons i r ih => exact ⟨.int i, _, rfl, rfl, ih⟩
      cases a with
      | nil => exact ⟨_, rfl, hb1⟩
      | cons i r =>
        obtain ⟨x, r', e2, h3, h4⟩ := this (i :: r)
        exact ⟨_, x, r', rfl, by rw [← e2]; exact hb1, h3, h4⟩
theorem eListD (hc : X.calm = true) (hg : Gl X "list") (hm : X.mg "list" = none) (hv : bootBuiltins "list" = some (.type "list") := by decide +kernel) (ha : PE X a (tD Z da)) (he : starEach [a] X.env = (false, eval a X.env) :: starEach [] X.env := by rfl) (hpl : (backTo pos (starEach [] X.env)).any (·.1) = false := by rfl) :
    PE X (.Call (.Name "list" p) [a] [] pos) (tD Z (dListD da)) :=
  pe_of (pe_callTy (call_list_dT hc) hg hm hv (pa_cons ha pa_nil he) (he := he) (hpl := hpl)) fun σ H Q w => bone (f := fun x h k => dctAt x h fun _ _ l => keysL l fun q => newL q h k) (fun ρ h H x v k Q e R rx q => by
    obtain ⟨i, lk, l, kvs, hi, ex, ev, ho, _, rd, _, e⟩ := R.dct rx e
    refine ⟨_, kvs, by rw [ev], ho, fun p bs hp hb => ?_⟩
    obtain ⟨l', e2, r2⟩ := keysL_ok e rd bs hb
    exact (newL_ok R r2 e2 q).2 p hp) w
theorem anyK_ok {ρ : Nat → Addr} {N : Nat} {H : Hp} : ∀ {l : List W} {xs : List V} {k : Bool → Bool}, anyK l k = true → RL ρ N H l xs → ∃ bs : List Bool, xs = bs.map V.bl ∧ k (bs.any id) = true
  | [], _, k, e, r => by cases r; exact ⟨[], rfl, e⟩
  | w :: l, _, k, e, ⟨x, r, ex, h1, h2⟩ => by
    subst ex
    obtain ⟨b, z, e1⟩ := bK_eq e
    subst z
    obtain ⟨bs, e2, e3⟩ := anyK_ok e1 h2
    refine ⟨b :: bs, by rw [show x = .bl b from h1, e2]; rfl, ?_⟩
    cases b with
    | true => simpa using e3
    | false => simpa using e3
theorem allK_ok {ρ : Nat → Addr} {N : Nat} {H : Hp} : ∀ {l : List W} {xs : List V} {k : Bool → Bool}, allK l k = true → RL ρ N H l xs → ∃ bs : List Bool, xs = bs.map V.bl ∧ k (bs.all id) = true
  | [], _, k, e, r => by cases r; exact ⟨[], rfl, e⟩
  | w :: l, _, k, e, ⟨x, r, ex, h1, h2⟩ => by
    subst ex
    obtain ⟨b, z, e1⟩ := bK_eq e
    subst z
    obtain ⟨bs, e2, e3⟩ := allK_ok e1 h2
    refine ⟨b :: bs, by rw [show x = .bl b from h1, e2]; rfl, ?_⟩
    cases b with
    | true => simpa using e3
    | false => simpa using e3
theorem sumK_ok {ρ : Nat → Addr} {N : Nat} {H : Hp} : ∀ {l : List W} {xs : List V} {k : Int → Bool}, sumK l k = true → RL ρ N H l xs → ∃ ns : List Int, xs = ns.map V.int ∧ k ns.sum = true
  | [], _, k, e, r => by cases r; exact ⟨[], rfl, e⟩
  | w :: l, _, k, e, ⟨x, r, ex, h1, h2⟩ => by
    subst ex
    cases w with
    | int i =>
      obtain ⟨ns, e2, e3⟩ := sumK_ok (l := l) (k := fun j => k (i + j)) e h2
      exact ⟨i :: ns, by rw [show x = .int i from h1, e2]; rfl, by rw [List.sum_cons]; exact e3⟩
    | _ => cases e
theorem eAny (hc : X.calm = true) (hg : Gl X "any") (hm : X.mg "any" = none) (hv : bootBuiltins "any" = some (.builtin "any") := by decide +kernel) (ha : PE X a (tD Z da)) (he : starEach [a] X.env = (false, eval a X.env) :: starEach [] X.env := by rfl) (hpl : (backTo pos (starEach [] X.env)).any (·.1) = false := by rfl) :
    PE X (.Call (.Name "any" p) [a] [] pos) (tD Z (dAny da)) :=
  pe_of (pe_callB (cr_any hc) hg hm hv (pa_cons ha pa_nil he) (he := he) (hpl := hpl)) fun σ H Q w => bone (f := fun x h k => lstAt x h fun _ l => anyK l fun e => onB e h k) (fun ρ h H x v k Q e R rx q => by
    obtain ⟨i, l, xs, hi, ex, ev, ho, rl, hl, e⟩ := R.lst rx e
    obtain ⟨bs, e1, e2⟩ := anyK_ok e rl
    exact ⟨_, bs, by rw [ev], by rw [← e1]; exact SqL.of ho, q.now (w := .bl _) R rfl (onB_eq e2)⟩) w
theorem eAll (hc : X.calm = true) (hg : Gl X "all") (hm : X.mg "all" = none) (hv : bootBuiltins "all" = some (.builtin "all") := by decide +kernel) (ha : PE X a (tD Z da)) (he : starEach [a] X.env = (false, eval a X.env) :: starEach [] X.env := by rfl) (hpl : (backTo pos (starEach [] X.env)).any (·.1) = false := by rfl) :
    PE X (.Call (.Name "all" p) [a] [] pos) (tD Z (dAll da)) :=
  pe_of (pe_callB (cr_all hc) hg hm hv (pa_cons ha pa_nil he) (he := he) (hpl := hpl)) fun σ H Q w => bone (f := fun x h k => lstAt x h fun _ l => allK l fun e => onB e h k) (fun ρ h H x v k Q e R rx q => by
    obtain ⟨i, l, xs, hi, ex, ev, ho, rl, hl, e⟩ := R.lst rx e
    obtain ⟨bs, e1, e2⟩ := allK_ok e rl
    exact ⟨_, bs, by rw [ev], by rw [← e1]; exact SqL.of ho, q.now (w := .bl _) R rfl (onB_eq e2)⟩) w
theorem eSum (hc : X.calm = true) (hg : Gl X "sum") (hm : X.mg "sum" = none) (hv : bootBuiltins "sum" = some (.builtin "sum") := by decide +kernel) (ha : PE X a (tD Z da)) (he : starEach [a] X.env = (false, eval a X.env) :: starEach [] X.env := by rfl) (hpl : (backTo pos (starEach [] X.env)).any (·.1) = false := by rfl) :
    PE X (.Call (.Name "sum" p) [a] [] pos) (tD Z (dSum da)) :=
  pe_of (pe_callB (cr_sum hc) hg hm hv (pa_cons ha pa_nil he) (he := he) (hpl := hpl)) fun σ H Q w => bone (f := fun x h k => lstAt x h fun _ l => sumK l fun i => onI i h k) (fun ρ h H x v k Q e R rx q => by
    obtain ⟨i, l, xs, hi, ex, ev, ho, rl, hl, e⟩ := R.lst rx e
    obtain ⟨ns, e1, e2⟩ := sumK_ok e rl
    exact ⟨_, ns, by rw [ev], by rw [← e1]; exact SqL.of ho, q.now (w := .int _) R rfl (onI_eq e2)⟩) w
theorem eMx2 (hc : X.calm = true) (hg : Gl X "max") (hm : X.mg "max" = none) (hv : bootBuiltins "max" = some (.builtin "max") := by decide +kernel) (ha : PE X a (tD Z da)) (hb : PE X b (tD Z db)) (he : starEach [a, b] X.env = (false, eval a X.env) :: starEach [b] X.env := by rfl)
    (he2 : starEach [b] X.env = (false, eval b X.env) :: starEach [] X.env := by rfl) (hpl : (backTo pos (starEach [b] X.env)).any (·.1) = false := by rfl) :
    PE X (.Call (.Name "max" p) [a, b] [] pos) (tD Z (dMx2 da db)) :=
  pe_of (pe_callB (call_max2 hc) hg hm hv (pa_cons ha (pa_cons hb pa_nil he2) he) (he := he) (hpl := hpl)) fun σ H Q w => btwo (f := fun x y h k => i2 x y fun i j => match decide (j > i) with | true => k (.int j) h | false => k (.int i) h) (fun ρ h H x y v u k Q e R rx ry q => by
    obtain ⟨i, j, e1, e2, e3⟩ := i2_eq e
    subst e1 e2
    refine ⟨i, j, by rw [show v = .int i from rx, show u = .int j from ry], ?_⟩
    by_cases z : j > i
    · rw [decide_eq_true z] at e3
      rw [if_pos z]
      exact q.now (w := .int j) R rfl e3
    · rw [decide_eq_false z] at e3
      rw [if_neg z]
      exact q.now (w := .int i) R rfl e3) w
/-! ### list methods -/
theorem eApp {name : Str} {apos : Pos} (hn : name = "append") (ha : PE X a (tD Z da)) (hb : PE X b (tD Z db)) (hbase : attributeBase a name X.env (eval a X.env) = eval a X.env := by rfl)
    (hfew : ((backTo pos (starEach [b] X.env)).all (fun x => !x.1) && (backToKw pos (keywordEach [] X.env)).all (fun x => x.1.isSome)
      && decide ([b].length + ([] : List Keyword).length + (if ([] : List Keyword).isEmpty then 0 else 1) < 30)) = true := by rfl)
    (hline : (apos.endLine == pos.line) = true := by rfl) (he : starEach [b] X.env = (false, eval b X.env) :: starEach [] X.env := by rfl) (hpl : (backTo pos (starEach [] X.env)).any (·.1) = false := by rfl) :
    PE X (.Call (.Attribute a name apos) [b] [] pos) (tD Z (dApp da db)) := by
  subst hn
  refine pe_of (pe_bm PySem.F.plainAttrs_list PySem.F.slot_list_append PySem.F.type_list_append mt_append ha (pa_cons hb pa_nil he) hbase hfew hline he hpl) fun σ H Q w => ?_
  obtain ⟨ρ, s, h, k, e, R, S, q⟩ := w
  refine ⟨ρ, s, h, _, e, R, S, fun ρ1 h1 H1 x v e1 x1 R1 r1 => ?_⟩
  obtain ⟨i0, l0, xs0, hi0, ex0, ev0, ho0, rl0, hl0, e2⟩ := R1.lst r1 e1
  refine ⟨by rw [ev0]; exact .inl ⟨rfl, _, SqL.of ho0⟩, ρ1, s, h1, _, e2, R1, x1.rs S, fun ρ2 h2 H2 y u e3 x2 R2 r2 => ?_⟩
  obtain ⟨i, l, xs, hi, ex, ev, ho, rl, hl, e4⟩ := R2.lst (x2.rw r1) e3
  cases es : short l 100 with
  | false => rw [es] at e4; cases e4
  | true =>
    rw [es] at e4
    simp only [forceL_eq] at e4
    have hs := short_le es
    refine ⟨_, xs, u, ev, rfl, ho, by rw [RL_length rl]; exact len100' (by omega), ?_⟩
    obtain ⟨h', e5, e6, R', X'⟩ := R2.put (o := .lst (xs ++ [u])) (c := .lst (l ++ [y])) ho (fun z => z) (fun X => ⟨_, upd_same, RL_append (X.rl rl) ⟨u, [], rfl, X.rw r2, rfl⟩, by rw [List.length_append]; show l.length + 1 ≤ 101; omega⟩) e4
    exact q ρ2 h' _ .non .non e5 ((x1.trans x2).trans X') R' rfl
theorem ePop {name : Str} {apos : Pos} (hn : name = "pop") (ha : PE X a (tD Z da)) (hbase : attributeBase a name X.env (eval a X.env) = eval a X.env := by rfl) (hline : (apos.endLine == pos.line) = true := by rfl) :
    PE X (.Call (.Attribute a name apos) [] [] pos) (tD Z (dPop da)) := by
  subst hn
  refine pe_of (pe_bm0 PySem.F.plainAttrs_list PySem.F.slot_list_pop PySem.F.type_list_pop mt_pop ha hbase hline) fun σ H Q w => ?_
  obtain ⟨ρ, s, h, k, e, R, S, q⟩ := w
  refine ⟨ρ, s, h, _, e, R, S, fun ρ1 h1 H1 x v e1 x1 R1 r1 => ?_⟩
  obtain ⟨i, l, xs, hi, ex, ev, ho, rl, hl, e2⟩ := R1.lst r1 e1
  obtain ⟨w, e3, e4⟩ := nth_some e2
  rw [forceL_eq] at e4
  obtain ⟨u, e5, r5⟩ := RL_get rl e3
  refine ⟨by rw [ev]; exact .inl ⟨rfl, _, SqL.of ho⟩, _, xs, u, ev, rfl, ho, by rw [RL_length rl]; exact e5, ?_⟩
  have rd : RL ρ1 h1.n H1 l.dropLast xs.dropLast := by
    rw [List.dropLast_eq_take, List.dropLast_eq_take, RL_length rl]
    exact RL_take _ rl
  obtain ⟨h', e6, e7, R', X'⟩ := R1.put (o := .lst xs.dropLast) (c := .lst l.dropLast) ho (fun z => z) (fun X => ⟨_, upd_same, X.rl rd, by rw [List.length_dropLast]; omega⟩) e4
  exact q ρ1 h' _ w u e6 (x1.trans X') R' (X'.rw r5)
theorem eExt {name : Str} {apos : Pos} (hn : name = "extend") (ha : PE X a (tD Z da)) (hb : PE X b (tD Z db)) (hbase : attributeBase a name X.env (eval a X.env) = eval a X.env := by rfl)
    (hfew : ((backTo pos (starEach [b] X.env)).all (fun x => !x.1) && (backToKw pos (keywordEach [] X.env)).all (fun x => x.1.isSome)
      && decide ([b].length + ([] : List Keyword).length + (if ([] : List Keyword).isEmpty then 0 else 1) < 30)) = true := by rfl)
    (hline : (apos.endLine == pos.line) = true := by rfl) (he : starEach [b] X.env = (false, eval b X.env) :: starEach [] X.env := by rfl) (hpl : (backTo pos (starEach [] X.env)).any (·.1) = false := by rfl) :
    PE X (.Call (.Attribute a name apos) [b] [] pos) (tD Z (dExt da db)) := by
  subst hn
  refine pe_of (pe_bm PySem.F.plainAttrs_list PySem.F.slot_list_extend PySem.F.type_list_extend mt_extend ha (pa_cons hb pa_nil he) hbase hfew hline he hpl) fun σ H Q w => ?_
  obtain ⟨ρ, s, h, k, e, R, S, q⟩ := w
  refine ⟨ρ, s, h, _, e, R, S, fun ρ1 h1 H1 x v e1 x1 R1 r1 => ?_⟩
  obtain ⟨i0, l0, xs0, hi0, ex0, ev0, ho0, rl0, hl0, e2⟩ := R1.lst r1 e1
  refine ⟨by rw [ev0]; exact .inl ⟨rfl, _, SqL.of ho0⟩, ρ1, s, h1, _, e2, R1, x1.rs S, fun ρ2 h2 H2 y u e3 x2 R2 r2 => ?_⟩
  obtain ⟨i, l, xs, hi, ex, ev, ho, rl, hl, e4⟩ := R2.lst (x2.rw r1) e3
  obtain ⟨j, m, ys, hj, ey, eu, ho', rl', hl', e4⟩ := R2.lst r2 e4
  cases en : Nat.beq i j with
  | true => rw [en] at e4; cases e4
  | false =>
    rw [en] at e4
    simp only at e4
    cases es : short (l ++ m) 100 with
    | false => rw [es] at e4; cases e4
    | true =>
      rw [es] at e4
      simp only [forceL_eq] at e4
      have hs := short_le es
      refine ⟨_, _, xs, ys, ev, by rw [eu], ho, ho', by rw [RL_length rl, RL_length rl', ← List.length_append]; exact len100 (by omega), ?_⟩
      obtain ⟨h', e5, e6, R', X'⟩ := R2.put (o := .lst (xs ++ ys)) (c := .lst (l ++ m)) ho (fun z => z) (fun X => ⟨_, upd_same, RL_append (X.rl rl) (X.rl rl'), by omega⟩) e4
      exact q ρ2 h' _ .non .non e5 ((x1.trans x2).trans X') R' rfl
theorem repL_ok {ρ : Nat → Addr} {N : Nat} {H : Hp} {l : List W} {xs : List V} (r : RL ρ N H l xs) : ∀ n : Nat, RL ρ N H (repL n l) (List.flatten (List.replicate n xs))
  | 0 => rfl
  | n + 1 => by
    rw [List.replicate_succ, List.flatten_cons]
    exact RL_append r (repL_ok r n)
theorem repL_length (l : List W) : ∀ n : Nat, (repL n l).length = n * l.length
  | 0 => by simp [repL]
  | n + 1 => by
    show (l ++ repL n l).length = _
    rw [List.length_append, repL_length l n, Nat.succ_mul]
    omega
theorem eMul (ha : PE X a (tD Z da)) (hb : PE X b (tD Z db)) : PE X (.BinOp a .Mult b pos) (tD Z (dMul da db)) :=
  pe_of (pe_op op_rep ha hb) fun σ H Q w => two (f := fun x y h k => lstAt x h fun _ l => match y with | .int (.ofNat n) => (match Nat.blt n 1000 with | true => newL (repL n l) h k | false => false) | _ => false) (fun ρ h H x y v u k Q e R rx ry q => by
    obtain ⟨i, l, xs, hi, ex, ev, ho, rl, hl, e⟩ := R.lst rx e
    cases y with
    | int j =>
      cases j with
      | ofNat n =>
        obtain ⟨hn, e⟩ := ltb (P := fun b : Bool => b = true) e Bool.false_ne_true
        obtain ⟨hz, nn⟩ := newL_ok R (repL_ok rl n) e q
        rw [repL_length] at hz
        refine ⟨_, Int.ofNat n, xs, ev, ry, ho, ?_, ?_, ?_, nn⟩
        · have : (0 : Int) ≤ Int.ofNat n := Int.natCast_nonneg n
          omega
        · show ((n : Nat) : Int) < 2 ^ 63
          omega
        · show xs.length * n ≤ sizeLine
          rw [RL_length rl, Nat.mul_comm]
          exact len100 (by omega)
      | _ => cases e
    | _ => cases e) w
/-! ### isinstance -/
/-- x's class -/
def TyW (K : PySem.W.Frag) (H : Hp) (v : V) (t : String) : Prop := TyX K H v (.type t)
def tyN : W → String
  | .non => "NoneType"
  | .bl _ => "bool"
  | .int _ => "int"
  | .sp => "str"
  | .so => "str"
  | _ => "tuple"
def flatW : W → Bool
  | .non => true
  | .bl _ => true
  | .int _ => true
  | .sp => true
  | .so => true
  | .tn => true
  | .tc _ _ => true
  | _ => false
theorem tyW_flat {ρ : Nat → Addr} {N : Nat} {H : Hp} {w : W} {v : V} {K : PySem.W.Frag} (r : RW ρ N H w v) (hf : flatW w = true) : TyX K H v (.type (tyN w)) := by
  cases w with
  | non => have r : v = .non := r; subst r; exact .base .non
  | bl b => have r : v = .bl b := r; subst r; exact .base (.bl b)
  | int b => have r : v = .int b := r; subst r; exact .base (.int b)
  | sp => have r : v = .str _ := r; subst r; exact .base (.str _)
  | so => have r : v = .str _ := r; subst r; exact .base (.str _)
  | tn => obtain ⟨a, e, h⟩ := r; subst e; exact .base (.tup h)
  | tc a b => obtain ⟨p, x, r', e, h, _⟩ := r; subst e; exact .base (.tup h)
  | _ => cases hf
/-- the call: a value's test by a built-in class -/
theorem isi_of {T : String} {f : W → Hh → KW → Bool} {pT : Pos} {cx : Str} (hgc : Gl X cx) (hmc : X.mg cx = none) (hvc : bootBuiltins cx = some (.type T)) (hnc : cx ≠ "__name__") (hdc : (cx == ("__debug__" : Str)) = false)
    (hg : Gl X "isinstance") (hm : X.mg "isinstance" = none) (hv : bootBuiltins "isinstance" = some (.builtin "isinstance")) (ha : PE X a (tD Z da)) (he : starEach [a, .Name cx pT] X.env = (false, eval a X.env) :: starEach [.Name cx pT] X.env)
    (he2 : starEach [.Name cx pT] X.env = (false, eval (.Name cx pT) X.env) :: starEach [] X.env) (hpl : (backTo pos (starEach [.Name cx pT] X.env)).any (·.1) = false)
    (hf : ∀ ρ h H w v k, f w h k = true → Rel Z ρ h H → RW ρ h.n H w v → ∃ t b, TyX X.K H v t ∧ PySem.W.kitOne X.K t (.type T) = some b ∧ k (.bl b) h = true) :
    PE X (.Call (.Name "isinstance" p) [a, .Name cx pT] [] pos) (tD Z (fun s h k => da s h fun x h => f x h k)) :=
  pe_of (pe_callB call_isi hg hm hv (pa_cons ha (pa_cons (pe_bltn (v := .ty T) hgc hmc hvc rfl hnc hdc) pa_nil he2) he) (he := he) (hpl := hpl)) fun σ H Q w =>
    one (f := f) (r := fun v H Q => rIsi X.K [v, .ty T] H Q) (fun ρ h H x v k Q e R rx q => by
      obtain ⟨t, b, h1, h2, h3⟩ := hf ρ h H x v k e R rx
      exact ⟨v, .ty T, t, .type T, b, rfl, .ty T, h1, h2, q.now (w := .bl b) R rfl h3⟩) w
/-- a reference that is a list -/
theorem tyW_ref {ρ : Nat → Addr} {h : Hh} {H : Hp} {n : Nat} {v : V} {K : PySem.W.Frag} (R : Rel Z ρ h H) (r : RW ρ h.n H (.ref n) v) {k : Bool} (e : (geth h n fun c => (match c with | .lst _ => k | _ => false)) = true) : TyX K H v (.type "list") ∧ k = true := by
  obtain ⟨hi, c, hc, hk⟩ := R.get e
  cases c with
  | lst l =>
    obtain ⟨xs, h1, _⟩ := hc
    exact ⟨by rw [r.2]; exact .base (.lst h1), hk⟩
  | _ => cases hk
section
variable {pT : Pos} (hg : Gl X "isinstance") (hm : X.mg "isinstance" = none) (ha : PE X a (tD Z da))
include hg hm ha
theorem eIsInt (hgc : Gl X "int") (hmc : X.mg "int" = none) (he : starEach [a, .Name "int" pT] X.env = (false, eval a X.env) :: starEach [.Name "int" pT] X.env := by rfl) (hpl : (backTo pos (starEach [.Name "int" pT] X.env)).any (·.1) = false := by rfl) :
    PE X (.Call (.Name "isinstance" p) [a, .Name "int" pT] [] pos) (tD Z (dIsInt da)) :=
  isi_of (T := "int") (f := isIntW) hgc hmc (by decide +kernel) (by decide) (by decide) hg hm (by decide +kernel) ha he rfl hpl fun ρ h H w v k e R r => by
    have t := fun hf => tyW_flat (K := X.K) r hf
    cases w with
    | non => exact ⟨_, _, t rfl, kit_ty (a := "NoneType") (b := "int") (r := false) (by decide +kernel), e⟩
    | bl b => exact ⟨_, _, t rfl, kit_ty (a := "bool") (b := "int") (r := true) (by decide +kernel), e⟩
    | int b => exact ⟨_, _, t rfl, kit_ty (a := "int") (b := "int") (r := true) (by decide +kernel), e⟩
    | sp => exact ⟨_, _, t rfl, kit_ty (a := "str") (b := "int") (r := false) (by decide +kernel), e⟩
    | so => exact ⟨_, _, t rfl, kit_ty (a := "str") (b := "int") (r := false) (by decide +kernel), e⟩
    | tn => exact ⟨_, _, t rfl, kit_ty (a := "tuple") (b := "int") (r := false) (by decide +kernel), e⟩
    | tc _ _ => exact ⟨_, _, t rfl, kit_ty (a := "tuple") (b := "int") (r := false) (by decide +kernel), e⟩
    | _ => cases e
theorem eIsBool (hgc : Gl X "bool") (hmc : X.mg "bool" = none) (he : starEach [a, .Name "bool" pT] X.env = (false, eval a X.env) :: starEach [.Name "bool" pT] X.env := by rfl) (hpl : (backTo pos (starEach [.Name "bool" pT] X.env)).any (·.1) = false := by rfl) :
    PE X (.Call (.Name "isinstance" p) [a, .Name "bool" pT] [] pos) (tD Z (dIsBool da)) :=
  isi_of (T := "bool") (f := isBoolW) hgc hmc (by decide +kernel) (by decide) (by decide) hg hm (by decide +kernel) ha he rfl hpl fun ρ h H w v k e R r => by
    have t := fun hf => tyW_flat (K := X.K) r hf
    cases w with
    | bl b => exact ⟨_, _, t rfl, kit_ty (a := "bool") (b := "bool") (r := true) (by decide +kernel), e⟩
    | int b => exact ⟨_, _, t rfl, kit_ty (a := "int") (b := "bool") (r := false) (by decide +kernel), e⟩
    | _ => cases e
theorem eIsStr (hgc : Gl X "str") (hmc : X.mg "str" = none) (he : starEach [a, .Name "str" pT] X.env = (false, eval a X.env) :: starEach [.Name "str" pT] X.env := by rfl) (hpl : (backTo pos (starEach [.Name "str" pT] X.env)).any (·.1) = false := by rfl) :
    PE X (.Call (.Name "isinstance" p) [a, .Name "str" pT] [] pos) (tD Z (dIsStr da)) :=
  isi_of (T := "str") (f := isStrW) hgc hmc (by decide +kernel) (by decide) (by decide) hg hm (by decide +kernel) ha he rfl hpl fun ρ h H w v k e R r => by
    have t := fun hf => tyW_flat (K := X.K) r hf
    cases w with
    | sp => exact ⟨_, _, t rfl, kit_ty (a := "str") (b := "str") (r := true) (by decide +kernel), e⟩
    | so => exact ⟨_, _, t rfl, kit_ty (a := "str") (b := "str") (r := true) (by decide +kernel), e⟩
    | _ => cases e
theorem eIsTup (hgc : Gl X "tuple") (hmc : X.mg "tuple" = none) (he : starEach [a, .Name "tuple" pT] X.env = (false, eval a X.env) :: starEach [.Name "tuple" pT] X.env := by rfl) (hpl : (backTo pos (starEach [.Name "tuple" pT] X.env)).any (·.1) = false := by rfl) :
    PE X (.Call (.Name "isinstance" p) [a, .Name "tuple" pT] [] pos) (tD Z (dIsTup da)) :=
  isi_of (T := "tuple") (f := isTupW) hgc hmc (by decide +kernel) (by decide) (by decide) hg hm (by decide +kernel) ha he rfl hpl fun ρ h H w v k e R r => by
    have t := fun hf => tyW_flat (K := X.K) r hf
    cases w with
    | non => exact ⟨_, _, t rfl, kit_ty (a := "NoneType") (b := "tuple") (r := false) (by decide +kernel), e⟩
    | bl b => exact ⟨_, _, t rfl, kit_ty (a := "bool") (b := "tuple") (r := false) (by decide +kernel), e⟩
    | int b => exact ⟨_, _, t rfl, kit_ty (a := "int") (b := "tuple") (r := false) (by decide +kernel), e⟩
    | sp => exact ⟨_, _, t rfl, kit_ty (a := "str") (b := "tuple") (r := false) (by decide +kernel), e⟩
    | so => exact ⟨_, _, t rfl, kit_ty (a := "str") (b := "tuple") (r := false) (by decide +kernel), e⟩
    | tn => exact ⟨_, _, t rfl, kit_ty (a := "tuple") (b := "tuple") (r := true) (by decide +kernel), e⟩
    | tc _ _ => exact ⟨_, _, t rfl, kit_ty (a := "tuple") (b := "tuple") (r := true) (by decide +kernel), e⟩
    | ref n =>
      obtain ⟨t, e⟩ := tyW_ref (K := X.K) R r e
      exact ⟨_, _, t, kit_ty (a := "list") (b := "tuple") (r := false) (by decide +kernel), e⟩
    | _ => cases e
theorem eIsList (hgc : Gl X "list") (hmc : X.mg "list" = none) (he : starEach [a, .Name "list" pT] X.env = (false, eval a X.env) :: starEach [.Name "list" pT] X.env := by rfl) (hpl : (backTo pos (starEach [.Name "list" pT] X.env)).any (·.1) = false := by rfl) :
    PE X (.Call (.Name "isinstance" p) [a, .Name "list" pT] [] pos) (tD Z (dIsList da)) :=
  isi_of (T := "list") (f := isListW) hgc hmc (by decide +kernel) (by decide) (by decide) hg hm (by decide +kernel) ha he rfl hpl fun ρ h H w v k e R r => by
    have t := fun hf => tyW_flat (K := X.K) r hf
    cases w with
    | non => exact ⟨_, _, t rfl, kit_ty (a := "NoneType") (b := "list") (r := false) (by decide +kernel), e⟩
    | bl b => exact ⟨_, _, t rfl, kit_ty (a := "bool") (b := "list") (r := false) (by decide +kernel), e⟩
    | int b => exact ⟨_, _, t rfl, kit_ty (a := "int") (b := "list") (r := false) (by decide +kernel), e⟩
    | sp => exact ⟨_, _, t rfl, kit_ty (a := "str") (b := "list") (r := false) (by decide +kernel), e⟩
    | so => exact ⟨_, _, t rfl, kit_ty (a := "str") (b := "list") (r := false) (by decide +kernel), e⟩
    | tn => exact ⟨_, _, t rfl, kit_ty (a := "tuple") (b := "list") (r := false) (by decide +kernel), e⟩
    | tc _ _ => exact ⟨_, _, t rfl, kit_ty (a := "tuple") (b := "list") (r := false) (by decide +kernel), e⟩
    | ref n =>
      obtain ⟨t, e⟩ := tyW_ref (K := X.K) R r e
      exact ⟨_, _, t, kit_ty (a := "list") (b := "list") (r := true) (by decide +kernel), e⟩
    | _ => cases e
end
end
end G
/-! K9: targets, what is walked, comprehensions, statements. -/
namespace G
open PySem L2
section
variable {X : Cx} {Z : Par} {pos p : Pos} {a b c e : Expr} {da db dc : D} {x : Str}
/-! ### targets -/
theorem gVar_ok {i : Nat} (hN : X.N.Nodup) (hi : X.N[i]? = some x) (hx : Loc X.env.scope x) (hf : X.fn x = true ∨ X.env.scope.names.lookup x = some .local) : PG X (.Name x pos) (tG Z (gVar i) [i]) :=
  pg_of (pg_name hN hi hx hf) fun v σ H Q ⟨ρ, w, s, h, k, e, R, r, S, q⟩ => by
    obtain ⟨hl, e1⟩ := setn_some (show setn s i w (fun s' => k s' h) = true from e)
    exact q ρ h H _ _ e1 Ext.refl R (RS_set S r) (List.length_set ..) fun j hj => List.getElem?_set_ne (fun z => hj (by rw [z]; exact List.mem_singleton.mpr rfl))
theorem gNil_ok : PGs X [] (tGs Z gNil []) :=
  pgs_of pgs_nil fun vs σ H Q ⟨ρ, l, s, h, k, e, R, r, S, q⟩ => by
    cases l with
    | nil => cases r; exact ⟨rfl, q ρ h H s σ e Ext.refl R S rfl fun _ _ => rfl⟩
    | cons w l => cases e
theorem gCons_ok {g : DG} {gs : DGs} {is js : List Nat} {es : List Expr} (h1 : PG X a (tG Z g is)) (h2 : PGs X es (tGs Z gs js)) (hs : (assignEach (a :: es) X.env).map (·.2) = assign a X.env :: (assignEach es X.env).map (·.2) := by rfl) : PGs X (a :: es) (tGs Z (G.gCons g gs) (is ++ js)) :=
  pgs_of (pgs_cons h1 h2 hs) fun vs σ H Q ⟨ρ, l, s, h, k, e, R, r, S, q⟩ => by
    cases l with
    | nil => cases e
    | cons w l =>
      obtain ⟨v, vr, ev, r1, r2⟩ := r
      refine ⟨v, vr, ev, ρ, w, s, h, _, e, R, r1, S, fun ρ1 h1 H1 s1 σ1 e1 x1 R1 S1 len1 keep1 => ⟨ρ1, l, s1, h1, k, e1, R1, x1.rl r2, S1, fun ρ2 h2 H2 s2 σ2 e2 x2 R2 S2 len2 keep2 => ?_⟩⟩
      exact q ρ2 h2 H2 s2 σ2 e2 (x1.trans x2) R2 S2 (len2.trans len1) fun i hi => (keep2 i fun z => hi (List.mem_append_right _ z)).trans (keep1 i fun z => hi (List.mem_append_left _ z))
theorem gTup_ok {gs : DGs} {is : List Nat} {es : List Expr} {k : Nat} {n : Nat} (hc : X.calm = true) (h : PGs X es (tGs Z gs is)) (hn : (assignEach es X.env).length = n) (hst : (assignEach es X.env).findIdx? (·.1) = none := by rfl)
    (hl : ∀ l s hh kk, gs l s hh kk = true → l.length = n) : PG X (.Tuple es k pos) (tG Z (G.gTup gs) is) :=
  pg_of (pg_tup hc h hn hst) fun v σ H Q ⟨ρ, w, s, h, k, e, R, r, S, q⟩ => by
    obtain ⟨l, ew, e1⟩ := tupK_some (show tupK w (fun l => gs l s h k) = true from e)
    subst ew
    obtain ⟨p, xs, ev, hp, rl⟩ := RW_toTup.mp r
    exact ⟨p, xs, ev, SqT.of hp, by rw [RL_length rl]; exact hl _ _ _ _ e1, ρ, l, s, h, k, e1, R, rl, S, q⟩
theorem gs0 : ∀ l s hh kk, gNil l s hh kk = true → l.length = 0 := fun l _ _ _ e => by
  cases l with
  | nil => rfl
  | cons => cases e
theorem gs1 {i : Nat} {gs : DGs} {n : Nat} (h : ∀ l s hh kk, gs l s hh kk = true → l.length = n) : ∀ l s hh kk, G.gCons (gVar i) gs l s hh kk = true → l.length = n + 1 := fun l s hh kk e => by
  cases l with
  | nil => cases e
  | cons w l =>
    obtain ⟨_, e1⟩ := setn_some (show setn s i w (fun s' => gs l s' hh kk) = true from e)
    show l.length + 1 = n + 1
    rw [h _ _ _ _ e1]
/-! ### what is walked -/
/-- the reading of a walked thing -/
def tI (Z : Par) (it : DI) : TI := fun σ H R => ∃ ρ s h k, it s h k = true ∧ Rel Z ρ h H ∧ RS ρ h.n H s σ ∧ ∀ ρ' h' H' J Jh, k J h' = true → Ext ρ h.n H ρ' h'.n H' → Rel Z ρ' h' H' → IR Z ρ' h'.n H' J Jh → R Jh H'
/-- an iterator over a list, a tuple at hand -/
theorem it_list {tg : Expr} {pins : List (Addr × Obj)} {s1 : Shared} {σ : L2.St} {H1 : Hp} {R : It → Hp → Prop} {l : Addr} {xs : List V} (J : Inv X pins σ H1 s1) (hq : SqL X.K H1 l xs) (q : R (Itl X.K l) H1) : wpAny (model X.prog X.w) X.A (pyIter (.ref l)) (PIE X pins σ tg R) X.xe s1 := by
  obtain ⟨its, rv, pl, hz⟩ := J.list hq
  refine wpAny_pyIter_list pl.isList ⟨_, [s1.heap.objs.size], _, _, H1, rfl, J.kept (t' := s1.toks) fun b u e => Heap.get?_push_of_some _ e, turn_list l _, ⟨_, Heap.get?_push_size _ rfl, rfl, rfl⟩, fun b hb => ?_, q⟩
  have z : b = s1.heap.objs.size := by simpa using hb
  rw [z]
  exact J.fpOk (Nat.le_refl _) (J.hok.fresh (Nat.le_refl _))
theorem it_tup {tg : Expr} {pins : List (Addr × Obj)} {s1 : Shared} {σ : L2.St} {H1 : Hp} {R : It → Hp → Prop} {l : Addr} {xs : List V} (J : Inv X pins σ H1 s1) (hq : SqT X.K H1 l xs) (q : R (Itt X.K l) H1) : wpAny (model X.prog X.w) X.A (pyIter (.ref l)) (PIE X pins σ tg R) X.xe s1 := by
  obtain ⟨its, rv, ht, hz⟩ := J.tuple hq
  refine wpAny_pyIter_tuple (show s1.heap.IsTuple l its.toArray from ht) ⟨_, [s1.heap.objs.size], _, _, H1, rfl, J.kept (t' := s1.toks) fun b u e => Heap.get?_push_of_some _ e, turn_tuple l _, ⟨_, Heap.get?_push_size _ rfl, rfl, rfl⟩, fun b hb => ?_, q⟩
  have z : b = s1.heap.objs.size := by simpa using hb
  rw [z]
  exact J.fpOk (Nat.le_refl _) (J.hok.fresh (Nat.le_refl _))
theorem pi_seq {tg : Expr} {tl : TE} (h : PE X a tl) : PI X tg a (fun σ H R => tl σ H fun x H1 => ∃ l, x = .ref l ∧ ((∃ xs, SqL X.K H1 l xs) ∧ R (Itl X.K l) H1 ∨ (∃ xs, SqT X.K H1 l xs) ∧ R (Itt X.K l) H1)) := by
  refine ⟨fun pins s σ H R I hw => thn (h.run pins s σ H _ I hw) fun v s1 ⟨x, H1, I1, r1, l, ex, q⟩ => ?_⟩
  subst ex
  cases r1
  rcases q with ⟨⟨xs, hq⟩, q⟩ | ⟨⟨xs, hq⟩, q⟩
  · exact it_list I1 hq q
  · exact it_tup I1 hq q
/-- one operand -/
theorem ione {f : W → Hh → (IT → Hh → Bool) → Bool} {r : V → Hp → (It → Hp → Prop) → Prop} (hr : ∀ ρ h H x v k Q, f x h k = true → Rel Z ρ h H → RW ρ h.n H x v → (∀ ρ' h' H' J Jh, k J h' = true → Ext ρ h.n H ρ' h'.n H' → Rel Z ρ' h' H' → IR Z ρ' h'.n H' J Jh → Q Jh H') → r v H Q) {σ : L2.St} {H : Hp} {Q : It → Hp → Prop}
    (w : tI Z (fun s h k => da s h fun x h => f x h k) σ H Q) : tD Z da σ H (fun v H1 => r v H1 Q) := by
  obtain ⟨ρ, s, h, k, e, R, S, q⟩ := w
  exact ⟨ρ, s, h, _, e, R, S, fun ρ1 h1 H1 x v e1 x1 R1 r1 => hr ρ1 h1 H1 x v k Q e1 R1 r1 fun ρ' h' H' J Jh e' x' => q ρ' h' H' J Jh e' (x1.trans x')⟩
theorem itwo {f : W → W → Hh → (IT → Hh → Bool) → Bool} {r : V → V → Hp → (It → Hp → Prop) → Prop} (hr : ∀ ρ h H x y v u k Q, f x y h k = true → Rel Z ρ h H → RW ρ h.n H x v → RW ρ h.n H y u → (∀ ρ' h' H' J Jh, k J h' = true → Ext ρ h.n H ρ' h'.n H' → Rel Z ρ' h' H' → IR Z ρ' h'.n H' J Jh → Q Jh H') → r v u H Q) {σ : L2.St} {H : Hp} {Q : It → Hp → Prop}
    (w : tI Z (fun s h k => da s h fun x h => db s h fun y h => f x y h k) σ H Q) : tD Z da σ H (fun v H1 => tD Z db σ H1 fun u H2 => r v u H2 Q) := by
  obtain ⟨ρ, s, h, k, e, R, S, q⟩ := w
  exact ⟨ρ, s, h, _, e, R, S, fun ρ1 h1 H1 x v e1 x1 R1 r1 => ⟨ρ1, s, h1, _, e1, R1, x1.rs S, fun ρ2 h2 H2 y u e2 x2 R2 r2 => hr ρ2 h2 H2 x y v u k Q e2 R2 (x2.rw r1) r2 fun ρ' h' H' J Jh e' x' => q ρ' h' H' J Jh e' ((x1.trans x2).trans x')⟩⟩
variable {tg : Expr} (hZ : Z.K = X.K)
include hZ
theorem iSeq_ok (ha : PE X a (tD Z da)) : PI X tg a (tI Z (iSeq da)) :=
  pi_of (pi_seq ha) fun σ H Rr w => ione (f := fun x h k => match x with
    | .ref n => geth h n fun c => (match c with | .lst _ => k (.il n) h | _ => false)
    | .tn => k (.fix []) h
    | .tc a b => tupK (.tc a b) fun l => k (.fix l) h
    | _ => false) (r := fun x H1 R => ∃ l, x = .ref l ∧ ((∃ xs, SqL X.K H1 l xs) ∧ R (Itl X.K l) H1 ∨ (∃ xs, SqT X.K H1 l xs) ∧ R (Itt X.K l) H1)) (fun ρ h H x v k Q e R rx q => by
    rw [← hZ]
    cases x with
    | ref n =>
      obtain ⟨hi, c, hc, hk⟩ := R.get (show geth h n _ = true from e)
      cases c with
      | lst l =>
        obtain ⟨xs, h1, h2, h3⟩ := hc
        exact ⟨ρ n, rx.2, .inl ⟨⟨xs, SqL.of h1⟩, q ρ h H _ _ hk Ext.refl R (.il hi)⟩⟩
      | _ => cases hk
    | tn =>
      obtain ⟨p, ev, hp⟩ := rx
      exact ⟨p, ev, .inr ⟨⟨[], SqT.of hp⟩, q ρ h H _ _ e Ext.refl R (.fix (xs := []) hp rfl)⟩⟩
    | tc a b =>
      obtain ⟨l, el, e1⟩ := tupK_some (show tupK (.tc a b) (fun l => k (.fix l) h) = true from e)
      rw [el] at rx
      obtain ⟨p, xs, ev, hp, rl⟩ := RW_toTup.mp rx
      exact ⟨p, ev, .inr ⟨⟨xs, SqT.of hp⟩, q ρ h H _ _ e1 Ext.refl R (.fix hp rl)⟩⟩
    | _ => cases e) w
theorem iTup_ok (ha : PE X a (tD Z da)) : PI X tg a (tI Z (G.iTup da)) :=
  pi_of (pi_tup ha) fun σ H Rr w => ione (f := fun x h k => tupK x fun l => k (.fix l) h) (r := fun x H1 R => ∃ a, x = .ref a ∧ (∃ xs, SqT X.K H1 a xs) ∧ R (Itt X.K a) H1) (fun ρ h H x v k Q e R rx q => by
    obtain ⟨l, el, e1⟩ := tupK_some e
    rw [el] at rx
    obtain ⟨p, xs, ev, hp, rl⟩ := RW_toTup.mp rx
    rw [← hZ]
    exact ⟨p, ev, ⟨xs, SqT.of hp⟩, q ρ h H _ _ e1 Ext.refl R (.fix hp rl)⟩) w
omit hZ in
theorem iRange_ok (hg : Gl X "range") (hm : X.mg "range" = none) (ha : PE X a (tD Z da)) (he : starEach [a] X.env = [(false, eval a X.env)] := by rfl) : PI X tg (.Call (.Name "range" p) [a] [] pos) (tI Z (iRange da)) :=
  pi_of (pi_range1 hg hm (pa_cons ha pa_nil he) he) fun σ H Rr w => ione (f := fun x h k => match x with
    | .int (.ofNat n) => (match Nat.blt n 1000 with | true => k (.rng n) h | false => false)
    | _ => false) (r := fun x H1 R => ∃ j : Int, [x] = [V.int j] ∧ -(2 ^ 62) ≤ j ∧ j < 2 ^ 62 ∧ R (Itr 0 j.toNat) H1) (fun ρ h H x v k Q e R rx q => by
    cases x with
    | int i => cases i with
      | ofNat n =>
        obtain ⟨hn, e1⟩ := ltb (P := fun b : Bool => b = true) e Bool.false_ne_true
        refine ⟨Int.ofNat n, by rw [show v = .int (Int.ofNat n) from rx], ?_, ?_, q ρ h H _ _ e1 Ext.refl R .rng⟩
        · have : (0 : Int) ≤ Int.ofNat n := Int.natCast_nonneg n
          omega
        · show ((n : Nat) : Int) < 2 ^ 62
          omega
      | _ => cases e
    | _ => cases e) w
theorem iZip_ok {elts : List Expr} {kk : Nat} {tpos : Pos} (hg : Gl X "zip") (hm : X.mg "zip" = none) (ha : PE X a (tD Z da)) (hb : PE X b (tD Z db)) (he : starEach [a, b] X.env = (false, eval a X.env) :: starEach [b] X.env := by rfl)
    (he2 : starEach [b] X.env = (false, eval b X.env) :: starEach [] X.env := by rfl) (hpl : (backTo pos (starEach [b] X.env)).any (·.1) = false := by rfl) : PI X (.Tuple elts kk tpos) (.Call (.Name "zip" p) [a, b] [] pos) (tI Z (G.iZip da db)) :=
  pi_of (pi_zip hg hm (pa_cons ha (pa_cons hb pa_nil he2) he) he hpl) fun σ H Rr w => itwo (f := fun x y h k => lstAt x h fun n _ => lstAt y h fun m _ => k (.iz n m) h) (r := fun x y H1 R => ∃ a b xs ys, [x, y] = [V.ref a, V.ref b] ∧ SqL X.K H1 a xs ∧ SqL X.K H1 b ys ∧ R (Itz X.K a b) H1) (fun ρ h H x y v u k Q e R rx ry q => by
    obtain ⟨i, l, xs, hi, ex, ev, ho, rl, hl, e⟩ := R.lst rx e
    obtain ⟨j, m, ys, hj, ey, eu, ho', rl', hl', e⟩ := R.lst ry e
    rw [← hZ]
    exact ⟨_, _, xs, ys, by rw [ev, eu], SqL.of ho, SqL.of ho', q ρ h H _ _ e Ext.refl R (.iz hi hj)⟩) w
theorem iEnum_ok {elts : List Expr} {kk : Nat} {tpos : Pos} (hg : Gl X "enumerate") (hm : X.mg "enumerate" = none) (ha : PE X a (tD Z da)) (he : starEach [a] X.env = [(false, eval a X.env)] := by rfl) : PI X (.Tuple elts kk tpos) (.Call (.Name "enumerate" p) [a] [] pos) (tI Z (G.iEnum da)) :=
  pi_of (pi_enum hg hm (pa_cons ha pa_nil he) he) fun σ H Rr w => ione (f := fun x h k => lstAt x h fun n _ => k (.ie n) h) (r := fun x H1 R => ∃ a xs, [x] = [V.ref a] ∧ SqL X.K H1 a xs ∧ R (Ite X.K a) H1) (fun ρ h H x v k Q e R rx q => by
    obtain ⟨i, l, xs, hi, ex, ev, ho, rl, hl, e⟩ := R.lst rx e
    rw [← hZ]
    exact ⟨_, xs, by rw [ev], SqL.of ho, q ρ h H _ _ e Ext.refl R (.ie hi)⟩) w
end
/-! ### a turn -/
section
variable {Z : Par} {ρ : Nat → Addr} {h : Hh} {H : Hp}
theorem nthO_ok : ∀ {l : List W} {i : Nat} {n : Unit → Bool} {k : W → Bool}, nthO l i n k = true → (n () = true ∧ l[i]? = none) ∨ ∃ w, l[i]? = some w ∧ k w = true
  | [], _, n, k, e => .inl ⟨e, by simp⟩
  | x :: _, 0, n, k, e => .inr ⟨x, rfl, e⟩
  | _ :: xs, i + 1, n, k, e => by simpa using nthO_ok (l := xs) (i := i) e
theorem nthKey_ok {N : Nat} : ∀ {l : List (List Int × W)} {kvs : List (List Key × V)} {i : Nat} {n : Unit → Bool} {k : W → Bool}, nthKey l i n k = true → RD ρ N H l kvs → (n () = true ∧ kvs.length ≤ i) ∨ ∃ a v, kvs[i]? = some ((a.map Sum.inl : List Key), v) ∧ k (ofKey a) = true
  | [], _, _, n, k, e, r => by cases r; exact .inl ⟨e, Nat.zero_le _⟩
  | (a, b) :: _, _, 0, n, k, e, ⟨x, r, ex, h1, h2⟩ => by subst ex; exact .inr ⟨a, x, rfl, e⟩
  | (a, b) :: xs, _, i + 1, n, k, e, ⟨x, r, ex, h1, h2⟩ => by
    subst ex
    rcases nthKey_ok (l := xs) (i := i) e h2 with ⟨z1, z2⟩ | ⟨a', v, z1, z2⟩
    · exact .inl ⟨z1, Nat.succ_le_succ z2⟩
    · exact .inr ⟨a', v, by simpa using z1, z2⟩
theorem ofKey_RT {N : Nat} (a : List Int) : RT ρ N H (ofKey a) ((a.map Sum.inl).map kV) := by
  induction a with
  | nil => exact rfl
  | cons i r ih => exact ⟨.int i, _, rfl, rfl, ih⟩
theorem ofKey_RW {N : Nat} {a : List Int} {p : Addr} (hp : H p = some (.tup ((a.map Sum.inl : List Key).map kV))) : RW ρ N H (ofKey a) (.ref p) := by
  cases a with
  | nil => exact ⟨_, rfl, hp⟩
  | cons i r =>
    obtain ⟨x, r', e2, h3, h4⟩ := ofKey_RT (ρ := ρ) (N := N) (H := H) (i :: r)
    exact ⟨_, x, r', rfl, by rw [← e2]; exact hp, h3, h4⟩
theorem SqL_inj {K : PySem.W.Frag} {a : Addr} {xs ys : List V} (h1 : H a = some (.lst xs)) (h2 : SqL K H a ys) (hk : K.lookup a = none) : ys = xs := by
  rcases h2 with (h2 | ⟨o, h2⟩) | ⟨o, its, n, h2, _⟩
  · rw [h1] at h2; cases h2; rfl
  · rw [h1] at h2; cases h2
  · rw [hk] at h2; cases h2
end
end G
/-! K10: turns, comprehensions, statements. -/
namespace G
open PySem L2
section
variable {Z : Par} {ρ : Nat → Addr} {h : Hh} {H : Hp}
/-- one turn of what is walked -/
theorem next_ok {J : IT} {Jh : It} {i : Nat} {n : Unit → Bool} {k : W → Bool} (R : Rel Z ρ h H) (r : IR Z ρ h.n H J Jh) (e : nextI J i h n k = true) :
    (n () = true ∧ Jh.stop i H) ∨ (Jh.go i H ∧ ∀ x H', Jh.yld i H x H' → ∃ w, k w = true ∧ Rel Z ρ h H' ∧ Ext ρ h.n H ρ h.n H' ∧ RW ρ h.n H' w x) := by
  cases r with
  | il hm =>
    rename_i m
    obtain ⟨hi, c, hc, hk⟩ := R.get (show geth h m _ = true from e)
    cases c with
    | lst l =>
      obtain ⟨xs, h1, h2, h3⟩ := hc
      rcases nthO_ok (show nthO l i n k = true from hk) with ⟨z1, z2⟩ | ⟨w, z1, z2⟩
      · exact .inl ⟨z1, xs, SqL.of h1, RL_none h2 z2⟩
      · obtain ⟨v, e2, r2⟩ := RL_get h2 z1
        refine .inr ⟨⟨xs, v, SqL.of h1, e2⟩, fun x H' ⟨eH, hx⟩ => ?_⟩
        subst eH
        have z := hx xs (SqL.of h1)
        rw [e2] at z
        cases z
        exact ⟨w, z2, R, Ext.refl, r2⟩
    | _ => cases hk
  | fix ha rl =>
    rename_i l a xs
    rcases nthO_ok (show nthO l i n k = true from e) with ⟨z1, z2⟩ | ⟨w, z1, z2⟩
    · exact .inl ⟨z1, xs, SqT.of ha, RL_none rl z2⟩
    · obtain ⟨v, e2, r2⟩ := RL_get rl z1
      refine .inr ⟨⟨xs, v, SqT.of ha, e2⟩, fun x H' ⟨eH, hx⟩ => ?_⟩
      subst eH
      have z := hx xs (SqT.of ha)
      rw [e2] at z
      cases z
      exact ⟨w, z2, R, Ext.refl, r2⟩
  | rng =>
    rename_i m
    have e' : (match Nat.blt i m with | true => forceN i fun j => k (.int (.ofNat j)) | false => n ()) = true := e
    cases z : Nat.blt i m with
    | true =>
      rw [z] at e'
      simp only [forceN_eq] at e'
      refine .inr ⟨Nat.le_of_ble_eq_true z, fun x H' ⟨eH, ex⟩ => ?_⟩
      subst eH
      exact ⟨_, e', R, Ext.refl, by rw [ex]; show V.int (0 + (i : Int)) = V.int (Int.ofNat i); rw [Int.zero_add]; rfl⟩
    | false =>
      rw [z] at e'
      refine .inl ⟨e', ?_⟩
      show m ≤ i
      have : ¬ i < m := fun q => by
        rw [show Nat.blt i m = true from Nat.ble_eq_true_of_le q] at z
        cases z
      omega
  | iz ha hb =>
    rename_i a b
    obtain ⟨_, c, hc, hk⟩ := R.get (show geth h a _ = true from e)
    cases c with
    | lst l =>
      obtain ⟨_, d, hd, hk⟩ := R.get (show geth h b _ = true from hk)
      cases d with
      | lst m =>
        obtain ⟨xs, h1, h2, _⟩ := hc
        obtain ⟨ys, h3, h4, _⟩ := hd
        rcases nthO_ok (show nthO l i n _ = true from hk) with ⟨z1, z2⟩ | ⟨w, z1, z2⟩
        · exact .inl ⟨z1, xs, ys, SqL.of h1, SqL.of h3, .inl (RL_none h2 z2)⟩
        · rcases nthO_ok z2 with ⟨z3, z4⟩ | ⟨w', z3, z4⟩
          · exact .inl ⟨z3, xs, ys, SqL.of h1, SqL.of h3, .inr (RL_none h4 z4)⟩
          · obtain ⟨v, e2, r2⟩ := RL_get h2 z1
            obtain ⟨u, e3, r3⟩ := RL_get h4 z3
            refine .inr ⟨⟨xs, ys, v, u, SqL.of h1, SqL.of h3, e2, e3⟩, fun x H' ⟨T, x1, y1, ev, hT, eH, q1, q2⟩ => ?_⟩
            subst eH ev
            have y2 := q1 xs (SqL.of h1)
            have y3 := q2 ys (SqL.of h3)
            rw [e2] at y2; rw [e3] at y3
            cases y2; cases y3
            obtain ⟨R', X'⟩ := R.tup (xs := [v, u]) hT
            exact ⟨_, z4, R', X', T, v, [u], rfl, upd_same, X'.rw r2, u, [], rfl, X'.rw r3, rfl⟩
      | _ => cases hk
    | _ => cases hk
  | ie ha =>
    rename_i a
    obtain ⟨_, c, hc, hk⟩ := R.get (show geth h a _ = true from e)
    cases c with
    | lst l =>
      obtain ⟨xs, h1, h2, _⟩ := hc
      rcases nthO_ok (show nthO l i n _ = true from hk) with ⟨z1, z2⟩ | ⟨w, z1, z2⟩
      · exact .inl ⟨z1, xs, SqL.of h1, RL_none h2 z2⟩
      · obtain ⟨v, e2, r2⟩ := RL_get h2 z1
        refine .inr ⟨⟨xs, v, SqL.of h1, e2⟩, fun x H' ⟨T, x1, ev, hT, eH, q1⟩ => ?_⟩
        subst eH ev
        have y2 := q1 xs (SqL.of h1)
        rw [e2] at y2
        cases y2
        obtain ⟨R', X'⟩ := R.tup (xs := [.int (i : Nat), v]) hT
        rw [forceN_eq] at z2
        exact ⟨_, z2, R', X', T, _, [v], rfl, upd_same, rfl, v, [], rfl, X'.rw r2, rfl⟩
    | _ => cases hk
  | idk hd ho =>
    rename_i d o kvs
    obtain ⟨_, c, hc, hk⟩ := R.get (show geth h d _ = true from e)
    cases c with
    | dct lk l =>
      cases lk with
      | true =>
        obtain ⟨o', kvs', h1, h2, _⟩ := hc
        rw [ho] at h1
        cases h1
        rcases nthKey_ok (show nthKey l i n k = true from hk) h2 with ⟨z1, z2⟩ | ⟨q, v, z1, z2⟩
        · exact .inl ⟨z1, ho, z2⟩
        · refine .inr ⟨⟨ho, (List.getElem?_eq_some_iff.mp z1).1⟩, fun x H' ⟨eH, k', v', p, q1, q2, q3⟩ => ?_⟩
          subst eH q2
          rw [z1] at q1
          cases q1
          exact ⟨_, z2, R, Ext.refl, ofKey_RW q3⟩
      | false => cases hk
    | _ => cases hk
/-- what is walked stays -/
theorem IR.ext {ρ' : Nat → Addr} {n n' : Nat} {H H' : Hp} {J : IT} {Jh : It} (r : IR Z ρ n H J Jh) (x : Ext ρ n H ρ' n' H') : IR Z ρ' n' H' J Jh := by
  cases r with
  | il hm => rw [← x.same _ hm]; exact .il (Nat.lt_of_lt_of_le hm x.le)
  | fix ha rl => exact .fix (x.stay _ _ ha trivial) (x.rl rl)
  | rng => exact .rng
  | iz ha hb => rw [← x.same _ ha, ← x.same _ hb]; exact .iz (Nat.lt_of_lt_of_le ha x.le) (Nat.lt_of_lt_of_le hb x.le)
  | ie ha => rw [← x.same _ ha]; exact .ie (Nat.lt_of_lt_of_le ha x.le)
  | idk hd ho => 
    have e := x.same _ hd
    rw [← e] at ho ⊢
    exact .idk (Nat.lt_of_lt_of_le hd x.le) (x.stay _ _ ho trivial)
end
section
variable {X : Cx} {Z : Par} {pos p : Pos} {a b c e : Expr} {da db dc : D} {x : Str}
/-! ### for -/
/-- the loop's invariant: m turns may come, the i-th is due -/
theorem for_ok {J : IT} {Jh : It} {g : DG} {is : List Nat} {bd : DT} {nx : KS} {rt : KW} {De : Ends} {ρ : Nat → Addr} {s : List W} {h : Hh} {σ : L2.St} {H : Hp} (R : Rel Z ρ h H) (S : RS ρ h.n H s σ) (r : IR Z ρ h.n H J Jh)
    (qn : ContS Z ρ h H nx De.nx) (qr : Cont Z ρ h H rt De.rt) {m i : Nat} (e : forL J g bd nx rt m i s h = true) :
    ∃ W : Nat → Nat → L2.St → Hp → Prop, W i m σ H ∧ ∀ i m σ H, W i m σ H →
      (Jh.stop i H ∧ De.nx σ H) ∨ (Jh.go i H ∧ ∃ N : L2.St → Hp → Prop, (∀ σ' H', N σ' H' → ∃ m', m' < m ∧ W (i + 1) m' σ' H') ∧ ∀ x H', Jh.yld i H x H' → tG Z g is x σ H' fun σ2 H2 => tS Z bd { De with nx := N, ct := N, bk := De.nx } σ2 H2) := by
  refine ⟨fun i m σ H => ∃ ρ1 h1 s1, forL J g bd nx rt m i s1 h1 = true ∧ Rel Z ρ1 h1 H ∧ RS ρ1 h1.n H s1 σ ∧ IR Z ρ1 h1.n H J Jh ∧ ContS Z ρ1 h1 H nx De.nx ∧ Cont Z ρ1 h1 H rt De.rt, ⟨ρ, h, s, e, R, S, r, qn, qr⟩, ?_⟩
  rintro i m σ H ⟨ρ1, h1, s1, e1, R1, S1, r1, qn1, qr1⟩
  cases m with
  | zero => cases e1
  | succ m =>
    have e1 : (forceN i fun i => nextI J i h1 (fun _ => nx s1 h1) fun x => g x s1 h1 fun s h => bd ⟨forL J g bd nx rt m (Nat.succ i), rt⟩ s h) = true := e1
    rw [forceN_eq] at e1
    rcases next_ok R1 r1 e1 with ⟨z1, z2⟩ | ⟨z1, z2⟩
    · exact .inl ⟨z2, qn1 ρ1 h1 H s1 σ z1 Ext.refl R1 S1⟩
    · refine .inr ⟨z1, fun σ' H' => ∃ ρ2 h2 s2, forL J g bd nx rt m (i + 1) s2 h2 = true ∧ Rel Z ρ2 h2 H' ∧ RS ρ2 h2.n H' s2 σ' ∧ IR Z ρ2 h2.n H' J Jh ∧ ContS Z ρ2 h2 H' nx De.nx ∧ Cont Z ρ2 h2 H' rt De.rt, fun σ' H' w => ⟨m, Nat.lt_succ_self _, w⟩, fun x H' y => ?_⟩
      obtain ⟨w, y1, R2, x2, rw2⟩ := z2 x H' y
      refine ⟨ρ1, w, s1, h1, _, y1, R2, rw2, x2.rs S1, fun ρ3 h3 H3 s3 σ3 e3 x3 R3 S3 _ _ => ?_⟩
      have x23 := x2.trans x3
      refine ⟨ρ3, s3, h3, _, e3, R3, S3, fun ρ4 h4 H4 s4 σ4 e4 x4 R4 S4 => ?_, qr1.ext x23⟩
      exact ⟨ρ4, h4, s4, e4, R4, S4, r1.ext (x23.trans x4), qn1.ext (x23.trans x4), qr1.ext (x23.trans x4)⟩
theorem sFor_ok {tg iter : Expr} {body : List Stmt} {it : DI} {g : DG} {is : List Nat} {bd : DT} (hp : PassesOwn (model X.prog X.w) X.A X.env X.xe) (hc : X.calm = true) (hi : PI X tg iter (tI Z it)) (hg : PG X tg (tG Z g is)) (hb : PSs X body (tS Z bd))
    (hs : ∀ x, foldedSetIterable iter X.env x = pure x := by intro _; rfl) : PS X (.For tg iter body [] pos) (tS Z (sFor it g bd)) :=
  ps_of (ps_for hp hc hi hg hb hs) fun De σ H ⟨ρ, s, h, E, e, R, S, qn, qr⟩ => ⟨ρ, s, h, _, e, R, S, fun ρ1 h1 H1 J Jh e1 x1 R1 r1 => by
    obtain ⟨W, w0, wt⟩ := for_ok (De := De) (is := is) R1 (x1.rs S) r1 (qn.ext x1) (qr.ext x1) e1
    exact ⟨W, ⟨_, w0⟩, wt⟩⟩
/-! ### a dict locked -/
theorem lock_ok {ρ : Nat → Addr} {h : Hh} {H : Hp} {w : W} {v : V} {k : Nat → Hh → Bool} (R : Rel Z ρ h H) (r : RW ρ h.n H w v) (e : lockK w h k = true) : ∃ i kvs, i < h.n ∧ v = .ref (ρ i) ∧ H (ρ i) = some (.dT kvs) ∧
    ∀ od, ∃ h', k i h' = true ∧ h'.n = h.n ∧ Rel Z ρ h' (upd H (ρ i) (.frz od (.dT kvs))) ∧ Ext ρ h.n H ρ h'.n (upd H (ρ i) (.frz od (.dT kvs))) := by
  obtain ⟨i, lk, l, kvs, hi, ex, ev, ho, hf, rd, hn, e1⟩ := R.dct r (show dctAt w h _ = true from e)
  cases lk with
  | true => cases e1
  | false =>
    have h0 := hf rfl
    exact ⟨i, kvs, hi, ev, h0, fun od => R.put (o := .frz od (.dT kvs)) (c := .dct true l) h0 (fun z => z) (fun X => ⟨od, kvs, upd_same, RD_mono X.same X.le X.stay rd, hn⟩) e1⟩
/-- .. let go -/
theorem unlock_ok {ρ0 ρ : Nat → Addr} {n0 : Nat} {H0 : Hp} {h : Hh} {H : Hp} {i : Nat} {k : Hh → Bool} {od : PySem.Obj} {kvs : List (List Key × V)} (hi0 : i < n0) (h0 : ∃ kvs, H0 (ρ0 i) = some (.dT kvs)) (X0 : Ext ρ0 n0 H0 ρ h.n H) (R : Rel Z ρ h H) (hf : H (ρ i) = some (.frz od (.dT kvs))) (e : unlockK i h k = true) :
    ∃ h', k h' = true ∧ h'.n = h.n ∧ Rel Z ρ h' (upd H (ρ i) (.dT kvs)) ∧ Ext ρ0 n0 H0 ρ h'.n (upd H (ρ i) (.dT kvs)) ∧ Stay (fun b => if b = ρ i then none else H b) (upd H (ρ i) (.dT kvs)) := by
  obtain ⟨hi, c, hc, hk⟩ := R.get (show geth h i _ = true from e)
  cases c with
  | dct lk l => cases lk with
    | true =>
      obtain ⟨o', kvs', h1, h2, h3⟩ := hc
      rw [hf] at h1
      cases h1
      exact R.unlock hi0 h0 X0 hf h2 h3 hk
    | false => cases hk
  | _ => cases hk
end
end G
/-! K11: walks over dicts, comprehensions, statements. -/
namespace G
open PySem L2
/-! ### values lean on tuples alone -/
section
variable {ρ : Nat → Addr} {N : Nat} {H H' : Hp} (ht : ∀ b xs, H b = some (.tup xs) → H' b = some (.tup xs))
include ht
theorem RP_tup : ∀ w : W, (∀ v, (RP ρ N H w).1 v → (RP ρ N H' w).1 v) ∧ ∀ xs, (RP ρ N H w).2 xs → (RP ρ N H' w).2 xs := by
  intro w
  induction w with
  | tc a b ia ib => exact ⟨fun v ⟨p, x, r, e, h, h1, h2⟩ => ⟨p, x, r, e, ht _ _ h, ia.1 _ h1, ib.2 _ h2⟩, fun xs ⟨x, r, e, h1, h2⟩ => ⟨x, r, e, ia.1 _ h1, ib.2 _ h2⟩⟩
  | tn => exact ⟨fun v ⟨a, e, h⟩ => ⟨a, e, ht _ _ h⟩, fun _ h => h⟩
  | _ => exact ⟨fun _ h => h, fun _ h => h⟩
theorem RW_tup {w : W} {v : V} (h : RW ρ N H w v) : RW ρ N H' w v := (RP_tup ht w).1 v h
theorem RS_tup : ∀ {l : List W} {s : List (Option V)}, RS ρ N H l s → RS ρ N H' l s
  | [], _, h => h
  | _ :: _, _, ⟨x, r, e, h1, h2⟩ => ⟨x, r, e, h1.imp id fun ⟨v, e', h⟩ => ⟨v, e', RW_tup ht h⟩, RS_tup h2⟩
end
section
variable {X : Cx} {Z : Par} {pos p : Pos} {a b c e : Expr} {da db dc : D} {x : Str}
/-! ### for k in d -/
theorem sForD_ok {i : Nat} {tg : Expr} {body : List Stmt} {g : DG} {is : List Nat} {bd : DT} (hp : PassesOwn (model X.prog X.w) X.A X.env X.xe) (hc : X.calm = true) (hN : X.N[i]? = some x) (hv : Vis X.env.scope x) (hg : PG X tg (tG Z g is)) (hb : PSs X body (tS Z bd))
    (hd : (x == ("__debug__" : Str)) = false := by decide) (hcd : (x == ("__classdict__" : Str)) = false := by decide) : PS X (.For tg (.Name x p) body [] pos) (tS Z (sForD (dVar i) g bd)) :=
  ps_of (ps_lock (ps_for hp hc (pi_keys (pe_var hN hv hd hcd)) hg hb (by intro _; rfl))) fun De σ H ⟨ρ, s, h, E, e, R, S, qn, qr⟩ => by
    obtain ⟨w, ew, e⟩ := nth_some (show nth s i _ = true from e)
    by_cases hu : w = .und
    · rw [hu] at e; cases e
    obtain ⟨v, ev, rv⟩ := RS_get S ew hu
    obtain ⟨d, kvs, hd, ev', h0, lk⟩ := lock_ok R rv (k := fun d h => forL (.idk d) g bd (fun s h => unlockK d h fun h => E.nx s h) (fun _ _ => false) 100 0 s h) (by cases w <;> first | exact e | exact absurd rfl hu)
    subst ev'
    refine ⟨ρ d, .dT kvs, h0, trivial, fun od => ?_⟩
    obtain ⟨h', e1, en, R1, X1⟩ := lk od
    refine ⟨.ref (ρ d), ev, ρ d, od, rfl, .inr ⟨kvs, upd_same, ?_⟩⟩
    have hd1 : d < h'.n := Nat.lt_of_lt_of_le hd X1.le
    obtain ⟨W, w0, wt⟩ := for_ok (is := is) (De := ⟨fun σ' H' => H' (ρ d) = some (.frz od (.dT kvs)) ∧ De.nx σ' (upd H' (ρ d) (.dT kvs)), fun v H' => H' (ρ d) = some (.frz od (.dT kvs)) ∧ De.rt v (upd H' (ρ d) (.dT kvs)), fun σ' H' => H' (ρ d) = some (.frz od (.dT kvs)) ∧ De.bk σ' (upd H' (ρ d) (.dT kvs)), fun σ' H' => H' (ρ d) = some (.frz od (.dT kvs)) ∧ De.ct σ' (upd H' (ρ d) (.dT kvs))⟩)
      R1 (X1.rs S) (.idk hd1 upd_same) (fun ρ2 h2 H2 s2 σ2 e2 X2 R2 S2 => by
        have ed : ρ2 d = ρ d := X2.same d hd1
        have hf : H2 (ρ d) = some (.frz od (.dT kvs)) := X2.stay _ _ upd_same trivial
        obtain ⟨h3, e3, n3, R3, X3, T3⟩ := unlock_ok hd ⟨kvs, h0⟩ (X1.trans X2) R2 (by rw [ed]; exact hf) e2
        rw [ed] at R3 X3 T3
        refine ⟨hf, qn ρ2 h3 _ s2 σ2 e3 X3 R3 ?_⟩
        rw [n3]
        exact RS_tup (fun b xs q => by rw [upd_ne fun z => by rw [z, hf] at q; cases q]; exact q) S2) (fun _ _ _ _ _ e2 => by cases e2) e1
    exact ⟨W, ⟨_, w0⟩, wt⟩
/-! ### blocks and small statements -/
theorem sSeq_ok {st : Stmt} {rest : List Stmt} {s1 s2 : DT} (h1 : PS X st (tS Z s1)) (h2 : PSs X rest (tS Z s2)) : PSs X (st :: rest) (tS Z (sSeq s1 s2)) :=
  pss_of (pss_cons h1 h2) fun De σ H ⟨ρ, s, h, E, e, R, S, qn, qr⟩ => ⟨ρ, s, h, _, e, R, S, fun ρ' h' H' s' σ' e' x' R' S' => ⟨ρ', s', h', E, e', R', S', qn.ext x', qr.ext x'⟩, qr⟩
theorem sNop_ok : PSs X [] (tS Z sNop) := pss_of pss_nil fun De σ H ⟨ρ, s, h, E, e, R, S, qn, qr⟩ => qn ρ h H s σ e Ext.refl R S
theorem sOne_ok {st : Stmt} {s1 : DT} (h1 : PS X st (tS Z s1)) : PSs X [st] (tS Z s1) := pss_one h1
theorem sNever_ok {st : Stmt} : PS X st (tS Z sNever) := ps_of ps_never fun De σ H ⟨ρ, s, h, E, e, R, S, qn, qr⟩ => by cases e
theorem sIf_ok {p q : List Stmt} {s1 s2 : DT} (hc : PT X c (tT Z dc)) (ha : PSs X p (tS Z s1)) (hb : PSs X q (tS Z s2)) : PS X (.If c p q pos) (tS Z (sIf dc s1 s2)) :=
  ps_of (ps_if hc ha hb) fun De σ H ⟨ρ, s, h, E, e, R, S, qn, qr⟩ => ⟨ρ, s, h, _, e, R, S, fun ρ1 h1 H1 x v e1 x1 R1 r1 => by
    obtain ⟨t, ex, e2⟩ := bK_eq e1
    subst ex
    refine ⟨t, r1, ?_⟩
    cases t with
    | true => exact ⟨ρ1, s, h1, E, e2, R1, x1.rs S, qn.ext x1, qr.ext x1⟩
    | false => exact ⟨ρ1, s, h1, E, e2, R1, x1.rs S, qn.ext x1, qr.ext x1⟩⟩
theorem sRet_ok (ha : PE X a (tD Z da)) : PS X (.Return (some a) pos) (tS Z (sRet da)) :=
  ps_of (ps_ret ha) fun De σ H ⟨ρ, s, h, E, e, R, S, qn, qr⟩ => ⟨ρ, s, h, _, e, R, S, qr⟩
theorem sEx_ok (ha : PE X a (tD Z da)) (hs : swapsWith a none pos.line X.env = pure false := by rfl) : PS X (.Expr a pos) (tS Z (sEx da)) :=
  ps_of (ps_expr ha hs) fun De σ H ⟨ρ, s, h, E, e, R, S, qn, qr⟩ => ⟨ρ, s, h, _, e, R, S, fun ρ1 h1 H1 x v e1 x1 R1 r1 => qn ρ1 h1 H1 s σ e1 x1 R1 (x1.rs S)⟩
theorem set_ok {i : Nat} {De : Ends} {σ : L2.St} {H : Hp} (w : tS Z (sSet i da) De σ H) : tAsg (tD Z da) (gName i) De σ H := by
  obtain ⟨ρ, s, h, E, e, R, S, qn, qr⟩ := w
  exact ⟨ρ, s, h, _, e, R, S, fun ρ1 h1 H1 x v e1 x1 R1 r1 => by
    obtain ⟨_, e2⟩ := setn_some e1
    exact qn ρ1 h1 H1 _ _ e2 x1 R1 (RS_set (x1.rs S) r1)⟩
theorem sSet_ok {i : Nat} {pos' : Pos} (hN : X.N.Nodup) (hi : X.N[i]? = some x) (hx : Loc X.env.scope x) (ha : PE X a (tD Z da)) (hs : swapsWith a (some (.Name x pos')) pos.line X.env = pure false := by rfl) (hf : X.fn x = true ∨ X.env.scope.names.lookup x = some .local := by first | exact .inl rfl | exact .inr rfl | assumption) :
    PS X (.Assign [.Name x pos'] a pos) (tS Z (sSet i da)) :=
  ps_of (ps_set hN hi hx ha hs hf) fun De σ H w => set_ok w
theorem sUnp_ok {tg : Expr} {g : DG} {is : List Nat} (hg : PG X tg (tG Z g is)) (ha : PE X a (tD Z da)) (hs : swapsWithSole [tg] a pos.line X.env = pure false := by rfl) (hw : swappedStores [tg] a X.env = pure none := by rfl)
    (h1 : (assignEach [tg] X.env).map (·.2) = [assign tg X.env] := by rfl) : PS X (.Assign [tg] a pos) (tS Z (sUnp g da)) :=
  ps_of (ps_asg ha hg hs hw h1) fun De σ H ⟨ρ, s, h, E, e, R, S, qn, qr⟩ => ⟨ρ, s, h, _, e, R, S, fun ρ1 h1 H1 x v e1 x1 R1 r1 => ⟨ρ1, x, s, h1, E.nx, e1, R1, r1, x1.rs S, fun ρ2 h2 H2 s2 σ2 e2 x2 R2 S2 _ _ => qn ρ2 h2 H2 s2 σ2 e2 (x1.trans x2) R2 S2⟩⟩
/-- xs[i] = e, d[k] = e, o.f = e -/
theorem sFld_ok {f : Nat} {fx : Str} {pos' : Pos} (C : ClsF X.K Z) (hx : Z.fname f = fx) (hf : f < 8) (ha : PE X a (tD Z da)) (hb : PE X b (tD Z db)) (hs : swapsWith b (some (.Attribute a fx pos')) pos.line X.env = pure false := by rfl) : PS X (.Assign [.Attribute a fx pos'] b pos) (tS Z (G.sFld da f db)) := by
  refine ps_of (ps_fld ha hb hs) fun De σ H ⟨ρ, s, h, E, e, R, S, qn, qr⟩ => ⟨ρ, s, h, _, e, R, S, fun ρ1 h1 H1 y v e1 x1 R1 r1 => ⟨ρ1, s, h1, _, e1, R1, x1.rs S, fun ρ2 h2 H2 x u e2 x2 R2 r2 => ?_⟩⟩
  obtain ⟨i, q, fs, dx, xs, hi, ex, eu, ho, rf, e3⟩ := R2.ins r2 e2
  obtain ⟨hq, e4⟩ := ltb (P := fun b : Bool => b = true) e3 Bool.false_ne_true
  cases es : shortF fs 100 with
  | false => rw [es] at e4; cases e4
  | true =>
    rw [es] at e4
    have hl := shortF_le es
    obtain ⟨fs', e5, rf'⟩ := fputK_ok Z.fnj (x2.rw r1) e4 rf
    subst hx
    refine ⟨ρ2 i, Z.ca q, dx, xs, eu, ho, C.cl q hq, C.na q f hq hf, by rw [RF_length rf]; omega, ?_⟩
    obtain ⟨h', e6, n6, R6, X6⟩ := R2.put (o := .ins (Z.ca q) dx (putF (Z.fname f) v xs)) (c := .ins q fs') ho (fun z => z) (fun X => ⟨dx, _, upd_same, RF_mono X.same X.le X.stay rf'⟩) e5
    exact qn ρ2 h' _ s σ e6 ((x1.trans x2).trans X6) R6 (((x1.trans x2).trans X6).rs S)
end
end G
/-! K12: comprehensions, while, stores. -/
namespace G
open PySem L2
theorem wipe_get {σ : L2.St} : ∀ {vs : List Nat} {i : Nat}, (wipe σ vs)[i]? = if i ∈ vs then (if i < σ.length then some none else none) else σ[i]?
  | [], i => by simp [wipe]
  | v :: vs, i => by
    show ((wipe σ vs).set v none)[i]? = _
    by_cases h : v = i
    · subst h
      rw [if_pos (List.mem_cons_self ..)]
      by_cases hl : v < σ.length
      · rw [if_pos hl, List.getElem?_set_self (by rw [wipe_length]; exact hl)]
      · rw [if_neg hl, List.getElem?_eq_none (by rw [List.length_set, wipe_length]; omega)]
    · rw [List.getElem?_set_ne h, wipe_get]
      by_cases hm : i ∈ vs
      · rw [if_pos hm, if_pos (List.mem_cons_of_mem _ hm)]
      · rw [if_neg hm, if_neg (by simp [hm]; exact fun e => h e.symm)]
theorem wipe_eq {σ σ2 : L2.St} {vs is : List Nat} (hl : σ2.length = (wipe σ vs).length) (hk : ∀ i, i ∉ is → σ2[i]? = (wipe σ vs)[i]?) (hs : ∀ i ∈ is, i ∈ vs) : wipe σ2 vs = wipe σ vs := by
  apply List.ext_getElem?
  intro i
  rw [wipe_length] at hl
  rw [wipe_get, wipe_get]
  by_cases hm : i ∈ vs
  · rw [if_pos hm, if_pos hm, hl]
  · rw [if_neg hm, if_neg hm, hk i (fun z => hm (hs i z)), wipe_get, if_neg hm]
theorem wipeK_ok {ρ : Nat → Addr} {N : Nat} {H : Hp} : ∀ {own : List Nat} {s : List W} {k : St → Bool}, wipeK own s k = true → ∃ s', k s' = true ∧ ∀ σ, RS ρ N H s σ → RS ρ N H s' (wipe σ own)
  | [], s, k, e => ⟨s, e, fun _ r => r⟩
  | i :: r, s, k, e => by
    obtain ⟨_, e1⟩ := setn_some (show setn s i .und (fun s' => wipeK r s' k) = true from e)
    obtain ⟨s', e2, h⟩ := wipeK_ok e1
    refine ⟨s', e2, fun σ q => ?_⟩
    have : wipe σ (i :: r) = wipe (σ.set i none) r := by
      show (wipe σ r).set i none = _
      clear e e1 e2 h q
      induction r with
      | nil => rfl
      | cons j r ih =>
        show ((wipe σ r).set j none).set i none = (wipe (σ.set i none) r).set j none
        rw [← ih]
        by_cases hij : i = j
        · rw [hij]
        · rw [List.set_comm _ _ (Ne.symm hij)]
    rw [this]
    exact h _ (RS_wipe q)
section
variable {Z : Par}
/-- turns of a comprehension -/
theorem lc_ok {J : IT} {Jh : It} {g : DG} {is vs : List Nat} {c e : D} {m : Nat} {s' : List W} {k : Hh → Bool} {Qd : Hp → Prop} {σ : L2.St} {ρ : Nat → Addr} {h : Hh} {H : Hp} {D : Addr} (hs : ∀ i ∈ is, i ∈ vs) (R : Rel Z ρ h H) (S : RS ρ h.n H s' (wipe σ vs)) (r : IR Z ρ h.n H J Jh) (hm : m < h.n) (hD : ρ m = D)
    (q : ∀ ρ' h' H', k h' = true → Ext ρ h.n H ρ' h'.n H' → Rel Z ρ' h' H' → Qd H') {n i : Nat} (e0 : lcL J g c e m s' k n i h = true) :
    ∃ W : Nat → Nat → Hp → Prop, W i n H ∧ ∀ i n H, W i n H → (Jh.stop i H ∧ Qd H) ∨ (Jh.go i H ∧ ∃ Nx : Hp → Prop, (∀ H', Nx H' → ∃ m', m' < n ∧ W (i + 1) m' H') ∧ ∀ x H', Jh.yld i H x H' → tG Z g is x (wipe σ vs) H' fun σ2 H2 => wipe σ2 vs = wipe σ vs ∧ tT Z c σ2 H2 fun b H3 =>
      if b = true then tD Z e σ2 H3 fun y H4 => ∃ acc, H4 D = some (.lst acc) ∧ acc.length < sizeLine ∧ Nx (upd H4 D (.lst (acc ++ [y]))) else Nx H3) := by
  refine ⟨fun i n H => ∃ ρ1 h1, lcL J g c e m s' k n i h1 = true ∧ Rel Z ρ1 h1 H ∧ RS ρ1 h1.n H s' (wipe σ vs) ∧ IR Z ρ1 h1.n H J Jh ∧ m < h1.n ∧ ρ1 m = D ∧ ∀ ρ' h' H', k h' = true → Ext ρ1 h1.n H ρ' h'.n H' → Rel Z ρ' h' H' → Qd H', ⟨ρ, h, e0, R, S, r, hm, hD, q⟩, ?_⟩
  rintro i n H ⟨ρ1, h1, e1, R1, S1, r1, hm1, hD1, q1⟩
  cases n with
  | zero => cases e1
  | succ n =>
    have e1 : (forceN i fun i => nextI J i h1 (fun _ => k h1) fun x => g x s' h1 fun s1 h => c s1 h fun b h => bK b fun b => match b with
      | true => e s1 h fun y h => geth h m fun q => (match q with
        | .lst l => (match short l 100 with
          | true => forceL (l ++ [y]) fun l' => puth h m (.lst l') fun h => lcL J g c e m s' k n (Nat.succ i) h
          | false => false)
        | _ => false)
      | false => lcL J g c e m s' k n (Nat.succ i) h) = true := e1
    rw [forceN_eq] at e1
    rcases next_ok R1 r1 e1 with ⟨z1, z2⟩ | ⟨z1, z2⟩
    · exact .inl ⟨z2, q1 ρ1 h1 H z1 Ext.refl R1⟩
    · refine .inr ⟨z1, fun H' => ∃ ρ2 h2, lcL J g c e m s' k n (i + 1) h2 = true ∧ Rel Z ρ2 h2 H' ∧ RS ρ2 h2.n H' s' (wipe σ vs) ∧ IR Z ρ2 h2.n H' J Jh ∧ m < h2.n ∧ ρ2 m = D ∧ ∀ ρ' h' H2, k h' = true → Ext ρ2 h2.n H' ρ' h'.n H2 → Rel Z ρ' h' H2 → Qd H2, fun H' w => ⟨n, Nat.lt_succ_self _, w⟩, fun x H' y => ?_⟩
      obtain ⟨w, y1, R2, x2, rw2⟩ := z2 x H' y
      refine ⟨ρ1, w, s', h1, _, y1, R2, rw2, x2.rs S1, fun ρ3 h3 H3 s3 σ3 e3 x3 R3 S3 hlen hkeep => ⟨wipe_eq hlen hkeep hs, ρ3, s3, h3, _, e3, R3, S3, fun ρ4 h4 H4 b v e4 x4 R4 r4 => ?_⟩⟩
      obtain ⟨t, eb, e5⟩ := bK_eq e4
      subst eb
      refine ⟨t, r4, ?_⟩
      have x14 := (x2.trans x3).trans x4
      cases t with
      | false => exact ⟨ρ4, h4, e5, R4, x14.rs S1, r1.ext x14, Nat.lt_of_lt_of_le hm1 x14.le, (x14.same m hm1).trans hD1, fun ρ' h' H2 z1 z2 z3 => q1 ρ' h' H2 z1 (x14.trans z2) z3⟩
      | true =>
        refine ⟨ρ4, s3, h4, _, e5, R4, x4.rs S3, fun ρ5 h5 H5 y v e6 x5 R5 r5 => ?_⟩
        have x15 := x14.trans x5
        obtain ⟨hi5, cc, hc, e7⟩ := R5.get (show geth h5 m _ = true from e6)
        cases cc with
        | lst l =>
          obtain ⟨xs, o1, o2, o3⟩ := hc
          have e7' : (match short l 100 with | true => forceL (l ++ [y]) fun l' => puth h5 m (.lst l') fun h => lcL J g c e m s' k n (Nat.succ i) h | false => false) = true := e7
          cases es : short l 100 with
          | false => rw [es] at e7'; cases e7'
          | true =>
            rw [es] at e7'
            simp only [forceL_eq] at e7'
            have hl := short_le es
            have ed : ρ5 m = D := (x15.same m hm1).trans hD1
            have hl' : xs.length ≤ 100 := by rw [RL_length o2]; exact hl
            refine ⟨xs, by rw [← ed]; exact o1, Nat.lt_of_le_of_lt hl' (by decide), ?_⟩
            obtain ⟨h6, e8, n6, R6, x6⟩ := R5.put (o := .lst (xs ++ [v])) (c := .lst (l ++ [y])) o1 (fun z => z) (fun X => ⟨_, upd_same, RL_snoc (X.rl o2) (X.rw r5), by rw [List.length_append]; show l.length + 1 ≤ 101; omega⟩) e7'
            rw [ed] at R6 x6
            have x16 := x15.trans x6
            exact ⟨ρ5, h6, e8, R6, x16.rs S1, r1.ext x16, Nat.lt_of_lt_of_le hm1 x16.le, ed, fun ρ' h' H2 z1 z2 z3 => q1 ρ' h' H2 z1 (x16.trans z2) z3⟩
        | _ => cases e7
/-- what a comprehension asks -/
theorem lc_read {it : DI} {g : DG} {is vs : List Nat} {c e : D} (hs : ∀ i ∈ is, i ∈ vs) {σ : L2.St} {H : Hp} {Q : VK} (w : tD Z (dLc vs it g c e) σ H Q) : tLc (tI Z it) (tG Z g is) (tT Z c) (tD Z e) vs σ H Q := by
  obtain ⟨ρ, s, h, k, e1, R, S, q⟩ := w
  refine ⟨ρ, s, h, _, e1, R, S, fun ρ1 h1 H1 J Jh e2 x1 R1 r1 D hD => ?_⟩
  obtain ⟨h2, e3, n2, R2, X2⟩ := R1.alloc (H2 := H1) (o := .lst []) (c := .lst []) hD (fun _ _ e => e) ⟨[], upd_same, rfl, Nat.zero_le _⟩ e2
  obtain ⟨s', e4, hw⟩ := wipeK_ok (ρ := snoc ρ1 h1.n D) (N := h2.n) (H := upd H1 D (.lst [])) e3
  obtain ⟨W, w0, wt⟩ := lc_ok (σ := σ) (D := D) (Qd := fun H' => Q (.ref D) H') hs R2 (hw σ ((x1.trans X2).rs S)) (r1.ext X2) (m := h1.n) (by rw [n2]; exact Nat.lt_succ_self _) snoc_new
    (fun ρ' h' H' z1 z2 z3 => q ρ' h' H' (.ref h1.n) (.ref D) z1 ((x1.trans X2).trans z2) z3 ⟨Nat.lt_of_lt_of_le (by rw [n2]; exact Nat.lt_succ_self _) z2.le, by rw [z2.same _ (by rw [n2]; exact Nat.lt_succ_self _), snoc_new]⟩) e4
  exact ⟨W, ⟨_, w0⟩, wt⟩
end
end G
/-! K13: comprehensions' rules, while, stores. -/
namespace G
noncomputable section
open PySem L2
section
variable {X : Cx} {Z : Par} {pos p : Pos} {a b c e : Expr} {da db dc de : D} {x : Str}
theorem pts0 : PTs X [] (tT Z (dCon (.bl true))) := ⟨fun pins s σ H Q I ⟨ρ, s0, h, k, e, R, S, q⟩ => (pts_nil (X := X)).run pins s σ H Q I (by
  obtain ⟨b, eb, q'⟩ := q.now (w := .bl true) (v := .bl true) R rfl e
  cases eb
  exact q')⟩
theorem pts1 (h : PT X c (tT Z dc)) : PTs X [c] (tT Z dc) := pts_one h
/-- [e for t in it if c] -/
theorem eLc {tg iter : Expr} {ifs : List Expr} {scope : Scope} {own : List (Str × Nat)} {it : DI} {g : DG} {is : List Nat} (hc : X.calm = true) (hN : X.N.Nodup) (hi : PI X tg iter (tI Z it)) (ok : BlkOk X.N X.env.scope scope own) (hs0 : ∀ i ∈ is, i ∈ own.map (·.2))
    (hg : ∀ (s : Shared) (H : Hp) (C : Addr) (cl : List (Str × Addr)) (fp : List Addr), PG (X.blk s H scope (compEnvC scope cl C X.env) fp) tg (tG Z g is)) (ht : ∀ (s : Shared) (H : Hp) (C : Addr) (cl : List (Str × Addr)) (fp : List Addr), PTs (X.blk s H scope (compEnvC scope cl C X.env) fp) ifs (tT Z dc))
    (he : ∀ (s : Shared) (H : Hp) (C : Addr) (cl : List (Str × Addr)) (fp : List Addr), PE (X.blk s H scope (compEnvC scope cl C X.env) fp) e (tD Z de)) (hs : ∀ x, foldedSetIterable iter X.env x = pure x := by intro _; rfl) :
    PE X (.ListComp e [⟨tg, iter, ifs, 0⟩] scope pos) (tD Z (dLc (own.map (·.2)) it g dc de)) := pe_of (pe_lc hc hN hi ok hg ht he hs) fun _ _ _ w => lc_read hs0 w
/-- y = [..] on one line -/
theorem sSetLc {i : Nat} {y : Str} {py spos : Pos} {tg iter : Expr} {ifs : List Expr} {scope : Scope} {own : List (Str × Nat)} {it : DI} {g : DG} {is : List Nat} (hc : X.calm = true) (hN : X.N.Nodup) (hy : X.N[i]? = some y) (hyl : X.env.scope.names.lookup y = some .local)
    (hsw : swapsWith (.ListComp e [⟨tg, iter, ifs, 0⟩] scope pos) (some (.Name y py)) spos.line X.env = pure true) (hi : PI X tg iter (tI Z it)) (ok : BlkOk X.N X.env.scope scope own) (hs0 : ∀ i ∈ is, i ∈ own.map (·.2))
    (hg : ∀ (s : Shared) (H : Hp) (C : Addr) (cl : List (Str × Addr)) (fp : List Addr), PG (X.blk s H scope (compEnvC scope cl C X.env) fp) tg (tG Z g is)) (ht : ∀ (s : Shared) (H : Hp) (C : Addr) (cl : List (Str × Addr)) (fp : List Addr), PTs (X.blk s H scope (compEnvC scope cl C X.env) fp) ifs (tT Z dc))
    (he : ∀ (s : Shared) (H : Hp) (C : Addr) (cl : List (Str × Addr)) (fp : List Addr), PE (X.blk s H scope (compEnvC scope cl C X.env) fp) e (tD Z de)) (hs : ∀ x, foldedSetIterable iter X.env x = pure x := by intro _; rfl) :
    PS X (.Assign [.Name y py] (.ListComp e [⟨tg, iter, ifs, 0⟩] scope pos) spos) (tS Z (sSet i (dLc (own.map (·.2)) it g dc de))) :=
  ps_of (ps_setLc hc hN hy hyl hsw hi ok hg ht he hs) fun De σ H w => lc_read hs0 (set_ok w)
/-- the keys of a dict just made -/
theorem pi_lockKeys {tg : Expr} {td : TE} (he : PE X a td) : PI X tg a (fun σ H R => td σ H fun x H1 => ∃ d kvs, x = .ref d ∧ H1 d = some (.dT kvs) ∧ ∀ od, R (Itkt d od kvs) (upd H1 d (.frz od (.dT kvs)))) := by
  refine ⟨fun pins s σ H R I h => ?_⟩
  refine thn (he.run pins s σ H _ I h) fun u s1 ⟨x, H1, I1, rx, d, kvs, ex, hd, q⟩ => ?_
  subst ex
  obtain rfl : u = Value.ref d := rx
  obtain ⟨od, I2⟩ := I1.lock hd trivial
  obtain ⟨hs, hgd, hx, es, ep, hdt, hsz, ent⟩ := I2.frzT upd_same
  refine iter_keys hs hgd hx hdt (pi_one (tk := s1.toks) I2 _ (turn_keysT _ hdt) ⟨_, Heap.get?_push_size _ rfl, rfl, ?_⟩ (q od))
  rw [hsz] <;> rfl
/-- keys of a dict just made, as what is walked -/
def iLk (a : D) : DI := fun s h k => a s h fun x h => lockK x h fun d h => k (.idk d) h
theorem iLk_ok {tg : Expr} (ha : PE X a (tD Z da)) : PI X tg a (tI Z (iLk da)) :=
  pi_of (pi_lockKeys ha) fun σ H Rr w => ione (f := fun x h k => lockK x h fun d h => k (.idk d) h) (r := fun x H1 R => ∃ d kvs, x = .ref d ∧ H1 d = some (.dT kvs) ∧ ∀ od, R (Itkt d od kvs) (upd H1 d (.frz od (.dT kvs)))) (fun ρ h H x v k Q e R rx q => by
    obtain ⟨d, kvs, hd, ev, h0, lk⟩ := lock_ok R rx e
    refine ⟨ρ d, kvs, ev, h0, fun od => ?_⟩
    obtain ⟨h', e1, n1, R1, X1⟩ := lk od
    exact q ρ h' _ _ _ e1 X1 R1 (.idk (Nat.lt_of_lt_of_le hd X1.le) upd_same)) w
theorem eLcD {tg iter : Expr} {ifs : List Expr} {scope : Scope} {own : List (Str × Nat)} {g : DG} {is : List Nat} (hc : X.calm = true) (hN : X.N.Nodup) (hi : PE X iter (tD Z da)) (ok : BlkOk X.N X.env.scope scope own) (hs0 : ∀ i ∈ is, i ∈ own.map (·.2))
    (hg : ∀ (s : Shared) (H : Hp) (C : Addr) (cl : List (Str × Addr)) (fp : List Addr), PG (X.blk s H scope (compEnvC scope cl C X.env) fp) tg (tG Z g is)) (ht : ∀ (s : Shared) (H : Hp) (C : Addr) (cl : List (Str × Addr)) (fp : List Addr), PTs (X.blk s H scope (compEnvC scope cl C X.env) fp) ifs (tT Z dc))
    (he : ∀ (s : Shared) (H : Hp) (C : Addr) (cl : List (Str × Addr)) (fp : List Addr), PE (X.blk s H scope (compEnvC scope cl C X.env) fp) e (tD Z de)) (hs : ∀ x, foldedSetIterable iter X.env x = pure x := by intro _; rfl) :
    PE X (.ListComp e [⟨tg, iter, ifs, 0⟩] scope pos) (tD Z (dLcD (own.map (·.2)) da g dc de)) := eLc hc hN (iLk_ok hi) ok hs0 hg ht he hs
/-! ### while -/
theorem sWh_ok {body : List Stmt} {bd : DT} (hp : PassesOwn (model X.prog X.w) X.A X.env X.xe) (hc : PT X c (tT Z dc)) (hb : PSs X body (tS Z bd)) : PS X (.While c body [] pos) (tS Z (sWh dc bd)) :=
  ps_of (ps_while hp hc hb) fun De σ H ⟨ρ, s, h, E, e, R, S, qn, qr⟩ => by
    refine ⟨fun m σ H => ∃ ρ1 h1 s1, whL dc bd E m s1 h1 = true ∧ Rel Z ρ1 h1 H ∧ RS ρ1 h1.n H s1 σ ∧ ContS Z ρ1 h1 H E.nx De.nx ∧ Cont Z ρ1 h1 H E.rt De.rt, ⟨100, ρ, h, s, e, R, S, qn, qr⟩, ?_⟩
    rintro m σ H ⟨ρ1, h1, s1, e1, R1, S1, qn1, qr1⟩
    cases m with
    | zero => cases e1
    | succ m =>
      refine ⟨ρ1, s1, h1, _, e1, R1, S1, fun ρ2 h2 H2 w v e2 x2 R2 r2 => ?_⟩
      obtain ⟨t, ew, e3⟩ := bK_eq e2
      subst ew
      refine ⟨t, r2, ?_⟩
      cases t with
      | false => exact qn1 ρ2 h2 H2 s1 σ e3 x2 R2 (x2.rs S1)
      | true =>
        rw [if_pos rfl]
        refine ⟨fun σ' H' => ∃ ρ1 h1 s1, whL dc bd E m s1 h1 = true ∧ Rel Z ρ1 h1 H' ∧ RS ρ1 h1.n H' s1 σ' ∧ ContS Z ρ1 h1 H' E.nx De.nx ∧ Cont Z ρ1 h1 H' E.rt De.rt, fun σ' H' w => ⟨m, Nat.lt_succ_self _, w⟩, ?_⟩
        exact ⟨ρ2, s1, h2, _, e3, R2, x2.rs S1, fun ρ3 h3 H3 s3 σ3 e4 x3 R3 S3 => ⟨ρ3, h3, s3, e4, R3, S3, qn1.ext (x2.trans x3), qr1.ext (x2.trans x3)⟩, qr1.ext x2⟩
/-! ### stores -/
theorem sPut_ok {pos' : Pos} (hu : X.A.units + 65 < cLine) (ha : PE X a (tD Z da)) (hb : PE X b (tD Z db)) (hv : PE X e (tD Z de)) (hs : swapsWith e (some (.Subscript a b pos')) pos.line X.env = pure false := by rfl) : PS X (.Assign [.Subscript a b pos'] e pos) (tS Z (sPut da db de)) := by
  refine ps_of (ps_dput (by omega) ha hb hv hs) fun De σ H ⟨ρ, s, h, E, e, R, S, qn, qr⟩ => ⟨ρ, s, h, _, e, R, S, fun ρ1 h1 H1 w v e1 x1 R1 r1 => ⟨ρ1, s, h1, _, e1, R1, x1.rs S, fun ρ2 h2 H2 x u e2 x2 R2 r2 => ⟨ρ2, s, h2, _, e2, R2, (x1.trans x2).rs S, fun ρ3 h3 H3 y t e3 x3 R3 r3 => ?_⟩⟩⟩
  obtain ⟨i, lk, l, kvs, hi, ex, eu, ho, hf, rd, hn, e4⟩ := R3.dct (x3.rw r2) e3
  cases lk with
  | true => cases e4
  | false =>
    have h0 := hf rfl
    cases es : shortD l 100 with
    | false => simp only [es] at e4; cases e4
    | true =>
      simp only [es] at e4
      have hl := shortD_le es
      obtain ⟨q, bq, e5, et, hb'⟩ := keyK_ok e4 r3
      obtain ⟨l', e6, rd', nd', ln'⟩ := putK_ok ((x2.trans x3).rw r1) hn.1 e5 rd
      have hlen := RD_length rd
      obtain ⟨h', e7, n7, R7, X7⟩ := R3.put (o := .dT (L2.putK kvs (q.map Sum.inl) v)) (c := .dct false l') h0 (fun z => z) (fun X => ⟨_, upd_same, RD_mono X.same X.le X.stay rd', nd', by omega⟩) e6
      have xx := ((x1.trans x2).trans x3).trans X7
      refine ⟨ρ3 i, _, eu, ?_, qn ρ3 h' _ s σ e7 xx R7 (xx.rs S)⟩
      rw [et]
      exact DPut.t h0 hb' (by rw [hlen]; exact Nat.lt_of_le_of_lt hl (by decide))
end
end
end G
/-! K14: stores in lists, several targets, isinstance with own classes. -/
namespace G
noncomputable section
open PySem L2
section
variable {X : Cx} {Z : Par} {pos p : Pos} {a b c e : Expr} {da db dc de : D} {x : Str}
theorem ixN_nat {n i : Nat} (h : i < n) : ixN n (Int.ofNat i) = some i := by
  unfold ixN
  rw [if_pos (by show (0 : Int) ≤ (i : Int); omega), if_pos (by show ((i : Nat) : Int) < n; omega)]
  rfl
def ixK (y : W) (k : Nat → Bool) : Bool := match y with
  | .int (.ofNat i) => k i
  | _ => false
/-- the store's last part -/
theorem putAt {ρ ρ0 : Nat → Addr} {h h0 : Hh} {H H0 : Hp} {x y w : W} {o i v : V} {k : Hh → Bool} {Q : Hp → Prop} (X0 : Ext ρ0 h0.n H0 ρ h.n H) (R : Rel Z ρ h H) (rx : RW ρ h.n H x o) (ry : RW ρ h.n H y i) (rw' : RW ρ h.n H w v)
    (e : (lstAt x h fun n l => ixK y fun i => setn l i w fun l' => puth h n (.lst l') k) = true)
    (q : ∀ h' H', k h' = true → Ext ρ0 h0.n H0 ρ h'.n H' → Rel Z ρ h' H' → Q H') : rSetL o i v H Q := by
  obtain ⟨n, l, xs, hi, ex, eo, ho, rl, hl, e1⟩ := R.lst rx e
  cases y with
  | int j => cases j with
    | ofNat j =>
      obtain ⟨hj, e2⟩ := setn_some (show setn l j w _ = true from e1)
      obtain ⟨h', e3, n3, R3, X3⟩ := R.put (o := .lst (xs.set j v)) (c := .lst (l.set j w)) ho (fun z => z) (fun X => ⟨_, upd_same, RL_set (X.rl rl) (X.rw rw'), by rw [List.length_set]; exact hl⟩) e2
      exact ⟨ρ n, xs, _, j, eo, ry, ho, ixN_nat (by rw [RL_length rl]; exact hj), q h' _ e3 (X0.trans X3) R3⟩
    | _ => cases e1
  | _ => cases e1
theorem sIx_ok {pos' : Pos} (ha : PE X a (tD Z da)) (hb : PE X b (tD Z db)) (hv : PE X e (tD Z de)) (hs : swapsWithSole [.Subscript a b pos'] e pos.line X.env = pure false := by rfl) (hw : swappedStores [.Subscript a b pos'] e X.env = pure none := by rfl)
    (h1 : (assignEach [.Subscript a b pos'] X.env).map (·.2) = [assign (.Subscript a b pos') X.env] := by rfl)
    (ha' : ∀ v, assign (.Subscript a b pos') X.env v = (do
      let ov ← holding [v] (eval a X.env)
      let iv ← holding [v, ov] (eval b X.env)
      standAt pos'
      holding [v, ov, iv] (setItem ov iv v)
      release [v, ov, iv] []) := by intro _; rfl) : PS X (.Assign [.Subscript a b pos'] e pos) (tS Z (sIx da db de)) :=
  ps_of (ps_asg hv (pg_sub ha hb set_list ha') hs hw h1) fun De σ H ⟨ρ, s, h, E, e, R, S, qn, qr⟩ => ⟨ρ, s, h, _, e, R, S, fun ρ1 h1 H1 w v e1 x1 R1 r1 => ⟨ρ1, s, h1, _, e1, R1, x1.rs S, fun ρ2 h2 H2 x u e2 x2 R2 r2 => ⟨ρ2, s, h2, _, e2, R2, (x1.trans x2).rs S, fun ρ3 h3 H3 y t e3 x3 R3 r3 =>
    putAt (Z := Z) (k := fun h => E.nx s h) ((x1.trans x2).trans x3) R3 (x3.rw r2) r3 ((x2.trans x3).rw r1) e3 fun h' H' e4 x4 R4 => qn ρ3 h' H' s σ e4 x4 R4 (x4.rs S)⟩⟩⟩
def rGetL : V → V → Hp → VK → Prop := fun o i H Q => ∃ (p : Addr) (xs : List V) (j : Nat) (v : V), o = V.ref p ∧ i = V.int (Int.ofNat j) ∧ H p = some (HO.lst xs) ∧ xs[j]? = some v ∧ Q v H
theorem get_list : PGet X rGetL := by
  intro pins s σ H o i ov iv Q I ro ri h
  obtain ⟨p, xs, j, v, rfl, rfl, hp, hj, q⟩ := h
  cases ro
  obtain ⟨t, rfl⟩ := ri
  obtain ⟨its, n, r, ho, hz⟩ := I.lst hp
  obtain ⟨w, ew, rw'⟩ := r.get hj
  have hl := (List.getElem?_eq_some_iff.mp hj).1
  have hn := line63
  exact wpAny_getItem_list (PySem.IsL.isList (n := n) ho) (Int.natCast_nonneg j) (by show ((j : Nat) : Int) < 2 ^ 63; omega) (by simpa using ew) ⟨v, H, I, rw', q⟩
theorem sIxSub_ok {tpos : Pos} (ha : PE X a (tD Z da)) (hb : PE X b (tD Z db)) (hv : PE X e (tD Z de))
    (ha' : ∀ ov iv new, augStore b ov iv new = (do holding [new, ov, iv] (setItem ov iv new); release [new, ov, iv] []; pure .next) := by intros; rfl) : PS X (.AugAssign (.Subscript a b tpos) .Sub e pos) (tS Z (sIxSub da db de)) :=
  ps_of (ps_augS ha hb get_list hv ip_sub set_list ha') fun De σ H ⟨ρ, s, h, E, e, R, S, qn, qr⟩ => ⟨ρ, s, h, _, e, R, S, fun ρ1 h1 H1 x o e1 x1 R1 r1 => ⟨ρ1, s, h1, _, e1, R1, x1.rs S, fun ρ2 h2 H2 y i e2 x2 R2 r2 => by
    obtain ⟨n, l, xs, hi, ex, eo, ho, rl, hl, e3⟩ := R2.lst (x2.rw r1) e2
    cases y with
    | int j => cases j with
      | ofNat j =>
        obtain ⟨u, eu, e4⟩ := nth_some (show nth l j _ = true from e3)
        obtain ⟨uv, ev, ru⟩ := RL_get rl eu
        refine ⟨ρ2 n, xs, j, uv, eo, r2, ho, ev, ρ2, s, h2, _, e4, R2, (x1.trans x2).rs S, fun ρ3 h3 H3 w v e5 x3 R3 r3 => ?_⟩
        obtain ⟨p1, q1, eu1, ew1, e6⟩ := i2_eq e5
        subst eu1 ew1
        refine ⟨p1, q1, ru, r3, ?_⟩
        rw [forceI_eq] at e6
        exact putAt (Z := Z) (k := fun h => E.nx s h) (y := .int (.ofNat j)) (w := .int (p1 - q1)) ((x1.trans x2).trans x3) R3 ((x2.trans x3).rw r1) (x3.rw r2) rfl e6 fun h' H' e7 x4 R4 => qn ρ3 h' H' s σ e7 x4 R4 (x4.rs S)
      | _ => cases e3
    | _ => cases e3⟩⟩
/-! ### several targets -/
theorem setsK_two {i j : Nat} {l : List W} {s : St} {k : St → Bool} (e : setsK [i, j] l s k = true) : ∃ x y, l = [x, y] ∧ k ((s.set i x).set j y) = true := by
  match l, e with
  | [], e => cases e
  | [x], e =>
    obtain ⟨_, e1⟩ := setn_some (show setn s i x _ = true from e)
    cases e1
  | [x, y], e =>
    obtain ⟨_, e1⟩ := setn_some (show setn s i x _ = true from e)
    obtain ⟨_, e2⟩ := setn_some (show setn (s.set i x) j y _ = true from e1)
    exact ⟨x, y, rfl, e2⟩
  | x :: y :: z :: r, e =>
    obtain ⟨_, e1⟩ := setn_some (show setn s i x _ = true from e)
    obtain ⟨_, e2⟩ := setn_some (show setn (s.set i x) j y _ = true from e1)
    cases e2
theorem setsK_three {i j m : Nat} {l : List W} {s : St} {k : St → Bool} (e : setsK [i, j, m] l s k = true) : ∃ x y z, l = [x, y, z] ∧ k (((s.set i x).set j y).set m z) = true := by
  match l, e with
  | [], e => cases e
  | x :: r, e =>
    obtain ⟨_, e1⟩ := setn_some (show setn s i x _ = true from e)
    obtain ⟨y, z, e2, e3⟩ := setsK_two e1
    exact ⟨x, y, z, by rw [e2], e3⟩
theorem sPar2_ok {i j : Nat} {y : Str} {px py pt : Pos} {kt k2 pt2} {as : DA} (hc : X.calm = true) (hN : X.N.Nodup) (hi : X.N[i]? = some x) (hj : X.N[j]? = some y) (hij : i ≠ j)
    (hx : X.env.scope.names.lookup x = some .local) (hy : X.env.scope.names.lookup y = some .local) (ha : PA X [a, b] (tA Z as))
    (hw : swappedStores [.Tuple [.Name x px, .Name y py] kt pt] (.Tuple [a, b] k2 pt2) X.env = pure (some [x, y]))
    (hs : swapsWithSole [.Tuple [.Name x px, .Name y py] kt pt] (.Tuple [a, b] k2 pt2) pos.line X.env = pure false := by rfl) :
    PS X (.Assign [.Tuple [.Name x px, .Name y py] kt pt] (.Tuple [a, b] k2 pt2) pos) (tS Z (sPar [i, j] as)) :=
  ps_of (ps_par hc hN hi hj hij hx hy ha hw hs) fun De σ H ⟨ρ, s, h, E, e, R, S, qn, qr⟩ => ⟨ρ, s, h, _, e, R, S, fun ρ1 h1 H1 l vs e1 x1 R1 r1 => by
    obtain ⟨u, w, el, e2⟩ := setsK_two e1
    subst el
    obtain ⟨v1, r, ev, q1, v2, r', ev', q2, q3⟩ := r1
    subst ev ev'
    cases q3
    exact ⟨v1, v2, rfl, qn ρ1 h1 H1 _ _ e2 x1 R1 (RS_set (RS_set (x1.rs S) q1) q2)⟩⟩
theorem sPar3_ok {i j m : Nat} {y z : Str} {px py pz pt : Pos} {kt k2 pt2} {as : DA} (hc : X.calm = true) (hN : X.N.Nodup) (hi : X.N[i]? = some x) (hj : X.N[j]? = some y) (hm : X.N[m]? = some z) (hij : i ≠ j) (him : i ≠ m) (hjm : j ≠ m)
    (hx : X.env.scope.names.lookup x = some .local) (hy : X.env.scope.names.lookup y = some .local) (hz : X.env.scope.names.lookup z = some .local) (ha : PA X [a, b, c] (tA Z as))
    (hw : swappedStores [.Tuple [.Name x px, .Name y py, .Name z pz] kt pt] (.Tuple [a, b, c] k2 pt2) X.env = pure (some [x, y, z]))
    (hs : swapsWithSole [.Tuple [.Name x px, .Name y py, .Name z pz] kt pt] (.Tuple [a, b, c] k2 pt2) pos.line X.env = pure false := by rfl) :
    PS X (.Assign [.Tuple [.Name x px, .Name y py, .Name z pz] kt pt] (.Tuple [a, b, c] k2 pt2) pos) (tS Z (sPar [i, j, m] as)) :=
  ps_of (ps_par3 hc hN hi hj hm hij him hjm hx hy hz ha hw hs) fun De σ H ⟨ρ, s, h, E, e, R, S, qn, qr⟩ => ⟨ρ, s, h, _, e, R, S, fun ρ1 h1 H1 l vs e1 x1 R1 r1 => by
    obtain ⟨u, w, t, el, e2⟩ := setsK_three e1
    subst el
    obtain ⟨v1, r, ev, q1, v2, r', ev', q2, v3, r'', ev'', q3, q4⟩ := r1
    subst ev ev' ev''
    cases q4
    exact ⟨v1, v2, v3, rfl, qn ρ1 h1 H1 _ _ e2 x1 R1 (RS_set (RS_set (RS_set (x1.rs S) q1) q2) q3)⟩⟩
/-! ### isinstance -/
section
variable {pT : Pos}
/-- an own class -/
theorem eIsCls {cx : Str} {q : Nat} (hg : Gl X "isinstance") (hm : X.mg "isinstance" = none) (ha : PE X a (tD Z da)) (hZ : Z.K = X.K) (C : ClsF X.K Z) (hq : q < 7) (hgc : Gl X cx) (hmc : X.mg cx = some (.ref (Z.ca q))) (hdc : (cx == ("__debug__" : Str)) = false := by decide) (he : starEach [a, .Name cx pT] X.env = (false, eval a X.env) :: starEach [.Name cx pT] X.env := by rfl)
    (he2 : starEach [.Name cx pT] X.env = (false, eval (.Name cx pT) X.env) :: starEach [] X.env := by rfl) (hpl : (backTo pos (starEach [.Name cx pT] X.env)).any (·.1) = false := by rfl) :
    PE X (.Call (.Name "isinstance" p) [a, .Name cx pT] [] pos) (tD Z (dIsCls da q)) :=
  pe_of (pe_callB call_isi hg hm (by decide +kernel) (pa_cons ha (pa_cons (pe_glob (v := .ref (Z.ca q)) hgc hmc rfl hdc) pa_nil he2) he) (he := he) (hpl := hpl)) fun σ H Q w =>
    one (f := fun x h k => insAt x h fun _ c _ => match Nat.blt c 7 with | true => onB (Nat.beq c q) h k | false => false) (r := fun v H Q => rIsi X.K [v, .ref (Z.ca q)] H Q) (fun ρ h H x v k Q e R rx q' => by
      obtain ⟨i, c, fs, dx, xs, hi, ex, ev, ho, rf, e2⟩ := R.ins rx e
      obtain ⟨hc, e3⟩ := ltb (P := fun b : Bool => b = true) e2 Bool.false_ne_true
      exact ⟨v, .ref (Z.ca q), _, _, _, rfl, .own _, .base (by rw [ev]; exact .ins ho (C.cl c hc) (C.h1 c hc) C.h2 C.h3 (C.h4 c hc)), C.kit c q hc hq, q'.now (w := .bl (Nat.beq c q)) R rfl (onB_eq e3)⟩) w
/-- list or tuple -/
theorem eIsLT {p1 p2 pt : Pos} {kt} (hg : Gl X "isinstance") (hm : X.mg "isinstance" = none) (ha : PE X a (tD Z da)) (hgl : Gl X "list") (hml : X.mg "list" = none) (hgt : Gl X "tuple") (hmt : X.mg "tuple" = none) (he : starEach [a, .Tuple [.Name "list" p1, .Name "tuple" p2] kt pt] X.env = (false, eval a X.env) :: starEach [.Tuple [.Name "list" p1, .Name "tuple" p2] kt pt] X.env := by rfl)
    (he2 : starEach [.Tuple [.Name "list" p1, .Name "tuple" p2] kt pt] X.env = (false, eval (.Tuple [.Name "list" p1, .Name "tuple" p2] kt pt) X.env) :: starEach [] X.env := by rfl) (he3 : starEach [.Name "list" p1, .Name "tuple" p2] X.env = (false, eval (.Name "list" p1) X.env) :: starEach [.Name "tuple" p2] X.env := by rfl)
    (he4 : starEach [.Name "tuple" p2] X.env = (false, eval (.Name "tuple" p2) X.env) :: starEach [] X.env := by rfl)
    (hpl : (backTo pos (starEach [.Tuple [.Name "list" p1, .Name "tuple" p2] kt pt] X.env)).any (·.1) = false := by rfl) :
    PE X (.Call (.Name "isinstance" p) [a, .Tuple [.Name "list" p1, .Name "tuple" p2] kt pt] [] pos) (tD Z (dIsLT da)) :=
  pe_of (pe_callB call_isiT hg hm (by decide +kernel) (pa_cons ha (pa_cons (pe_tup (pa_cons (pe_bltn (v := .ty "list") hgl hml (by decide +kernel) rfl) (pa_cons (pe_bltn (v := .ty "tuple") hgt hmt (by decide +kernel) rfl) pa_nil he4) he3)) pa_nil he2) he) (he := he) (hpl := hpl)) fun σ H Q w =>
    one (f := isLTW) (r := fun v H Q => (2 : Nat) ≤ sizeLine ∧ ∀ p, H p = none → rIsiT X.K [v, .ref p] (upd H p (.tup [.ty "list", .ty "tuple"])) Q) (fun ρ h H x v k Q e R rx q' => ⟨by decide, fun p hp => by
      obtain ⟨R', X'⟩ := R.tup (xs := [.ty "list", .ty "tuple"]) hp
      have rx' := X'.rw rx
      have cs : Paired ClsV [.ty "list", .ty "tuple"] [.type "list", .type "tuple"] := .cons (.ty _) (.cons (.ty _) .nil)
      have two : ∀ {t : String} {b1 b2 : Bool}, kitB t "list" = some b1 → kitB t "tuple" = some b2 → PySem.W.kitAny X.K (.type t) [.type "list", .type "tuple"] = some (b1 || b2) := fun h1 h2 =>
        kitAny_cons (kit_ty h1) (fun e1 => by rw [e1, Bool.false_or]; exact kitAny_cons (kit_ty h2) (fun e2 => by rw [e2]; rfl) fun e2 => e2) fun e1 => by rw [e1, Bool.true_or]
      have fin : ∀ {t : String} {b1 b2 : Bool}, TyX X.K (upd H p (.tup [.ty "list", .ty "tuple"])) v (.type t) → kitB t "list" = some b1 → kitB t "tuple" = some b2 → k (.bl (b1 || b2)) h = true → rIsiT X.K [v, .ref p] (upd H p (.tup [.ty "list", .ty "tuple"])) Q := fun ty h1 h2 e =>
        ⟨v, p, _, _, _, _, rfl, upd_same, cs, ty, two h1 h2, q' ρ h _ (.bl _) (.bl _) e X' R' rfl⟩
      have t := fun hf => tyW_flat (K := X.K) rx' hf
      cases x with
      | non => exact fin (t rfl) (b1 := false) (b2 := false) (by decide +kernel) (by decide +kernel) e
      | bl b => exact fin (t := "bool") (t rfl) (b1 := false) (b2 := false) (by decide +kernel) (by decide +kernel) e
      | int b => exact fin (t := "int") (t rfl) (b1 := false) (b2 := false) (by decide +kernel) (by decide +kernel) e
      | sp => exact fin (t rfl) (b1 := false) (b2 := false) (by decide +kernel) (by decide +kernel) e
      | so => exact fin (t rfl) (b1 := false) (b2 := false) (by decide +kernel) (by decide +kernel) e
      | tn => exact fin (t rfl) (b1 := false) (b2 := true) (by decide +kernel) (by decide +kernel) e
      | tc _ _ => exact fin (t := "tuple") (t rfl) (b1 := false) (b2 := true) (by decide +kernel) (by decide +kernel) e
      | ref n =>
        obtain ⟨t, e⟩ := tyW_ref (K := X.K) R' rx' e
        exact fin t (b1 := true) (b2 := false) (by decide +kernel) (by decide +kernel) e
      | _ => cases e⟩) w
end
end
end
end G
/-! K15: sorted, max. -/
namespace G
open PySem L2
/-! ### kinds -/
theorem shLs_ok {f : W → Bool} : ∀ {q : W}, shK.shLs f q = true → Pr q → IsLl q ∧ ∃ l : List W, dat q = .list (l.map dat) ∧ ∀ d ∈ l, f d = true ∧ Pr d
  | .ln, e, p => ⟨trivial, [], rfl, fun d hd => nomatch hd⟩
  | .lc c d, e, p => by
    have e' : (match f c with | true => shK.shLs f d | false => false) = true := e
    cases z : f c with
    | false => rw [z] at e'; cases e'
    | true =>
      rw [z] at e'
      obtain ⟨h1, l, h2, h3⟩ := shLs_ok e' p.2.1
      refine ⟨trivial, c :: l, dat_lc h2, fun x hx => ?_⟩
      rcases List.mem_cons.mp hx with y | y
      · rw [y]; exact ⟨z, p.1⟩
      · exact h3 x y
theorem alike_lists : ∀ (l m : List PyData), (∀ x ∈ l, ∀ y ∈ m, PySem.W.alike x y = true) → PySem.W.alikeAll l m = true
  | [], m, _ => by simp [PySem.W.alikeAll]
  | _ :: _, [], _ => by simp [PySem.W.alikeAll]
  | x :: l, y :: m, h => by
    rw [PySem.W.alikeAll, h x List.mem_cons_self y List.mem_cons_self, alike_lists l m fun a ha b hb => h a (List.mem_cons_of_mem _ ha) b (List.mem_cons_of_mem _ hb)]
    rfl
theorem shK_alike : ∀ (t p q : W), Pr p → Pr q → shK t p = true → shK t q = true → PySem.W.alike (dat p) (dat q) = true
  | .int _, p, q, _, _, e1, e2 => by
    cases p with
    | int _ => cases q with
      | int _ => rfl
      | _ => cases e2
    | _ => cases e1
  | .tn, p, q, _, _, e1, e2 => by
    cases p with
    | tn => cases q with
      | tn => rfl
      | _ => cases e2
    | _ => cases e1
  | .tc a b, p, q, hp, hq, e1, e2 => by
    cases p with
    | tc c d =>
      cases q with
      | tc c' d' =>
        have e1' : (match shK a c with | true => shK b d | false => false) = true := e1
        have e2' : (match shK a c' with | true => shK b d' | false => false) = true := e2
        cases z1 : shK a c with
        | false => rw [z1] at e1'; cases e1'
        | true =>
          cases z2 : shK a c' with
          | false => rw [z2] at e2'; cases e2'
          | true =>
            rw [z1] at e1'; rw [z2] at e2'
            obtain ⟨l, el⟩ := tl_dat hp.2.1 hp.2.2
            obtain ⟨l', el'⟩ := tl_dat hq.2.1 hq.2.2
            have h1 := shK_alike a c c' hp.1 hq.1 z1 z2
            have h2 := shK_alike b d d' hp.2.1 hq.2.1 e1' e2'
            rw [el, el'] at h2
            rw [dat_tc el, dat_tc el']
            rw [PySem.W.alike] at h2 ⊢
            rw [PySem.W.alikeAll, h1, h2]
            rfl
      | _ => cases e2
    | _ => cases e1
  | .lc a b, p, q, hp, hq, e1, e2 => by
    obtain ⟨_, l, h1, h2⟩ := shLs_ok (show shK.shLs (shK a) p = true from e1) hp
    obtain ⟨_, m, h3, h4⟩ := shLs_ok (show shK.shLs (shK a) q = true from e2) hq
    rw [h1, h3, PySem.W.alike]
    refine alike_lists _ _ fun x hx y hy => ?_
    obtain ⟨d, hd, rfl⟩ := List.mem_map.mp hx
    obtain ⟨d', hd', rfl⟩ := List.mem_map.mp hy
    exact shK_alike a d d' (h2 d hd).2 (h4 d' hd').2 (h2 d hd).1 (h4 d' hd').1
  | .und, _, _, _, _, e, _ => by cases e
  | .non, _, _, _, _, e, _ => by cases e
  | .bl _, _, _, _, _, e, _ => by cases e
  | .sp, _, _, _, _, e, _ => by cases e
  | .so, _, _, _, _, e, _ => by cases e
  | .ref _, _, _, _, _, e, _ => by cases e
  | .ln, _, _, _, _, e, _ => by cases e
  | .rep _, _, _, _, _, e, _ => by cases e
theorem shAll_ok {t : W} : ∀ {l : List W}, shAll t l = true → ∀ x ∈ l, shK t x = true
  | [], _, _, h => nomatch h
  | y :: l, e, x, h => by
    have e' : (match shK t y with | true => shAll t l | false => false) = true := e
    cases z : shK t y with
    | false => rw [z] at e'; cases e'
    | true =>
      rw [z] at e'
      rcases List.mem_cons.mp h with q | q
      · rw [q]; exact z
      · exact shAll_ok e' x q
/-- alike: what is below -/
theorem ltNil1 (x : PyData) (xs : List PyData) : PyProof.Rows.lexLt PyProof.Rows.itemOrd (PySem.W.keyToksAll []) (PySem.W.keyToksAll (x :: xs)) = true := by
  rw [PySem.W.keyToksAll, PySem.W.keyToksAll, PyProof.Rows.lex_cons]; rfl
theorem ltNil2 (x : PyData) (xs : List PyData) : PyProof.Rows.lexLt PyProof.Rows.itemOrd (PySem.W.keyToksAll (x :: xs)) (PySem.W.keyToksAll []) = false := by
  rw [PySem.W.keyToksAll, PySem.W.keyToksAll, PyProof.Rows.lex_cons]; rfl
theorem tc_lt {a b c d : W} {l m : List PyData} {k : Bool → Bool} (pa : Pr a) (pc : Pr c) (hl : PySem.W.alikeAll (dat a :: l) (dat c :: m) = true)
    (i1 : ∀ k, ltK a c k = true → k (PySem.W.dataLt (dat a) (dat c)) = true) (i2 : ∀ k, ltK b d k = true → k (PyProof.Rows.lexLt PyProof.Rows.itemOrd (PySem.W.keyToksAll l) (PySem.W.keyToksAll m)) = true)
    (e : (eqK a c fun e => (match e with | true => ltK b d k | false => ltK a c k)) = true) : k (PyProof.Rows.lexLt PyProof.Rows.itemOrd (PySem.W.keyToksAll (dat a :: l)) (PySem.W.keyToksAll (dat c :: m))) = true := by
  have h1 := (PySem.W.alike_all_cons hl).1
  have z := eqK_ok a c _ pa pc e
  cases q : PyData.eqv (dat a) (dat c) with
  | true => rw [q] at z; rw [PySem.W.dataLt_all_yes h1 q]; exact i2 k z
  | false => rw [q] at z; rw [PySem.W.dataLt_all_no h1 q]; exact i1 k z
theorem ltK_ok : ∀ (x y : W) (k : Bool → Bool), Pr x → Pr y → PySem.W.alike (dat x) (dat y) = true → ltK x y k = true → k (PySem.W.dataLt (dat x) (dat y)) = true
  | .int i, y, k, _, _, _, e => by
    cases y with
    | int j =>
      show k (PySem.W.dataLt (.int i) (.int j)) = true
      rw [PySem.W.dataLt_int]
      have e' : (match decide (i < j) with | true => k true | false => k false) = true := e
      cases z : decide (i < j) <;> rw [z] at e' <;> exact e'
    | _ => cases e
  | .tn, y, k, _, py, _, e => by
    cases y with
    | tn =>
      show k (PySem.W.dataLt (.tuple []) (.tuple [])) = true
      rw [PySem.W.dataLt_tuple, PyProof.Rows.lex_irrefl]; exact e
    | tc a b =>
      obtain ⟨l, el⟩ := tl_dat py.2.1 py.2.2
      rw [dat_tc el]
      show k (PySem.W.dataLt (.tuple []) (.tuple _)) = true
      rw [PySem.W.dataLt_tuple, ltNil1]; exact e
    | _ => cases e
  | .ln, y, k, _, py, _, e => by
    cases y with
    | ln =>
      show k (PySem.W.dataLt (.list []) (.list [])) = true
      rw [PySem.W.dataLt_list, PyProof.Rows.lex_irrefl]; exact e
    | lc a b =>
      obtain ⟨l, el⟩ := ll_dat py.2.1 py.2.2
      rw [dat_lc el]
      show k (PySem.W.dataLt (.list []) (.list _)) = true
      rw [PySem.W.dataLt_list, ltNil1]; exact e
    | _ => cases e
  | .tc a b, y, k, px, py, al, e => by
    obtain ⟨l, el⟩ := tl_dat px.2.1 px.2.2
    rw [dat_tc el] at al ⊢
    cases y with
    | tn =>
      show k (PySem.W.dataLt (.tuple _) (.tuple [])) = true
      rw [PySem.W.dataLt_tuple, ltNil2]; exact e
    | tc c d =>
      obtain ⟨m, em⟩ := tl_dat py.2.1 py.2.2
      rw [dat_tc em] at al ⊢
      have al : PySem.W.alikeAll (dat a :: l) (dat c :: m) = true := by rw [PySem.W.alike] at al; exact al
      rw [PySem.W.dataLt_tuple]
      refine tc_lt (b := b) (d := d) px.1 py.1 al (fun k z => ltK_ok a c k px.1 py.1 (PySem.W.alike_all_cons al).1 z) (fun k z => ?_) e
      have := ltK_ok b d k px.2.1 py.2.1 (by rw [el, em, PySem.W.alike]; exact (PySem.W.alike_all_cons al).2) z
      rw [el, em, PySem.W.dataLt_tuple] at this
      exact this
    | _ => cases e
  | .lc a b, y, k, px, py, al, e => by
    obtain ⟨l, el⟩ := ll_dat px.2.1 px.2.2
    rw [dat_lc el] at al ⊢
    cases y with
    | ln =>
      show k (PySem.W.dataLt (.list _) (.list [])) = true
      rw [PySem.W.dataLt_list, ltNil2]; exact e
    | lc c d =>
      obtain ⟨m, em⟩ := ll_dat py.2.1 py.2.2
      rw [dat_lc em] at al ⊢
      have al : PySem.W.alikeAll (dat a :: l) (dat c :: m) = true := by rw [PySem.W.alike] at al; exact al
      rw [PySem.W.dataLt_list]
      refine tc_lt (b := b) (d := d) px.1 py.1 al (fun k z => ltK_ok a c k px.1 py.1 (PySem.W.alike_all_cons al).1 z) (fun k z => ?_) e
      have := ltK_ok b d k px.2.1 py.2.1 (by rw [el, em, PySem.W.alike]; exact (PySem.W.alike_all_cons al).2) z
      rw [el, em, PySem.W.dataLt_list] at this
      exact this
    | _ => cases e
  | .und, _, _, _, _, _, e => by cases e
  | .non, _, _, _, _, _, e => by cases e
  | .bl _, _, _, _, _, _, e => by cases e
  | .sp, _, _, _, _, _, e => by cases e
  | .so, _, _, _, _, _, e => by cases e
  | .ref _, _, _, _, _, _, e => by cases e
  | .rep _, _, _, _, _, _, e => by cases e
end G
/-! K16: sorted, max: the rules. -/
namespace G
noncomputable section
open PySem L2
abbrev Tri := (W × W) × V
abbrev encT (t : Tri) : PyData := dat t.1.1
theorem lt_trans' {x y z : PyData} (h1 : PySem.W.dataLt x y = true) (h2 : PySem.W.dataLt y z = true) : PySem.W.dataLt x z = true := PyProof.Rows.lex_trans _ _ _ h1 h2
theorem lt_asym {x y : PyData} (h1 : PySem.W.dataLt x y = true) : PySem.W.dataLt y x = false := by
  cases z : PySem.W.dataLt y x with
  | false => rfl
  | true =>
    have := lt_trans' h1 z
    rw [show PySem.W.dataLt x x = false from PyProof.Rows.lex_irrefl _] at this
    cases this
/-- the inserted, in order -/
theorem insK_ok {t : Tri} : ∀ (ts : List Tri) (k : List (W × W) → Bool), (∀ u ∈ t :: ts, Pr u.1.1) → (∀ u ∈ t :: ts, ∀ v ∈ t :: ts, PySem.W.alike (encT u) (encT v) = true) → insK t.1 (ts.map (·.1)) k = true →
    ts.Pairwise (fun x y => PySem.W.dataLt (encT x) (encT y) = true) → ∃ us : List Tri, k (us.map (·.1)) = true ∧ us.Perm (t :: ts) ∧ us.Pairwise fun x y => PySem.W.dataLt (encT x) (encT y) = true
  | [], k, _, _, e, _ => ⟨[t], e, .refl _, List.pairwise_singleton ..⟩
  | y :: ys, k, hp, ha, e, hs => by
    have e' : (ltK t.1.1 y.1.1 fun e => (match e with
      | true => k (t.1 :: y.1 :: ys.map (·.1))
      | false => ltK y.1.1 t.1.1 fun e' => (match e' with
        | true => insK t.1 (ys.map (·.1)) fun zs => k (y.1 :: zs)
        | false => false))) = true := e
    have mt : t ∈ t :: y :: ys := List.mem_cons_self
    have my : y ∈ t :: y :: ys := List.mem_cons_of_mem _ List.mem_cons_self
    have z := ltK_ok _ _ _ (hp t mt) (hp y my) (ha t mt y my) e'
    have hs' := List.pairwise_cons.mp hs
    cases q : PySem.W.dataLt (dat t.1.1) (dat y.1.1) with
    | true =>
      rw [q] at z
      refine ⟨t :: y :: ys, z, .refl _, List.pairwise_cons.mpr ⟨fun u hu => ?_, hs⟩⟩
      rcases List.mem_cons.mp hu with h | h
      · rw [h]; exact q
      · exact lt_trans' q (hs'.1 u h)
    | false =>
      rw [q] at z
      have z2 := ltK_ok _ _ _ (hp y my) (hp t mt) (ha y my t mt) z
      cases q2 : PySem.W.dataLt (dat y.1.1) (dat t.1.1) with
      | false => rw [q2] at z2; cases z2
      | true =>
        rw [q2] at z2
        have sub : ∀ u, u ∈ t :: ys → u ∈ t :: y :: ys := fun u hu => by
          rcases List.mem_cons.mp hu with h | h
          · rw [h]; exact mt
          · exact List.mem_cons_of_mem _ (List.mem_cons_of_mem _ h)
        obtain ⟨us, e3, p3, s3⟩ := insK_ok ys _ (fun u hu => hp u (sub u hu)) (fun u hu v hv => ha u (sub u hu) v (sub v hv)) z2 hs'.2
        refine ⟨y :: us, e3, (p3.cons y).trans (List.Perm.swap ..), List.pairwise_cons.mpr ⟨fun u hu => ?_, s3⟩⟩
        rcases List.mem_cons.mp (p3.mem_iff.mp hu) with h | h
        · rw [h]; exact q2
        · exact hs'.1 u h
theorem srtK_ok : ∀ (ts : List Tri) (k : List (W × W) → Bool), (∀ u ∈ ts, Pr u.1.1) → (∀ u ∈ ts, ∀ v ∈ ts, PySem.W.alike (encT u) (encT v) = true) → srtK (ts.map (·.1)) k = true →
    ∃ us : List Tri, k (us.map (·.1)) = true ∧ us.Perm ts ∧ us.Pairwise fun x y => PySem.W.dataLt (encT x) (encT y) = true
  | [], k, _, _, e => ⟨[], e, .refl _, .nil⟩
  | t :: ts, k, hp, ha, e => by
    obtain ⟨us, e1, p1, s1⟩ := srtK_ok ts (fun ys => insK t.1 ys k) (fun u hu => hp u (List.mem_cons_of_mem _ hu)) (fun u hu v hv => ha u (List.mem_cons_of_mem _ hu) v (List.mem_cons_of_mem _ hv)) e
    have sub : ∀ u, u ∈ t :: us → u ∈ t :: ts := fun u hu => ((p1.cons t).mem_iff).mp hu
    obtain ⟨vs, e2, p2, s2⟩ := insK_ok us k (fun u hu => hp u (sub u hu)) (fun u hu v hv => ha u (sub u hu) v (sub v hv)) e1 s1
    exact ⟨vs, e2, p2.trans (p1.cons t), s2⟩
/-- strictly ordered: the sorted list -/
theorem sort_is {ts bs : List Tri} (hp : ts.Perm bs) (hs : ts.Pairwise fun x y => PySem.W.dataLt (encT x) (encT y) = true) : bs.mergeSort (PySem.W.dataLe false encT) = ts := by
  have T : PySem.W.TotalLe (PySem.W.dataLe false encT) := PySem.W.sortLe_total _ _ _
  have le_of : ∀ {x y : Tri}, PySem.W.dataLt (encT x) (encT y) = true → PySem.W.dataLe false encT x y = true := fun {x y} h => by
    rw [PySem.W.dataLe_eq]
    show (!PySem.W.dataLt (encT y) (encT x)) = true
    rw [lt_asym h]; rfl
  have cmp : ∀ l : List Tri, l.Pairwise (fun x y => PySem.W.dataLt (encT x) (encT y) = true) → ∀ a ∈ l, ∀ b ∈ l, a = b ∨ PySem.W.dataLt (encT a) (encT b) = true ∨ PySem.W.dataLt (encT b) (encT a) = true := by
    intro l
    induction l with
    | nil => exact fun _ _ h => nomatch h
    | cons x l ih =>
      intro h a ha b hb
      have h' := List.pairwise_cons.mp h
      rcases List.mem_cons.mp ha with h1 | h1 <;> rcases List.mem_cons.mp hb with h2 | h2
      · exact .inl (h1.trans h2.symm)
      · subst h1; exact .inr (.inl (h'.1 b h2))
      · subst h2; exact .inr (.inr (h'.1 a h1))
      · exact ih h'.2 a h1 b h2
  refine List.Perm.eq_of_pairwise (le := fun a b => PySem.W.dataLe false encT a b = true) (fun a b ha hb h1 h2 => ?_) (PySem.W.sort_pairwise T bs) (hs.imp le_of) ((List.mergeSort_perm _ _).trans hp.symm)
  have ma : a ∈ ts := hp.mem_iff.mpr ((List.mergeSort_perm _ _).mem_iff.mp ha)
  rw [PySem.W.dataLe_eq] at h1 h2
  have h1 : (!PySem.W.dataLt (encT b) (encT a)) = true := h1
  have h2 : (!PySem.W.dataLt (encT a) (encT b)) = true := h2
  rcases cmp ts hs a ma b hb with z | z | z
  · exact z
  · rw [z] at h2; cases h2
  · rw [z] at h1; cases h1
theorem each_vals : ∀ {bs : List Tri} {its : List Value}, Vals (bs.map (·.2)) its → PySem.W.EachIs (fun v (b : Tri) => RelV b.2 v) its bs
  | [], _, h => by cases h; exact .nil
  | b :: bs, _, h => by
    cases h with
    | cons h1 h2 => exact .cons h1 (each_vals h2)
theorem vals_each : ∀ {bs : List Tri} {its : List Value}, PySem.W.EachIs (fun v (b : Tri) => RelV b.2 v) its bs → Vals (bs.map (·.2)) its
  | [], _, h => by cases h; exact .nil
  | b :: bs, _, h => by
    cases h with
    | cons h1 h2 => exact .cons h1 (vals_each h2)
def rSortedD (K : PySem.W.Frag) : List V → Hp → VK → Prop := fun vs H Q => ∃ (a : Addr) (bs ts : List Tri), vs = [V.ref a] ∧ SqL K H a (bs.map (·.2)) ∧ (∀ t ∈ bs, Dp K H t.2 (encT t) ∧ (encT t).depth ≤ 40) ∧ PySem.W.AllAlike (bs.map encT) ∧ PySem.W.Sortable (bs.map encT) ∧ ts.Perm bs ∧
  ts.Pairwise (fun x y => PySem.W.dataLt (encT x) (encT y) = true) ∧ ∀ p, H p = none → Q (.ref p) (upd H p (.lst (ts.map (·.2))))
section
variable {X : Cx}
theorem cr_sortedD (hu : X.A.units + 65 < cLine) : CallR X (.builtin "sorted") (rSortedD X.K) := by
  intro pins s σ H vs us Q I r h
  obtain ⟨a, bs, ts, rfl, hs, hd, hal, hso, hp, hpw, q⟩ := h
  obtain ⟨its, rv, hl, hz⟩ := I.list hs
  rw [Vals.ref1 r]
  have e := each_vals rv
  have er : PySem.W.EachIs (fun v (b : Tri) => ∃ as, Reads s.heap v (encT b) as) its bs := by
    clear hal hso hp hpw q hz hs hl
    revert its
    induction bs with
    | nil => intro its rv e; cases e; exact .nil
    | cons b bs ih =>
      intro its rv e
      cases e with
      | cons h1 h2 => exact .cons (Dp.reads I _ _ _ (hd b List.mem_cons_self).1 h1) (ih (fun t ht => hd t (List.mem_cons_of_mem _ ht)) _ (by cases rv with | cons _ z => exact z) h2)
  refine PySem.W.sorted_data hl.isList e er hal hso (by rw [List.length_map] at hz; exact hz) (fun b hb => by have := (hd b hb).2; omega) fun out h1 h2 => ?_
  rw [sort_is hp hpw] at h2
  obtain ⟨ep, he'⟩ := PyProof.Rows.sortedAll_at s.heap its out.toArray
  have hlen : (ts.map (·.2)).length ≤ sizeLine := by
    rw [List.length_map, hp.length_eq]
    rw [List.length_map] at hz
    exact hz
  exact ⟨.ref _, upd H (s.heap.objs.size + 1) (.lst (ts.map (·.2))), I.laid (t' := s.toks) (fun _ _ => PyProof.Rows.sortedAll_old) (Nat.le_succ _) ⟨hlen, out, ep, vals_each h2, he'⟩, rfl, q _ (I.hok.fresh (Nat.le_succ _))⟩
end
section
variable {X : Cx} {Z : Par} {pos p : Pos} {a b : Expr} {da db : D}
/-- what is read, with its values -/
theorem tris_of {K : PySem.W.Frag} {ρ : Nat → Addr} {N : Nat} {H : Hp} : ∀ {ps : List (W × W)} {xs : List V}, Gs K H 40 xs ps → RL ρ N H (sndL ps) xs → ∃ bs : List Tri, bs.map (·.1) = ps ∧ bs.map (·.2) = xs ∧ (∀ t ∈ bs, Dp K H t.2 (encT t) ∧ (encT t).depth ≤ 40 ∧ Pr t.1.1 ∧ RW ρ N H t.1.2 t.2)
  | [], xs, g, _ => by cases g; exact ⟨[], rfl, rfl, fun _ h => nomatch h⟩
  | p :: ps, _, ⟨x, r, ex, g1, g2⟩, h => by
    subst ex
    obtain ⟨x', r', e2, h1, h2⟩ := h
    cases e2
    obtain ⟨bs, q1, q2, q3⟩ := tris_of g2 h2
    refine ⟨(p, x) :: bs, by rw [← q1]; rfl, by rw [← q2]; rfl, fun t ht => ?_⟩
    rcases List.mem_cons.mp ht with z | z
    · rw [z]; exact ⟨g1.dp, g1.dep, g1.pr, h1⟩
    · exact q3 t z
theorem tris_RL {ρ : Nat → Addr} {N : Nat} {H : Hp} : ∀ {ts : List Tri}, (∀ t ∈ ts, RW ρ N H t.1.2 t.2) → RL ρ N H (sndL (ts.map (·.1))) (ts.map (·.2))
  | [], _ => rfl
  | t :: ts, h => ⟨t.2, _, rfl, h t List.mem_cons_self, tris_RL fun u hu => h u (List.mem_cons_of_mem _ hu)⟩
theorem shK_sort {t d : W} (p : Pr d) (e : shK t d = true) : (∃ a b, t = .tc a b) ∧ (∃ x r, dat d = .tuple (x :: r)) ∨ (∀ a b, t ≠ .tc a b) ∧ (t = .tn ∨ dat d ≠ .none ∧ ∀ xs, dat d ≠ .tuple xs) := by
  cases t with
  | tc a b => cases d with
    | tc c d =>
      obtain ⟨l, el⟩ := tl_dat p.2.1 p.2.2
      exact .inl ⟨⟨a, b, rfl⟩, _, _, dat_tc el⟩
    | _ => cases e
  | int i => cases d with
    | int j => exact .inr ⟨(by intro _ _ z; cases z), .inr ⟨(by intro z; cases z), by intro _ z; cases z⟩⟩
    | _ => cases e
  | tn => exact .inr ⟨(by intro _ _ z; cases z), .inl rfl⟩
  | lc a b =>
    obtain ⟨_, l, h1, h2⟩ := shLs_ok (show shK.shLs (shK a) d = true from e) p
    exact .inr ⟨(by intro _ _ z; cases z), .inr ⟨(by intro z; rw [h1] at z; cases z), by intro _ z; rw [h1] at z; cases z⟩⟩
  | _ => cases e
/-- sorted(xs) -/
theorem eSorted (hZ : Z.K = X.K) (hu : X.A.units + 65 < cLine) (hg : Gl X "sorted") (hm : X.mg "sorted" = none) (hv : bootBuiltins "sorted" = some (.builtin "sorted") := by decide +kernel) (ha : PE X a (tD Z da)) (he : starEach [a] X.env = (false, eval a X.env) :: starEach [] X.env := by rfl) (hpl : (backTo pos (starEach [] X.env)).any (·.1) = false := by rfl) :
    PE X (.Call (.Name "sorted" p) [a] [] pos) (tD Z (dSorted da)) :=
  pe_of (pe_callB (cr_sortedD hu) hg hm hv (pa_cons ha pa_nil he) (he := he) (hpl := hpl)) fun σ H Q w => bone (r := rSortedD X.K) (f := fun x h k => lstAt x h fun _ l => rds h l fun ps => srtS ps fun qs => newL (sndL qs) h k) (fun ρ h H x v k Q e R rx q => by
    obtain ⟨i, l, xs, hi, ex, ev, ho, rl, hl, e1⟩ := R.lst rx e
    obtain ⟨ps, e2, g, el⟩ := rds_ok R l xs _ e1 rl
    rw [hZ] at g
    obtain ⟨bs, b1, b2, b3⟩ := tris_of g (by rw [el]; exact rl)
    subst b1
    have fin : (∃ ts : List Tri, newL (sndL (ts.map (·.1))) h k = true ∧ ts.Perm bs ∧ ts.Pairwise fun x y => PySem.W.dataLt (encT x) (encT y) = true) → PySem.W.AllAlike (bs.map encT) → PySem.W.Sortable (bs.map encT) → rSortedD X.K [v] H Q := fun ⟨ts, e3, p3, s3⟩ hal hso => by
      obtain ⟨_, n⟩ := newL_ok R (tris_RL fun t ht => (b3 t (p3.mem_iff.mp ht)).2.2.2) e3 q
      exact ⟨ρ i, bs, ts, by rw [ev], by rw [b2]; exact SqL.of ho, fun t ht => ⟨(b3 t ht).1, (b3 t ht).2.1⟩, hal, hso, p3, s3, n⟩
    cases bs with
    | nil => exact fin ⟨[], e2, .refl _, .nil⟩ (fun _ h => nomatch h) (.inl fun _ h => nomatch h)
    | cons t bs =>
      have e2' : (match shAll t.1.1 (t.1.1 :: fstL (bs.map (·.1))) with
        | true => (match t.1.1 with | .tn => false | _ => srtK ((t :: bs).map (·.1)) fun qs => newL (sndL qs) h k)
        | false => false) = true := e2
      cases z : shAll t.1.1 (t.1.1 :: fstL (bs.map (·.1))) with
      | false => rw [z] at e2'; cases e2'
      | true =>
        rw [z] at e2'
        have hsh : ∀ u ∈ t :: bs, shK t.1.1 u.1.1 = true := by
          have fm : ∀ l : List Tri, fstL (l.map (·.1)) = l.map fun u => u.1.1 := by
            intro l
            induction l with
            | nil => rfl
            | cons x l ih => show x.1.1 :: fstL (l.map (·.1)) = _; rw [ih]; rfl
          intro u hu
          refine shAll_ok z _ ?_
          rw [fm]
          exact List.mem_map.mpr (show ∃ a, a ∈ t :: bs ∧ (fun u : Tri => u.1.1) a = u.1.1 from ⟨u, hu, rfl⟩)
        have hnt : t.1.1 ≠ .tn ∧ (srtK ((t :: bs).map (·.1)) fun qs => newL (sndL qs) h k) = true := by
          refine ⟨(by intro y; rw [y] at e2'; cases e2'), ?_⟩
          revert e2'
          cases t.1.1 <;> intro e2' <;> first | exact e2' | cases e2'
        have hal : ∀ u ∈ t :: bs, ∀ v ∈ t :: bs, PySem.W.alike (encT u) (encT v) = true := fun u hu v hv => shK_alike _ _ _ (b3 u hu).2.2.1 (b3 v hv).2.2.1 (hsh u hu) (hsh v hv)
        refine fin (srtK_ok (t :: bs) _ (fun u hu => (b3 u hu).2.2.1) hal hnt.2) (fun d hd d' hd' => ?_) ?_
        · obtain ⟨u, hu, rfl⟩ := List.mem_map.mp hd
          obtain ⟨v, hv, rfl⟩ := List.mem_map.mp hd'
          exact hal u hu v hv
        · rcases shK_sort (b3 t List.mem_cons_self).2.2.1 (hsh t List.mem_cons_self) with ⟨⟨c, d, htc⟩, _⟩ | ⟨htc, _⟩
          · refine .inl fun d hd => ?_
            obtain ⟨u, hu, rfl⟩ := List.mem_map.mp hd
            rcases shK_sort (b3 u hu).2.2.1 (hsh u hu) with ⟨_, y⟩ | ⟨y, _⟩
            · exact y
            · exact absurd htc (y _ _)
          · refine .inr fun d hd => ?_
            obtain ⟨u, hu, rfl⟩ := List.mem_map.mp hd
            rcases shK_sort (b3 u hu).2.2.1 (hsh u hu) with ⟨⟨c, d, y⟩, _⟩ | ⟨_, y⟩
            · exact absurd y (htc _ _)
            · rcases y with y | y
              · exact absurd y hnt.1
              · exact y) w
end
end
end G
/-! K17: max over data. -/
namespace G
noncomputable section
open PySem L2
theorem dat_inj : ∀ (p q : W), Pr p → Pr q → dat p = dat q → p = q
  | .non, q, _, hq, e => by
    cases q with
    | non => rfl
    | tc a b => obtain ⟨l, el⟩ := tl_dat hq.2.1 hq.2.2; rw [dat_tc el] at e; cases e
    | lc a b => obtain ⟨l, el⟩ := ll_dat hq.2.1 hq.2.2; rw [dat_lc el] at e; cases e
    | und => exact hq.elim
    | ref _ => exact hq.elim
    | rep _ => exact hq.elim
    | _ => cases e
  | .bl x, q, _, hq, e => by
    cases q with
    | bl y => cases e; rfl
    | tc a b => obtain ⟨l, el⟩ := tl_dat hq.2.1 hq.2.2; rw [dat_tc el] at e; cases e
    | lc a b => obtain ⟨l, el⟩ := ll_dat hq.2.1 hq.2.2; rw [dat_lc el] at e; cases e
    | und => exact hq.elim
    | ref _ => exact hq.elim
    | rep _ => exact hq.elim
    | _ => cases e
  | .int x, q, _, hq, e => by
    cases q with
    | int y => cases e; rfl
    | tc a b => obtain ⟨l, el⟩ := tl_dat hq.2.1 hq.2.2; rw [dat_tc el] at e; cases e
    | lc a b => obtain ⟨l, el⟩ := ll_dat hq.2.1 hq.2.2; rw [dat_lc el] at e; cases e
    | und => exact hq.elim
    | ref _ => exact hq.elim
    | rep _ => exact hq.elim
    | _ => cases e
  | .sp, q, _, hq, e => by
    cases q with
    | sp => rfl
    | so => exact absurd (show ("part" : Str) = "out" from by injection e) (by decide)
    | tc a b => obtain ⟨l, el⟩ := tl_dat hq.2.1 hq.2.2; rw [dat_tc el] at e; cases e
    | lc a b => obtain ⟨l, el⟩ := ll_dat hq.2.1 hq.2.2; rw [dat_lc el] at e; cases e
    | und => exact hq.elim
    | ref _ => exact hq.elim
    | rep _ => exact hq.elim
    | _ => cases e
  | .so, q, _, hq, e => by
    cases q with
    | so => rfl
    | sp => exact absurd (show ("out" : Str) = "part" from by injection e) (by decide)
    | tc a b => obtain ⟨l, el⟩ := tl_dat hq.2.1 hq.2.2; rw [dat_tc el] at e; cases e
    | lc a b => obtain ⟨l, el⟩ := ll_dat hq.2.1 hq.2.2; rw [dat_lc el] at e; cases e
    | und => exact hq.elim
    | ref _ => exact hq.elim
    | rep _ => exact hq.elim
    | _ => cases e
  | .tn, q, _, hq, e => by
    cases q with
    | tn => rfl
    | tc a b => obtain ⟨l, el⟩ := tl_dat hq.2.1 hq.2.2; rw [dat_tc el] at e; cases e
    | lc a b => obtain ⟨l, el⟩ := ll_dat hq.2.1 hq.2.2; rw [dat_lc el] at e; cases e
    | und => exact hq.elim
    | ref _ => exact hq.elim
    | rep _ => exact hq.elim
    | _ => cases e
  | .ln, q, _, hq, e => by
    cases q with
    | ln => rfl
    | tc a b => obtain ⟨l, el⟩ := tl_dat hq.2.1 hq.2.2; rw [dat_tc el] at e; cases e
    | lc a b => obtain ⟨l, el⟩ := ll_dat hq.2.1 hq.2.2; rw [dat_lc el] at e; cases e
    | und => exact hq.elim
    | ref _ => exact hq.elim
    | rep _ => exact hq.elim
    | _ => cases e
  | .tc a b, q, hp, hq, e => by
    obtain ⟨l, el⟩ := tl_dat hp.2.1 hp.2.2
    rw [dat_tc el] at e
    cases q with
    | tc c d =>
      obtain ⟨m, em⟩ := tl_dat hq.2.1 hq.2.2
      rw [dat_tc em] at e
      injection e with e
      injection e with e1 e2
      rw [dat_inj a c hp.1 hq.1 e1, dat_inj b d hp.2.1 hq.2.1 (by rw [el, em, e2])]
    | lc c d => obtain ⟨m, em⟩ := ll_dat hq.2.1 hq.2.2; rw [dat_lc em] at e; cases e
    | tn => cases e
    | und => exact hq.elim
    | ref _ => exact hq.elim
    | rep _ => exact hq.elim
    | _ => cases e
  | .lc a b, q, hp, hq, e => by
    obtain ⟨l, el⟩ := ll_dat hp.2.1 hp.2.2
    rw [dat_lc el] at e
    cases q with
    | lc c d =>
      obtain ⟨m, em⟩ := ll_dat hq.2.1 hq.2.2
      rw [dat_lc em] at e
      injection e with e
      injection e with e1 e2
      rw [dat_inj a c hp.1 hq.1 e1, dat_inj b d hp.2.1 hq.2.1 (by rw [el, em, e2])]
    | tc c d => obtain ⟨m, em⟩ := tl_dat hq.2.1 hq.2.2; rw [dat_tc em] at e; cases e
    | ln => cases e
    | und => exact hq.elim
    | ref _ => exact hq.elim
    | rep _ => exact hq.elim
    | _ => cases e
  | .und, _, h, _, _ => h.elim
  | .ref _, _, h, _, _ => h.elim
  | .rep _, _, h, _, _ => h.elim
/-- the greatest -/
theorem maxD_mem : ∀ (xs : List PyData) (x : PyData), PySem.W.maxD x xs ∈ x :: xs
  | [], x => List.mem_cons_self
  | y :: ys, x => by
    show PySem.W.maxD (if PySem.W.dataLt x y = true then y else x) ys ∈ x :: y :: ys
    have h := maxD_mem ys (if PySem.W.dataLt x y = true then y else x)
    rcases List.mem_cons.mp h with z | z
    · rw [z]
      by_cases q : PySem.W.dataLt x y = true
      · rw [if_pos q]; exact List.mem_cons_of_mem _ List.mem_cons_self
      · rw [if_neg q]; exact List.mem_cons_self
    · exact List.mem_cons_of_mem _ (List.mem_cons_of_mem _ z)
theorem maxK_ok : ∀ (l : List W) (m : W) (k : W → Bool), (∀ d ∈ m :: l, Pr d) → (∀ d ∈ m :: l, ∀ e ∈ m :: l, PySem.W.alike (dat d) (dat e) = true) → maxK m l k = true → ∃ w ∈ m :: l, k w = true ∧ dat w = PySem.W.maxD (dat m) (l.map dat)
  | [], m, k, _, _, e => ⟨m, List.mem_cons_self, e, rfl⟩
  | x :: xs, m, k, hp, ha, e => by
    have mm : m ∈ m :: x :: xs := List.mem_cons_self
    have mx : x ∈ m :: x :: xs := List.mem_cons_of_mem _ List.mem_cons_self
    have z := ltK_ok m x _ (hp m mm) (hp x mx) (ha m mm x mx) e
    show ∃ w ∈ m :: x :: xs, k w = true ∧ dat w = PySem.W.maxD (if PySem.W.dataLt (dat m) (dat x) = true then dat x else dat m) (xs.map dat)
    cases q : PySem.W.dataLt (dat m) (dat x) with
    | true =>
      rw [q] at z
      obtain ⟨w, h1, h2, h3⟩ := maxK_ok xs x k (fun d hd => hp d (List.mem_cons_of_mem _ hd)) (fun d hd e he => ha d (List.mem_cons_of_mem _ hd) e (List.mem_cons_of_mem _ he)) z
      exact ⟨w, List.mem_cons_of_mem _ h1, h2, by rw [if_pos rfl]; exact h3⟩
    | false =>
      rw [q] at z
      have sub : ∀ d, d ∈ m :: xs → d ∈ m :: x :: xs := fun d hd => by
        rcases List.mem_cons.mp hd with h | h
        · rw [h]; exact mm
        · exact List.mem_cons_of_mem _ (List.mem_cons_of_mem _ h)
      obtain ⟨w, h1, h2, h3⟩ := maxK_ok xs m k (fun d hd => hp d (sub d hd)) (fun d hd e he => ha d (sub d hd) e (sub e he)) z
      exact ⟨w, sub w h1, h2, by rw [if_neg (by simp)]; exact h3⟩
/-- items and their data -/
def GoodAll (K : PySem.W.Frag) (ρ : Nat → Addr) (N : Nat) (H : Hp) : List W → List V → Prop
  | [], xs => xs = []
  | w :: l, xs => ∃ x r, xs = x :: r ∧ Good K H 40 x w ∧ RW ρ N H w x ∧ GoodAll K ρ N H l r
theorem plK_ok {Z : Par} {ρ : Nat → Addr} {h : Hh} {H : Hp} (R : Rel Z ρ h H) : ∀ (l : List W) (xs : List V) (k : Bool), plK h l k = true → RL ρ h.n H l xs → k = true ∧ GoodAll Z.K ρ h.n H l xs
  | [], _, k, e, r => ⟨e, r⟩
  | w :: l, _, k, e, ⟨x, r, ex, h1, h2⟩ => by
    obtain ⟨d, e1, g⟩ := (rd_ok R 40).1 w x _ e h1
    obtain ⟨ed, e2⟩ := eqT_ok d w _ e1
    subst ed
    obtain ⟨a, b⟩ := plK_ok R l r k e2 h2
    exact ⟨a, x, r, ex, g, h1, b⟩
theorem GoodAll.get {K : PySem.W.Frag} {ρ : Nat → Addr} {N : Nat} {H : Hp} : ∀ {l : List W} {xs : List V} {i : Nat} {x : V}, GoodAll K ρ N H l xs → xs[i]? = some x → ∃ w, l[i]? = some w ∧ w ∈ l ∧ Good K H 40 x w ∧ RW ρ N H w x
  | [], _, i, x, h, e => by cases h; simp at e
  | w :: l, _, 0, x, ⟨y, r, ex, g, rw', t⟩, e => by subst ex; cases e; exact ⟨w, rfl, List.mem_cons_self, g, rw'⟩
  | w :: l, _, i + 1, x, ⟨y, r, ex, g, rw', t⟩, e => by
    subst ex
    obtain ⟨w', h1, h2, h3⟩ := GoodAll.get (i := i) t (by simpa using e)
    exact ⟨w', by simpa using h1, List.mem_cons_of_mem _ h2, h3⟩
theorem GoodAll.all {K : PySem.W.Frag} {ρ : Nat → Addr} {N : Nat} {H : Hp} : ∀ {l : List W} {xs : List V}, GoodAll K ρ N H l xs → DpAll K H xs (l.map dat) ∧ PyData.depthAll (l.map dat) ≤ 40 ∧ ∀ d ∈ l, Pr d
  | [], _, h => by cases h; exact ⟨.nil, Nat.zero_le _, fun _ h => nomatch h⟩
  | w :: l, _, ⟨y, r, ex, g, rw', t⟩ => by
    subst ex
    obtain ⟨a, b, c⟩ := GoodAll.all t
    refine ⟨.cons g.dp a, ?_, fun d hd => ?_⟩
    · show max (dat w).depth (PyData.depthAll (l.map dat)) ≤ 40
      have := g.dep
      omega
    · rcases List.mem_cons.mp hd with z | z
      · rw [z]; exact g.pr
      · exact c d z
def rMaxD (K : PySem.W.Frag) : List V → Hp → VK → Prop := fun vs H Q => ∃ (a : Addr) (xs : List V) (d : PyData) (ds : List PyData), vs = [V.ref a] ∧ SqL K H a xs ∧ DpAll K H xs (d :: ds) ∧ PySem.W.AlikeAll (d :: ds) ∧ PyData.depthAll (d :: ds) ≤ 40 ∧
  ∀ (i : Nat) (x : V) (e : PyData), xs[i]? = some x → (d :: ds)[i]? = some e → e = PySem.W.maxD d ds → Q x H
section
variable {X : Cx}
theorem readsAll_get {h : Heap} : ∀ {vs : List Value} {ds : List PyData} {as : List Addr} {i : Nat} {v : Value}, ReadsAll h vs ds as → vs[i]? = some v → ∃ d bs, ds[i]? = some d ∧ Reads h v d bs
  | _, _, _, i, v, .nil, e => by simp at e
  | _, _, _, 0, v, .cons r _, e => by cases e; exact ⟨_, _, rfl, r⟩
  | _, _, _, i + 1, v, .cons _ rs, e => by
    obtain ⟨d, bs, h1, h2⟩ := readsAll_get (i := i) rs (by simpa using e)
    exact ⟨d, bs, by simpa using h1, h2⟩
theorem vals_get {xs : List V} {vs : List Value} {i : Nat} {v : Value} (r : Vals xs vs) (e : vs[i]? = some v) : ∃ x, xs[i]? = some x ∧ RelV x v := by
  have hi : i < xs.length := by rw [r.length]; exact (List.getElem?_eq_some_iff.mp e).1
  obtain ⟨w, h1, h2⟩ := r.get (List.getElem?_eq_getElem hi)
  rw [e] at h1
  cases h1
  exact ⟨_, List.getElem?_eq_getElem hi, h2⟩
theorem cr_maxD (hc : X.calm = true) (hu : X.A.units + 65 < cLine) : CallR X (.builtin "max") (rMaxD X.K) := by
  intro pins s σ H vs us Q I r h
  obtain ⟨a, xs, d, ds, rfl, hs, hd, hal, hdep, q⟩ := h
  obtain ⟨its, rv, hl, hz⟩ := I.list hs
  rw [Vals.ref1 r]
  obtain ⟨as, hr⟩ := Dp.readsAll I (d :: ds) xs its hd rv
  refine PySem.W.max_list_data (x := d) (xs := ds) (I.ok.hd hc) hl.isList (by simpa using hr) hal (by omega) fun i v h' tk bs hv rd hk => ?_
  have hv' : its[i]? = some v := by simpa using hv
  obtain ⟨x, hx, rx⟩ := vals_get rv hv'
  obtain ⟨e, cs, he, re⟩ := readsAll_get hr hv'
  have hm : e ∈ d :: ds := List.mem_of_getElem? he
  have ee : e = PySem.W.maxD d ds := PySem.W.alike_unique e _ v cs bs (hal.1 e hm _ (maxD_mem ds d)) (PySem.W.reads_keeps hk re) rd
  exact ⟨x, H, I.kept (t' := tk) hk, rx, q i x e hx he ee⟩
end
section
variable {X : Cx} {Z : Par} {pos p : Pos} {a b : Expr} {da db : D}
/-- max(xs) -/
theorem eMax (hZ : Z.K = X.K) (hc : X.calm = true) (hu : X.A.units + 65 < cLine) (hg : Gl X "max") (hm : X.mg "max" = none) (hv : bootBuiltins "max" = some (.builtin "max") := by decide +kernel) (ha : PE X a (tD Z da)) (he : starEach [a] X.env = (false, eval a X.env) :: starEach [] X.env := by rfl) (hpl : (backTo pos (starEach [] X.env)).any (·.1) = false := by rfl) :
    PE X (.Call (.Name "max" p) [a] [] pos) (tD Z (dMax da)) :=
  pe_of (pe_callB (cr_maxD hc hu) hg hm hv (pa_cons ha pa_nil he) (he := he) (hpl := hpl)) fun σ H Q w => bone (r := rMaxD X.K) (f := fun x h k => lstAt x h fun _ l => match l with
  | [] => false
  | y :: ys => plK h (y :: ys) (match shAll y (y :: ys) with
    | true => maxK y ys fun w => k w h
    | false => false)) (fun ρ h H x v k Q e R rx q => by
    obtain ⟨i, l, xs, hi, ex, ev, ho, rl, hl, e1⟩ := R.lst rx e
    cases l with
    | nil => cases e1
    | cons y ys =>
      obtain ⟨e2, g⟩ := plK_ok R (y :: ys) xs _ e1 rl
      rw [hZ] at g
      obtain ⟨a1, a2, a3⟩ := g.all
      cases z : shAll y (y :: ys) with
      | false => rw [z] at e2; cases e2
      | true =>
        rw [z] at e2
        have hal : ∀ d ∈ y :: ys, ∀ e ∈ y :: ys, PySem.W.alike (dat d) (dat e) = true := fun d hd e he => shK_alike y d e (a3 d hd) (a3 e he) (shAll_ok z d hd) (shAll_ok z e he)
        obtain ⟨w, hw, kw, ew⟩ := maxK_ok ys y _ a3 hal e2
        refine ⟨ρ i, xs, dat y, ys.map dat, by rw [ev], SqL.of ho, a1, ⟨fun d hd e he => ?_, fun d hd => ?_⟩, a2, fun j u e hu he ee => ?_⟩
        · obtain ⟨d', hd', rfl⟩ := List.mem_map.mp (show d ∈ (y :: ys).map dat from hd)
          obtain ⟨e', he', rfl⟩ := List.mem_map.mp (show e ∈ (y :: ys).map dat from he)
          exact hal d' hd' e' he'
        · obtain ⟨d', hd', rfl⟩ := List.mem_map.mp (show d ∈ (y :: ys).map dat from hd)
          have sh := shAll_ok z d' hd'
          intro en
          have pd := a3 d' hd'
          have : d' = .non := dat_inj d' .non pd trivial en
          rw [this] at sh
          cases y <;> cases sh
        · obtain ⟨w', h1, h2, h3, h4⟩ := g.get hu
          have : (dat y :: ys.map dat)[j]? = some (dat w') := by
            rw [show dat y :: ys.map dat = (y :: ys).map dat from rfl, List.getElem?_map, h1]; rfl
          rw [this] at he
          cases he
          have : w' = w := dat_inj w' w (a3 w' h2) (a3 w hw) (by rw [ee, ew])
          rw [this] at h4
          exact q.now R h4 kw) w
end
end
end G
/-! K18: defs, calls, methods, new instances. -/
namespace G
open PySem PySem.Spec PyProof.Rows L2
/-- a def's promise -/
def spF (Z : Par) (F : Fn) : Sp := fun vs H Q _ => ∃ ρ ws h k, F ws h k = true ∧ Rel Z ρ h H ∧ RL ρ h.n H ws vs ∧ Cont Z ρ h H k Q
/-- it takes n -/
def Ar (F : Fn) (n : Nat) : Prop := ∀ ws h k, F ws h k = true → ws.length = n
theorem fnK_ar {np nl : Nat} {b : DT} : Ar (fnK np nl b) np := fun ws h k e => by
  unfold fnK at e
  cases z : Nat.beq ws.length np with
  | false => rw [z] at e; cases e
  | true => exact Nat.eq_of_beq_eq_true z
theorem spF_len {Z : Par} {F : Fn} {n : Nat} (a : Ar F n) : ∀ vs H Q E, spF Z F vs H Q E → vs.length = n := fun vs H Q E ⟨ρ, ws, h, k, e, R, r, q⟩ => by
  rw [RL_length r]; exact a ws h k e
section
variable {P : Program} {w : World} {K : PySem.W.Frag} {mg : Str → Option Value} {base : Heap} {x qual : Str} {params : Arguments} {body : List Stmt} {scope : Scope} {dvs : List V} {kws : List (Str × V)} {f : Addr} {fd : FuncData} {Z : Par}
/-- a body's start -/
theorem body_start {np nl : Nat} {b : DT} {N : List Str} (hN : N.length = np + nl) {vs : List V} {H : Hp} {Q : VK} {E : XK} (h : spF Z (fnK np nl b) vs H Q E) : tS Z b { nx := fun _ H' => Q .non H', rt := Q } (start N vs) H := by
  obtain ⟨ρ, ws, h, k, e, R, r, q⟩ := h
  have hl := fnK_ar ws h k e
  unfold fnK at e
  rw [show Nat.beq ws.length np = true from by rw [hl]; exact Nat.beq_refl _] at e
  refine ⟨ρ, ws ++ padK nl, h, _, e, R, ?_, fun ρ' h' H' s σ e' x' R' S' => q ρ' h' H' .non .non e' x' R' rfl, q⟩
  have : N.length - vs.length = nl := by rw [RL_length r, hl, hN]; omega
  unfold L2.start
  rw [this]
  exact RS_pad nl r
theorem fn_ok {np nl : Nat} {b : DT} {N ps : List Str} {k : Nat} (F : FunD K x qual params body scope dvs kws f fd) (S : FnScope N ps scope) (hps : ps.length = np) (hN : N.length = np + nl)
    (hbody : ∀ (cdv : Value) (A : Around) (outer : List Env) (s : Shared) (H : Hp) (E : XK), Room k (A.deeper (envOfC qual scope s.heap.objs.size f cdv)) → PSs (cxOf CX0 P w K mg base N qual scope f cdv A outer s H E).nox body (tS Z b)) :
    FnOk P w K mg base CX0 (k + 1) f fd ps (spF Z (fnK np nl b)) :=
  F.ok S (fun vs H Q E h => (spF_len fnK_ar vs H Q E h).trans hps.symm) fun cdv A outer s H vs Q E hr h => ⟨tS Z b, PSs.nox (hbody cdv A outer s H E hr), body_start hN h⟩
/-- a callee -/
structure Cal (P : Program) (w : World) (K : PySem.W.Frag) (mg : Str → Option Value) (base : Heap) (Z : Par) (k : Nat) (x : Str) (F : Fn) : Prop where
  ex : ∃ f fd ps, mg x = some (.ref f) ∧ PySem.W.keepIn K (.ref f) = true ∧ Binds K fd ps [] ∧ FnOk P w K mg base CX0 k f fd ps (spF Z F)
/-- what is never called -/
theorem Cal.mono {j k : Nat} {F : Fn} (c : Cal P w K mg base Z j x F) (h : j ≤ k) : Cal P w K mg base Z k x F := by
  obtain ⟨f, fd, ps, a, b, d, e⟩ := c.ex
  exact ⟨f, fd, ps, a, b, d, e.mono h⟩
/-- a method of a class: its def -/
structure Mt (P : Program) (w : World) (K : PySem.W.Frag) (mg : Str → Option Value) (base : Heap) (Z : Par) (k : Nat) (m : Str) (c : Nat) (F : Fn) : Prop where
  lt : c < 7
  ex : ∃ f fd ps, Meth K (Z.ca c) m f ∧ Binds K fd ps [] ∧ FnOk P w K mg base CX0 k f fd ps (spF Z F)
theorem Mt.mono {j k : Nat} {m : Str} {c : Nat} {F : Fn} (t : Mt P w K mg base Z j m c F) (h : j ≤ k) : Mt P w K mg base Z k m c F := by
  obtain ⟨f, fd, ps, a, b, d⟩ := t.ex
  exact ⟨t.lt, f, fd, ps, a, b, d.mono h⟩
/-- a class and its __init__ -/
structure Mkr (P : Program) (w : World) (K : PySem.W.Frag) (mg : Str → Option Value) (base : Heap) (Z : Par) (k : Nat) (x : Str) (c : Nat) (F : Fn) : Prop where
  ex : ∃ f fd ps, mg x = some (.ref (Z.ca c)) ∧ Mk K (Z.ca c) f ∧ Binds K fd ps [] ∧ FnOk P w K mg base CX0 k f fd ps (spF Z F)
end
section
variable {X : Cx} {Z : Par} {k : Nat} {x m : Str} {p pos apos : Pos} {a e : Expr} {es : List Expr} {da : D} {das : DA} {F : Fn}
theorem call_rd {Q : VK} {σ : L2.St} {H : Hp} {E : XK} (w : tD Z (dCall F das) σ H Q) : tCall (spF Z F) [] E (tA Z das) σ H Q :=
  many (f := fun l h k => F l h k) (r := fun vs H Q => spF Z F (vs ++ []) H Q E) (fun ρ h H l vs k Q e R r q => ⟨ρ, l, h, k, e, R, by rw [List.append_nil]; exact r, q⟩) w
theorem eCall (c : Cal X.prog X.w X.K X.mg X.base Z k x F) (hr : Room k X.A) (hg : Gl X x) (ha : PA X (e :: es) (tA Z das)) (hdb : (x == ("__debug__" : Str)) = false := by decide) (he : starEach (e :: es) X.env = (false, eval e X.env) :: starEach es X.env := by rfl) (hpl : (backTo pos (starEach es X.env)).any (·.1) = false := by rfl) :
    PE X (.Call (.Name x p) (e :: es) [] pos) (tD Z (dCall F das)) := by
  obtain ⟨f, fd, ps, c1, c2, c3, c4⟩ := c.ex
  exact pe_of (pe_call c4 hr hg c1 c2 c3 (dvs := []) (ds := []) .nil pass0 ha hdb he hpl) fun σ H Q w => call_rd w
/-- the methods of several classes -/
inductive Mts (P : Program) (w : World) (K : PySem.W.Frag) (mg : Str → Option Value) (base : Heap) (Z : Par) (k : Nat) (m : Str) : List (Nat × Fn) → Prop
  | nil : Mts P w K mg base Z k m []
  | cons {c : Nat} {F : Fn} {r : List (Nat × Fn)} (t : Mt P w K mg base Z k m c F) (s : Mts P w K mg base Z k m r) : Mts P w K mg base Z k m ((c, F) :: r)
theorem Mts.pick {P : Program} {w : World} {K : PySem.W.Frag} {mg : Str → Option Value} {base : Heap} {m : Str} : ∀ {l : List (Nat × Fn)} {c : Nat} {k0 : Fn → Bool}, Mts P w K mg base Z k m l → pick c l k0 = true → ∃ F, Mt P w K mg base Z k m c F ∧ k0 F = true
  | _, c, k0, .nil, e => by cases e
  | _, c, k0, .cons (c := q) (F := F) (r := r) t s, e => by
    have e' : (match Nat.beq q c with | true => k0 F | false => G.pick c r k0) = true := e
    cases z : Nat.beq q c with
    | true =>
      rw [z] at e'
      have : q = c := Nat.eq_of_beq_eq_true z
      subst this
      exact ⟨F, t, e'⟩
    | false => rw [z] at e'; exact Mts.pick s e'
theorem RF_none {ρ : Nat → Addr} {N : Nat} {H : Hp} {fn : Nat → Str} {m : Str} (hm : ∀ i, fn i ≠ m) : ∀ {fs : List (Nat × W)} {xs : List (Str × V)}, RF ρ N H fn fs xs → xs.lookup m = none
  | [], _, r => by cases r; rfl
  | (i, w) :: fs, _, ⟨x, r, ex, h1, h2⟩ => by
    subst ex
    rw [List.lookup_cons, beq_eq_false_iff_ne.mpr (Ne.symm (hm i))]
    exact RF_none hm h2
/-- what a method's call asks -/
theorem meth_rd {fs : List (Nat × Fn)} (T : Mts X.prog X.w X.K X.mg X.base Z k m fs) (C : ClsF X.K Z) (hm : ∀ i, Z.fname i ≠ m) {Q : VK} {σ : L2.St} {H : Hp} (w : tD Z (dMth fs da das) σ H Q) :
    tD Z da σ H fun v H1 => ∃ a c dx xs f fd ps F, v = .ref a ∧ H1 a = some (.ins (Z.ca c) dx xs) ∧ Cls X.K (Z.ca c) ∧ xs.lookup m = none ∧ Meth X.K (Z.ca c) m f ∧ Binds X.K fd ps [] ∧ FnOk X.prog X.w X.K X.mg X.base CX0 k f fd ps (spF Z F) ∧
      tA Z das σ H1 fun vs H2 => spF Z F (v :: vs) H2 Q E0 := by
  obtain ⟨ρ, s, h, k0, e, R, S, q⟩ := w
  refine ⟨ρ, s, h, _, e, R, S, fun ρ1 h1 H1 x v e1 x1 R1 r1 => ?_⟩
  obtain ⟨i, c, fs', dx, xs, hi, ex, ev, ho, rf, e2⟩ := R1.ins r1 e1
  obtain ⟨F, t, e3⟩ := T.pick e2
  obtain ⟨f, fd, ps, t1, t2, t3⟩ := t.ex
  refine ⟨ρ1 i, c, dx, xs, f, fd, ps, F, ev, ho, C.cl c t.lt, RF_none hm rf, t1, t2, t3, ρ1, s, h1, _, e3, R1, x1.rs S, fun ρ2 h2 H2 l vs e4 x2 R2 r2 => ?_⟩
  exact ⟨ρ2, x :: l, h2, k0, e4, R2, ⟨v, vs, rfl, x2.rw r1, r2⟩, q.ext (x1.trans x2)⟩
theorem eMth {fs : List (Nat × Fn)} {pl : Sem Bool} (T : Mts X.prog X.w X.K X.mg X.base Z k m fs) (C : ClsF X.K Z) (hm : ∀ i, Z.fname i ≠ m) (hr : Room k X.A) (hs : PE X a (tD Z da)) (ha : PA X (e :: es) (tA Z das))
    (hst : starEach (e :: es) X.env = (false, eval e X.env) :: starEach es X.env := by rfl) (hpl : (backTo pos (starEach es X.env)).any (·.1) = false := by rfl)
    (ht : eval (.Call (.Attribute a m apos) (e :: es) [] pos) X.env = (do
      let ov ← eval a X.env
      standAt apos.atName
      let (f, first) ← holding [ov] (getMethod ov m pl)
      callWith pos f first (backTo pos (starEach (e :: es) X.env)) (backToKw pos (keywordEach [] X.env))) := by rfl) :
    PE X (.Call (.Attribute a m apos) (e :: es) [] pos) (tD Z (dMth fs da das)) := by
  refine ⟨fun pins s σ H Q I h => ?_⟩
  refine PySem.W.methodCall_KW (pl := pl) (thn (hs.run pins s σ H _ I (meth_rd T C hm h)) fun u s1 ⟨x, H1, I1, rx, a, c, dx, xs, f, fd, ps, F, ex, ea, cl, l, t1, t2, t3, q⟩ => ?_) ht
  subst ex
  obtain rfl : u = Value.ref a := rx
  refine getmeth_ok I1 ea cl t1 l ?_
  refine PySem.W.callWith_K (first := [.ref a]) (h₀ := X.base) I.ok.mod.kin t1.kp (thn (ha.run pos pins s1 σ H1 _ I1 q) fun us s2 ⟨vs, H2, I2, r, q2⟩ => ⟨I2.kIn, ?_⟩) hst hpl
  exact run_fn (us := .ref a :: us) (vs := .ref a :: vs) (dvs := []) (ds := []) t3 hr t2 .nil pass0 I2 (.cons rfl r) (by rw [List.append_nil]; exact q2)
/-- without arguments -/
theorem eMth0 {fs : List (Nat × Fn)} {pl : Sem Bool} (T : Mts X.prog X.w X.K X.mg X.base Z k m fs) (C : ClsF X.K Z) (hm : ∀ i, Z.fname i ≠ m) (hr : Room k X.A) (hs : PE X a (tD Z da))
    (ht : eval (.Call (.Attribute a m apos) [] [] pos) X.env = (do
      let ov ← eval a X.env
      standAt apos.atName
      let (f, first) ← holding [ov] (getMethod ov m pl)
      callWith pos f first (backTo pos (starEach [] X.env)) (backToKw pos (keywordEach [] X.env))) := by rfl) :
    PE X (.Call (.Attribute a m apos) [] [] pos) (tD Z (dMth fs da aNil)) := by
  refine ⟨fun pins s σ H Q I h => ?_⟩
  refine PySem.W.methodCall_KW (pl := pl) (thn (hs.run pins s σ H _ I (meth_rd T C hm h)) fun u s1 ⟨x, H1, I1, rx, a, c, dx, xs, f, fd, ps, F, ex, ea, cl, l, t1, t2, t3, ρ, s0, h, k0, e, R, S, q⟩ => ?_) ht
  subst ex
  obtain rfl : u = Value.ref a := rx
  refine getmeth_ok I1 ea cl t1 l ?_
  exact PySem.W.callWith_K0 (first := [.ref a]) I1.kIn t1.kp (run_fn (us := [.ref a]) (vs := [.ref a]) (dvs := []) (ds := []) t3 hr t2 .nil pass0 I1 (.cons rfl .nil) (q ρ h H1 [] [] e Ext.refl R rfl))
/-- a new instance -/
theorem eMk {c : Nat} (M : Mkr X.prog X.w X.K X.mg X.base Z k x c F) (hr : Room (k + 1) X.A) (hg : Gl X x) (ha : PA X (e :: es) (tA Z das)) (hdb : (x == ("__debug__" : Str)) = false := by decide) (he : starEach (e :: es) X.env = (false, eval e X.env) :: starEach es X.env := by rfl) (hpl : (backTo pos (starEach es X.env)).any (·.1) = false := by rfl) :
    PE X (.Call (.Name x p) (e :: es) [] pos) (tD Z (dMk c F das)) := by
  obtain ⟨f, fd, ps, c1, c2, c3, c4⟩ := M.ex
  refine pe_of (pe_make c2 c4 hr hg c1 c3 (dvs := []) (ds := []) .nil pass0 ha hdb he hpl) fun σ H Q w => ?_
  exact many (f := fun l h k => alloc h (.ins c []) fun n h => F (.ref n :: l) h fun w h => match w with | .non => k (.ref n) h | _ => false)
    (r := fun vs H1 Q => ∀ x dx, H1 x = none → H1 dx = none → dx ≠ x → spF Z F (.ref x :: (vs ++ [])) (upd (upd H1 dx (.own x)) x (.ins (Z.ca c) dx [])) (fun v H2 => v = .non ∧ Q (.ref x) H2) E0) (fun ρ h H l vs k Q e R r q x dx hx hdx hne => by
      have kp : ∀ b u, H b = some u → upd H dx (.own x) b = some u := fun b u e => by rw [upd_ne (ne_of_none e hdx)]; exact e
      obtain ⟨h', e1, n1, R', X'⟩ := R.alloc (H2 := upd H dx (.own x)) (o := .ins (Z.ca c) dx []) (c := .ins c []) hx kp ⟨dx, [], upd_same, rfl⟩ e
      refine ⟨snoc ρ h.n x, _, h', _, e1, R', ⟨.ref x, _, rfl, ⟨by rw [n1]; exact Nat.lt_succ_self _, by rw [snoc_new]⟩, by rw [List.append_nil]; exact X'.rl r⟩, fun ρ2 h2 H2 w v e2 x2 R2 r2 => ?_⟩
      cases w with
      | non => exact ⟨r2, q ρ2 h2 H2 (.ref h.n) (.ref x) e2 (X'.trans x2) R2 ⟨Nat.lt_of_lt_of_le (by rw [n1]; exact Nat.lt_succ_self _) x2.le, by rw [x2.same _ (by rw [n1]; exact Nat.lt_succ_self _), snoc_new]⟩⟩
      | _ => cases e2) w
end
end G
namespace G
noncomputable section
def FNo : Fn := fun _ _ _ => false
/-- a lambda: its argument, what it has captured -/
def lamK (js : List Nat) (b : D) (g : List W) : Fn := fun as h k => match Nat.beq as.length 1 with
  | true => slots g js fun ws => b (as ++ ws) h k
  | false => false
/-- never come to -/
def dNev : D := fun _ _ _ => false
/-- a drawn number -/
def dDraw (f : Int → Int → Int) (a b : D) : D := fun s h k => a s h fun x h => b s h fun y h => i2 x y fun i j => onI (f i j) h k
/-- is_whole: thing -/
def F_is_whole : Fn := fnK 1 0 (sRet (dAnd (dIsInt (dVar 0)) (dNot (dIsBool (dVar 0)))))
/-- is_between: thing, least, most -/
def F_is_between : Fn := fnK 3 0 (sRet (dAnd (dCall F_is_whole (aCons (dVar 0) aNil)) (dChLL (dVar 1) (dVar 0) (dVar 2))))
/-- is_part: thing -/
def F_is_part : Fn := fnK 1 0 (sSeq (sIf (dOr (dNot (dIsTup (dVar 0))) (dNe (dLen (dVar 0)) (dCon (.int 2)))) (sRet (dCon (.bl false))) sNop) (sRet (dAnd (dCall F_is_between (aCons (dIx (dVar 0) (dCon (.int 0))) (aCons (dCon (.int 0)) (aCons (dCon (.int 5)) aNil)))) (dCall F_is_between (aCons (dIx (dVar 0) (dCon (.int 1))) (aCons (dCon (.int 0)) (aCons (dCon (.int 9)) aNil)))))))
/-- is_word: thing -/
def F_is_word : Fn := fnK 1 0 (sSeq (sIf (dOr (dNot (dIsTup (dVar 0))) (dOr (dNin (dLen (dVar 0)) (dTup (aCons (dCon (.int 3)) (aCons (dCon (.int 4)) aNil)))) (dNot (dIsStr (dIx (dVar 0) (dCon (.int 0))))))) (sRet (dCon (.bl false))) sNop) (sSeq (sIf (dNot (dCall F_is_part (aCons (dSlT (dVar 0) (dCon (.int 1)) (dCon (.int 3))) aNil))) (sRet (dCon (.bl false))) sNop) (sSeq (sIf (dEq (dLen (dVar 0)) (dCon (.int 3))) (sRet (dEq (dIx (dVar 0) (dCon (.int 0))) (dCon .so))) sNop) (sRet (dAnd (dEq (dIx (dVar 0) (dCon (.int 0))) (dCon .sp)) (dOr (dIsN (dIx (dVar 0) (dCon (.int 3)))) (dCall F_is_part (aCons (dIx (dVar 0) (dCon (.int 3))) aNil))))))))
/-- uppers_of: words, found, word -/
def F_uppers_of : Fn := fnK 1 2 (sSeq (sSet 1 dDict) (sSeq (sFor (iSeq (dVar 0)) (gVar 2) (sIf (dEq (dIx (dVar 2) (dCon (.int 0))) (dCon .sp)) (sPut (dVar 1) (dSlT (dVar 2) (dCon (.int 1)) (dCon (.int 3))) (dIx (dVar 2) (dCon (.int 3)))) sNop)) (sRet (dVar 1))))
/-- outs_of: words, word -/
def F_outs_of : Fn := fnK 1 1 (sRet (dLc [1] (iSeq (dVar 0)) (gVar 1) (dEq (dIx (dVar 1) (dCon (.int 0))) (dCon .so)) (dSlT (dVar 1) (dCon (.int 1)) (dCon (.int 3)))))
/-- check_alike: words, uppers, word -/
def F_check_alike : Fn := fnK 1 2 (sSeq (sSet 1 (dCall F_uppers_of (aCons (dVar 0) aNil))) (sIf (dAny (dLc [2] (iSeq (dVar 0)) (gVar 2) (dCon (.bl true)) (dAnd (dEq (dIx (dVar 2) (dCon (.int 0))) (dCon .sp)) (dNe (dIxD (dVar 1) (dSlT (dVar 2) (dCon (.int 1)) (dCon (.int 3)))) (dIx (dVar 2) (dCon (.int 3))))))) sNever sNop))
/-- check_words: words, word -/
def F_check_words : Fn := fnK 1 1 (sSeq (sIf (dOr (dNot (dIsList (dVar 0))) (dOr (dGt (dLen (dVar 0)) (dCon (.int 60))) (dNot (dAll (dLc [1] (iSeq (dVar 0)) (gVar 1) (dCon (.bl true)) (dCall F_is_word (aCons (dVar 1) aNil))))))) sNever sNop) (sEx (dCall F_check_alike (aCons (dVar 0) aNil))))
/-- check_heard: words, part -/
def F_check_heard : Fn := fnK 2 0 (sIf (dOr (dNot (dCall F_is_part (aCons (dVar 1) aNil))) (dNinD (dVar 1) (dCall F_uppers_of (aCons (dVar 0) aNil)))) sNever sNop)
/-- check_rest: rest -/
def F_check_rest : Fn := fnK 1 0 (sIf (dNot (dCall F_is_between (aCons (dVar 0) (aCons (dCon (.int 0)) (aCons (dCon (.int 5)) aNil))))) sNever sNop)
/-- way_up: uppers, part, found -/
def F_way_up : Fn := fnK 2 1 (sSeq (sSet 2 (dLst (aCons (dVar 1) aNil))) (sSeq (sWh (dAnd (dNotN (dIxD (dVar 0) (dIx (dVar 2) (dNeg (dCon (.int 1)))))) (dAnd (dInD (dIxD (dVar 0) (dIx (dVar 2) (dNeg (dCon (.int 1))))) (dVar 0)) (dNin (dIxD (dVar 0) (dIx (dVar 2) (dNeg (dCon (.int 1))))) (dVar 2)))) (sEx (dApp (dVar 2) (dIxD (dVar 0) (dIx (dVar 2) (dNeg (dCon (.int 1)))))))) (sRet (dVar 2))))
/-- way_in: words, part -/
def F_way_in : Fn := fnK 2 0 (sRet (dRev (dCall F_way_up (aCons (dCall F_uppers_of (aCons (dVar 0) aNil)) (aCons (dVar 1) aNil)))))
/-- standing_in: words, uppers, outs, found, part, chain, one -/
def F_standing_in : Fn := fnK 1 6 (sSeq (sUnp (gTup (gCons (gVar 1) (gCons (gVar 2) (gCons (gVar 3) gNil)))) (dTup (aCons (dCall F_uppers_of (aCons (dVar 0) aNil)) (aCons (dCall F_outs_of (aCons (dVar 0) aNil)) (aCons (dLst aNil) aNil))))) (sSeq (sForD (dVar 1) (gVar 4) (sSeq (sSet 5 (dCall F_way_up (aCons (dVar 1) (aCons (dVar 4) aNil)))) (sIf (dAnd (dIsN (dIxD (dVar 1) (dIx (dVar 5) (dNeg (dCon (.int 1)))))) (dNot (dAny (dLc [6] (iSeq (dVar 5)) (gVar 6) (dCon (.bl true)) (dIn (dVar 6) (dVar 2)))))) (sEx (dApp (dVar 3) (dVar 4))) sNop))) (sRet (dSorted (dVar 3)))))
/-- once: words, outs, word, uppers, part -/
def F_once : Fn := fnK 1 4 (sSeq (sSet 1 (dSset (dLc [2] (iSeq (dVar 0)) (gVar 2) (dEq (dIx (dVar 2) (dCon (.int 0))) (dCon .so)) (dVar 2)))) (sSeq (sSet 3 (dCall F_uppers_of (aCons (dVar 0) aNil))) (sRet (dAdd (dVar 1) (dLc [4] (iSeq (dSorted (dListD (dVar 3)))) (gVar 4) (dCon (.bl true)) (dTup (aCons (dCon .sp) (aCons (dIx (dVar 4) (dCon (.int 0))) (aCons (dIx (dVar 4) (dCon (.int 1))) (aCons (dIxD (dVar 3) (dVar 4)) aNil))))))))))
/-- is_way: uppers, part, way, one, other -/
def F_is_way : Fn := fnK 3 2 (sSeq (sIf (dOr (dEq (dVar 2) (dLst aNil)) (dOr (dNe (dIx (dVar 2) (dNeg (dCon (.int 1)))) (dVar 1)) (dOr (dNot (dAll (dLc [3] (iSeq (dVar 2)) (gVar 3) (dCon (.bl true)) (dInD (dVar 3) (dVar 0))))) (dNotN (dIxD (dVar 0) (dIx (dVar 2) (dCon (.int 0)))))))) (sRet (dCon (.bl false))) sNop) (sRet (dAll (dLc [3,4] (iZip (dVar 2) (dSl (dVar 2) (dCon (.int 1)) (dCon .non))) (gTup (gCons (gVar 3) (gCons (gVar 4) gNil))) (dCon (.bl true)) (dEq (dIxD (dVar 0) (dVar 4)) (dVar 3))))))
/-- Stands.__init__: self, way -/
def F_Stands_init : Fn := fnK 2 0 (sFld (dVar 0) 0 (dList (dVar 1)))
/-- Stands.shows: self, words, part, outs, one -/
def F_Stands_shows : Fn := fnK 3 2 (sSeq (sSet 3 (dCall F_outs_of (aCons (dVar 1) aNil))) (sRet (dAnd (dCall F_is_way (aCons (dCall F_uppers_of (aCons (dVar 1) aNil)) (aCons (dVar 2) (aCons (dFld (dVar 0) 0) aNil)))) (dNot (dAny (dLc [4] (iSeq (dFld (dVar 0) 0)) (gVar 4) (dCon (.bl true)) (dIn (dVar 4) (dVar 3))))))))
/-- Gone.__init__: self, way -/
def F_Gone_init : Fn := fnK 2 0 (sFld (dVar 0) 0 (dList (dVar 1)))
/-- Gone.shows: self, words, part, outs, one -/
def F_Gone_shows : Fn := fnK 3 2 (sSeq (sSet 3 (dCall F_outs_of (aCons (dVar 1) aNil))) (sRet (dAnd (dCall F_is_way (aCons (dCall F_uppers_of (aCons (dVar 1) aNil)) (aCons (dVar 2) (aCons (dFld (dVar 0) 0) aNil)))) (dAny (dLc [4] (iSeq (dFld (dVar 0) 0)) (gVar 4) (dCon (.bl true)) (dIn (dVar 4) (dVar 3)))))))
/-- likes_of: likes, part, one -/
def F_likes_of : Fn := fnK 2 1 (sRet (dLen (dLc [2] (iSeq (dVar 0)) (gVar 2) (dEq (dIx (dVar 2) (dCon (.int 1))) (dVar 1)) (dVar 2))))
/-- Liked.__init__: self, way, marks -/
def F_Liked_init : Fn := fnK 3 0 (sSeq (sFld (dVar 0) 0 (dList (dVar 1))) (sFld (dVar 0) 1 (dList (dVar 2))))
/-- Liked.shows: self, words, likes, stands, uppers, one, marks, many, part, own, upper -/
def F_Liked_shows : Fn := fnK 3 8 (sSeq (sUnp (gTup (gCons (gVar 3) (gCons (gVar 4) gNil))) (dTup (aCons (dCall F_standing_in (aCons (dVar 1) aNil)) (aCons (dCall F_uppers_of (aCons (dVar 1) aNil)) aNil)))) (sSeq (sIf (dOr (dNe (dLen (dFld (dVar 0) 1)) (dLen (dVar 3))) (dNot (dAll (dLc [5] (iSeq (dFld (dVar 0) 0)) (gVar 5) (dCon (.bl true)) (dIn (dVar 5) (dVar 3)))))) (sRet (dCon (.bl false))) sNop) (sSeq (sIf (dOr (dAnd (dEq (dFld (dVar 0) 0) (dLst aNil)) (dNe (dVar 3) (dLst aNil))) (dAnd (dNe (dFld (dVar 0) 0) (dLst aNil)) (dNot (dCall F_is_way (aCons (dVar 4) (aCons (dIx (dFld (dVar 0) 0) (dNeg (dCon (.int 1)))) (aCons (dFld (dVar 0) 0) aNil))))))) (sRet (dCon (.bl false))) sNop) (sSeq (sPar [6,7] (aCons (dDzip (dVar 3) (dFld (dVar 0) 1)) (aCons (dSum (dLc [5] (iSeq (dFld (dVar 0) 0)) (gVar 5) (dCon (.bl true)) (dCall F_likes_of (aCons (dVar 2) (aCons (dVar 5) aNil))))) aNil))) (sSeq (sFor (iSeq (dVar 3)) (gVar 8) (sSeq (sPar [9,10] (aCons (dCall F_likes_of (aCons (dVar 2) (aCons (dVar 8) aNil))) (aCons (dIxD (dVar 4) (dVar 8)) aNil))) (sSeq (sIf (dOr (dLt (dIxD (dVar 6) (dVar 8)) (dVar 9)) (dAnd (dIsN (dVar 10)) (dGt (dIxD (dVar 6) (dVar 8)) (dVar 7)))) (sRet (dCon (.bl false))) sNop) (sIf (dAnd (dNotN (dVar 10)) (dLt (dIxD (dVar 6) (dVar 10)) (dAdd (dCall F_likes_of (aCons (dVar 2) (aCons (dVar 10) aNil))) (dIxD (dVar 6) (dVar 8))))) (sRet (dCon (.bl false))) sNop)))) (sRet (dCon (.bl true))))))))
/-- free_from: words, part, rest, found, late, one, at, hand -/
def F_free_from : Fn := fnK 3 5 (sSeq (sSet 3 (dMul (dLst (aCons (dCon (.int 0)) aNil)) (dCon (.int 6)))) (sSeq (sSet 4 (dIte (dNotN (dVar 1)) (dLc [5] (iSeq (dCall F_way_in (aCons (dVar 0) (aCons (dVar 1) aNil)))) (gVar 5) (dCon (.bl true)) (dIx (dVar 5) (dCon (.int 0)))) (dLst aNil))) (sSeq (sSet 4 (dSl (dVar 4) (dMx2 (dCon (.int 0)) (dSub (dLen (dVar 4)) (dVar 2))) (dCon .non))) (sSeq (sFor (iEnum (dVar 4)) (gTup (gCons (gVar 6) (gCons (gVar 7) gNil))) (sIx (dVar 3) (dVar 7) (dSub (dAdd (dVar 2) (dCon (.int 1))) (dSub (dLen (dVar 4)) (dVar 6))))) (sRet (dVar 3))))))
/-- Turns.__init__: self, order -/
def F_Turns_init : Fn := fnK 2 0 (sFld (dVar 0) 2 (dList (dVar 1)))
/-- Turns.shows: self, words, part, mays, rest, length, hand, free, left, place -/
def F_Turns_shows : Fn := fnK 6 4 (sSeq (sIf (dOr (dNe (dLen (dFld (dVar 0) 2)) (dVar 5)) (dNot (dAll (dLc [6] (iSeq (dFld (dVar 0) 2)) (gVar 6) (dCon (.bl true)) (dChLT (dCon (.int 0)) (dVar 6) (dLen (dVar 3))))))) (sRet (dCon (.bl false))) sNop) (sSeq (sPar [7,8] (aCons (dCall F_free_from (aCons (dVar 1) (aCons (dVar 2) (aCons (dVar 4) aNil)))) (aCons (dList (dVar 3)) aNil))) (sSeq (sFor (iEnum (dFld (dVar 0) 2)) (gTup (gCons (gVar 9) (gCons (gVar 6) gNil))) (sSeq (sIf (dOr (dLt (dVar 9) (dIx (dVar 7) (dVar 6))) (dEq (dIx (dVar 8) (dVar 6)) (dCon (.int 0)))) (sRet (dCon (.bl false))) sNop) (sSeq (sIx (dVar 7) (dVar 6) (dAdd (dAdd (dVar 9) (dVar 4)) (dCon (.int 1)))) (sIxSub (dVar 8) (dVar 6) (dCon (.int 1)))))) (sRet (dCon (.bl true))))))
/-- joined: one, other, found -/
def F_joined : Fn := fnK 2 1 (sSeq (sEx (dCall F_check_words (aCons (dVar 0) aNil))) (sSeq (sEx (dCall F_check_words (aCons (dVar 1) aNil))) (sSeq (sEx (dCall F_check_alike (aCons (dAdd (dVar 0) (dVar 1)) aNil))) (sSeq (sSet 2 (dCall F_once (aCons (dAdd (dVar 0) (dVar 1)) aNil))) (sSeq (sIf (dGt (dLen (dVar 2)) (dCon (.int 60))) sNever sNop) (sRet (dVar 2)))))))
/-- state_of: words, part, uppers, outs, chain, way, one -/
def F_state_of : Fn := fnK 2 5 (sSeq (sUnp (gTup (gCons (gVar 2) (gCons (gVar 3) gNil))) (dTup (aCons (dCall F_uppers_of (aCons (dVar 0) aNil)) (aCons (dCall F_outs_of (aCons (dVar 0) aNil)) aNil)))) (sSeq (sSet 4 (dCall F_way_up (aCons (dVar 2) (aCons (dVar 1) aNil)))) (sSeq (sIf (dNotN (dIxD (dVar 2) (dIx (dVar 4) (dNeg (dCon (.int 1)))))) (sRet dNev) sNop) (sSeq (sSet 5 (dRev (dVar 4))) (sRet (dIte (dAny (dLc [6] (iSeq (dVar 5)) (gVar 6) (dCon (.bl true)) (dIn (dVar 6) (dVar 3)))) (dMk 1 F_Gone_init (aCons (dVar 5) aNil)) (dMk 0 F_Stands_init (aCons (dVar 5) aNil))))))))
/-- why: words, part -/
def F_why : Fn := fnK 2 0 (sSeq (sEx (dCall F_check_words (aCons (dVar 0) aNil))) (sSeq (sEx (dCall F_check_heard (aCons (dVar 0) (aCons (dVar 1) aNil)))) (sRet (dCall F_state_of (aCons (dVar 0) (aCons (dVar 1) aNil))))))
/-- standing: words -/
def F_standing : Fn := fnK 1 0 (sSeq (sEx (dCall F_check_words (aCons (dVar 0) aNil))) (sRet (dCall F_standing_in (aCons (dVar 0) aNil))))
/-- waiting: words, part -/
def F_waiting : Fn := fnK 1 1 (sSeq (sEx (dCall F_check_words (aCons (dVar 0) aNil))) (sRet (dSorted (dLcD [1] (dCall F_uppers_of (aCons (dVar 0) aNil)) (gVar 1) (dIsCls (dCall F_state_of (aCons (dVar 0) (aCons (dVar 1) aNil))) 2) (dVar 1)))))
/-- ways_of: words, uppers, stands, under, part -/
def F_ways_of : Fn := fnK 1 4 (sSeq (sUnp (gTup (gCons (gVar 1) (gCons (gVar 2) gNil))) (dTup (aCons (dCall F_uppers_of (aCons (dVar 0) aNil)) (aCons (dCall F_standing_in (aCons (dVar 0) aNil)) aNil)))) (sSeq (sSet 3 (dLc [4] (iSeq (dVar 2)) (gVar 4) (dCon (.bl true)) (dIxD (dVar 1) (dVar 4)))) (sRet (dSorted (dLc [4] (iSeq (dVar 2)) (gVar 4) (dNin (dVar 4) (dVar 3)) (dCall F_way_in (aCons (dVar 0) (aCons (dVar 4) aNil))))))))
/-- ways: words -/
def F_ways : Fn := fnK 1 0 (sSeq (sEx (dCall F_check_words (aCons (dVar 0) aNil))) (sRet (dCall F_ways_of (aCons (dVar 0) aNil))))
/-- is_like: thing -/
def F_is_like : Fn := fnK 1 0 (sRet (dAnd (dIsTup (dVar 0)) (dAnd (dEq (dLen (dVar 0)) (dCon (.int 2))) (dAnd (dCall F_is_between (aCons (dIx (dVar 0) (dCon (.int 0))) (aCons (dCon (.int 0)) (aCons (dCon (.int 5)) aNil)))) (dCall F_is_part (aCons (dIx (dVar 0) (dCon (.int 1))) aNil))))))
/-- liked: words, likes, one, uppers, stands, marks, many, part, below, other, way, here -/
def F_liked : Fn := fnK 2 10 (sSeq (sEx (dCall F_check_words (aCons (dVar 0) aNil))) (sSeq (sIf (dOr (dNot (dIsList (dVar 1))) (dOr (dGt (dLen (dVar 1)) (dCon (.int 60))) (dNot (dAll (dLc [2] (iSeq (dVar 1)) (gVar 2) (dCon (.bl true)) (dCall F_is_like (aCons (dVar 2) aNil))))))) sNever sNop) (sSeq (sIf (dLt (dLset (dVar 1)) (dLen (dVar 1))) sNever sNop) (sSeq (sUnp (gTup (gCons (gVar 3) (gCons (gVar 4) (gCons (gVar 5) gNil)))) (dTup (aCons (dCall F_uppers_of (aCons (dVar 0) aNil)) (aCons (dCall F_standing_in (aCons (dVar 0) aNil)) (aCons dDict aNil))))) (sSeq (sFor (iSeq (dSorted (dLc [7] (iSeq (dVar 4)) (gVar 7) (dCon (.bl true)) (dTup (aCons (dNeg (dLen (dCall F_way_in (aCons (dVar 0) (aCons (dVar 7) aNil))))) (aCons (dVar 7) aNil)))))) (gTup (gCons (gVar 6) (gCons (gVar 7) gNil))) (sSeq (sSet 8 (dLc [9] (iSeq (dVar 4)) (gVar 9) (dEq (dIxD (dVar 3) (dVar 9)) (dVar 7)) (dIxD (dVar 5) (dVar 9)))) (sPut (dVar 5) (dVar 7) (dAdd (dCall F_likes_of (aCons (dVar 1) (aCons (dVar 7) aNil))) (dMax (dAdd (dLst (aCons (dCon (.int 0)) aNil)) (dVar 8))))))) (sSeq (sUnp (gTup (gCons (gVar 10) (gCons (gVar 11) gNil))) (dTup (aCons (dLst aNil) (aCons (dLc [7] (iSeq (dVar 4)) (gVar 7) (dIsN (dIxD (dVar 3) (dVar 7))) (dVar 7)) aNil)))) (sSeq (sWh (dNe (dVar 11) (dLst aNil)) (sSeq (sEx (dApp (dVar 10) (dIx (dMax (dLc [7] (iSeq (dVar 11)) (gVar 7) (dCon (.bl true)) (dTup (aCons (dIxD (dVar 5) (dVar 7)) (aCons (dVar 7) aNil))))) (dCon (.int 1))))) (sSet 11 (dLc [7] (iSeq (dVar 4)) (gVar 7) (dEq (dIxD (dVar 3) (dVar 7)) (dIx (dVar 10) (dNeg (dCon (.int 1))))) (dVar 7))))) (sRet (dMk 3 F_Liked_init (aCons (dVar 10) (aCons (dLc [7] (iSeq (dVar 4)) (gVar 7) (dCon (.bl true)) (dIxD (dVar 5) (dVar 7))) aNil)))))))))))
/-- may_go_on: words, part, rest, way, late, one, hand -/
def F_may_go_on : Fn := fnK 3 4 (sSeq (sEx (dCall F_check_words (aCons (dVar 0) aNil))) (sSeq (sEx (dCall F_check_heard (aCons (dVar 0) (aCons (dVar 1) aNil)))) (sSeq (sEx (dCall F_check_rest (aCons (dVar 2) aNil))) (sSeq (sIf (dNin (dVar 1) (dCall F_standing_in (aCons (dVar 0) aNil))) (sRet (dLst aNil)) sNop) (sSeq (sSet 3 (dCall F_way_in (aCons (dVar 0) (aCons (dVar 1) aNil)))) (sSeq (sSet 4 (dLc [5] (iSeq (dSl (dVar 3) (dMx2 (dCon (.int 0)) (dSub (dLen (dVar 3)) (dVar 2))) (dCon .non))) (gVar 5) (dCon (.bl true)) (dIx (dVar 5) (dCon (.int 0))))) (sRet (dLc [6] (iRange (dAdd (dCon (.int 5)) (dCon (.int 1)))) (gVar 6) (dNin (dVar 6) (dVar 4)) (dVar 6)))))))))
/-- Desk.__init__: self, hand, rest -/
def F_Desk_init : Fn := fnK 3 0 (sSeq (sIf (dNot (dCall F_is_between (aCons (dVar 1) (aCons (dCon (.int 0)) (aCons (dCon (.int 5)) aNil))))) sNever sNop) (sSeq (sEx (dCall F_check_rest (aCons (dVar 2) aNil))) (sSeq (sFld (dVar 0) 3 (dVar 1)) (sSeq (sFld (dVar 0) 4 (dVar 2)) (sFld (dVar 0) 5 (dLst aNil))))))
/-- Desk.hear: self, words, found, before, after, part -/
def F_Desk_hear : Fn := fnK 2 4 (sSeq (sEx (dCall F_check_words (aCons (dVar 1) aNil))) (sSeq (sEx (dCall F_check_alike (aCons (dAdd (dFld (dVar 0) 5) (dVar 1)) aNil))) (sSeq (sSet 2 (dCall F_once (aCons (dAdd (dFld (dVar 0) 5) (dVar 1)) aNil))) (sSeq (sIf (dGt (dLen (dVar 2)) (dCon (.int 60))) sNever sNop) (sSeq (sUnp (gTup (gCons (gVar 3) (gCons (gVar 4) gNil))) (dTup (aCons (dCall F_standing_in (aCons (dFld (dVar 0) 5) aNil)) (aCons (dCall F_standing_in (aCons (dVar 2) aNil)) aNil)))) (sSeq (sFld (dVar 0) 5 (dVar 2)) (sRet (dTup (aCons (dLc [5] (iSeq (dVar 4)) (gVar 5) (dNin (dVar 5) (dVar 3)) (dVar 5)) (aCons (dLc [5] (iSeq (dVar 3)) (gVar 5) (dNin (dVar 5) (dVar 4)) (dVar 5)) aNil))))))))))
/-- Desk.words: self -/
def F_Desk_words : Fn := fnK 1 0 (sRet (dList (dFld (dVar 0) 5)))
/-- Desk.standing: self -/
def F_Desk_standing : Fn := fnK 1 0 (sRet (dCall F_standing_in (aCons (dFld (dVar 0) 5) aNil)))
/-- Desk.waiting: self -/
def F_Desk_waiting : Fn := fnK 1 0 (sRet (dCall F_waiting (aCons (dFld (dVar 0) 5) aNil)))
/-- Desk.ways: self -/
def F_Desk_ways : Fn := fnK 1 0 (sRet (dCall F_ways (aCons (dFld (dVar 0) 5) aNil)))
/-- Desk.my_ends: self, ends, way, part -/
def F_Desk_my_ends : Fn := fnK 1 3 (sSeq (sSet 1 (dSorted (dLc [2] (iSeq (dMth [(6, F_Desk_ways)] (dVar 0) aNil)) (gVar 2) (dCon (.bl true)) (dIx (dVar 2) (dNeg (dCon (.int 1))))))) (sRet (dLc [3] (iSeq (dVar 1)) (gVar 3) (dIn (dFld (dVar 0) 3) (dCall F_may_go_on (aCons (dFld (dVar 0) 5) (aCons (dVar 3) (aCons (dFld (dVar 0) 4) aNil))))) (dVar 3))))
/-- check_going: words, part, mays, rest, length, may -/
def F_check_going : Fn := fnK 5 1 (sSeq (sEx (dCall F_check_words (aCons (dVar 0) aNil))) (sSeq (sIf (dAnd (dNotN (dVar 1)) (dOr (dNot (dCall F_is_part (aCons (dVar 1) aNil))) (dNin (dVar 1) (dCall F_standing_in (aCons (dVar 0) aNil))))) sNever sNop) (sSeq (sIf (dOr (dNot (dIsList (dVar 2))) (dNe (dLen (dVar 2)) (dAdd (dCon (.int 5)) (dCon (.int 1))))) sNever sNop) (sSeq (sIf (dNot (dAll (dLc [5] (iSeq (dVar 2)) (gVar 5) (dCon (.bl true)) (dCall F_is_between (aCons (dVar 5) (aCons (dCon (.int 0)) (aCons (dCon (.int 20)) aNil))))))) sNever sNop) (sSeq (sEx (dCall F_check_rest (aCons (dVar 3) aNil))) (sIf (dNot (dCall F_is_between (aCons (dVar 4) (aCons (dCon (.int 0)) (aCons (dCon (.int 60)) aNil))))) sNever sNop))))))
/-- gone_through: mays, frees, rest, length, left, free, order, place, some, hand -/
def F_gone_through : Fn := fnK 4 6 (sSeq (sUnp (gTup (gCons (gVar 4) (gCons (gVar 5) (gCons (gVar 6) gNil)))) (dTup (aCons (dList (dVar 0)) (aCons (dList (dVar 1)) (aCons (dLst aNil) aNil))))) (sSeq (sFor (iRange (dVar 3)) (gVar 7) (sSeq (sSet 8 (dLc [9] (iRange (dLen (dVar 0))) (gVar 9) (dAnd (dGt (dIx (dVar 4) (dVar 9)) (dCon (.int 0))) (dLe (dIx (dVar 5) (dVar 9)) (dVar 7))) (dTup (aCons (dIx (dVar 4) (dVar 9)) (aCons (dVar 9) aNil))))) (sSeq (sIf (dEq (dVar 8) (dLst aNil)) (sRet (dTup (aCons (dVar 6) (aCons (dVar 4) aNil)))) sNop) (sSeq (sSet 9 (dIx (dMax (dVar 8)) (dCon (.int 1)))) (sSeq (sEx (dApp (dVar 6) (dVar 9))) (sSeq (sIxSub (dVar 4) (dVar 9) (dCon (.int 1))) (sIx (dVar 5) (dVar 9) (dAdd (dAdd (dVar 7) (dVar 2)) (dCon (.int 1)))))))))) (sRet (dTup (aCons (dVar 6) (aCons (dVar 4) aNil))))))
/-- gone_on: words, part, mays, rest, length, frees, order, left -/
def F_gone_on : Fn := fnK 5 3 (sSeq (sEx (dCall F_check_going (aCons (dVar 0) (aCons (dVar 1) (aCons (dVar 2) (aCons (dVar 3) (aCons (dVar 4) aNil))))))) (sSeq (sSet 5 (dCall F_free_from (aCons (dVar 0) (aCons (dVar 1) (aCons (dVar 3) aNil))))) (sSeq (sUnp (gTup (gCons (gVar 6) (gCons (gVar 7) gNil))) (dCall F_gone_through (aCons (dVar 2) (aCons (dVar 5) (aCons (dVar 3) (aCons (dVar 4) aNil)))))) (sSeq (sIf (dEq (dLen (dVar 6)) (dVar 4)) (sRet (dMk 4 F_Turns_init (aCons (dVar 6) aNil))) sNop) (sRet dNev)))))
/-- _law_deep: _law_thing, _law_one -/
def F__law_deep : Nat → Fn
  | 0 => FNo
  | n + 1 => fnK 1 1 (sSeq (sIf (dIsList (dVar 0)) (sRet (dLc [1] (iSeq (dVar 0)) (gVar 1) (dCon (.bl true)) (dCall (F__law_deep n) (aCons (dVar 1) aNil)))) sNop) (sRet (dIte (dIsTup (dVar 0)) (dTuple (dLc [1] (iTup (dVar 0)) (gVar 1) (dCon (.bl true)) (dCall (F__law_deep n) (aCons (dVar 1) aNil)))) (dVar 0))))
/-- _law_spoilt: _law_found, _law_one -/
def F__law_spoilt : Nat → Fn
  | 0 => FNo
  | n + 1 => fnK 1 1 (sSeq (sIf (dIsLT (dVar 0)) (sFor (iSeq (dVar 0)) (gVar 1) (sEx (dCall (F__law_spoilt n) (aCons (dVar 1) aNil)))) sNop) (sIf (dIsList (dVar 0)) (sEx (dApp (dVar 0) (dTup aNil))) sNop))
/-- _law_put: _law_handed, _law_some, _law_row, _law_other -/
def F__law_put : Fn := fnK 2 2 (sFor (iZip (dVar 0) (dVar 1)) (gTup (gCons (gVar 2) (gCons (gVar 3) gNil))) (sSeq (sWh (dNe (dVar 2) (dLst aNil)) (sEx (dPop (dVar 2)))) (sEx (dExt (dVar 2) (dCall (F__law_deep 6) (aCons (dVar 3) aNil))))))
/-- _law_two: _law_found -/
def F__law_two : Fn := fnK 1 0 (sRet (dTup (aCons (dVar 0) (aCons (dVar 0) aNil))))
/-- _law_why: _law_words, _law_part, _law_found -/
def F__law_why : Fn := fnK 2 1 (sSeq (sSet 2 (dCall F_why (aCons (dVar 0) (aCons (dVar 1) aNil)))) (sRet (dTup (aCons (dLst (aCons (dIsCls (dVar 2) 0) (aCons (dMth [(0, F_Stands_shows),(1, F_Gone_shows)] (dVar 2) (aCons (dCall (F__law_deep 6) (aCons (dVar 0) aNil)) (aCons (dVar 1) aNil))) aNil))) (aCons (dLst aNil) aNil)))))
/-- _law_liked: _law_words, _law_likes, _law_found -/
def F__law_liked : Fn := fnK 2 1 (sSeq (sSet 2 (dCall F_liked (aCons (dVar 0) (aCons (dVar 1) aNil)))) (sRet (dTup (aCons (dLst (aCons (dMth [(3, F_Liked_shows)] (dVar 2) (aCons (dCall (F__law_deep 6) (aCons (dVar 0) aNil)) (aCons (dList (dVar 1)) aNil))) aNil)) (aCons (dLst (aCons (dFld (dVar 2) 0) (aCons (dFld (dVar 2) 1) aNil))) aNil)))))
/-- _law_gone: _law_words, _law_part, _law_mays, _law_found, _law_some -/
def F__law_gone : Fn := fnK 3 2 (sSeq (sSet 3 (dCall F_gone_on (aCons (dVar 0) (aCons (dVar 1) (aCons (dVar 2) (aCons (dCon (.int 2)) (aCons (dCon (.int 3)) aNil))))))) (sSeq (sSet 4 (dIte (dIsCls (dVar 3) 4) (dFld (dVar 3) 2) (dFld (dVar 3) 7))) (sRet (dTup (aCons (dLst (aCons (dIsCls (dVar 3) 4) (aCons (dMth [(4, F_Turns_shows)] (dVar 3) (aCons (dCall (F__law_deep 6) (aCons (dVar 0) aNil)) (aCons (dVar 1) (aCons (dList (dVar 2)) (aCons (dCon (.int 2)) (aCons (dCon (.int 3)) aNil)))))) aNil))) (aCons (dVar 4) aNil))))))
/-- _law_desk: _law_words, _law_desk_here, _law_found -/
def F__law_desk : Fn := fnK 1 2 (sSeq (sSet 1 (dMk 6 F_Desk_init (aCons (dCon (.int 5)) (aCons (dCon (.int 1)) aNil)))) (sSeq (sSet 2 (dLst (aCons (dMth [(6, F_Desk_hear)] (dVar 1) (aCons (dVar 0) aNil)) (aCons (dMth [(6, F_Desk_words)] (dVar 1) aNil) (aCons (dMth [(6, F_Desk_standing)] (dVar 1) aNil) (aCons (dMth [(6, F_Desk_waiting)] (dVar 1) aNil) (aCons (dMth [(6, F_Desk_ways)] (dVar 1) aNil) (aCons (dMth [(6, F_Desk_my_ends)] (dVar 1) aNil) aNil)))))))) (sRet (dCall F__law_two (aCons (dAdd (dVar 2) (dLst (aCons (dMth [(6, F_Desk_words)] (dVar 1) aNil) (aCons (dMth [(6, F_Desk_standing)] (dVar 1) aNil) (aCons (dMth [(6, F_Desk_waiting)] (dVar 1) aNil) (aCons (dMth [(6, F_Desk_ways)] (dVar 1) aNil) aNil)))))) aNil)))))
def B_0 : D := (dCall F__law_two (aCons (dLst (aCons (dMth [(0, F_Stands_shows),(1, F_Gone_shows)] (dVar 2) (aCons (dIx (dVar 0) (dCon (.int 0))) (aCons (dVar 1) aNil))) aNil)) aNil))
def L_0 : List W → Fn := lamK [0,2] B_0
def B_1 : D := (dCall F__law_why (aCons (dIx (dVar 0) (dCon (.int 0))) (aCons (dVar 1) aNil)))
def L_1 : List W → Fn := lamK [0] B_1
def B_2 : D := (dCall F__law_two (aCons (dCall F_waiting (aCons (dIx (dVar 0) (dCon (.int 0))) aNil)) aNil))
def L_2 : List W → Fn := lamK [] B_2
def B_3 : D := (dCall F__law_two (aCons (dCall F_standing (aCons (dIx (dVar 0) (dCon (.int 0))) aNil)) aNil))
def L_3 : List W → Fn := lamK [] B_3
def B_4 : D := (dCall F__law_two (aCons (dCall F_may_go_on (aCons (dIx (dVar 0) (dCon (.int 0))) (aCons (dVar 1) (aCons (dVar 2) aNil)))) aNil))
def L_4 : List W → Fn := lamK [0,1] B_4
def B_5 : D := (dCall F__law_two (aCons (dCall F_ways (aCons (dIx (dVar 0) (dCon (.int 0))) aNil)) aNil))
def L_5 : List W → Fn := lamK [] B_5
def B_6 : D := (dCall F__law_desk (aCons (dIx (dVar 0) (dCon (.int 0))) aNil))
def L_6 : List W → Fn := lamK [] B_6
def B_7 : D := (dCall F__law_gone (aCons (dIx (dVar 0) (dCon (.int 0))) (aCons (dTup (aCons (dCon (.int 0)) (aCons (dCon (.int 0)) aNil))) (aCons (dIx (dVar 0) (dCon (.int 1))) aNil))))
def L_7 : List W → Fn := lamK [] B_7
def B_8 : D := (dCall F__law_two (aCons (dCall F_joined (aCons (dIx (dVar 0) (dCon (.int 0))) (aCons (dIx (dVar 0) (dCon (.int 1))) aNil))) aNil))
def L_8 : List W → Fn := lamK [] B_8
def B_9 : D := (dCall F__law_two (aCons (dLst (aCons (dMth [(3, F_Liked_shows)] (dVar 1) (aCons (dIx (dVar 0) (dCon (.int 0))) (aCons (dIx (dVar 0) (dCon (.int 1))) aNil))) aNil)) aNil))
def L_9 : List W → Fn := lamK [3] B_9
def B_10 : D := (dCall F__law_liked (aCons (dIx (dVar 0) (dCon (.int 0))) (aCons (dIx (dVar 0) (dCon (.int 1))) aNil)))
def L_10 : List W → Fn := lamK [] B_10
def LT (g : List W) : Nat → Fn
  | 0 => L_0 g
  | 1 => L_1 g
  | 2 => L_2 g
  | 3 => L_3 g
  | 4 => L_4 g
  | 5 => L_5 g
  | 6 => L_6 g
  | 7 => L_7 g
  | 8 => L_8 g
  | 9 => L_9 g
  | 10 => L_10 g
  | _ => FNo
/-- _law_door_right: _law_ask, _law_lists, _law_others, _law_handed, _law_fixed, _law_told_lists, _law_text, _law_due, _law_some, _law_again -/
def F__law_door_right (g : List W) : Fn := fnK 3 7 (sSeq (sSet 3 (dCall (F__law_deep 6) (aCons (dVar 1) aNil))) (sSeq (sUnp (gTup (gCons (gVar 4) (gCons (gVar 5) gNil))) (dClv (LT g) 0 (aCons (dVar 3) aNil))) (sSeq (sPar [6,7] (aCons (dStr (dVar 4)) (aCons (dStr (dIx (dClv (LT g) 0 (aCons (dCall (F__law_deep 6) (aCons (dVar 2) aNil)) aNil)) (dCon (.int 0)))) aNil))) (sSeq (sIf (dNe (dVar 3) (dVar 1)) (sRet (dCon (.bl false))) sNop) (sSeq (sEx (dCall (F__law_spoilt 6) (aCons (dVar 5) aNil))) (sSeq (sIf (dOr (dNe (dStr (dIx (dClv (LT g) 0 (aCons (dVar 3) aNil)) (dCon (.int 0)))) (dVar 6)) (dNe (dVar 3) (dVar 1))) (sRet (dCon (.bl false))) sNop) (sSeq (sFor (iTup (dTup (aCons (dTup (aCons (dVar 2) (aCons (dVar 7) aNil))) (aCons (dTup (aCons (dVar 1) (aCons (dVar 6) aNil))) aNil)))) (gTup (gCons (gVar 8) (gCons (gVar 9) gNil))) (sSeq (sEx (dCall F__law_put (aCons (dVar 3) (aCons (dVar 8) aNil)))) (sIf (dOr (dNe (dStr (dIx (dClv (LT g) 0 (aCons (dVar 3) aNil)) (dCon (.int 0)))) (dVar 9)) (dNe (dVar 3) (dVar 8))) (sRet (dCon (.bl false))) sNop))) (sRet (dCon (.bl true))))))))))
/-- _law_doors_right: _law_asks, _law_lists, _law_others, _law_ask -/
def F__law_doors_right (g : List W) : Fn := fnK 3 1 (sRet (dAll (dLc [3] (iSeq (dVar 0)) (gVar 3) (dCon (.bl true)) (dCall (F__law_door_right g) (aCons (dVar 3) (aCons (dVar 1) (aCons (dVar 2) aNil)))))))
/-- law: _law_script, _law_words, _law_other, _law_by, _law_part, _law_rest, _law_here, _law_asks, _law_likes, _law_more, _law_made; ahead of the loop, a turn behind its two draws, behind the loop -/
def T_pre : DT := (sSeq (sSet 1 (dLst (aCons (dTup (aCons (dCon .sp) (aCons (dCon (.int 0)) (aCons (dCon (.int 0)) (aCons (dCon .non) aNil))))) (aCons (dTup (aCons (dCon .sp) (aCons (dCon (.int 1)) (aCons (dCon (.int 0)) (aCons (dTup (aCons (dCon (.int 0)) (aCons (dCon (.int 0)) aNil))) aNil))))) (aCons (dTup (aCons (dCon .sp) (aCons (dCon (.int 0)) (aCons (dCon (.int 1)) (aCons (dTup (aCons (dCon (.int 1)) (aCons (dCon (.int 0)) aNil))) aNil))))) (aCons (dTup (aCons (dCon .sp) (aCons (dCon (.int 2)) (aCons (dCon (.int 0)) (aCons (dTup (aCons (dCon (.int 0)) (aCons (dCon (.int 0)) aNil))) aNil))))) aNil)))))) (sSet 2 (dLst (aCons (dTup (aCons (dCon .sp) (aCons (dCon (.int 0)) (aCons (dCon (.int 0)) (aCons (dCon .non) aNil))))) (aCons (dTup (aCons (dCon .sp) (aCons (dCon (.int 1)) (aCons (dCon (.int 0)) (aCons (dTup (aCons (dCon (.int 0)) (aCons (dCon (.int 0)) aNil))) aNil))))) (aCons (dTup (aCons (dCon .sp) (aCons (dCon (.int 0)) (aCons (dCon (.int 1)) (aCons (dTup (aCons (dCon (.int 1)) (aCons (dCon (.int 0)) aNil))) aNil))))) (aCons (dTup (aCons (dCon .so) (aCons (dCon (.int 1)) (aCons (dCon (.int 0)) aNil)))) aNil)))))))
def T_turn : DT := (sSeq (sSet 6 (dCall F_why (aCons (dVar 1) (aCons (dVar 4) aNil)))) (sSeq (sSet 7 (dLst (aCons (dLam 1) (aCons (dLam 0) aNil)))) (sSeq (sSet 7 (dAdd (dVar 7) (dLst (aCons (dLam 3) (aCons (dLam 2) aNil))))) (sSeq (sSet 7 (dAdd (dVar 7) (dLst (aCons (dLam 5) (aCons (dLam 4) aNil))))) (sSeq (sIf (dNot (dCallG F__law_doors_right [4,5,6,10] (aCons (dAdd (dVar 7) (dLst (aCons (dLam 6) aNil))) (aCons (dLst (aCons (dVar 1) aNil)) (aCons (dLst (aCons (dVar 2) aNil)) aNil))))) (sRet (dCon (.bl false))) sNop) (sSeq (sSet 7 (dLst (aCons (dLam 7) aNil))) (sIf (dNot (dCallG F__law_doors_right [4,5,6,10] (aCons (dVar 7) (aCons (dLst (aCons (dVar 1) (aCons (dLst (aCons (dCon (.int 2)) (aCons (dCon (.int 2)) (aCons (dCon (.int 1)) (aCons (dCon (.int 0)) (aCons (dCon (.int 0)) (aCons (dCon (.int 0)) aNil))))))) aNil))) (aCons (dLst (aCons (dVar 2) (aCons (dLst (aCons (dCon (.int 0)) (aCons (dCon (.int 2)) (aCons (dCon (.int 1)) (aCons (dCon (.int 1)) (aCons (dCon (.int 0)) (aCons (dCon (.int 0)) aNil))))))) aNil))) aNil))))) (sRet (dCon (.bl false))) sNop)))))))
def T_tail : DT := (sSeq (sSet 7 (dLst (aCons (dLam 8) aNil))) (sSeq (sIf (dNot (dCallG F__law_doors_right [4,5,6,10] (aCons (dVar 7) (aCons (dLst (aCons (dVar 1) (aCons (dVar 2) aNil))) (aCons (dLst (aCons (dVar 2) (aCons (dVar 1) aNil))) aNil))))) (sRet (dCon (.bl false))) sNop) (sSeq (sPar [8,9] (aCons (dLst (aCons (dTup (aCons (dCon (.int 0)) (aCons (dTup (aCons (dCon (.int 0)) (aCons (dCon (.int 1)) aNil))) aNil))) (aCons (dTup (aCons (dCon (.int 1)) (aCons (dTup (aCons (dCon (.int 2)) (aCons (dCon (.int 0)) aNil))) aNil))) (aCons (dTup (aCons (dCon (.int 2)) (aCons (dTup (aCons (dCon (.int 2)) (aCons (dCon (.int 0)) aNil))) aNil))) aNil)))) (aCons (dLst (aCons (dTup (aCons (dCon (.int 0)) (aCons (dTup (aCons (dCon (.int 0)) (aCons (dCon (.int 0)) aNil))) aNil))) (aCons (dTup (aCons (dCon (.int 3)) (aCons (dTup (aCons (dCon (.int 0)) (aCons (dCon (.int 1)) aNil))) aNil))) (aCons (dTup (aCons (dCon (.int 2)) (aCons (dTup (aCons (dCon (.int 0)) (aCons (dCon (.int 1)) aNil))) aNil))) aNil)))) aNil))) (sSeq (sSet 10 (dCall F_liked (aCons (dVar 1) (aCons (dVar 8) aNil)))) (sSeq (sSet 7 (dLst (aCons (dLam 10) (aCons (dLam 9) aNil)))) (sSeq (sIf (dNot (dCallG F__law_doors_right [4,5,6,10] (aCons (dVar 7) (aCons (dLst (aCons (dVar 1) (aCons (dVar 8) aNil))) (aCons (dLst (aCons (dVar 1) (aCons (dVar 9) aNil))) aNil))))) (sRet (dCon (.bl false))) sNop) (sRet (dCallG F__law_doors_right [4,5,6,10] (aCons (dVar 7) (aCons (dLst (aCons (dVar 1) (aCons (dVar 8) aNil))) (aCons (dLst (aCons (dVar 2) (aCons (dVar 8) aNil))) aNil)))))))))))
end
end G
/-! K19: facts of the top, small rules for the printed derivations. -/
namespace G
open PySem PySem.Spec PyProof.Rows L2
/-- the fields' names -/
def fnames : Nat → Str
  | 0 => "way" | 1 => "marks" | 2 => "order" | 3 => "hand" | 4 => "rest" | 5 => "known" | 6 => "chain" | 7 => "stretches"
  | n + 8 => ⟨Array.replicate (n + 20) 120⟩
def lenS (x : Str) : Nat := x.cps.size
theorem fnames_big (n : Nat) : lenS (fnames (n + 8)) = n + 20 := by
  show (Array.replicate (n + 20) 120).size = n + 20
  simp
theorem fnames_ne {m : Str} (h1 : lenS m < 20) (h2 : ∀ i, i < 8 → fnames i ≠ m) : ∀ i, fnames i ≠ m := fun i e => by
  by_cases hi : i < 8
  · exact h2 i hi e
  · obtain ⟨n, rfl⟩ : ∃ n, i = n + 8 := ⟨i - 8, by omega⟩
    have := fnames_big n
    rw [e] at this
    omega
theorem fnames_lt {i : Nat} (h : i < 8) : lenS (fnames i) < 20 := by
  have : ∀ j, j < 8 → lenS (fnames j) < 20 := by decide +kernel
  exact this i h
theorem fnames_inj : ∀ i j, fnames i = fnames j → i = j := by
  have small : ∀ i, i < 8 → ∀ j, j < 8 → fnames i = fnames j → i = j := by decide +kernel
  intro i j e
  by_cases hi : i < 8 <;> by_cases hj : j < 8
  · exact small i hi j hj e
  · obtain ⟨n, rfl⟩ : ∃ n, j = n + 8 := ⟨j - 8, by omega⟩
    have h1 := fnames_lt hi
    rw [e, fnames_big] at h1
    omega
  · obtain ⟨n, rfl⟩ : ∃ n, i = n + 8 := ⟨i - 8, by omega⟩
    have h1 := fnames_lt hj
    rw [← e, fnames_big] at h1
    omega
  · obtain ⟨n, rfl⟩ : ∃ n, i = n + 8 := ⟨i - 8, by omega⟩
    obtain ⟨m, rfl⟩ : ∃ n, j = n + 8 := ⟨j - 8, by omega⟩
    have h1 := fnames_big n
    rw [e, fnames_big] at h1
    omega
/-- what the top leaves -/
structure Fx (K : PySem.W.Frag) (mg : Str → Option Value) (Z : Par) : Prop where
  hZ : Z.K = K
  C : ClsF K Z
  fn : Z.fname = fnames
  n_len : mg "len" = none
  n_list : mg "list" = none
  n_tuple : mg "tuple" = none
  n_any : mg "any" = none
  n_all : mg "all" = none
  n_sum : mg "sum" = none
  n_max : mg "max" = none
  n_sorted : mg "sorted" = none
  n_range : mg "range" = none
  n_zip : mg "zip" = none
  n_enumerate : mg "enumerate" = none
  n_isinstance : mg "isinstance" = none
  n_int : mg "int" = none
  n_bool : mg "bool" = none
  n_str : mg "str" = none
  n_set : mg "set" = none
  n_dict : mg "dict" = none
  i_MOST_HAND : ∃ t, mg "MOST_HAND" = some (.int 5 t)
  i_MOST_OWN : ∃ t, mg "MOST_OWN" = some (.int 9 t)
  i_MOST_WORDS : ∃ t, mg "MOST_WORDS" = some (.int 60 t)
  i_MOST_REST : ∃ t, mg "MOST_REST" = some (.int 5 t)
  i_MOST_LIKES : ∃ t, mg "MOST_LIKES" = some (.int 60 t)
  i_MOST_MAY : ∃ t, mg "MOST_MAY" = some (.int 20 t)
  i_LONGEST : ∃ t, mg "LONGEST" = some (.int 60 t)
  k_Stands : mg "Stands" = some (.ref (Z.ca 0))
  k_Waits : mg "Waits" = some (.ref (Z.ca 2))
  k_Turns : mg "Turns" = some (.ref (Z.ca 4))
theorem Fx.at {K : PySem.W.Frag} {mg : Str → Option Value} {Z : Par} (fx : Fx K mg Z) (i : Nat) {m : Str} (h : fnames i = m) : Z.fname i = m := by rw [fx.fn]; exact h
theorem Fx.nm {K : PySem.W.Frag} {mg : Str → Option Value} {Z : Par} (fx : Fx K mg Z) {m : Str} (h1 : lenS m < 20) (h2 : ∀ i, i < 8 → fnames i ≠ m) : ∀ i, Z.fname i ≠ m := by rw [fx.fn]; exact fnames_ne h1 h2
section
variable {X : Cx} {Z : Par} {pos : Pos} {x : Str} {e : Expr}
theorem eGlobX {i : Int} (hg : Gl X x) (hm : ∃ t, X.mg x = some (.int i t)) (hd : (x == ("__debug__" : Str)) = false := by decide) : PE X (.Name x pos) (tD Z (dCon (.int i))) := by
  obtain ⟨t, hm⟩ := hm
  exact eGlob hg hm hd
theorem eNev : PE X e (tD Z dNev) := ⟨fun _ _ _ _ _ _ ⟨_, _, _, _, z, _⟩ => by cases z⟩
end
theorem un65 {k : Nat} {A : Around} (hr : Room k A) : A.units + 65 < cLine := by have := hr.un; omega
end G
/-! K21: dict(zip(xs, ys)). -/
namespace G
noncomputable section
open PySem PySem.Spec PyProof.Rows L2
def zipPut : List (List Key × V) → List (List Key × Addr) → List V → List (List Key × V)
  | acc, (k, _) :: ks, y :: ys => zipPut (L2.putK acc k y) ks ys
  | acc, _, _ => acc
def zipH : List (List Key × Addr) → List Value → List (List Key × Addr × Value)
  | (k, b) :: ks, y :: ys => (k, b, y) :: zipH ks ys
  | _, _ => []
theorem zipH_len : ∀ {ks : List (List Key × Addr)} {ys : List Value}, ks.length = ys.length → (zipH ks ys).length = ks.length
  | [], _, _ => rfl
  | _ :: _, [], h => by cases h
  | (k, b) :: ks, y :: ys, h => by show (zipH ks ys).length + 1 = ks.length + 1; rw [zipH_len (Nat.succ.inj h)]
theorem zipH_get : ∀ {ks : List (List Key × Addr)} {ys : List Value} {i : Nat} {key v : Value}, (ks.map fun p => Value.ref p.2)[i]? = some key → ys[i]? = some v → ∃ k b, (zipH ks ys)[i]? = some (k, b, v) ∧ key = .ref b
  | [], _, i, _, _, h, _ => by simp at h
  | _ :: _, [], i, _, _, _, h => by simp at h
  | (k, b) :: ks, y :: ys, 0, _, _, h1, h2 => by cases h1; cases h2; exact ⟨k, b, rfl, rfl⟩
  | (k, b) :: ks, y :: ys, i + 1, _, _, h1, h2 => by
    obtain ⟨k', b', e1, e2⟩ := zipH_get (ks := ks) (ys := ys) (i := i) (by simpa using h1) (by simpa using h2)
    exact ⟨k', b', by simpa [zipH] using e1, e2⟩
theorem zipH_mem : ∀ {ks : List (List Key × Addr)} {ys : List Value} {x}, x ∈ zipH ks ys → (x.1, x.2.1) ∈ ks
  | [], _, _, h => by cases h
  | _ :: _, [], _, h => by cases h
  | (k, b) :: ks, y :: ys, x, h => by
    rcases List.mem_cons.mp (show x ∈ (k, b, y) :: zipH ks ys from h) with e | e
    · rw [e]; exact List.mem_cons_self
    · exact List.mem_cons_of_mem _ (zipH_mem e)
theorem zip_KT {H : Hp} : ∀ {ks : List (List Key × Addr)} {ys : List V} {us : List Value} {acc : List (List Key × V)} {xs : List (List Key × Addr × Value)}, KT H acc xs → (∀ p ∈ ks, H p.2 = some (.tup (p.1.map kV))) → Vals ys us → KT H (zipPut acc ks ys) ((zipH ks us).foldl (fun acc p => storedH acc p.1 p.2.1 p.2.2) xs)
  | [], _, _, _, _, r, _, _ => r
  | (k, b) :: ks, [], _, _, _, r, _, h => by cases h; exact r
  | (k, b) :: ks, y :: ys, _, acc, xs, r, hk, h => by
    cases h with
    | cons h1 h2 =>
      rename_i u us
      have r2 : KT H (L2.putK acc k y) (storedH xs k b u) := r.put k (hk (k, b) List.mem_cons_self) h1
      exact zip_KT (ks := ks) (ys := ys) (us := us) r2 (fun p hp => hk p (List.mem_cons_of_mem _ hp)) h2
theorem zipPut_len : ∀ {ks : List (List Key × Addr)} {ys : List V} {acc : List (List Key × V)}, (zipPut acc ks ys).length ≤ acc.length + ks.length
  | [], _, acc => Nat.le_refl _
  | _ :: _, [], acc => Nat.le_add_right _ _
  | (k, b) :: ks, y :: ys, acc => by
    have h := zipPut_len (ks := ks) (ys := ys) (acc := L2.putK acc k y)
    have h2 := length_putK acc k y
    show (zipPut (L2.putK acc k y) ks ys).length ≤ acc.length + (ks.length + 1)
    omega
def tDz (K : PySem.W.Frag) (ta tb : TE) : TE := fun σ H Q => tCons ta (tCons tb tNil) σ H fun vs H2 => ∃ (l1 l2 : Addr) (ks : List (List Key × Addr)) (ys : List V), vs = [V.ref l1, V.ref l2] ∧ SqL K H2 l1 (ks.map fun p => V.ref p.2) ∧ SqL K H2 l2 ys ∧ ks.length = ys.length ∧
  (∀ p ∈ ks, H2 p.2 = some (.tup (p.1.map kV))) ∧ ∀ d, H2 d = none → Q (.ref d) (upd H2 d (.dT (zipPut [] ks ys)))
section
variable {X : Cx} {Z : Par} {a b : Expr} {da db : D} {ta tb : TE} {p p2 q pos : Pos}
theorem refs_val : ∀ {ks : List (List Key × Addr)} {us : List Value}, Vals (ks.map fun p => V.ref p.2) us → us = ks.map fun p => Value.ref p.2
  | [], _, h => by cases h; rfl
  | p :: ks, _, h => by
    cases h with
    | cons h1 h2 =>
      cases h1
      rw [refs_val h2]; rfl
theorem pe_dzip (hc : X.calm = true) (hu : X.A.units + 65 < cLine) (hg : Gl X "dict") (hm : X.mg "dict" = none) (hg2 : Gl X "zip") (hm2 : X.mg "zip" = none) (ha : PE X a ta) (hb : PE X b tb)
    (na : starEach [.Call (.Name "zip" p2) [a, b] [] q] X.env = (false, eval (.Call (.Name "zip" p2) [a, b] [] q) X.env) :: starEach [] X.env := by rfl)
    (he : starEach [a, b] X.env = (false, eval a X.env) :: starEach [b] X.env := by rfl) (he2 : starEach [b] X.env = (false, eval b X.env) :: starEach [] X.env := by rfl) (hpl : (backTo q (starEach [b] X.env)).any (·.1) = false := by rfl) :
    PE X (.Call (.Name "dict" p) [.Call (.Name "zip" p2) [a, b] [] q] [] pos) (tDz X.K ta tb) := by
  refine ⟨fun pins s σ H Q I h => ?_⟩
  refine Call_ (ld_blt I hg hm PyProof.Rows.boot_dict ?_)
  refine PyProof.Rows.callWith_type1 (PyProof.Rows.args_cons ?_ na) na rfl
  refine Call_ (ld_blt I hg2 hm2 PyProof.Rows.boot_zip (PyProof.Rows.callWith_type1 (thn ((pa_cons ha (pa_cons hb pa_nil he2) he).run q pins s σ H _ I h) fun us s1 ⟨vs, H1, I1, r1, q1⟩ => ?_) he hpl))
  obtain ⟨l1, l2, ks, ys, rfl, hx, hy, hlen, hk, q1⟩ := q1
  obtain ⟨u1, u2, rfl, e1, e2⟩ := vals2 r1
  cases e1
  cases e2
  obtain ⟨its, rv, p1, z1⟩ := I1.list hx
  obtain ⟨its2, rv2, p2, _⟩ := I1.list hy
  have la : l1 < s1.heap.objs.size := p1.lt
  have lb : l2 < s1.heap.objs.size := p2.lt
  refine call_zip_2 p1.isList p2.isList fun h' hz hTI hTO h1 h2 hsz hkp => PyProof.Rows.args_nil ?_
  have I2 : Inv X pins σ H1 { s1 with heap := h' } := I1.kept (t' := s1.toks) hkp
  have ei := refs_val rv
  have hn : its.length = its2.length := by rw [ei, List.length_map, hlen, rv2.length]
  have hd : H1 h'.objs.size = none := I2.hok.fresh (Nat.le_refl _)
  refine call_dict_pairsH (knd := tupleKind (mixKind X.prog X.w)) (ps := zipH ks its2) (PairArg.zip (s1.heap.objs.size + 4) (s1.heap.objs.size + 2) (s1.heap.objs.size + 3) s1.heap.objs.size (s1.heap.objs.size + 1) l1 l2 (PySem.W.ktu_apart s1.heap.objs.size l1 l2 la lb) its.toArray its2.toArray)
    (I.ok.hd hc) (show X.A.in1.in1.units < cLine from by show X.A.units + 1 + 1 < cLine; omega) ⟨hz, hTI, ⟨_, _, hTO⟩, h1, h2, p1.isList.at fun o e => hkp _ o e, p2.isList.at fun o e => hkp _ o e⟩ ⟨?_, fun i key v hr => ?_⟩ ?_ ?_ fun h2' tk hd' hk' => ?_
  · rw [zipH_len (by rw [hlen, rv2.length]), List.size_toArray, List.size_toArray, ← hn, Nat.min_self, ei, List.length_map]
  · obtain ⟨hr1, hr2⟩ := hr
    exact zipH_get (by rw [← ei]; simpa using hr1) (by simpa using hr2)
  · intro h'' hst x hxm
    have hm := zipH_mem hxm
    obtain ⟨o, items, n, ho, hc', hd', hi⟩ := key_of I1.hok (hk _ hm)
    have hlt : x.2.1 < s1.heap.objs.size := Heap.lt_size ho
    refine ⟨o, items, n, hst x.2.1 o (fun z => ?_) (fun z => ?_) (hkp _ _ ho), hc', hd', hi⟩
    · rw [show x.2.1 = h'.objs.size from z, hsz] at hlt
      exact absurd hlt (Nat.not_lt.mpr (Nat.le_add_right _ _))
    · simp only [List.mem_cons, List.not_mem_nil, or_false] at z
      rcases z with z | z | z | z <;> rw [z] at hlt <;> exact absurd hlt (Nat.not_lt.mpr (by first | exact Nat.le_refl _ | exact Nat.le_add_right _ _))
  · rw [List.size_toArray, List.size_toArray, ← hn, Nat.min_self, ← rv.length]
    exact z1
  · have keep : ∀ b u, s1.heap.get? b = some u → h2'.get? b = some u := fun b u e => hk' b u (fun z => by
      have hlt := Heap.lt_size e
      simp only [List.mem_cons, List.not_mem_nil, or_false] at z
      rcases z with z | z | z | z <;> rw [z] at hlt <;> exact absurd hlt (Nat.not_lt.mpr (by first | exact Nat.le_refl _ | exact Nat.le_add_right _ _))) (hkp b u e)
    obtain ⟨o, es, ep, d1, d2, d3, d4, d5, d6⟩ := hd'
    have hks : ks.length ≤ sizeLine := by rw [List.length_map] at z1; exact z1
    have hbig := I1.big
    refine ⟨.ref h'.objs.size, upd H1 h'.objs.size (.dT (zipPut [] ks ys)), I1.laid (t' := tk) keep (by rw [hsz]; exact Nat.le_add_right _ _) ⟨?_, ?_, _, (zip_KT (acc := []) (xs := []) .nil hk rv2).keeps fun c zs ec => ?_, o, es, ep, d1, d2, d3, d4, d6⟩, rfl, q1 _ hd⟩
    · have := zipPut_len (ks := ks) (ys := ys) (acc := [])
      exact Nat.le_trans this (by show 0 + ks.length ≤ sizeLine; omega)
    · exact beq_eq_false_iff_ne.mpr (fun z => by rw [← z, hsz] at hbig; exact absurd hbig (Nat.not_lt.mpr (Nat.le_add_right _ _)))
    · rw [upd_ne (ne_of_none ec hd)]; exact ec
/-- keys and values, from the interpreter's zip -/
theorem zipK_ok {ρ : Nat → Addr} {N : Nat} {H : Hp} : ∀ {l m : List W} {xs ys : List V} {d : List (List Int × W)} {kvs : List (List Key × V)} {k : List (List Int × W) → Bool}, RL ρ N H l xs → RL ρ N H m ys → RD ρ N H d kvs → (d.map (·.1)).Nodup → zipK l m d k = true →
    ∃ ks : List (List Key × Addr), xs = (ks.map fun p => V.ref p.2) ∧ ks.length = ys.length ∧ (∀ p ∈ ks, H p.2 = some (.tup (p.1.map kV))) ∧ ∃ d', k d' = true ∧ RD ρ N H d' (zipPut kvs ks ys) ∧ (d'.map (·.1)).Nodup ∧ d'.length ≤ d.length + l.length
  | [], [], _, _, d, kvs, k, r1, r2, rd, nd, e => by
    cases r1; cases r2
    exact ⟨[], rfl, rfl, (fun _ h => nomatch h), d, e, rd, nd, Nat.le_refl _⟩
  | [], _ :: _, _, _, _, _, _, _, _, _, _, e => by cases e
  | _ :: _, [], _, _, _, _, _, _, _, _, _, e => by cases e
  | x :: l, y :: m, _, _, d, kvs, k, ⟨u, r, eu, h1, h2⟩, ⟨v, r', ev, h3, h4⟩, rd, nd, e => by
    subst eu ev
    obtain ⟨q, b, e1, eb, hb⟩ := keyK_ok (show keyK x (fun q => G.putK q y d fun d' => zipK l m d' k) = true from e) h1
    obtain ⟨d', e2, rd', nd', _, ln'⟩ := putK_ok h3 nd e1 rd
    obtain ⟨ks, k1, k2, k3, d'', k4, k5, k6, k7⟩ := zipK_ok h2 h4 rd' nd' e2
    refine ⟨((q.map Sum.inl : List Key), b) :: ks, by rw [eb, k1]; rfl, by show ks.length + 1 = r'.length + 1; rw [k2], fun p hp => ?_, d'', k4, k5, k6, ?_⟩
    · rcases List.mem_cons.mp hp with z | z
      · rw [z]; exact hb
      · exact k3 p z
    · show d''.length ≤ d.length + (l.length + 1)
      omega
/-- dict(zip(xs, ys)) -/
theorem eDzip (hZ : Z.K = X.K) (hc : X.calm = true) (hu : X.A.units + 65 < cLine) (hg : Gl X "dict") (hm : X.mg "dict" = none) (hg2 : Gl X "zip") (hm2 : X.mg "zip" = none) (ha : PE X a (tD Z da)) (hb : PE X b (tD Z db))
    (na : starEach [.Call (.Name "zip" p2) [a, b] [] q] X.env = (false, eval (.Call (.Name "zip" p2) [a, b] [] q) X.env) :: starEach [] X.env := by rfl)
    (he : starEach [a, b] X.env = (false, eval a X.env) :: starEach [b] X.env := by rfl) (he2 : starEach [b] X.env = (false, eval b X.env) :: starEach [] X.env := by rfl) (hpl : (backTo q (starEach [b] X.env)).any (·.1) = false := by rfl) :
    PE X (.Call (.Name "dict" p) [.Call (.Name "zip" p2) [a, b] [] q] [] pos) (tD Z (dDzip da db)) :=
  pe_of (pe_dzip hc hu hg hm hg2 hm2 ha hb na he he2 hpl) fun σ H Q w => two (f := fun x y h k => lstAt x h fun _ l => lstAt y h fun _ r => zipK l r [] fun d => alloc h (.dct false d) fun n h => k (.ref n) h)
    (r := fun x y H2 Q => ∃ (l1 l2 : Addr) (ks : List (List Key × Addr)) (ys : List V), [x, y] = [V.ref l1, V.ref l2] ∧ SqL X.K H2 l1 (ks.map fun p : List Key × Addr => V.ref p.2) ∧ SqL X.K H2 l2 ys ∧ ks.length = ys.length ∧ (∀ p ∈ ks, H2 p.2 = some (.tup (p.1.map kV))) ∧ ∀ d, H2 d = none → Q (.ref d) (upd H2 d (.dT (zipPut [] ks ys)))) (fun ρ h H x y v u k Q e R rx ry q => by
      obtain ⟨i, l, xs, hi, ex, ev, ho, rl, hl, e1⟩ := R.lst rx e
      obtain ⟨j, m, ys, hj, ey, eu, ho', rm, hl', e2⟩ := R.lst ry e1
      obtain ⟨ks, k1, k2, k3, d', k4, k5, k6, k7⟩ := zipK_ok (d := []) (kvs := []) rl rm rfl List.nodup_nil e2
      refine ⟨ρ i, ρ j, ks, ys, by rw [ev, eu], by rw [← k1]; exact SqL.of ho, SqL.of ho', k2, k3, fun d hd => ?_⟩
      obtain ⟨h', f1, f2, R', X'⟩ := R.alloc (H2 := H) (o := .dT (zipPut [] ks ys)) (c := .dct false d') hd (fun _ _ e => e) ⟨_, upd_same, RD_mono (fun i hi => snoc_old hi) (Nat.le_succ _) (Stay.upd_new hd) k5, k6, by show d'.length ≤ 101; simp at k7; omega⟩ k4
      exact q _ h' _ (.ref h.n) (.ref d) f1 X' R' ⟨by rw [f2]; exact Nat.lt_succ_self _, by rw [snoc_new]⟩) w
end
end
end G
/-! K22: str of data. -/
namespace G
noncomputable section
open PySem PySem.Spec PyProof.Rows L2
theorem small_short : ∀ n, n < 100 → (PyData.shown (.int (Int.ofNat n))).length ≤ 13 := by decide +kernel
theorem small_log : ∀ n, n < 100 → decide ((Int.ofNat n).natAbs.log2 < 1920) = true := by decide +kernel
theorem small_wt : ∀ n, n < 100 → PyData.weight (.int (Int.ofNat n)) ≤ 7 := by decide +kernel
structure StrOk (d : PyData) (n : Nat) : Prop where
  sh : d.showable = true
  sm : d.intsShort 13 = true
  wt : d.weight ≤ n
theorem str_ok : ∀ w : W, Pr w → okS w = true → StrOk (dat w) (wtK w)
  | .non, _, _ => ⟨rfl, rfl, Nat.zero_le _⟩
  | .bl _, _, _ => ⟨rfl, rfl, Nat.zero_le _⟩
  | .int (.ofNat n), _, e => by
    have h : n < 100 := Nat.le_of_ble_eq_true e
    exact ⟨small_log n h, decide_eq_true (small_short n h), small_wt n h⟩
  | .int (.negSucc n), _, e => by cases e
  | .sp, _, _ => ⟨rfl, rfl, by show PyData.weight (.str "part") ≤ 4; decide⟩
  | .so, _, _ => ⟨rfl, rfl, by show PyData.weight (.str "out") ≤ 4; decide⟩
  | .tn, _, _ => ⟨rfl, rfl, Nat.zero_le _⟩
  | .ln, _, _ => ⟨rfl, rfl, Nat.zero_le _⟩
  | .tc a b, p, e => by
    have e' : (match okS a with | true => okS b | false => false) = true := e
    cases z : okS a with
    | false => rw [z] at e'; cases e'
    | true =>
      rw [z] at e'
      obtain ⟨a1, a2, a3⟩ := str_ok a p.1 z
      obtain ⟨b1, b2, b3⟩ := str_ok b p.2.1 e'
      obtain ⟨l, el⟩ := tl_dat p.2.1 p.2.2
      rw [el] at b1 b2 b3
      rw [dat_tc el]
      refine ⟨?_, ?_, ?_⟩
      · rw [PyData.showable] at b1 ⊢; rw [PyData.showableAll, a1, b1]; rfl
      · rw [PyData.intsShort] at b2 ⊢; rw [PyData.intsShortAll, a2, b2]; rfl
      · rw [PyData.weight] at b3 ⊢; rw [PyData.weightAll]
        show _ ≤ wtK a + 1 + wtK b
        omega
  | .lc a b, p, e => by
    have e' : (match okS a with | true => okS b | false => false) = true := e
    cases z : okS a with
    | false => rw [z] at e'; cases e'
    | true =>
      rw [z] at e'
      obtain ⟨a1, a2, a3⟩ := str_ok a p.1 z
      obtain ⟨b1, b2, b3⟩ := str_ok b p.2.1 e'
      obtain ⟨l, el⟩ := ll_dat p.2.1 p.2.2
      rw [el] at b1 b2 b3
      rw [dat_lc el]
      refine ⟨?_, ?_, ?_⟩
      · rw [PyData.showable] at b1 ⊢; rw [PyData.showableAll, a1, b1]; rfl
      · rw [PyData.intsShort] at b2 ⊢; rw [PyData.intsShortAll, a2, b2]; rfl
      · rw [PyData.weight] at b3 ⊢; rw [PyData.weightAll]
        show _ ≤ wtK a + 1 + wtK b
        omega
  | .und, h, _ => h.elim
  | .ref _, h, _ => h.elim
  | .rep _, h, _ => h.elim
def rStrD (K : PySem.W.Frag) : List V → Hp → VK → Prop := fun vs H Q => ∃ (a : Addr) (d : PyData), vs = [V.ref a] ∧ Dp K H (.ref a) d ∧ d.showable = true ∧ PyData.layable0 d = true ∧ d.depth ≤ 40 ∧ d.intsShort 13 = true ∧ Q (.str d.shown) H
section
variable {X : Cx} {Z : Par} {pos p : Pos} {a : Expr} {da : D}
theorem cr_strD (hu : X.A.units + 65 < cLine) (hgu : X.A.guards = some []) : CallR X (.type "str") (rStrD X.K) := by
  intro pins s σ H vs us Q I r h
  obtain ⟨a, d, rfl, hd, h1, h2, h3, h4, q⟩ := h
  rw [Vals.ref1 r]
  obtain ⟨as, hr⟩ := Dp.reads I d (.ref a) (.ref a) hd rfl
  exact str_of_reads hr h1 (PyData.noDict_hsm (PyData.hasDict_of_layable h2)) hgu (by omega) (fun _ _ e => e) (fun h' u tk hk => ⟨.str d.shown, H, I.kept (t' := tk) hk, ⟨u, rfl⟩, q⟩) (Nat.le_trans (shown_le13 h2 h4) (by decide))
/-- str(xs) -/
theorem eStr (hZ : Z.K = X.K) (hu : X.A.units + 65 < cLine) (hgu : X.A.guards = some []) (hg : Gl X "str") (hm : X.mg "str" = none) (ha : PE X a (tD Z da)) (he : starEach [a] X.env = (false, eval a X.env) :: starEach [] X.env := by rfl) (hpl : (backTo pos (starEach [] X.env)).any (·.1) = false := by rfl) :
    PE X (.Call (.Name "str" p) [a] [] pos) (tD Z (dStr da)) :=
  pe_of (pe_callTy (cr_strD hu hgu) hg hm (by decide +kernel) (pa_cons ha pa_nil he) (he := he) (hpl := hpl)) fun σ H Q w => bone (r := rStrD X.K) (f := fun x h k => match x with
  | .ref n => rd 40 h (.ref n) fun d => strK d (k (.rep d) h)
  | _ => false) (fun ρ h H x v k Q e R rx q => by
    cases x with
    | ref n =>
      obtain ⟨d, e1, g⟩ := (rd_ok R 40).1 (.ref n) v _ e rx
      rw [hZ] at g
      have e1' : (match okS d with | true => (match Nat.ble (wtK d) 1000000 with | true => k (.rep d) h | false => false) | false => false) = true := e1
      cases z : okS d with
      | false => rw [z] at e1'; cases e1'
      | true =>
        rw [z] at e1'
        cases z2 : Nat.ble (wtK d) 1000000 with
        | false => simp only [z2] at e1'; cases e1'
        | true =>
          simp only [z2] at e1'
          obtain ⟨s1, s2, s3⟩ := str_ok d g.pr z
          have hw := Nat.le_of_ble_eq_true z2
          have hdp := g.dep
          refine ⟨ρ n, dat d, by rw [rx.2], by rw [← rx.2]; exact g.dp, s1, ?_, hdp, s2, q.now R (w := .rep d) rfl e1'⟩
          unfold PyData.layable0
          rw [g.lay, decide_eq_true (show (dat d).depth ≤ 64 by omega), decide_eq_true (show (dat d).weight ≤ 2 ^ 20 by omega)]
          rfl
    | _ => cases e) w
end
end
end G
/-! K23: lambdas. -/
namespace G
open PySem PySem.Spec PyProof.Rows L2
/-- a lambda's words -/
structure LW where
  qual : Str
  params : Arguments
  body : Expr
  scope : Scope
  cl : List (Str × Addr)
/-- the object at f is the lambda F, its code object at c -/
def LamO (f c : Addr) (F : LW) : HO := .ext fun h => ∃ (pm ctv : Value), h.get? f = some (PySem.W.kla_obj "<lambda>" F.qual F.params F.body F.scope F.cl pm c ctv)
theorem lamO_at {P : Program} {w : World} {H : Hp} {h : Heap} {f c : Addr} {F : LW} (hok : HOk P w H h) (e : H f = some (LamO f c F)) : ∃ (pm ctv : Value), h.get? f = some (PySem.W.kla_obj "<lambda>" F.qual F.params F.body F.scope F.cl pm c ctv) := (hok f _ e).1
section
variable {X : Cx} {pins : List (Addr × Obj)} {σ : L2.St} {H : Hp} {s : Shared}
theorem lam_known {F : LW} {h2 : Heap} {t2 : Nat} {c : Addr} {pm ctv : Value} (I : Inv X pins σ H { s with heap := h2, toks := t2 }) :
    Inv X pins σ (upd H h2.objs.size (LamO h2.objs.size c F)) { s with heap := h2.push (PySem.W.kla_obj "<lambda>" F.qual F.params F.body F.scope F.cl pm c ctv), toks := t2 } := by
  have at2 : (h2.push (PySem.W.kla_obj "<lambda>" F.qual F.params F.body F.scope F.cl pm c ctv)).get? h2.objs.size = some (PySem.W.kla_obj "<lambda>" F.qual F.params F.body F.scope F.cl pm c ctv) := Heap.get?_push_size _ rfl
  refine Inv.laid (s := { s with heap := h2, toks := t2 }) (t' := t2) (a := h2.objs.size) I (fun _ _ q => Heap.get?_push_of_some _ q) (Nat.le_refl _) ?_
  exact ⟨⟨pm, ctv, at2⟩, ⟨_, at2⟩, fun _ _ ⟨a, b, q⟩ st => ⟨a, b, st _ q⟩⟩
/-- a lambda is made and known -/
theorem lam_mk {c P : Addr} {params : Arguments} {body : Expr} {scope : Scope} {pos : Pos} {E Q : Value → Shared → Prop} (I : Inv X pins σ H s) (TB : LamX.TabB X.base X.mg c P) (hcode : X.env.code = .ref c)
    (hT : LamX.TabS H P (X.env.qual ++ "<lambda>")) (hdef : defaultsOf params X.env = ([], [])) (hfree : ∀ y ∈ scope.names, y.2 = .free → ∃ c, X.env.cells.lookup y.1 = some c)
    (h : ∀ (f d : Addr) (H1 : Hp) (s1 : Shared), Inv X pins σ H1 s1 → (∀ b o, b ≠ P → H b = some o → H1 b = some o) → (∀ b, H1 b = none → H b = none) → (∃ ps : Array Value, H1 P = some (.tbl ps) ∧ TriplesOk ps.toList ∧ ∀ (p' : Pos) (cv : Value), codeAmong p' ps.toList = some cv → ∃ c, cv = .ref c ∧ H1 c = some (LamX.CodeO c (X.env.qual ++ "<lambda>")) ∧ c ≠ f) → d ≠ f → H f = none → H1 f = some (LamO f d ⟨X.env.qual ++ "<lambda>", params, body, scope, cloFrom X.env.cells scope.names []⟩) →
      H1 d = some (LamX.CodeO d (X.env.qual ++ "<lambda>")) → Q (.ref f) s1) : wpAny (model X.prog X.w) X.A (eval (.Lambda params body scope pos) X.env) Q E s := by
  obtain ⟨ps, tP, tr, al⟩ := hT
  have bP : s.heap.BuiltinsAt X.mg P := Heap.BuiltinsAt.keeps TB.bm I.bk
  have oP : s.heap.get? P = some { cls := .none, data := .fields ps } := I.hok P _ tP
  refine PySem.W.kla_eval hdef ?_
  have none_of : ∀ {G : Hp} {a b : Addr} {o : HO}, upd G a o b = none → G b = none := fun {G a b o} q => by
    unfold upd at q
    split at q
    · cases q
    · exact q
  cases ea : codeAmong pos ps.toList with
  | none =>
    refine PySem.W.kla_makeFunction (mg := X.mg) (c := c) (P := P) (ps := ps) (closure_ok hfree) I.ok.glob (I.mod.glob.keeps I.bk) hcode (TB.code.keeps I.bk) oP tr ea TB.gP bP fun d ctv h2 tk ext ge lt rc tb => ?_
    obtain ⟨d', oc, vs, t, ed, od, dd, dv⟩ := rc
    cases ed
    have nD : H d = none := I.hok.fresh ge
    have I1 := LamX.inv_table (t' := tk) (more := #[rawInt pos.line, rawInt pos.col, .ref d]) (h' := h2) I tP (fun b o hb q => ext b o hb q) tb ge ⟨oc, vs, t, od, dd, dv⟩
    have nF : H h2.objs.size = none := I.hok.fresh (Nat.le_trans ge (Nat.le_of_lt lt))
    have nF1 := I1.hok.fresh (Nat.le_refl _)
    have I2 := lam_known (F := ⟨X.env.qual ++ "<lambda>", params, body, scope, cloFrom X.env.cells scope.names []⟩) (c := d) (pm := (X.mg "__name__").getD .none) (ctv := ctv) I1
    have e1 : LamX.ExtN H (upd (upd H P (.tbl (ps ++ #[rawInt pos.line, rawInt pos.col, .ref d]))) d (LamX.CodeO d (X.env.qual ++ "<lambda>"))) := fun b o q n => by
      rw [upd_ne (ne_of_none q nD), upd_ne (fun z => n ps (Option.some.inj (q.symm.trans (by rw [z]; exact tP))))]
      exact q
    have k2 : ∀ b o, upd (upd H P (.tbl (ps ++ #[rawInt pos.line, rawInt pos.col, .ref d]))) d (LamX.CodeO d (X.env.qual ++ "<lambda>")) b = some o → upd (upd (upd H P (.tbl (ps ++ #[rawInt pos.line, rawInt pos.col, .ref d]))) d (LamX.CodeO d (X.env.qual ++ "<lambda>"))) h2.objs.size (LamO h2.objs.size d ⟨X.env.qual ++ "<lambda>", params, body, scope, cloFrom X.env.cells scope.names []⟩) b = some o := fun b o q => (upd_ne (ne_of_none q nF1)).trans q
    refine h h2.objs.size d _ _ I2 (fun b o n q => k2 _ _ ((upd_ne (ne_of_none q nD)).trans ((upd_ne n).trans q))) (fun b q => none_of (none_of (none_of q))) ⟨ps ++ #[rawInt pos.line, rawInt pos.col, .ref d], k2 _ _ ((upd_ne (ne_of_none tP nD)).trans upd_same), ?_, fun p' cv hcv => ?_⟩ (Nat.ne_of_lt lt) nF upd_same (k2 _ _ upd_same)
    · rw [show (ps ++ #[rawInt pos.line, rawInt pos.col, .ref d]).toList = ps.toList ++ [rawInt pos.line, rawInt pos.col, .ref d] by simp]
      exact PySem.TriplesOk_snoc _ _ _ _ tr
    · rw [show (ps ++ #[rawInt pos.line, rawInt pos.col, .ref d]).toList = ps.toList ++ [rawInt pos.line, rawInt pos.col, .ref d] by simp] at hcv
      rcases LamX.among_app _ tr hcv with z | z
      · obtain ⟨c0, z1, z2⟩ := al p' cv z
        exact ⟨c0, z1, k2 _ _ (e1 _ _ z2 LamX.codeO_ne), ne_of_none z2 nF⟩
      · exact ⟨d, z, k2 _ _ upd_same, Nat.ne_of_lt lt⟩
  | some cv =>
    obtain ⟨d, ed, hd⟩ := al pos cv ea
    subst ed
    refine PySem.W.kla_makeFunctionHit (mg := X.mg) (c := c) (P := P) (ps := ps) (closure_ok hfree) I.ok.glob (I.mod.glob.keeps I.bk) hcode (TB.code.keeps I.bk) oP tr ea bP fun ctv h2 tk ext ge => ?_
    have I1 : Inv X pins σ H { s with heap := h2, toks := tk } := Inv.kept (t' := tk) I ext
    have nF : H h2.objs.size = none := I.hok.fresh ge
    have I2 := lam_known (F := ⟨X.env.qual ++ "<lambda>", params, body, scope, cloFrom X.env.cells scope.names []⟩) (c := d) (pm := (X.mg "__name__").getD .none) (ctv := ctv) I1
    have k2 : ∀ b o, H b = some o → upd H h2.objs.size (LamO h2.objs.size d ⟨X.env.qual ++ "<lambda>", params, body, scope, cloFrom X.env.cells scope.names []⟩) b = some o := fun b o q => (upd_ne (ne_of_none q nF)).trans q
    refine h h2.objs.size d _ _ I2 (fun b o _ q => k2 _ _ q) (fun b q => none_of q) ⟨ps, k2 _ _ tP, tr, fun p' cv hcv => ?_⟩ (ne_of_none hd nF) nF upd_same (k2 _ _ hd)
    obtain ⟨c0, z1, z2⟩ := al p' cv hcv
    exact ⟨c0, z1, k2 _ _ z2, ne_of_none z2 nF⟩
end
end G
/-! K24: closure cells in and out of the abstract heap. -/
namespace G
open PySem PySem.Spec PyProof.Rows L2
/-- the cell's very object -/
def CellE (c : Addr) (o : Obj) : HO := .ext fun h => h.get? c = some o
def mns (cs : List Addr) (H : Hp) : Hp := fun b => if b ∈ cs then none else H b
def pls (cs : List Addr) (oc : Addr → Obj) (H : Hp) : Hp := fun b => if b ∈ cs then some (CellE b (oc b)) else H b
section
variable {cs : List Addr} {oc : Addr → Obj} {H : Hp} {b : Addr} {o : HO}
theorem mns_in (h : b ∈ cs) : mns cs H b = none := if_pos h
theorem mns_out (h : b ∉ cs) : mns cs H b = H b := if_neg h
theorem pls_in (h : b ∈ cs) : pls cs oc H b = some (CellE b (oc b)) := if_pos h
theorem pls_out (h : b ∉ cs) : pls cs oc H b = H b := if_neg h
theorem mns_some (h : mns cs H b = some o) : b ∉ cs ∧ H b = some o := by
  by_cases z : b ∈ cs
  · rw [mns_in z] at h; cases h
  · exact ⟨z, by rw [mns_out z] at h; exact h⟩
/-- nothing but the cells stands there -/
theorem out_of (hc : ∀ c ∈ cs, H c = some (CellE c (oc c))) (h : H b = some o) (ne : ∀ φ, o ≠ .ext φ) : b ∉ cs := fun z => by
  rw [hc b z] at h
  exact ne _ (Option.some.inj h).symm
theorem pls_mns (hc : ∀ c ∈ cs, H c = some (CellE c (oc c))) : pls cs oc (mns cs H) = H := by
  funext b
  by_cases z : b ∈ cs
  · rw [pls_in z, hc b z]
  · rw [pls_out z, mns_out z]
end
/-! ### what leans on tuples alone -/
section
variable {ρ : Nat → Addr} {N : Nat} {H H' : Hp} (ht : ∀ b xs, H b = some (.tup xs) → H' b = some (.tup xs))
include ht
theorem RL_tup : ∀ {l : List W} {xs : List V}, RL ρ N H l xs → RL ρ N H' l xs
  | [], _, h => h
  | _ :: _, _, ⟨x, r, e, h1, h2⟩ => ⟨x, r, e, RW_tup ht h1, RL_tup h2⟩
theorem RD_tup : ∀ {l : List (List Int × W)} {xs : List (List Key × V)}, RD ρ N H l xs → RD ρ N H' l xs
  | [], _, h => h
  | (_, _) :: _, _, ⟨x, r, e, h1, h2⟩ => ⟨x, r, e, RW_tup ht h1, RD_tup h2⟩
theorem RF_tup {fn : Nat → Str} : ∀ {l : List (Nat × W)} {xs : List (Str × V)}, RF ρ N H fn l xs → RF ρ N H' fn l xs
  | [], _, h => h
  | (_, _) :: _, _, ⟨x, r, e, h1, h2⟩ => ⟨x, r, e, RW_tup ht h1, RF_tup h2⟩
theorem CellOk_tup {Z Z' : Par} (hca : Z'.ca = Z.ca) (hfn : Z'.fname = Z.fname) {a : Addr} (ha : H' a = H a) {c : Cell} (hl : ∀ q, c = .lam q → Z.lamP q a H → Z'.lamP q a H') (hb : c = .tab → Z.tabP a H → Z'.tabP a H') (k : CellOk ρ N H Z a c) : CellOk ρ N H' Z' a c := by
  cases c with
  | lst l => obtain ⟨xs, p, q, r⟩ := k; exact ⟨xs, ha.trans p, RL_tup ht q, r⟩
  | dct lk l => cases lk with
    | false => obtain ⟨xs, p, q, z⟩ := k; exact ⟨xs, ha.trans p, RD_tup ht q, z⟩
    | true => obtain ⟨o, xs, p, q, z⟩ := k; exact ⟨o, xs, ha.trans p, RD_tup ht q, z⟩
  | ins c fs => obtain ⟨dx, xs, p, q⟩ := k; exact ⟨dx, xs, by rw [hca]; exact ha.trans p, by rw [hfn]; exact RF_tup ht q⟩
  | lam q => exact ⟨k.1.imp fun φ z => ha.trans z, hl q rfl k.2⟩
  | tab => exact ⟨k.1.imp fun φ z => ha.trans z, hb rfl k.2⟩
  | opq => obtain ⟨ns, z⟩ := k; exact ⟨ns, Rd_eq ha z⟩
end
/-- the same without what else is known -/
def Par.noJ (Z : Par) : Par := { Z with J := fun _ _ _ => True, jU := fun _ _ _ _ _ _ _ _ _ _ => trivial }
/-- how the lambdas and the table lie to the cells -/
structure Apt (Z : Par) (cs : List Addr) : Prop where
  lo : ∀ q a H, Z.lamP q a H → a ∉ cs
  lm : ∀ q a H, Z.lamP q a H → Z.lamP q a (mns cs H)
  tm : ∀ a H, Z.tabP a H → Z.tabP a (mns cs H)
section
variable {Z : Par} {cs : List Addr} {oc : Addr → Obj} {ρ ρ' : Nat → Addr} {h h' : Hh} {H H' : Hp}
theorem mns_tup (hc : ∀ c ∈ cs, H c = some (CellE c (oc c))) : ∀ b xs, H b = some (.tup xs) → mns cs H b = some (.tup xs) := fun b xs q => by
  rw [mns_out (out_of hc q fun _ z => by cases z)]; exact q
theorem pls_tup (hn : ∀ c ∈ cs, H c = none) : ∀ b xs, H b = some (.tup xs) → pls cs oc H b = some (.tup xs) := fun b xs q => by
  rw [pls_out fun z => by rw [hn b z] at q; cases q]; exact q
/-- a cell's place is not among them -/
theorem cell_out (A : Apt Z cs) (hc : ∀ c ∈ cs, H c = some (CellE c (oc c))) {a : Addr} {N : Nat} {c : Cell} (k : CellOk ρ N H Z a c) : a ∉ cs := by
  cases c with
  | lst l => obtain ⟨xs, p, _⟩ := k; exact out_of hc p fun _ z => by cases z
  | dct lk l => cases lk with
    | false => obtain ⟨xs, p, _⟩ := k; exact out_of hc p fun _ z => by cases z
    | true => obtain ⟨o, xs, p, _⟩ := k; exact out_of hc p fun _ z => by cases z
  | ins c fs => obtain ⟨dx, xs, p, _⟩ := k; exact out_of hc p fun _ z => by cases z
  | lam q => exact A.lo q a H k.2
  | tab => obtain ⟨ps, p⟩ := k.1; exact out_of hc p fun _ z => by cases z
  | opq => obtain ⟨ns, p | ⟨o, p⟩⟩ := k <;> exact out_of hc p fun _ z => by cases z
theorem rel_mns (A : Apt Z cs) (hc : ∀ c ∈ cs, H c = some (CellE c (oc c))) (R : Rel Z ρ h H) : Rel Z.noJ ρ h (mns cs H) :=
  ⟨R.inj, fun i hi => by
    obtain ⟨c, e, k⟩ := R.cell i hi
    exact ⟨c, e, CellOk_tup (Z' := Z.noJ) (mns_tup hc) rfl rfl (mns_out (cell_out A hc k)) (fun q _ z => A.lm q _ _ z) (fun _ z => A.tm _ _ z) k⟩, trivial⟩
theorem rel_pls (A : Apt Z cs) (hn : ∀ c ∈ cs, H c = none) (R : Rel Z.noJ ρ h H) (j : Z.J ρ h.n (pls cs oc H)) : Rel Z ρ h (pls cs oc H) :=
  ⟨R.inj, fun i hi => by
    obtain ⟨c, e, k⟩ := R.cell i hi
    obtain ⟨o, ho⟩ := R.some_at hi
    have ha : ρ i ∉ cs := fun z => by rw [hn _ z] at ho; cases ho
    have kx : ∀ b φ, H b = some (.ext φ) → pls cs oc H b = some (.ext φ) := fun b φ q => by rw [pls_out fun z => by rw [hn b z] at q; cases q]; exact q
    exact ⟨c, e, CellOk_tup (Z := Z.noJ) (Z' := Z) (pls_tup hn) rfl rfl (pls_out ha) (fun q _ z => Z.lamU q _ _ _ kx (pls_out ha) z) (fun _ z => Z.tabU _ _ _ kx (pls_out ha) z) k⟩, j⟩
theorem ext_pls (hc : ∀ c ∈ cs, H c = some (CellE c (oc c))) (hn : ∀ c ∈ cs, H' c = none) (R' : Rel Z.noJ ρ' h' H') (x : Ext ρ h.n (mns cs H) ρ' h'.n H') : Ext ρ h.n H ρ' h'.n (pls cs oc H') := by
  refine ⟨x.le, x.same, fun i h1 h2 => ?_, fun b o e im => ?_, fun b o e hb => ?_, fun b e => ?_⟩
  · obtain ⟨o, ho⟩ := R'.some_at h2
    have := x.new i h1 h2
    rw [mns_out fun z => by rw [hn _ z] at ho; cases ho] at this
    exact this
  · by_cases z : b ∈ cs
    · rw [pls_in z, ← hc b z]; exact e
    · rw [pls_out z]; exact x.stay b o (by rw [mns_out z]; exact e) im
  · by_cases z : b ∈ cs
    · rw [pls_in z, ← hc b z]; exact e
    · rw [pls_out z]; exact x.keep b o (by rw [mns_out z]; exact e) hb
  · by_cases z : b ∈ cs
    · rw [pls_in z] at e; cases e
    · rw [pls_out z] at e
      have := x.dom b e
      rw [mns_out z] at this
      exact this
end
/-! ### a call's state and end -/
section
variable {P : Program} {w : World} {K : PySem.W.Frag} {mg : Str → Option Value} {base : Heap} {A : Around} {outer : List Env} {s s' : Shared} {cs : List Addr} {oc : Addr → Obj} {H : Hp} {Q : VK} {u : Value}
theorem hok_mns (hok : HOk P w H s.heap) (hc : ∀ c ∈ cs, H c = some (CellE c (oc c))) : HOk P w (mns cs H) s.heap := fun a o e => by
  obtain ⟨_, e'⟩ := mns_some e
  refine (hok a o e').stay (fun _ _ _ q => q) (fun b q => ?_) fun b xs q => mns_tup hc b xs q
  rw [mns_out (out_of hc q fun _ z => by cases z)]; exact q
theorem hok_pls (hok : HOk P w H s.heap) (hn : ∀ c ∈ cs, H c = none) (ho : ∀ c ∈ cs, s.heap.get? c = some (oc c)) : HOk P w (pls cs oc H) s.heap := fun a o e => by
  by_cases z : a ∈ cs
  · rw [pls_in z] at e
    cases e
    exact ⟨ho a z, ⟨_, ho a z⟩, fun h1 h2 q st => st _ q⟩
  · rw [pls_out z] at e
    refine (hok a o e).stay (fun _ _ _ q => q) (fun b q => ?_) fun b xs q => pls_tup hn b xs q
    rw [pls_out fun z => by rw [hn b z] at q; cases q]; exact q
theorem env0_mns (e : Env0 P w K mg base A outer s H) (hc : ∀ c ∈ cs, H c = some (CellE c (oc c))) : Env0 P w K mg base A outer s (mns cs H) :=
  ⟨e.frames, e.mod, fun b o q => ⟨(e.bs b o q).1, by by_cases z : b ∈ cs; exact mns_in z; rw [mns_out z]; exact (e.bs b o q).2⟩, e.bsz, e.funs, fun b q => by by_cases z : b ∈ cs; exact mns_in z; rw [mns_out z]; exact e.frf b q, hok_mns e.hok hc, e.bare⟩
theorem env0_pls (e : Env0 P w K mg base A outer s H) (hn : ∀ c ∈ cs, H c = none) (ho : ∀ c ∈ cs, s.heap.get? c = some (oc c)) (hb : ∀ c ∈ cs, base.get? c = none) (hf : ∀ c ∈ cs, c ∉ frs outer) : Env0 P w K mg base A outer s (pls cs oc H) :=
  ⟨e.frames, e.mod, fun b o q => ⟨(e.bs b o q).1, by rw [pls_out fun z => by rw [hb b z] at q; cases q]; exact (e.bs b o q).2⟩, e.bsz, e.funs, fun b q => by rw [pls_out fun z => hf b z q]; exact e.frf b q, hok_pls e.hok hn ho, e.bare⟩
/-- back from a call that did not know the cells -/
theorem ce_pls (hok : HOk P w H s.heap) (frf : ∀ b ∈ frs outer, H b = none) (hc : ∀ c ∈ cs, H c = some (CellE c (oc c))) (k : CE outer P w (mns cs H) s (fun v H' => (∀ c ∈ cs, H' c = none) → Q v (pls cs oc H')) u s') : CE outer P w H s Q u s' := by
  obtain ⟨v, H', h1, h2, un, h4, h5, h6⟩ := k
  have ho : ∀ c ∈ cs, s.heap.get? c = some (oc c) := fun c z => (hok c _ (hc c z)).1
  have hn : ∀ c ∈ cs, H' c = none := fun c z => un.free c _ (ho c z) (mns_in z) (by simp)
  have hs : ∀ c ∈ cs, s'.heap.get? c = some (oc c) := fun c z => un.keep c _ (ho c z) (mns_in z) (fun q => by have y := hc c z; rw [frf c q] at y; cases y) (by simp)
  have out : ∀ {b : Addr}, H b = none → b ∉ cs := fun {b} q z => by rw [hc b z] at q; cases q
  refine ⟨v, pls cs oc H', h1, h2, ⟨fun b o q n f x => un.keep b o q (by rw [mns_out (out n)]; exact n) f x, fun b o q n f x => un.slot b o q (by rw [mns_out (out n)]; exact n) f x, fun b o q n x => ?_, un.there, fun b xs q => ?_, fun b o u q => ?_, fun b ps q => ?_⟩, hok_pls h4 hn hs, h5, h6 hn⟩
  · rw [pls_out (out n)]; exact un.free b o q (by rw [mns_out (out n)]; exact n) x
  · have z := out_of hc q fun _ z => by cases z
    rw [pls_out z]; exact un.tups b xs (by rw [mns_out z]; exact q)
  · have z := out_of hc q fun _ z => by cases z
    rw [pls_out z]; exact un.frzs b o u (by rw [mns_out z]; exact q)
  · have z := out_of hc q fun _ z => by cases z
    rw [pls_out z]; exact un.tbls b ps (by rw [mns_out z]; exact q)
/-- back from a call that knew them -/
theorem ce_mns (hn : ∀ c ∈ cs, H c = none) (ho : ∀ c ∈ cs, s.heap.get? c = some (oc c)) (k : CE outer P w (pls cs oc H) s (fun v H' => (∀ c ∈ cs, H' c = some (CellE c (oc c))) ∧ Q v (mns cs H')) u s') : CE outer P w H s Q u s' := by
  obtain ⟨v, H', h1, h2, un, h4, h5, hc, h6⟩ := k
  have hs : ∀ c ∈ cs, s'.heap.get? c = some (oc c) := fun c z => (h4 c _ (hc c z)).1
  refine ⟨v, mns cs H', h1, h2, ⟨fun b o q n f x => ?_, fun b o q n f x => ?_, fun b o q n x => ?_, un.there, fun b xs q => ?_, fun b o u q => ?_, fun b ps q => ?_⟩, hok_mns h4 hc, h5, h6⟩
  · by_cases z : b ∈ cs
    · rw [ho b z] at q; cases q; exact hs b z
    · exact un.keep b o q (by rw [pls_out z]; exact n) f x
  · by_cases z : b ∈ cs
    · rw [ho b z] at q; cases q; exact ⟨(oc b).slots, hs b z⟩
    · exact un.slot b o q (by rw [pls_out z]; exact n) f x
  · by_cases z : b ∈ cs
    · exact mns_in z
    · rw [mns_out z]; exact un.free b o q (by rw [pls_out z]; exact n) x
  · have z : b ∉ cs := fun z => by rw [hn b z] at q; cases q
    exact mns_tup hc b xs (un.tups b xs (by rw [pls_out z]; exact q))
  · have z : b ∉ cs := fun z => by rw [hn b z] at q; cases q
    rw [mns_out z]; exact un.frzs b o u (by rw [pls_out z]; exact q)
  · have z : b ∉ cs := fun z => by rw [hn b z] at q; cases q
    rw [mns_out z]; exact un.tbls b ps (by rw [pls_out z]; exact q)
end
end G
/-! K25: lambdas called. -/
namespace G
open PySem PySem.Spec PyProof.Rows L2
/-- a lambda's promise: ws what its captured cells hold -/
structure LOk (P : Program) (w : World) (K : PySem.W.Frag) (mg : Str → Option Value) (base : Heap) (k : Nat) (F : LW) (fr : List Str) (sp : List (Option V) → Sp) : Prop where
  run : ∀ (A : Around) (outer : List Env) (s : Shared) (H : Hp) (us : List Value) (vs : List V) (ws : List (Option V)) (Q : VK) (E : XK) (f c : Addr), Room k A → Env0 P w K mg base A outer s H → H f = some (LamO f c F) → H c = some (LamX.CodeO c F.qual) →
    NdefX.CellsAt F.cl fr ws s.heap H → Vals vs us → sp ws vs H Q E → codeAny (model P w) A (.call (.ref f) ⟨us, []⟩) (CR CX0 outer P w H s Q E) s
/-- the words that the body's frame has -/
def LW.nf (F : LW) (c : Addr) : NdefX.NF := ⟨"<lambda>", F.qual, F.params, [], F.scope, F.cl, c⟩
section
variable {P : Program} {w : World} {K : PySem.W.Frag} {mg : Str → Option Value} {base : Heap} {N ps fr : List Str} {F : LW} {k : Nat} {sp : List (Option V) → Sp} {tb : TE}
theorem lok_of (S : NdefX.NScope N ps fr F.scope) (hb : ∀ (pm cv ctv : Value) (us : List Value), us.length = ps.length → bindArgs (PySem.W.kla_fn "<lambda>" F.qual F.params F.body F.scope F.cl pm cv ctv) ⟨us, []⟩ = pure (ps.zip us))
    (len : ∀ ws vs H Q E, sp ws vs H Q E → vs.length = ps.length) (hsp : ∀ ws vs H Q E, ws.length = fr.length → sp ws vs H Q E → tb (NdefX.startF N vs ws) H Q)
    (hbody : ∀ (A : Around) (outer : List Env) (s : Shared) (H : Hp) (E : XK) (f c : Addr), Room k (A.deeper (NdefX.envF (F.nf c) f s.heap.objs.size)) → PE (NdefX.ncx CX0 P w K mg base N (F.nf c) f A outer s H E).nox F.body tb) : LOk P w K mg base (k + 1) F fr sp := by
  refine ⟨fun A outer s H us vs ws Q E f c hr e0 hf hc C r hq => ?_⟩
  have hl := len _ _ _ _ _ hq
  obtain ⟨pm, ctv, hof⟩ := lamO_at e0.hok hf
  have lim : s.heap.NoLimit := Heap.NoLimit.keeps e0.mod.nolimit fun b o q => (e0.bs b o q).1
  refine PySem.W.kla_callFunE hr.depth hof rfl S.co S.gen rfl (NdefX.codeO_at e0.hok hc) ?_
  rw [hb pm (.ref c) ctv us (r.length ▸ hl)]
  refine wpAny_pure (wpAny_newFunctionEnv S.nocell (fun ⟨n, _⟩ hy => S.par n (List.of_mem_zip hy).1) (fun h2 hns hsb => ⟨lim.fresh _ hsb, ?_⟩) S.kind)
  have kp : ∀ b o, s.heap.get? b = some o → h2.get? b = some o := fun b o q => hsb.extBut b o (Nat.ne_of_lt (Heap.lt_size q)) (Heap.get?_push_of_some _ q)
  have J : Inv (NdefX.ncx CX0 P w K mg base N (F.nf c) f A outer s H E) [] (NdefX.startF N vs ws) H { s with heap := h2, toks := s.toks + (ps.zip us).length } := NdefX.inv_startN (F := F.nf c) S hr.hd e0 hl r C hns kp
  refine PySem.W.kla_codeExpr (wpAny_mono ((PE.nox (hbody A outer s H E f c (hr.deeper _))).run [] _ (NdefX.startF N vs ws) H Q J (hsp ws vs H Q E C.len hq)) (fun v s' ⟨x, H', J', rv, q'⟩ => ?_) fun e s' hs => hs)
  exact ⟨x, H', J'.os, J'.bare, J'.base, J'.hok, rv, q'⟩
end
/-- the promise of a lambda of one parameter -/
def spL (Z : Par) (b : D) : List (Option V) → Sp := fun ws vs H Q _ => ∃ ρ as gs h k, as.length = 1 ∧ b (as ++ gs) h k = true ∧ Rel Z ρ h H ∧ RL ρ h.n H as vs ∧ RS ρ h.n H gs ws ∧ Cont Z ρ h H k Q
theorem spL_len {Z : Par} {b : D} : ∀ ws vs H Q E, spL Z b ws vs H Q E → vs.length = 1 := fun ws vs H Q E ⟨ρ, as, gs, h, k, hl, e, R, r, g, q⟩ => by rw [RL_length r]; exact hl
theorem RS_some {ρ : Nat → Addr} {N : Nat} {H : Hp} : ∀ {l : List W} {vs : List V}, RL ρ N H l vs → RS ρ N H l (vs.map some)
  | [], _, r => by cases r; rfl
  | w :: l, _, ⟨x, r, e, h1, h2⟩ => by subst e; exact ⟨some x, _, rfl, .inr ⟨x, rfl, h1⟩, RS_some h2⟩
theorem RS_app {ρ : Nat → Addr} {N : Nat} {H : Hp} : ∀ {l m : List W} {s t : List (Option V)}, RS ρ N H l s → RS ρ N H m t → RS ρ N H (l ++ m) (s ++ t)
  | [], m, _, t, r, r' => by cases r; exact r'
  | w :: l, m, _, t, ⟨x, r, e, h1, h2⟩, r' => by subst e; exact ⟨x, r ++ t, rfl, h1, RS_app h2 r'⟩
theorem spL_start {Z : Par} {b : D} {N : List Str} {ws : List (Option V)} {vs : List V} {H : Hp} {Q : VK} {E : XK} (hN : N.length = 1 + ws.length) (h : spL Z b ws vs H Q E) : tD Z b (NdefX.startF N vs ws) H Q := by
  obtain ⟨ρ, as, gs, h, k, hl, e, R, r, g, q⟩ := h
  refine ⟨ρ, as ++ gs, h, k, e, R, ?_, q⟩
  unfold NdefX.startF
  have : N.length - vs.length - ws.length = 0 := by rw [RL_length r, hl]; omega
  rw [this, List.replicate_zero, List.append_nil]
  exact RS_app (RS_some r) g
/-- the values of some slots -/
theorem slots_ok {ρ : Nat → Addr} {N : Nat} {H : Hp} {s : List W} {σ : List (Option V)} (S : RS ρ N H s σ) : ∀ {js : List Nat} {k : List W → Bool}, slots s js k = true → ∃ gs, k gs = true ∧ RS ρ N H gs (js.map (NdefX.slotAt σ))
  | [], k, e => ⟨[], e, rfl⟩
  | j :: js, k, e => by
    obtain ⟨w, ew, e1⟩ := nth_some (show nth s j (fun w => slots s js fun l => k (w :: l)) = true from e)
    obtain ⟨gs, e2, r2⟩ := slots_ok S e1
    refine ⟨w :: gs, e2, NdefX.slotAt σ j, _, rfl, ?_, r2⟩
    by_cases hu : w = .und
    · exact .inl hu
    · obtain ⟨v, ev, rv⟩ := RS_get S ew hu
      exact .inr ⟨v, NdefX.slotAt_of ev, rv⟩
/-- the lambdas of a frame that has passed its cells on: cs the cells, oc their objects, g wv their values -/
structure Lams (P : Program) (w : World) (K : PySem.W.Frag) (mg : Str → Option Value) (base : Heap) (Z : Par) (k : Nat) (L : Nat → Fn) (cs : List Addr) (oc : Addr → Obj) (g : List W) (wv : List (Option V)) (F : Nat → LW) (fr : Nat → List Str) (js : Nat → List Nat) (b : Nat → D) : Prop where
  hJ : ∀ ρ N H, Z.J ρ N H ↔ (∀ c ∈ cs, H c = some (CellE c (oc c))) ∧ RS ρ N H g wv
  apt : Apt Z cs
  lam : ∀ q a H, Z.lamP q a H → ∃ d, H a = some (LamO a d (F q)) ∧ H d = some (LamX.CodeO d (F q).qual) ∧ a ∉ cs ∧ d ∉ cs
  run : ∀ q l h kk, L q l h kk = true → LOk P w K mg base k (F q) (fr q) (spL Z.noJ (b q)) ∧ l.length = 1 ∧ slots g (js q) (fun ws => b q (l ++ ws) h kk) = true
  ca : ∀ q h H, (∀ c ∈ cs, h.get? c = some (oc c)) → (∀ c ∈ cs, H c = none) → NdefX.CellsAt (F q).cl (fr q) ((js q).map (NdefX.slotAt wv)) h H
section
variable {X : Cx} {Z : Par} {i k : Nat} {x : Str} {p pos : Pos} {e : Expr} {es : List Expr} {das : DA} {L : Nat → Fn} {cs : List Addr} {oc : Addr → Obj} {g : List W} {wv : List (Option V)} {F : Nat → LW} {fr : Nat → List Str} {js : Nat → List Nat} {b : Nat → D}
theorem eClv (T : Lams X.prog X.w X.K X.mg X.base Z k L cs oc g wv F fr js b) (hr : Room k X.A) (hN : X.N[i]? = some x) (hv : Vis X.env.scope x) (ha : PA X (e :: es) (tA Z das))
    (hd : (x == ("__debug__" : Str)) = false := by decide) (hcd : (x == ("__classdict__" : Str)) = false := by decide) (he : starEach (e :: es) X.env = (false, eval e X.env) :: starEach es X.env := by rfl) (hpl : (backTo pos (starEach es X.env)).any (·.1) = false := by rfl) :
    PE X (.Call (.Name x p) (e :: es) [] pos) (tD Z (dClv L i das)) := by
  refine ⟨fun pins s σ H Q I ⟨ρ, st, h, kk, e0, R, S, q⟩ => ?_⟩
  obtain ⟨w, ew, e1⟩ := nth_some (show nth st i _ = true from e0)
  cases w with
  | ref n =>
    obtain ⟨v, ev, rv⟩ := RS_get S ew (by intro z; cases z)
    obtain ⟨hn, c0, hc0, e2⟩ := R.get (show geth h n _ = true from e1)
    cases c0 with
    | lam q0 =>
      obtain ⟨d0, ho0, _⟩ := T.lam q0 _ _ hc0.2
      have ev' : v = .ref (ρ n) := rv.2
      subst ev'
      refine wpAny_Call_Name_kw (thn ((pe_var (pos := p) hN hv hd hcd).run pins s σ H (fun v H1 => v = .ref (ρ n) ∧ H1 = H) I ⟨.ref (ρ n), ev, rfl, rfl⟩) fun u s1 ⟨v1, H1, I1, r1, z1, z2⟩ => ?_)
      subst z1
      rw [z2] at I1
      cases (show u = Value.ref (ρ n) from r1)
      obtain ⟨pm, ctv, hof⟩ := lamO_at I1.hok ho0
      refine PySem.W.callWith_F (first := []) ⟨_, _, _, _, hof⟩ (thn (ha.run pos pins s1 σ H (fun vs H2 => ∃ ρ2 l h2, (∃ q, Z.lamP q (ρ n) H2 ∧ L q l h2 kk = true) ∧ Ext ρ h.n H ρ2 h2.n H2 ∧ Rel Z ρ2 h2 H2 ∧ RL ρ2 h2.n H2 l vs) I1 ⟨ρ, st, h, _, e2, R, S, fun ρ2 h2 H2 l vs e3 x2 R2 r2 => ?_⟩) fun us s2 ⟨vs, H2, I2, r, ρ2, l, h2, ⟨q2, lp, e4⟩, x2, R2, r2⟩ => ?_) he hpl
      · obtain ⟨hn2, c2, hc2, e4⟩ := R2.get (show geth h2 n _ = true from e3)
        cases c2 with
        | lam q2 =>
          have lp := hc2.2
          rw [x2.same n hn] at lp
          exact ⟨ρ2, l, h2, ⟨q2, lp, e4⟩, x2, R2, r2⟩
        | _ => cases e4
      · obtain ⟨d, h1, h2', ha1, hd1⟩ := T.lam q2 _ _ lp
        obtain ⟨pm2, ctv2, hof2⟩ := lamO_at I2.hok h1
        refine ⟨⟨_, _, _, _, hof2⟩, ?_⟩
        obtain ⟨ok, hl1, e5⟩ := T.run q2 l h2 kk e4
        obtain ⟨hc, rg⟩ := (T.hJ _ _ _).mp R2.jay
        obtain ⟨gs, e6, r6⟩ := slots_ok rg e5
        show wpAny _ _ (call (.ref (ρ n)) us) _ _ _
        refine wpAny_call (codeAny_mono (ok.run X.A X.stack s2 (mns cs H2) us vs _ (fun v H' => (∀ c ∈ cs, H' c = none) → Q v (pls cs oc H')) E0 (ρ n) d hr (env0_mns I2.env0 hc) (by rw [mns_out ha1]; exact h1) (by rw [mns_out hd1]; exact h2')
          (T.ca q2 _ _ (fun c z => (I2.hok c _ (hc c z)).1) (fun c z => mns_in z)) r ⟨ρ2, l, gs, h2, kk, hl1, e6, rel_mns T.apt hc R2, RL_tup (mns_tup hc) r2, RS_tup (mns_tup hc) r6, fun ρ' h' H' w v e7 x7 R7 r7 hn7 => ?_⟩) fun r s' hq => ?_)
        · have xx := ext_pls hc hn7 R7 x7
          refine q ρ' h' _ w v e7 (x2.trans xx) (rel_pls T.apt hn7 R7 ((T.hJ _ _ _).mpr ⟨fun c z => pls_in z, RS_tup (pls_tup hn7) (x7.rs (RS_tup (mns_tup hc) rg))⟩)) (RW_tup (pls_tup hn7) r7)
        · cases r with
          | error e => exact (show False from hq).elim
          | ok fl => cases fl with
            | ret u => exact I2.after (ce_pls I2.hok I2.stkFree hc hq)
            | next => exact False.elim hq
            | brk => exact False.elim hq
            | cont => exact False.elim hq
    | _ => cases e2
  | _ => cases e1
end
end G
/-! K26: defs that want no guard about them; lambdas in the maker's frame; the call that passes the cells on. -/
namespace G
open PySem PySem.Spec PyProof.Rows L2
/-! ### no guard -/
structure FnOkG (P : Program) (w : World) (K : PySem.W.Frag) (mg : Str → Option Value) (base : Heap) (k : Nat) (f : Addr) (fd : FuncData) (ps : List Str) (sp : Sp) : Prop where
  len : ∀ vs H Q E, sp vs H Q E → vs.length = ps.length
  run : ∀ (A : Around) (outer : List Env) (s : Shared) (H : Hp) (args : Args) (us : List Value) (vs : List V) (Q : VK) (E : XK), Room k A → A.guards = some [] → Env0 P w K mg base A outer s H → BindsTo s fd args (ps.zip us) → Vals vs us → sp vs H Q E →
    codeAny (model P w) A (.call (.ref f) args) (CR CX0 outer P w H s Q E) s
structure CalG (P : Program) (w : World) (K : PySem.W.Frag) (mg : Str → Option Value) (base : Heap) (Z : Par) (k : Nat) (x : Str) (F : Fn) : Prop where
  ex : ∃ f fd ps, mg x = some (.ref f) ∧ PySem.W.keepIn K (.ref f) = true ∧ Binds K fd ps [] ∧ FnOkG P w K mg base k f fd ps (spF Z F)
section
variable {P : Program} {w : World} {K : PySem.W.Frag} {mg : Str → Option Value} {base : Heap} {x qual : Str} {params : Arguments} {body : List Stmt} {scope : Scope} {dvs : List V} {kws : List (Str × V)} {f : Addr} {fd : FuncData} {Z : Par}
theorem fn_okG {np nl : Nat} {b : DT} {N ps : List Str} {k : Nat} (F : FunD K x qual params body scope dvs kws f fd) (S : FnScope N ps scope) (hps : ps.length = np) (hN : N.length = np + nl)
    (hbody : ∀ (cdv : Value) (A : Around) (outer : List Env) (s : Shared) (H : Hp) (E : XK), Room k (A.deeper (envOfC qual scope s.heap.objs.size f cdv)) → (A.deeper (envOfC qual scope s.heap.objs.size f cdv)).guards = some [] → PSs (cxOf CX0 P w K mg base N qual scope f cdv A outer s H E).nox body (tS Z b)) :
    FnOkG P w K mg base (k + 1) f fd ps (spF Z (fnK np nl b)) := by
  obtain ⟨oc, od, dV, kV, doc, pm, an, cdv, ct, osl, rfl, lk, hcd, _, _⟩ := F.ex
  refine ⟨fun vs H Q E h => (spF_len fnK_ar vs H Q E h).trans hps.symm, fun A outer s H args us vs Q E hr hg e0 hb r h => ?_⟩
  exact LamX.run_ofS lk hcd S hr e0 hb r ((spF_len fnK_ar vs H Q E h).trans hps.symm) fun hr' => ⟨tS Z b, PSs.nox (hbody cdv A outer s H E hr' hg), body_start hN h⟩
end
section
variable {X : Cx} {Z : Par} {k : Nat} {x : Str} {p pos : Pos} {e : Expr} {es : List Expr} {das : DA} {F : Fn}
theorem run_g {pins : List (Addr × Obj)} {σ : L2.St} {H : Hp} {s : Shared} {Q Q' : VK} {H' : Hp} {f : Addr} {fd : FuncData} {ps : List Str} {sp : Sp} {us : List Value} {vs : List V} (c : FnOkG X.prog X.w X.K X.mg X.base k f fd ps sp) (hb : Binds X.K fd ps []) (hr : Room k X.A) (hgu : X.A.guards = some [])
    (I : Inv X pins σ H s) (e0 : Env0 X.prog X.w X.K X.mg X.base X.A X.stack s H') (r : Vals vs us) (h : sp vs H' Q' E0) (fin : ∀ u s', CE X.stack X.prog X.w H' s Q' u s' → CE X.stack X.prog X.w H s Q u s') : wpAny (model X.prog X.w) X.A (call (.ref f) us) (EP X pins σ Q) X.xe s := by
  have hl : us.length = ps.length := by rw [← r.length]; exact c.len _ _ _ _ h
  refine wpAny_call (codeAny_mono (c.run X.A X.stack s H' ⟨us, []⟩ us vs Q' E0 hr hgu e0 (by have := hb s us I.kIn (by rw [List.append_nil]; exact hl); rw [List.append_nil] at this; exact this) r h) fun r s' hq => ?_)
  cases r with
  | error e => exact (show False from hq).elim
  | ok fl => cases fl with
    | ret u => exact I.after (fin u s' hq)
    | next => exact False.elim hq
    | brk => exact False.elim hq
    | cont => exact False.elim hq
theorem eCallG (c : CalG X.prog X.w X.K X.mg X.base Z k x F) (hr : Room k X.A) (hgu : X.A.guards = some []) (hg : Gl X x) (ha : PA X (e :: es) (tA Z das)) (hdb : (x == ("__debug__" : Str)) = false := by decide) (he : starEach (e :: es) X.env = (false, eval e X.env) :: starEach es X.env := by rfl) (hpl : (backTo pos (starEach es X.env)).any (·.1) = false := by rfl) :
    PE X (.Call (.Name x p) (e :: es) [] pos) (tD Z (dCall F das)) := by
  obtain ⟨f, fd, ps, c1, c2, c3, c4⟩ := c.ex
  refine ⟨fun pins s σ H Q I h => ?_⟩
  refine wpAny_Call_Name_kw (ld_glob I hg c1 ?_ hdb)
  refine PySem.W.callWith_K (h₀ := X.base) I.ok.mod.kin c2 (thn (ha.run pos pins s σ H _ I (many (f := fun l h k => F l h k) (r := fun vs H Q => spF Z F vs H Q E0) (fun ρ h H l vs k Q e R r q => ⟨ρ, l, h, k, e, R, r, q⟩) h)) fun us s1 ⟨vs, H1, I1, r, q⟩ => ⟨I1.kIn, ?_⟩) he hpl
  exact run_g c4 c3 hr hgu I1 I1.env0 r q fun _ _ z => z
end
/-! ### the maker's frame -/
def lamPd (cs : List Addr) (F : Nat → LW) (q : Nat) (a : Addr) (H : Hp) : Prop := ∃ d, H a = some (LamO a d (F q)) ∧ H d = some (LamX.CodeO d (F q).qual) ∧ a ∉ cs ∧ d ∉ cs
def tabPd (cs : List Addr) (P : Addr) (qn : Str) (a : Addr) (H : Hp) : Prop := a = P ∧ P ∉ cs ∧ ∃ ps : Array Value, H P = some (.tbl ps) ∧ TriplesOk ps.toList ∧ ∀ (pos : Pos) (cv : Value), codeAmong pos ps.toList = some cv → ∃ c, cv = .ref c ∧ H c = some (LamX.CodeO c qn) ∧ c ∉ cs
/-- the parameters of the maker's frame: cs its cells, F its lambdas, P the table of their code objects, qn their name -/
def Zd (Z : Par) (cs : List Addr) (F : Nat → LW) (P : Addr) (qn : Str) : Par where
  K := Z.K
  ca := Z.ca
  fname := Z.fname
  fnj := Z.fnj
  lamP := lamPd cs F
  lamU := fun q a H H' hx ha ⟨d, h1, h2, h3, h4⟩ => ⟨d, ha.trans h1, hx _ _ h2, h3, h4⟩
  tabP := tabPd cs P qn
  tabU := fun a H H' hx ha ⟨e, h0, ps, h1, h2, h3⟩ => ⟨e, h0, ps, by subst e; exact ha.trans h1, h2, fun pos cv hc => by
    obtain ⟨c, q1, q2, q3⟩ := h3 pos cv hc
    exact ⟨c, q1, hx _ _ q2, q3⟩⟩
  J := fun _ _ _ => True
  jU := fun _ _ _ _ _ _ _ _ _ _ => trivial
/-- .. and of the frames that it passes its cells on to -/
def Zg (Z : Par) (cs : List Addr) (oc : Addr → Obj) (g : List W) (wv : List (Option V)) : Par where
  K := Z.K
  ca := Z.ca
  fname := Z.fname
  fnj := Z.fnj
  lamP := Z.lamP
  lamU := Z.lamU
  tabP := Z.tabP
  tabU := Z.tabU
  J := fun ρ N H => (∀ c ∈ cs, H c = some (CellE c (oc c))) ∧ RS ρ N H g wv
  jU := fun ρ ρ' N N' H H' h1 h2 h3 ⟨a, b⟩ => ⟨fun c hc => h3 c _ (a c hc) trivial, RS_mono h1 h2 (fun _ _ e _ => e) (RS_tup (fun b xs q => h3 b _ q trivial) b)⟩
theorem apt_d {Z : Par} {cs : List Addr} {oc : Addr → Obj} {g : List W} {wv : List (Option V)} {F : Nat → LW} {P : Addr} {qn : Str} : Apt (Zg (Zd Z cs F P qn) cs oc g wv) cs where
  lo := fun q a H ⟨d, h1, h2, h3, h4⟩ => h3
  lm := fun q a H ⟨d, h1, h2, h3, h4⟩ => ⟨d, by rw [mns_out h3]; exact h1, by rw [mns_out h4]; exact h2, h3, h4⟩
  tm := fun a H ⟨e, h0, ps, h1, h2, h3⟩ => ⟨e, h0, ps, by rw [mns_out h0]; exact h1, h2, fun pos cv hc => by
    obtain ⟨c, q1, q2, q3⟩ := h3 pos cv hc
    exact ⟨c, q1, by rw [mns_out q3]; exact q2, q3⟩⟩
section
variable {Z : Par} {ρ : Nat → Addr} {h : Hh} {H : Hp}
/-- H grows, the table aside -/
theorem Rel.growT (R : Rel Z ρ h H) {H2 : Hp} {P : Addr} (kp : ∀ b u, b ≠ P → H b = some u → H2 b = some u) (hP : ∃ ps, H P = some (.tbl ps)) (hP2 : ∃ ps, H2 P = some (.tbl ps)) (hc : ∃ i, i < h.n ∧ ρ i = P) (ht : ∀ a, Z.tabP a H → a = P ∧ Z.tabP a H2) (hl : ∀ q a, Z.lamP q a H → Z.lamP q a H2)
    (hj : Z.J ρ h.n H → Z.J ρ h.n H2) : Rel Z ρ h H2 ∧ Ext ρ h.n H ρ h.n H2 := by
  obtain ⟨ps, hP⟩ := hP
  have tup : ∀ b xs, H b = some (.tup xs) → H2 b = some (.tup xs) := fun b xs e => kp b _ (fun z => by rw [z, hP] at e; cases e) e
  refine ⟨⟨R.inj, fun i hi => ?_, hj R.jay⟩, ⟨Nat.le_refl _, fun _ _ => rfl, fun _ a b => absurd (Nat.lt_of_lt_of_le b a) (Nat.lt_irrefl _), fun b o e im => kp b o (fun z => by rw [z, hP] at e; cases e; exact im) e, fun b o e hn => ?_, fun b e => ?_⟩⟩
  · obtain ⟨c, a, b⟩ := R.cell i hi
    refine ⟨c, a, ?_⟩
    by_cases hz : ρ i = P
    · cases c with
      | tab => exact ⟨by rw [hz]; exact hP2, (ht _ b.2).2⟩
      | lst l => obtain ⟨xs, p, _⟩ := b; rw [hz, hP] at p; cases p
      | dct lk l => cases lk with
        | false => obtain ⟨xs, p, _⟩ := b; rw [hz, hP] at p; cases p
        | true => obtain ⟨o, xs, p, _⟩ := b; rw [hz, hP] at p; cases p
      | ins c fs => obtain ⟨dx, xs, p, _⟩ := b; rw [hz, hP] at p; cases p
      | lam q => obtain ⟨φ, p⟩ := b.1; rw [hz, hP] at p; cases p
      | opq => obtain ⟨ns, p | ⟨o, p⟩⟩ := b <;> (rw [hz, hP] at p; cases p)
    · obtain ⟨u, hu⟩ := R.some_at hi
      exact CellOk_tup tup rfl rfl ((kp _ _ hz hu).trans hu.symm) (fun q _ z => hl q _ z) (fun _ z => (ht _ z).2) b
  · obtain ⟨i, hi, e2⟩ := hc
    exact kp b o (fun z => hn i hi (e2.trans z.symm)) e
  · by_cases z : b = P
    · obtain ⟨ps2, q⟩ := hP2
      rw [z, q] at e; cases e
    · cases q : H b with
      | none => rfl
      | some u => rw [kp b u z q] at e; cases e
end
section
variable {X : Cx} {Z : Par} {cs : List Addr} {F : Nat → LW} {P cd : Addr} {q : Nat} {params : Arguments} {body : Expr} {scope : Scope} {pos : Pos}
theorem eLam (TB : LamX.TabB X.base X.mg cd P) (hcode : X.env.code = .ref cd) (hcs : ∀ c ∈ cs, ∃ y, X.env.cells.lookup y = some c) (hF : F q = ⟨X.env.qual ++ "<lambda>", params, body, scope, cloFrom X.env.cells scope.names []⟩) (hdef : defaultsOf params X.env = ([], []) := by rfl)
    (hfree : ∀ y ∈ scope.names, y.2 = .free → X.env.scope.names.lookup y.1 = some .cell ∨ X.env.scope.names.lookup y.1 = some .free) : PE X (.Lambda params body scope pos) (tD (Zd Z cs F P (X.env.qual ++ "<lambda>")) (dLam q)) := by
  refine ⟨fun pins s σ H Q I ⟨ρ, st, h, k, e0, R, S, qk⟩ => ?_⟩
  obtain ⟨h0, c0, hc0, e1⟩ := R.get (show geth h 0 _ = true from e0)
  cases c0 with
  | tab =>
    obtain ⟨⟨ps0, hp0⟩, eP, nP, ps, tP, tr, al⟩ := hc0
    refine lam_mk I TB hcode ⟨ps, tP, tr, fun p' cv hcv => by obtain ⟨c, z1, z2, _⟩ := al p' cv hcv; exact ⟨c, z1, z2⟩⟩ hdef (fun y hy z => (hfree y hy z).elim (fun k => I.ok.has _ (.inl k)) fun k => I.ok.has _ (.inr k)) fun f d H1 s1 I1 kp nn T1 df nf hf hd => ?_
    have nC : ∀ b o, H1 b = some o → b ∉ cs := fun b o e z => by
      obtain ⟨y, hy⟩ := hcs b z
      rw [I1.freeC y b hy] at e; cases e
    obtain ⟨ps1, t1, t2, t3⟩ := T1
    have nfP : P ≠ f := ne_of_none tP nf
    have eH : upd (fun b => if b = f then none else H1 b) f (LamO f d (F q)) = H1 := by
      funext b
      by_cases z : b = f
      · rw [z, upd_same, hf, hF]
      · rw [upd_ne z, if_neg z]
    have at2 : ∀ b, b ≠ f → (fun b => if b = f then none else H1 b) b = H1 b := fun b z => if_neg z
    have kp2 : ∀ b u, b ≠ P → H b = some u → (fun b => if b = f then none else H1 b) b = some u := fun b u n e => (at2 b (ne_of_none e nf)).trans (kp b u n e)
    have lam_keep : ∀ q a, lamPd cs F q a H → lamPd cs F q a (fun b => if b = f then none else H1 b) := fun q a ⟨d', z1, z2, z3, z4⟩ => ⟨d', kp2 _ _ (fun z => by rw [z, tP] at z1; cases z1) z1, kp2 _ _ (fun z => by rw [z, tP] at z2; cases z2) z2, z3, z4⟩
    obtain ⟨R2, X2⟩ := Rel.growT (H2 := fun b => if b = f then none else H1 b) (P := P) R kp2 ⟨ps, tP⟩ ⟨ps1, (at2 P nfP).trans t1⟩ ⟨0, h0, eP⟩ (fun a ⟨ea, na, _⟩ => ⟨ea, ea, na, ps1, (at2 P nfP).trans t1, t2, fun p' cv hcv => by
      obtain ⟨c, z1, z2, z3⟩ := t3 p' cv hcv
      exact ⟨c, z1, (at2 c z3).trans z2, nC _ _ z2⟩⟩) lam_keep (fun z => z)
    obtain ⟨h', e2, n2, R3, X3⟩ := R2.alloc (H2 := fun b => if b = f then none else H1 b) (p := f) (o := LamO f d (F q)) (c := .lam q) (if_pos rfl) (fun _ _ z => z) ⟨⟨_, upd_same⟩, d, upd_same, by rw [upd_ne df, hF]; exact (at2 d df).trans hd, nC _ _ hf, nC _ _ hd⟩ e1
    rw [eH] at R3 X3
    exact ⟨.ref f, H1, I1, rfl, qk _ h' H1 (.ref h.n) (.ref f) e2 (X2.trans X3) R3 ⟨by rw [n2]; exact Nat.lt_succ_self _, by rw [snoc_new]⟩⟩
  | _ => cases e1
end
end G
/-! K27: the call that passes the frame's cells on. -/
namespace G
open PySem PySem.Spec PyProof.Rows L2
/-- what the cells hold -/
structure CellV (cs : List Addr) (oc : Addr → Obj) (wv : List (Option V)) : Prop where
  len : wv.length = cs.length
  all : ∀ c ∈ cs, ∃ v, (oc c).data = .cell v
  val : ∀ (i : Nat) (c : Addr) (v : V), cs[i]? = some c → wv[i]? = some (some v) → ∃ u, RelV v u ∧ (oc c).data = .cell (some u)
section
variable {X : Cx} {pins : List (Addr × Obj)} {σ : L2.St} {H : Hp} {s : Shared} {Z : Par} {ρ : Nat → Addr} {h : Hh} {cs : List Addr} {oc : Addr → Obj} {g : List W} {wv : List (Option V)}
theorem cell_new (I : Inv X pins σ H s) (hfn : ∀ y, X.fn y = true) {y : Str} {c : Addr} (e : X.env.cells.lookup y = some c) : X.s_0.heap.objs.size ≤ c := I.ok.cab y c (hfn y) e
theorem cell_nobase (I : Inv X pins σ H s) (hfn : ∀ y, X.fn y = true) {y : Str} {c : Addr} (e : X.env.cells.lookup y = some c) : X.base.get? c = none := by
  cases q : X.base.get? c with
  | none => rfl
  | some o => exact absurd (Nat.lt_of_lt_of_le (Heap.lt_size q) (Nat.le_trans I.ok.bsz (cell_new I hfn e))) (Nat.lt_irrefl _)
theorem cell_nofr (I : Inv X pins σ H s) (hfn : ∀ y, X.fn y = true) {y : Str} {c : Addr} (e : X.env.cells.lookup y = some c) : c ∉ frs X.stack := fun z => by
  rcases List.mem_cons.mp (I.stkSub c z) with q | q
  · exact I.cne y c e q
  · obtain ⟨_, o, ho, _⟩ := I.ok.funs.mem q
    exact absurd (Nat.lt_of_lt_of_le (Heap.lt_size ho) (cell_new I hfn e)) (Nat.lt_irrefl _)
/-- from the maker's relation to the callee's, and back -/
theorem rel_zg (R : Rel Z ρ h H) (hn : ∀ c ∈ cs, H c = none) (j : RS ρ h.n H g wv) : Rel (Zg Z cs oc g wv) ρ h (pls cs oc H) := by
  refine ⟨R.inj, fun i hi => ?_, fun c hc => pls_in hc, RS_tup (pls_tup hn) j⟩
  obtain ⟨c, e, k⟩ := R.cell i hi
  obtain ⟨o, ho⟩ := R.some_at hi
  have ha : ρ i ∉ cs := fun z => by rw [hn _ z] at ho; cases ho
  have kx : ∀ b φ, H b = some (.ext φ) → pls cs oc H b = some (.ext φ) := fun b φ q => by rw [pls_out fun z => by rw [hn b z] at q; cases q]; exact q
  exact ⟨c, e, CellOk_tup (Z := Z) (Z' := Zg Z cs oc g wv) (pls_tup hn) rfl rfl (pls_out ha) (fun q _ z => Z.lamU q _ _ _ kx (pls_out ha) z) (fun _ z => Z.tabU _ _ _ kx (pls_out ha) z) k⟩
theorem rel_back (A : Apt (Zg Z cs oc g wv) cs) (hj : ∀ ρ N H, Z.J ρ N H) (R : Rel (Zg Z cs oc g wv) ρ h H) : Rel Z ρ h (mns cs H) := by
  refine ⟨R.inj, fun i hi => ?_, hj _ _ _⟩
  obtain ⟨c, e, k⟩ := R.cell i hi
  exact ⟨c, e, CellOk_tup (Z := Zg Z cs oc g wv) (Z' := Z) (mns_tup R.jay.1) rfl rfl (mns_out (cell_out A R.jay.1 k)) (fun q _ z => A.lm q _ _ z) (fun _ z => A.tm _ _ z) k⟩
theorem ext_back {ρ' : Nat → Addr} {h' : Hh} {H' : Hp} (hn : ∀ c ∈ cs, H c = none) (hc : ∀ c ∈ cs, H' c = some (CellE c (oc c))) (x : Ext ρ h.n (pls cs oc H) ρ' h'.n H') : Ext ρ h.n H ρ' h'.n (mns cs H') := by
  have out : ∀ {b : Addr} {o : HO}, H b = some o → b ∉ cs := fun {b o} q z => by rw [hn b z] at q; cases q
  refine ⟨x.le, x.same, fun i h1 h2 => ?_, fun b o e im => ?_, fun b o e hb => ?_, fun b e => ?_⟩
  · have := x.new i h1 h2
    by_cases z : ρ' i ∈ cs
    · exact hn _ z
    · rw [pls_out z] at this; exact this
  · rw [mns_out (out e)]; exact x.stay b o (by rw [pls_out (out e)]; exact e) im
  · rw [mns_out (out e)]; exact x.keep b o (by rw [pls_out (out e)]; exact e) hb
  · by_cases z : b ∈ cs
    · exact hn b z
    · rw [mns_out z] at e
      have := x.dom b e
      rw [pls_out z] at this
      exact this
end
section
variable {X : Cx} {Z : Par} {k : Nat} {x : Str} {p pos : Pos} {e : Expr} {es : List Expr} {das : DA} {F : List W → Fn} {cs : List Addr} {cy : List Str} {js : List Nat}
theorem eCallC (hfn : ∀ y, X.fn y = true) (hj : ∀ ρ N H, Z.J ρ N H) (hjs : js.map (fun j => X.N[j]?) = cy.map some) (hk : ∀ y ∈ cy, X.env.scope.names.lookup y = some .cell) (hcs : cy.map (fun y => X.env.cells.lookup y) = cs.map some) (apt : ∀ oc g wv, Apt (Zg Z cs oc g wv) cs)
    (hcal : ∀ oc g wv, CellV cs oc wv → CalG X.prog X.w X.K X.mg X.base (Zg Z cs oc g wv) k x (F g)) (hr : Room k X.A) (hgu : X.A.guards = some []) (hg : Gl X x) (hmx : ∃ f, X.mg x = some (.ref f) ∧ PySem.W.keepIn X.K (.ref f) = true) (ha : PA X (e :: es) (tA Z das))
    (hdb : (x == ("__debug__" : Str)) = false := by decide) (he : starEach (e :: es) X.env = (false, eval e X.env) :: starEach es X.env := by rfl) (hpl : (backTo pos (starEach es X.env)).any (·.1) = false := by rfl) : PE X (.Call (.Name x p) (e :: es) [] pos) (tD Z (dCallG F js das)) := by
  obtain ⟨f0, m1, m2⟩ := hmx
  have atc : ∀ (i : Nat) (c : Addr), cs[i]? = some c → ∃ (y : Str) (j : Nat), cy[i]? = some y ∧ js[i]? = some j ∧ X.N[j]? = some y ∧ X.env.cells.lookup y = some c := fun i c ec => by
    have h1 : (cy.map fun y => X.env.cells.lookup y)[i]? = some (some c) := by rw [hcs, List.getElem?_map, ec]; rfl
    rw [List.getElem?_map] at h1
    cases ey : cy[i]? with
    | none => rw [ey] at h1; cases h1
    | some y =>
      rw [ey] at h1
      have h2 : (js.map fun j => X.N[j]?)[i]? = some (some y) := by rw [hjs, List.getElem?_map, ey]; rfl
      rw [List.getElem?_map] at h2
      cases ej : js[i]? with
      | none => rw [ej] at h2; cases h2
      | some j =>
        rw [ej] at h2
        exact ⟨y, j, rfl, rfl, Option.some.inj h2, Option.some.inj h1⟩
  have inc : ∀ c ∈ cs, ∃ y, y ∈ cy ∧ X.env.cells.lookup y = some c := fun c hc => by
    obtain ⟨i, hi⟩ := List.mem_iff_getElem?.mp hc
    obtain ⟨y, j, e1, e2, e3, e4⟩ := atc i c hi
    exact ⟨y, List.mem_of_getElem? e1, e4⟩
  refine ⟨fun pins s σ H Q I ⟨ρ, st, h, kk, e0, R, S, q⟩ => ?_⟩
  refine wpAny_Call_Name_kw (ld_glob I hg m1 ?_ hdb)
  refine PySem.W.callWith_K (h₀ := X.base) I.ok.mod.kin m2 (thn (ha.run pos pins s σ H (fun vs H2 => ∃ ρ2 l h2, slots st js (fun g => F g l h2 kk) = true ∧ Ext ρ h.n H ρ2 h2.n H2 ∧ Rel Z ρ2 h2 H2 ∧ RL ρ2 h2.n H2 l vs) I ⟨ρ, st, h, _, e0, R, S, fun ρ2 h2 H2 l vs e3 x2 R2 r2 => ⟨ρ2, l, h2, e3, x2, R2, r2⟩⟩) fun us s1 ⟨vs, H1, I1, r, ρ2, l, h2, e3, x2, R2, r2⟩ => ⟨I1.kIn, ?_⟩) he hpl
  obtain ⟨gs, e4, r4⟩ := slots_ok (x2.rs S) e3
  have hn : ∀ c ∈ cs, H1 c = none := fun c hc => by obtain ⟨y, _, ey⟩ := inc c hc; exact I1.freeC y c ey
  let oc : Addr → Obj := fun c => (s1.heap.get? c).getD default
  have isc : ∀ c ∈ cs, s1.heap.get? c = some (oc c) ∧ ∃ v, (oc c).data = .cell v := fun c hc => by
    obtain ⟨y, _, ey⟩ := inc c hc
    obtain ⟨v, o, ho, hd⟩ := I1.cell y c ey
    have : oc c = o := by show (s1.heap.get? c).getD default = o; rw [ho]; rfl
    exact ⟨by rw [this]; exact ho, v, by rw [this]; exact hd⟩
  have CV : CellV cs oc (js.map (NdefX.slotAt σ)) := by
    refine ⟨?_, fun c hc => (isc c hc).2, fun i c v ec ev => ?_⟩
    · have h1 := congrArg List.length hjs
      have h2 := congrArg List.length hcs
      rw [List.length_map, List.length_map] at h1 h2
      rw [List.length_map, h1, h2]
    · obtain ⟨y, j, e1, e2, e3, e5⟩ := atc i c ec
      rw [List.getElem?_map, e2] at ev
      have ev2 : σ[j]? = some (some v) := NdefX.slotAt_some (Option.some.inj (show some (NdefX.slotAt σ j) = some (some v) from ev))
      have hky := hk y (List.mem_of_getElem? e1)
      obtain ⟨m, _, hl⟩ := I1.loc
      obtain ⟨u, ru, lk⟩ := hl j y v e3 ev2 (.inr (.inl hky))
      rcases lk with ⟨z, _⟩ | ⟨_, c', ec', o, ho, hd⟩
      · have z : X.env.scope.names.lookup y = some .local := z
        rw [hky] at z; cases z
      · rw [e5] at ec'
        cases ec'
        have : oc c = o := by show (s1.heap.get? c).getD default = o; rw [ho]; rfl
        exact ⟨u, ru, by rw [this]; exact hd⟩
  obtain ⟨f, fd, ps, c1, c2, c3, c4⟩ := (hcal oc gs _ CV).ex
  rw [m1] at c1
  cases c1
  have ho : ∀ c ∈ cs, s1.heap.get? c = some (oc c) := fun c hc => (isc c hc).1
  refine run_g (Q := Q) (Q' := fun v H' => (∀ c ∈ cs, H' c = some (CellE c (oc c))) ∧ Q v (mns cs H')) (H' := pls cs oc H1) c4 c3 hr hgu I1
    (env0_pls I1.env0 hn ho (fun c hc => by obtain ⟨y, _, ey⟩ := inc c hc; exact cell_nobase I1 hfn ey) fun c hc => by obtain ⟨y, _, ey⟩ := inc c hc; exact cell_nofr I1 hfn ey) r
    ⟨ρ2, l, h2, kk, e4, rel_zg R2 hn r4, RL_tup (pls_tup hn) r2, fun ρ' h' H' w v e7 x7 R7 r7 => ⟨R7.jay.1, ?_⟩⟩ fun u s' k => ce_mns hn ho k
  exact q ρ' h' _ w v e7 (x2.trans (ext_back hn R7.jay.1 x7)) (rel_back (apt _ _ _) hj R7) (RW_tup (mns_tup R7.jay.1) r7)
end
end G
/-! K28: sets of a few keys of different hash. -/
namespace G
open PySem PySem.Spec PyProof.Rows L2
section
variable {P : Program} {w : World} {A : Around} {E : Value → Shared → Prop} {s : Shared}
theorem all_at {h : Heap} {n : Nat} : ∀ (ks : List NestedKey) (us : List Value), NestedAll h ks us → NestedKey.depthAll ks ≤ n → ∀ u ∈ us, ∃ k, NestedIs h k u ∧ k.depth ≤ n
  | [], _, hk, _, u, hu => by cases hk; cases hu
  | k :: ks, _, hk, hd, u, hu => by
    cases hk with
    | cons h1 h2 =>
      have hd' : max k.depth (NestedKey.depthAll ks) ≤ n := by simpa only [NestedKey.depthAll] using hd
      rcases List.mem_cons.mp hu with e | e
      · exact ⟨k, by rw [e]; exact h1, by omega⟩
      · exact all_at ks _ h2 (by omega) u e
/-- is it hashed by its value: some answer -/
theorem hby : ∀ (n : Nat) (v : Value) (A : Around) (s : Shared) (Q : Bool → Shared → Prop), (∃ k, NestedIs s.heap k v ∧ k.depth ≤ n) → (∀ b, Q b s) → wpAny (model P w) A (hashByValue n v) Q E s := by
  intro n
  induction n with
  | zero =>
    rintro v A s Q ⟨k, hk, hd⟩ hq
    cases hk with
    | tup => exact absurd hd (by simp [NestedKey.depth])
    | _ => exact wpAny_pure (hq _)
  | succ n ih =>
    rintro v A s Q ⟨k, hk, hd⟩ hq
    cases hk with
    | @tup a o vs m ks ho hc hdt hall =>
      have hdp : NestedKey.depthAll ks ≤ n := by
        have : NestedKey.depthAll ks + 1 ≤ n + 1 := by simpa only [NestedKey.depth] using hd
        omega
      unfold hashByValue
      refine wpAny_bind (wpAny_specialOf (T := "tuple") ⟨o, ho, hc⟩ F.slot_tuple_hash.lookup ?_)
      show wpAny _ _ (seqItems? (.ref a) >>= _) _ _ s
      refine wpAny_bind (wpAny_seqItems ho hdt ?_)
      refine wpAny_bind ?_
      show wpAny _ _ (forIn vs _ _) _ _ s
      rw [← Array.forIn_toList]
      refine wpAny_forIn_list _ (fun rest r s' => r.1 = none ∧ s' = s ∧ ∀ u ∈ rest, ∃ k, NestedIs s.heap k u ∧ k.depth ≤ n) _ ?_ ?_ _ _ ⟨rfl, rfl, all_at ks _ hall hdp⟩
      · rintro u rest r s' ⟨hr, rfl, hall'⟩
        refine wpAny_bind (ih u A s' _ (hall' u List.mem_cons_self) fun b => ?_)
        cases b with
        | true =>
          simp only [Bool.not_true, Bool.false_eq_true, if_false]
          exact wpAny_pure ⟨rfl, rfl, fun y hy => hall' y (List.mem_cons_of_mem _ hy)⟩
        | false =>
          simp only [Bool.not_false, if_true]
          exact wpAny_pure (wpAny_pure (hq _))
      · rintro ⟨r1, r2⟩ s' ⟨hr, rfl, _⟩
        simp only at hr
        subst hr
        exact wpAny_pure (hq _)
    | _ => exact wpAny_pure (hq _)
/-- rows: the hash, the key's place -/
structure SetD (w : World) (h : Heap) (a : Addr) (L : List (Int × Addr)) : Prop where
  ex : ∃ (es : Array (Int × Value)) (ep : Nat) (t : SetTable), (∃ o, h.get? a = some o ∧ o.ExactSet ∧ o.data = .set es ep t) ∧ es.toList = L.map (fun p => (p.1, Value.ref p.2)) ∧ TabOk t (L.map (·.1)) ∧ t.mask = 7 ∧
    L.length ≤ 4 ∧ (w.params.followText "set-order" = true ∨ t.led = true)
theorem SetD.at {h h' : Heap} {a : Addr} {L : List (Int × Addr)} (R : SetD w h a L) (k : ∀ o, h.get? a = some o → h'.get? a = some o) : SetD w h' a L := by
  obtain ⟨es, ep, t, ⟨o, ho, r⟩, q⟩ := R.ex
  exact ⟨es, ep, t, ⟨o, k o ho, r⟩, q⟩
/-- adding a key whose hash is new -/
theorem add_d {a x : Addr} {L : List (Int × Addr)} {k : NestedKey} (R : SetD w s.heap a L) (hx : NestedIs s.heap k (.ref x)) (hdp : k.depth ≤ 8) (hnew : k.hash w ∉ L.map (·.1)) (hlen : L.length < 4) {Q : Bool → Shared → Prop}
    (hQ : ∀ b h' L', Heap.SameBut a s.heap h' → SetD w h' a L' → L'.Perm ((k.hash w, x) :: L) → Q b { s with heap := h' }) : wpAny (model P w) A (setAddHashed a (.ref x) (k.hash w)) Q E s := by
  obtain ⟨es, ep, t, ⟨o, ho, hex, hdt⟩, rows, T, m7, l4, led⟩ := R.ex
  have hes : es.size = L.length := by
    have q := congrArg List.length rows
    rw [Array.length_toList, List.length_map] at q
    exact q
  have hpl : t.place.size = L.length := by rw [T.sz, List.length_map]
  have fits : t.fits es.size = true := by
    unfold SetTable.fits SetTable.fill
    rw [T.dm, Bool.and_eq_true, beq_iff_eq, decide_eq_true_eq, hpl, hes, m7]
    exact ⟨rfl, by show L.length + 0 ≤ 7; omega⟩
  have gw : ¬ t.gaveWay = true := by
    unfold SetTable.gaveWay
    rw [m7]
    decide
  obtain ⟨K, hKf, hK, hKb⟩ := T.first (by rw [List.length_map, m7]; omega) (k.hash w)
  unfold setAddHashed
  refine wpAny_holding ?_
  rw [show (100000 : Nat) = 99999 + 1 from rfl, setAddHashedIn_succ]
  refine wpAny_bind (wpAny_setState_of ho hdt fits ?_)
  dsimp only
  refine wp_if_neg (by simp [byScan, Value.scannable]) ?_
  try refine wpAny_bind (wpAny_pure ?_)
  have search : ∀ (Q' : SetFound → Shared → Prop), Q' (.free (way t.mask (k.hash w) K) false) s → wpAny (model P w) A (setSearch a (.ref x) (k.hash w) true) Q' E s := fun Q' hq => by
    unfold setSearch
    rw [show (100000 : Nat) = 99999 + 1 from rfl, setSearchFrom_succ]
    refine wpAny_bind (wpAny_setState_of ho hdt fits ?_)
    dsimp only
    refine wp_if_neg gw ?_
    try refine wpAny_bind (wpAny_pure ?_)
    have hashAt : ∀ (i j : Nat), t.place.toList[i]? = some j → (fun i : Nat => (es[i]?.map (·.1)).getD 0) i ≠ k.hash w := fun i j hi => by
      have il : i < L.length := by
        have := (List.getElem?_eq_some_iff.mp hi).1
        rw [Array.length_toList] at this
        omega
      have e1 : es[i]? = some (L[i].1, Value.ref L[i].2) := by rw [← Array.getElem?_toList, rows, List.getElem?_map, List.getElem?_eq_getElem il]; rfl
      intro z
      refine hnew (List.mem_map.mpr ⟨L[i], List.getElem_mem il, ?_⟩)
      rw [← z]
      show L[i].1 = (es[i]?.map (·.1)).getD 0
      rw [e1]; rfl
    have spec := go_spec t T.ris T.dm (fun i : Nat => (es[i]?.map (·.1)).getD 0) (k.hash w) (10 * SetTable.turns t.mask) K (runAt t.mask (SetTable.bits (k.hash w) % (t.mask + 1)) (SetTable.bits (k.hash w))) rfl hKf hKb hK
    rcases spec with ⟨q, i, _, hi, hh, _, _⟩ | ⟨_, hp⟩
    · exact absurd hh (hashAt i _ hi)
    · have hp' : t.probe (fun i : Nat => (es[i]?.map (·.1)).getD 0) (k.hash w) (t.probeStart (k.hash w)) = some (.empty (way t.mask (k.hash w) K) none) := hp
      show wpAny _ _ (match t.probe (fun i : Nat => (es[i]?.map (·.1)).getD 0) (k.hash w) (t.probeStart (k.hash w)) with | some met => _ | _ => _) _ _ _
      rw [hp']
      exact wpAny_pure hq
  refine wpAny_bind (search _ ?_)
  dsimp only
  refine wpAny_bind (wpAny_setState_of ho hdt fits ?_)
  dsimp only
  obtain ⟨q1, q2, q3, q4, q5, q6, q7, q8, q9⟩ := T.put hK hKb
  generalize hpt : t.put (way t.mask (k.hash w) K) = pt at q1 q3 q4 q5 q6 q7 q8 q9 ⊢
  obtain ⟨t1, p⟩ := pt
  dsimp only at q1 q3 q4 q5 q6 q7 q8 q9 ⊢
  subst q1
  have fin : ∀ t2 : SetTable, t2.place = t1.place → t2.dummies = t1.dummies → t2.mask = t1.mask → t2.led = t1.led → wpAny (model P w) A (do
      storeSet a (SetTable.insertAt es (SetTable.below t.place (way t.mask (k.hash w) K)) (k.hash w, Value.ref x)) t2
      if (!false && t2.tooFull) = true then setRelay a (SetTable.grown (es.size + 1))
      return true) Q E s := fun t2 p1 p2 p3 p4 => by
    have hin : (SetTable.insertAt es (SetTable.below t.place (way t.mask (k.hash w) K)) (k.hash w, Value.ref x)).toList = (L.take (SetTable.below t.place (way t.mask (k.hash w) K)) ++ (k.hash w, x) :: L.drop (SetTable.below t.place (way t.mask (k.hash w) K))).map (fun p => (p.1, Value.ref p.2)) := by
      rw [SetTable.toList_insertAt, rows, List.map_append, List.map_cons, List.map_take, List.map_drop]
    have pm := put_perm L (SetTable.below t.place (way t.mask (k.hash w) K)) (k.hash w, x)
    have hl1 := pm.length_eq
    have hsz : (SetTable.insertAt es (SetTable.below t.place (way t.mask (k.hash w) K)) (k.hash w, Value.ref x)).size = L.length + 1 := by
      have q := congrArg List.length hin
      rw [Array.length_toList, List.length_map, hl1] at q
      exact q
    refine wpAny_bind (wpAny_storeSet_of ho hdt ?_ (by rw [hsz, sizeLine_eq]; omega))
    have nf : t2.tooFull = false := by
      unfold SetTable.tooFull
      have e : t2.fill = L.length + 1 := by
        unfold SetTable.fill
        rw [p1, p2]
        rw [List.length_map] at q9
        exact q9
      rw [e, p3, q4, m7]
      exact decide_eq_false (by omega)
    rw [nf]
    simp only [Bool.and_false, Bool.false_eq_true, if_false]
    refine wpAny_pure (hQ true _ _ (Heap.SameBut.update ..) ⟨_, ep + 1, t2, ⟨_, store_at ho hdt, ⟨hex.1, hex.2.1, hex.2.2⟩, rfl⟩, hin, ?_, by rw [p3, q4, m7], by rw [hl1]; show L.length + 1 ≤ 4; omega, by rw [p4, q5]; exact led⟩ pm)
    have q3' : TabOk t1 ((L.take (SetTable.below t.place (way t.mask (k.hash w) K)) ++ (k.hash w, x) :: L.drop (SetTable.below t.place (way t.mask (k.hash w) K))).map (·.1)) := by
      rw [List.map_append, List.map_cons, List.map_take, List.map_drop]; exact q3
    exact ⟨by rw [p1]; exact q3'.ris, by rw [p2]; exact q3'.dm, by rw [p1]; exact q3'.sz, by rw [p3]; exact q3'.mok, by rw [p1, p3]; exact q3'.bd, by rw [p1, p3]; exact q3'.reach⟩
  cases hp : t1.plain with
  | true =>
    refine wpAny_bind ?_
    refine hby 8 (.ref x) A s _ ⟨k, hx, hdp⟩ fun b => ?_
    cases b with
    | true => exact fin t1 rfl rfl rfl rfl
    | false => exact fin { t1 with plain := false } rfl rfl rfl rfl
  | false =>
    refine wpAny_bind ?_
    exact wpAny_pure (fin t1 rfl rfl rfl rfl)
abbrev rowD (w : World) (p : NestedKey × Addr) : Int × Addr := (p.1.hash w, p.2)
theorem nested_keep {h h' : Heap} {k : NestedKey} {v : Value} (x : NestedIs h k v) (hk : ∀ b o, h.get? b = some o → h'.get? b = some o) : NestedIs h' k v := NestedIs.at (fun b o _ _ q _ => hk b o q) k v x
/-- the loop of set.update -/
theorem upd_d {J : Addr} {fp wr : List Addr} {Gg : Array GenState → Array GenState → Prop} {n : Nat} {Pv : Nat → Value → Prop} {St : Nat → Shared → Prop} {R : Result → Shared → Prop} (W : WalksS P w A.in1 J fp wr Gg n Pv St) (S : Addr) (hSf : S ∉ fp) (ks : List (NestedKey × Addr)) (hn : n = ks.length) (h4 : ks.length ≤ 4)
    (nd : (ks.map fun p => p.1.hash w).Nodup) (hval : ∀ i v, Pv i v → ∃ p, ks[i]? = some p ∧ v = .ref p.2) (h0 : Heap) (hk : ∀ p ∈ ks, NestedIs h0 p.1 (.ref p.2) ∧ p.1.depth ≤ 8) (hS0 : h0.get? S = none) (hw0 : ∀ b ∈ wr, h0.get? b = none) (hu : A.in1.units + 8 < cLine) :
    ∀ (m i : Nat) (s : Shared), n - i = m → i ≤ n → St i s → (∀ b o, h0.get? b = some o → s.heap.get? b = some o) → (∃ L, SetD w s.heap S L ∧ L.Perm ((ks.take i).map (rowD w))) →
      (∀ s' L, Moved (S :: wr) Gg s s' → SetD w s'.heap S L → L.Perm (ks.map (rowD w)) → (∀ b o, h0.get? b = some o → s'.heap.get? b = some o) → R (.ok (.ret .none)) s') → codeAny (model P w) A (.builtin "set.update.loop" ⟨[.ref S, .ref J], []⟩) R s := by
  have Sw : S ∉ wr := fun z => hSf (W.sub _ z)
  have sb : ∀ b ∈ wr, b ∈ S :: wr := fun b z => List.mem_cons_of_mem _ z
  have mk : ∀ {s s' : Shared}, Moved wr Gg s s' → (∀ b o, h0.get? b = some o → s.heap.get? b = some o) → ∀ b o, h0.get? b = some o → s'.heap.get? b = some o := fun hm q b o e => hm.heap b o (fun z => by rw [hw0 b z] at e; cases e) (q b o e)
  intro m
  induction m with
  | zero =>
    intro i s hm hi st kp ⟨L, hL, pL⟩ hR
    have : i = n := by omega
    subst this
    refine codeAny_builtin F.entry_set_update_loop ?_; rw [Around.under_plainId F.plain_set_update_loop _]; show wpAny _ A.in1 (pyNext (.ref J) >>= _) _ _ s; refine wpAny_bind (W.done s _ _ st fun s' mv => ?_)
    exact wpAny_pure (hR s' L (mv.mono sb) (hL.at fun o q => mv.heap S o Sw q) (by rw [hn, List.take_length] at pL; exact pL) (mk mv kp))
  | succ m ih =>
    intro i s hm hi st kp ⟨L, hL, pL⟩ hR
    have lt : i < n := by omega
    refine codeAny_builtin F.entry_set_update_loop ?_; rw [Around.under_plainId F.plain_set_update_loop _]; show wpAny _ A.in1 (pyNext (.ref J) >>= _) _ _ s; refine wpAny_bind (W.item i s _ _ lt st fun v s' hv st' mv => ?_)
    obtain ⟨p, hp, rfl⟩ := hval i v hv
    have kp' := mk mv kp
    obtain ⟨hx, hd⟩ := hk p (List.mem_of_getElem? hp)
    have hx' := nested_keep hx kp'
    have il : i < ks.length := by omega
    have hpi : ks[i] = p := by rw [List.getElem?_eq_getElem il] at hp; exact Option.some.inj hp
    have hnew : p.1.hash w ∉ L.map (·.1) := fun z => by
      obtain ⟨r, hr, e⟩ := List.mem_map.mp z
      obtain ⟨q, hq, e2⟩ := List.mem_map.mp (pL.mem_iff.mp hr)
      obtain ⟨j, hj, e3⟩ := List.getElem_of_mem hq
      have hj2 : j < i := by rw [List.length_take] at hj; omega
      have e4 : ks[j]'(by omega) = q := by rw [← e3, List.getElem_take]
      have := List.pairwise_iff_getElem.mp nd j i (by rw [List.length_map]; omega) (by rw [List.length_map]; exact il) hj2
      rw [List.getElem_map, List.getElem_map, e4, hpi] at this
      rw [← e2] at e
      exact this e
    have ll : L.length < 4 := by rw [pL.length_eq, List.length_map, List.length_take]; omega
    show wpAny _ A.in1 (holding [Value.ref p.2] (setAdd S (.ref p.2)) >>= _) _ _ s'
    refine wpAny_bind (wpAny_holding ?_)
    unfold setAdd
    refine wpAny_holding (wpAny_bind (pyHash_key p.1 _ _ _ _ hx' (by omega) ?_))
    refine add_d (s := { s' with toks := s'.toks + p.1.draws }) (hL.at fun o q => mv.heap S o Sw q) hx' hd hnew ll fun b h' L' hsb hL' pL' => ?_
    have kp2 : ∀ b o, h0.get? b = some o → h'.get? b = some o := fun b o e => (hsb.2 b (fun z => by rw [z, hS0] at e; cases e)).trans (kp' b o e)
    have p2 : L'.Perm ((ks.take (i + 1)).map (rowD w)) := by
      rw [List.take_add_one, hp, List.map_append]
      exact pL'.trans (List.Perm.trans (pL.cons _) (List.perm_append_comm (l₁ := [rowD w p])))
    refine wpAny_pure ⟨plainId_quiet F.plain_set_update_loop _, ih (i + 1) _ (by omega) lt (W.frame _ s' _ _ st' (Nat.le_add_right _ _) fun b z o e => ?_) kp2 ⟨L', hL', p2⟩ fun s'' L2 mv2 hL2 pL2 kp3 => ?_⟩
    · rw [hsb.2 b (fun y => hSf (by rw [← y]; exact z))]; exact e
    · refine hR s'' L2 (Moved.trans W.gtrans ((mv.mono sb).then_heap (Nat.le_add_right _ _) fun b o z e => ?_) mv2) hL2 pL2 kp3
      rw [hsb.2 b (fun y => z (by rw [y]; exact List.mem_cons_self))]; exact e
/-- a new set -/
def emp (w : World) : Obj := { cls := .type "set", dict := none, data := .set #[] 0 (.fresh 0 0 (!w.params.followText "set-order")) }
theorem setD_new {h : Heap} {a : Addr} (ho : h.get? a = some (emp w)) : SetD w h a [] := by
  refine ⟨#[], 0, _, ⟨_, ho, ⟨rfl, rfl, rfl⟩, rfl⟩, rfl, ⟨List.Pairwise.nil, rfl, rfl, .inl rfl, fun x z => (by cases z), fun i h j z => (by simp at z)⟩, rfl, Nat.zero_le _, ?_⟩
  show _ ∨ (!w.params.followText "set-order") = true
  cases w.params.followText "set-order" <;> first | exact .inr rfl | exact .inl rfl
set_option maxHeartbeats 3200000 in
theorem call_set_d {l : Addr} {items : Array Value} (ks : List (NestedKey × Addr)) {Q : Value → Shared → Prop} (hh : A.handled = none) (hl : s.heap.IsList l items) (hit : items.toList = ks.map fun p => Value.ref p.2) (hk : ∀ p ∈ ks, NestedIs s.heap p.1 (.ref p.2) ∧ p.1.depth ≤ 8) (h4 : ks.length ≤ 4)
    (nd : (ks.map fun p => p.1.hash w).Nodup) (hu : A.units + 20 < cLine) (fin : ∀ (h' : Heap) (tk : Nat) L, SetD w h' s.heap.objs.size L → L.Perm (ks.map (rowD w)) → (∀ b o, s.heap.get? b = some o → h'.get? b = some o) → Q (.ref s.heap.objs.size) { s with heap := h', toks := tk }) :
    wpAny (model P w) A (call (.type "set") [.ref l]) Q E s := by
  have isz : items.size = ks.length := by rw [← Array.length_toList, hit, List.length_map]
  have atS : (s.heap.push (emp w)).get? s.heap.objs.size = some (emp w) := Heap.get?_push_size _ rfl
  have TS : Shared.TypeIs { s with heap := s.heap.push (emp w) } (.ref s.heap.objs.size) "set" := ⟨_, atS, rfl⟩
  obtain ⟨c, tl, hmro⟩ := F.called_set.mro
  have made := F.called_set.made; have subt := F.called_set.sub; have f1 := F.called_set.notType; have f2 := F.called_set.canCreate; have f3 := F.typeCall_set_1 (.ref l)
  have f4 := F.called_set.init.lookup; have f5 := F.called_set.init.bind (.ref s.heap.objs.size)
  refine wpAny_call (codeAny_of_tree (show wpAny _ _ (callAny (.type "set") _) _ _ _ from ?_)); refine wpAny_pure ⟨Code.quiet_builtin _ (by decide +kernel), codeAny_builtin F.entry_type_call ?_⟩; rw [Around.under_plain (weight_type_call_type "set" [.ref l] []) rfl]; repeat (any_goals (first | assumption | wp_step))
  refine codeAny_mono (code_set_led1 (.ref l) (E := E) (Q₁ := fun obj s1 => obj = .ref s.heap.objs.size ∧ s1 = { s with heap := s.heap.push (emp w) }) ⟨rfl, rfl⟩) fun r s1 hr => ?_
  cases r with
  | error e => exact hr
  | ok fl => cases fl with
    | ret obj =>
      obtain ⟨rfl, rfl⟩ := hr
      repeat (any_goals (first | assumption | exact TS | wp_step))
      refine codeAny_mono (codeAny_call_builtin (R := wants (fun r s2 => r = .none ∧ ∃ h' tk L, s2 = { s with heap := h', toks := tk } ∧ SetD w h' s.heap.objs.size L ∧ L.Perm (ks.map (rowD w)) ∧ ∀ b o, s.heap.get? b = some o → h'.get? b = some o) E) F.called_set.init.plain F.entry_set_init (check_set_init_1 TS ?_)) fun r2 s2 hr2 => ?_
      · obtain ⟨⟨ocls, odict, odata, oslots⟩, hol, hcl, nl, hdl⟩ := hl
        simp only at hcl hdl; subst hcl; subst hdl
        have hol2 : (s.heap.push (emp w)).get? l = some { cls := .type "list", dict := odict, data := .seq items nl, slots := oslots } := Heap.get?_push_of_some _ hol
        have b1 := F.sub_list_set; have b2 := F.sub_list_frozenset
        have b3 : (Value.type "list" == Value.type "dict") = false := by decide
        have hl2 : (s.heap.push (emp w)).IsList l items := ⟨_, hol2, rfl, nl, rfl⟩
        unfold Builtin.«set.__init__» noKeywords Builtin.Frozenset.updateFrom; generalize hPI : pyIter = PI; wp_walk; subst hPI
        refine wpAny_pyIter_list hl2 (wpAny_bind (wpAny_runValue ?_))
        have lS : l < s.heap.objs.size := Heap.lt_size hol
        have sz1 : (s.heap.push (emp w)).objs.size = s.heap.objs.size + 1 := Heap.size_push ..
        have off : s.heap.objs.size ∉ [(s.heap.push (emp w)).objs.size, l] := by
          rw [sz1]; simp only [List.mem_cons, List.not_mem_nil, or_false, not_or]
          exact ⟨Nat.ne_of_lt (Nat.lt_succ_self _), Nat.ne_of_gt lS⟩
        have val : ∀ (i : Nat) (v : Value), items[i]? = some v → ∃ p, ks[i]? = some p ∧ v = .ref p.2 := fun i v hv => by
          have q : items.toList[i]? = some v := by rw [Array.getElem?_toList]; exact hv
          rw [hit, List.getElem?_map] at q
          cases hq : ks[i]? with
          | none => rw [hq] at q; cases q
          | some p => rw [hq] at q; exact ⟨p, rfl, (Option.some.inj q).symm⟩
        have nothing : ∀ b, s.heap.objs.size ≤ b → s.heap.get? b = none := fun b hb => by
          cases q : s.heap.get? b with
          | none => rfl
          | some o => exact absurd (Nat.lt_of_lt_of_le (Heap.lt_size q) hb) (Nat.lt_irrefl _)
        refine upd_d ((Walks.list (by simp [hh]) _ l (by rw [sz1]; exact Nat.ne_of_lt (Nat.lt_succ_of_lt lS)) items).toS) s.heap.objs.size off ks isz h4 nd val s.heap hk (nothing _ (Nat.le_refl _)) (fun b z => nothing b (by rw [List.mem_singleton.mp z, sz1]; exact Nat.le_succ _))
          (show A.units + 1 + 1 + 1 + 8 < cLine by omega) (items.size - 0) 0 _ (by omega) (Nat.zero_le _) ⟨⟨_, Heap.get?_push_size _ rfl, rfl, rfl⟩, hl2.push _⟩ (fun b o q => Heap.get?_push_of_some _ (Heap.get?_push_of_some _ q))
          ⟨[], setD_new (Heap.get?_push_of_some _ atS), .refl _⟩ fun s' L mv hL pL kp => ?_
        obtain ⟨h', g2, d', tk', os'⟩ := s'
        have eg : g2 = s.gens := mv.gens
        have ed : d' = s.drawn := mv.drawn
        have eo : os' = s.os := mv.os
        subst eg ed eo
        show wpAny _ _ _ _ _ _
        refine wpAny_pure (show wpAny _ _ (ret Value.none) _ _ _ from ?_)
        exact wpAny_pure ⟨rfl, h', tk', L, rfl, hL, pL, kp⟩
      · cases r2 with
        | error e => exact hr2
        | ok fl2 => cases fl2 with
          | ret r =>
            obtain ⟨rfl, h', tk, L, rfl, d1, d2, d3⟩ := hr2
            have fin' := fin h' tk L d1 d2 d3
            repeat (any_goals (first | assumption | wp_step))
          | _ => exact hr2.elim
    | _ => exact hr.elim
end
end G
/-! K29: len(set(xs)), sorted(set(xs)). -/
namespace G
open PySem PySem.Spec PyProof.Rows L2
/-- a datum as a key -/
def nk : W → NestedKey
  | .int i => .num i
  | .sp => .text "part"
  | .so => .text "out"
  | .tn => .tup []
  | .tc a b => .tup (nk a :: (match nk b with | .tup ks => ks | _ => []))
  | _ => .none
theorem okN_two {a b : W} (e : okN (.tc a b) = true) : okN a = true ∧ okN b = true := by
  have e' : (match okN a with | true => okN b | false => false) = true := e
  cases z : okN a with
  | false => rw [z] at e'; cases e'
  | true => rw [z] at e'; exact ⟨rfl, e'⟩
theorem tl_nk : ∀ {b : W}, IsTl b → ∃ ks, nk b = .tup ks
  | .tn, _ => ⟨[], rfl⟩
  | .tc a b, _ => ⟨_, rfl⟩
theorem nk_is {h : Heap} : ∀ (d : W), Pr d → okN d = true → (∀ (v : Value) (as : List Addr), Reads h v (dat d) as → NestedIs h (nk d) v ∧ as = []) ∧ ∀ l, dat d = .tuple l → ∀ ks, nk d = .tup ks → ∀ (vs : List Value) (as : List Addr), ReadsAll h vs l as → NestedAll h ks vs ∧ as = []
  | .int i, _, _ => ⟨fun v as r => by cases r; exact ⟨.int _ _, rfl⟩, fun l e => by cases e⟩
  | .sp, _, _ => ⟨fun v as r => by cases r; exact ⟨.text _ _, rfl⟩, fun l e => by cases e⟩
  | .so, _, _ => ⟨fun v as r => by cases r; exact ⟨.text _ _, rfl⟩, fun l e => by cases e⟩
  | .non, _, _ => ⟨fun v as r => by cases r; exact ⟨.none, rfl⟩, fun l e => by cases e⟩
  | .tn, _, _ => ⟨fun v as r => by
      have r : Reads h v (.tuple []) as := r
      cases r with
      | tuple h1 h2 h3 h4 => 
        rename_i a o vs n
        have e4 : vs.toList = [] ∧ as = [] := by
          generalize vs.toList = us at h4
          cases h4; exact ⟨rfl, rfl⟩
        exact ⟨.tup h1 h2 h3 (by rw [e4.1]; exact .nil), e4.2⟩, fun l e ks ek vs as r => by cases e; cases ek; cases r; exact ⟨.nil, rfl⟩⟩
  | .tc a b, p, e => by
    obtain ⟨ea, eb⟩ := okN_two e
    obtain ⟨l, el⟩ := tl_dat p.2.1 p.2.2
    obtain ⟨ks, ek⟩ := tl_nk p.2.2
    have A := nk_is (h := h) a p.1 ea
    have B := nk_is (h := h) b p.2.1 eb
    have all : ∀ (vs : List Value) (as : List Addr), ReadsAll h vs (dat a :: l) as → NestedAll h (nk a :: ks) vs ∧ as = [] := fun vs as r => by
      cases r with
      | cons r1 r2 =>
        obtain ⟨a1, a2⟩ := A.1 _ _ r1
        obtain ⟨b1, b2⟩ := B.2 l el ks ek _ _ r2
        exact ⟨.cons a1 b1, by rw [a2, b2]; rfl⟩
    have enk : nk (.tc a b) = .tup (nk a :: ks) := by show NestedKey.tup (nk a :: (match nk b with | .tup ks => ks | _ => [])) = _; rw [ek]
    refine ⟨fun v as r => ?_, fun l' e' ks' ek' vs as r => ?_⟩
    · rw [dat_tc el] at r
      rw [enk]
      cases r with
      | tuple h1 h2 h3 h4 =>
        obtain ⟨n1, n2⟩ := all _ _ h4
        exact ⟨.tup h1 h2 h3 n1, n2⟩
    · rw [dat_tc el] at e'
      rw [enk] at ek'
      cases e'
      cases ek'
      exact all _ _ r
  | .bl _, _, e => by cases e
  | .ln, _, e => by cases e
  | .lc _ _, _, e => by cases e
  | .und, _, e => by cases e
  | .ref _, _, e => by cases e
  | .rep _, _, e => by cases e
theorem nk_depth : ∀ (d : W), Pr d → okN d = true → (nk d).depth ≤ (dat d).depth ∧ ∀ l, dat d = .tuple l → ∀ ks, nk d = .tup ks → NestedKey.depthAll ks ≤ PyData.depthAll l
  | .int i, _, _ => ⟨Nat.zero_le _, fun l e => by cases e⟩
  | .sp, _, _ => ⟨Nat.zero_le _, fun l e => by cases e⟩
  | .so, _, _ => ⟨Nat.zero_le _, fun l e => by cases e⟩
  | .non, _, _ => ⟨Nat.zero_le _, fun l e => by cases e⟩
  | .tn, _, _ => ⟨by show NestedKey.depth (.tup []) ≤ PyData.depth (.tuple []); decide, fun l e ks ek => by cases e; cases ek; exact Nat.le_refl _⟩
  | .tc a b, p, e => by
    obtain ⟨ea, eb⟩ := okN_two e
    obtain ⟨l, el⟩ := tl_dat p.2.1 p.2.2
    obtain ⟨ks, ek⟩ := tl_nk p.2.2
    have A := (nk_depth a p.1 ea).1
    have B := (nk_depth b p.2.1 eb).2 l el ks ek
    have enk : nk (.tc a b) = .tup (nk a :: ks) := by show NestedKey.tup (nk a :: (match nk b with | .tup ks => ks | _ => [])) = _; rw [ek]
    have all : NestedKey.depthAll (nk a :: ks) ≤ PyData.depthAll (dat a :: l) := by
      rw [NestedKey.depthAll, PyData.depthAll]; omega
    refine ⟨?_, fun l' e' ks' ek' => ?_⟩
    · rw [dat_tc el, enk, NestedKey.depth, PyData.depth]; omega
    · rw [dat_tc el] at e'
      rw [enk] at ek'
      cases e'
      cases ek'
      exact all
  | .bl _, _, e => by cases e
  | .ln, _, e => by cases e
  | .lc _ _, _, e => by cases e
  | .und, _, e => by cases e
  | .ref _, _, e => by cases e
  | .rep _, _, e => by cases e
theorem okI_N : ∀ {d : W}, okI d = true → okN d = true
  | .int _, _ => rfl
  | .tn, _ => rfl
  | .tc a b, e => by
    have e' : (match okI a with | true => okI b | false => false) = true := e
    show (match okN a with | true => okN b | false => false) = true
    cases z : okI a with
    | false => rw [z] at e'; cases e'
    | true => rw [z] at e'; rw [okI_N z]; exact okI_N e'
  | .und, e => by cases e
  | .non, e => by cases e
  | .bl _, e => by cases e
  | .sp, e => by cases e
  | .so, e => by cases e
  | .ref _, e => by cases e
  | .ln, e => by cases e
  | .lc _ _, e => by cases e
  | .rep _, e => by cases e
theorem nk_hash {w : World} : ∀ (d : W), Pr d → okI d = true → (nk d).hash w = (hI d).1 ∧ ∀ ks, nk d = .tup ks → NestedKey.hashes w ks = (hI d).2
  | .int i, _, _ => ⟨by show NestedKey.hash w (.num i) = _; rw [NestedKey.hash]; rfl, fun ks e => by cases e⟩
  | .tn, _, _ => ⟨by show NestedKey.hash w (.tup []) = _; rw [NestedKey.hash, NestedKey.hashes]; rfl, fun ks e => by cases e; rw [NestedKey.hashes]; rfl⟩
  | .tc a b, p, e => by
    have e' : (match okI a with | true => okI b | false => false) = true := e
    cases z : okI a with
    | false => rw [z] at e'; cases e'
    | true =>
      rw [z] at e'
      obtain ⟨ks, ek⟩ := tl_nk p.2.2
      have A := (nk_hash (w := w) a p.1 z).1
      have B := (nk_hash (w := w) b p.2.1 e').2 ks ek
      have enk : nk (.tc a b) = .tup (nk a :: ks) := by show NestedKey.tup (nk a :: (match nk b with | .tup ks => ks | _ => [])) = _; rw [ek]
      refine ⟨?_, fun ks' ek' => ?_⟩
      · rw [enk, NestedKey.hash, NestedKey.hashes, A, B]; rfl
      · rw [enk] at ek'
        cases ek'
        rw [NestedKey.hashes, A, B]; rfl
  | .und, _, e => by cases e
  | .non, _, e => by cases e
  | .bl _, _, e => by cases e
  | .sp, _, e => by cases e
  | .so, _, e => by cases e
  | .ref _, _, e => by cases e
  | .ln, _, e => by cases e
  | .lc _ _, _, e => by cases e
  | .rep _, _, e => by cases e
theorem notIn_ok {i : Int} : ∀ {l : List Int}, notIn i l = true → i ∉ l
  | [], _ => List.not_mem_nil
  | j :: r, e => by
    have e' : (match decide (i = j) with | true => false | false => notIn i r) = true := e
    by_cases z : i = j
    · rw [decide_eq_true z] at e'; cases e'
    · rw [decide_eq_false z] at e'
      intro h
      rcases List.mem_cons.mp h with y | y
      · exact z y
      · exact notIn_ok e' y
theorem distI_ok : ∀ {l : List Int}, distI l = true → l.Nodup
  | [], _ => List.nodup_nil
  | i :: r, e => by
    have e' : (match notIn i r with | true => distI r | false => false) = true := e
    cases z : notIn i r with
    | false => rw [z] at e'; cases e'
    | true => rw [z] at e'; exact List.nodup_cons.mpr ⟨notIn_ok z, distI_ok e'⟩
theorem shal_ok : ∀ {d : W} {n : Nat}, Pr d → shal d n = true → (dat d).depth ≤ n ∧ ∀ l, dat d = .tuple l → PyData.depthAll l + 1 ≤ n
  | .int i, n, _, _ => ⟨Nat.zero_le _, fun l e => by cases e⟩
  | .sp, n, _, _ => ⟨Nat.zero_le _, fun l e => by cases e⟩
  | .so, n, _, _ => ⟨Nat.zero_le _, fun l e => by cases e⟩
  | .non, n, _, _ => ⟨Nat.zero_le _, fun l e => by cases e⟩
  | .tn, 0, _, e => by cases e
  | .tn, n + 1, _, _ => ⟨by show 0 + 1 ≤ n + 1; omega, fun l e => by cases e; show 0 + 1 ≤ n + 1; omega⟩
  | .tc a b, 0, _, e => by cases e
  | .tc a b, n + 1, p, e => by
    have e' : (match shal a n with | true => shal b (n + 1) | false => false) = true := e
    cases z : shal a n with
    | false => rw [z] at e'; cases e'
    | true =>
      rw [z] at e'
      obtain ⟨l, el⟩ := tl_dat p.2.1 p.2.2
      have A := (shal_ok p.1 z).1
      have B := (shal_ok p.2.1 e').2 l el
      have all : PyData.depthAll (dat a :: l) + 1 ≤ n + 1 := by rw [PyData.depthAll]; omega
      refine ⟨by rw [dat_tc el, PyData.depth]; exact all, fun l' el' => ?_⟩
      rw [dat_tc el] at el'
      cases el'
      exact all
  | .bl _, _, _, e => by cases e
  | .ln, _, _, e => by cases e
  | .lc _ _, _, _, e => by cases e
  | .und, _, _, e => by cases e
  | .ref _, _, _, e => by cases e
  | .rep _, _, _, e => by cases e
/-- a key of the set: its datum, its place -/
structure KeyOk (K : PySem.W.Frag) (H : Hp) (d : W) (v : V) : Prop where
  dp : Dp K H v (dat d)
  pr : Pr d
  ok : okN d = true
  tc : isTc d = true
  sh : shal d 4 = true
section
variable {X : Cx} {pins : List (Addr × Obj)} {σ : L2.St} {H : Hp} {s : Shared}
/-- in the heap -/
theorem KeyOk.at {d : W} {v : V} {u : Value} (I : Inv X pins σ H s) (k : KeyOk X.K H d v) (r : RelV v u) : ∃ a, v = .ref a ∧ u = .ref a ∧ NestedIs s.heap (nk d) (.ref a) ∧ (nk d).depth ≤ 8 := by
  obtain ⟨as, hr⟩ := Dp.reads I _ _ _ k.dp r
  have n1 := ((nk_is d k.pr k.ok).1 u as hr).1
  have hd : (nk d).depth ≤ 8 := Nat.le_trans (nk_depth d k.pr k.ok).1 (Nat.le_trans (shal_ok k.pr k.sh).1 (by decide))
  cases d with
  | tc a b =>
    obtain ⟨l, el⟩ := tl_dat k.pr.2.1 k.pr.2.2
    have dp := k.dp
    rw [dat_tc el] at dp
    cases dp <;> (cases r; exact ⟨_, rfl, rfl, n1, hd⟩)
  | _ => exact absurd k.tc Bool.false_ne_true
/-- the keys' list -/
theorem keys_at (I : Inv X pins σ H s) : ∀ {ts : List (W × V)} {us : List Value}, (∀ t ∈ ts, KeyOk X.K H t.1 t.2) → Vals (ts.map (·.2)) us → ∃ ks : List (NestedKey × Addr), us = ks.map (fun p => Value.ref p.2) ∧ ts.map (·.2) = ks.map (fun p => V.ref p.2) ∧ ks.map (·.1) = ts.map (fun t => nk t.1) ∧ ∀ p ∈ ks, NestedIs s.heap p.1 (.ref p.2) ∧ p.1.depth ≤ 8
  | [], _, _, r => by cases r; exact ⟨[], rfl, rfl, rfl, fun _ h => nomatch h⟩
  | t :: ts, _, hk, r => by
    cases r with
    | cons r1 r2 =>
      obtain ⟨a, e1, e2, n1, n2⟩ := KeyOk.at I (hk t List.mem_cons_self) r1
      obtain ⟨ks, k1, k2, k3, k4⟩ := keys_at I (fun t' ht => hk t' (List.mem_cons_of_mem _ ht)) r2
      refine ⟨(nk t.1, a) :: ks, by rw [e2, k1]; rfl, by rw [List.map_cons, e1, k2]; rfl, by rw [List.map_cons, k3]; rfl, fun p hp => ?_⟩
      rcases List.mem_cons.mp hp with z | z
      · rw [z]; exact ⟨n1, n2⟩
      · exact k4 p z
end
end G
/-! K30: len(set(xs)), sorted(set(xs)): the rules. -/
namespace G
open PySem PySem.Spec PyProof.Rows L2
def tLs (K : PySem.W.Frag) (ta : TE) : TE := fun σ H Q => ta σ H fun x H1 => ∃ (l : Addr) (ts : List (W × V)), x = V.ref l ∧ SqL K H1 l (ts.map (·.2)) ∧ (∀ t ∈ ts, KeyOk K H1 t.1 t.2 ∧ okI t.1 = true) ∧ ts.length ≤ 4 ∧ (ts.map fun t => (hI t.1).1).Nodup ∧ Q (.int ts.length) H1
def tSs (K : PySem.W.Frag) (ta : TE) : TE := fun σ H Q => ta σ H fun x H1 => ∃ (l : Addr) (ts : List (W × V)), x = V.ref l ∧ SqL K H1 l (ts.map (·.2)) ∧ (∀ t ∈ ts, KeyOk K H1 t.1 t.2) ∧ ts.length ≤ 1 ∧ ∀ p, H1 p = none → Q (.ref p) (upd H1 p (.lst (ts.map (·.2))))
theorem each2 : ∀ {ts : List (W × V)} {us : List Value}, Vals (ts.map (·.2)) us → PySem.W.EachIs (fun v (t : W × V) => RelV t.2 v) us ts
  | [], _, h => by cases h; exact .nil
  | t :: ts, _, h => by
    cases h with
    | cons h1 h2 => exact .cons h1 (each2 h2)
theorem each3 {h : Heap} {a : Addr} : ∀ {ts : List (W × V)} {us : List Value}, (∀ t ∈ ts, ∀ u, RelV t.2 u → ∃ as, Reads h u (dat t.1) as ∧ a ∉ as) → Vals (ts.map (·.2)) us → PySem.W.EachIs (fun v (t : W × V) => ∃ as, Reads h v (dat t.1) as ∧ a ∉ as) us ts
  | [], _, _, h => by cases h; exact .nil
  | t :: ts, _, hk, h => by
    cases h with
    | cons h1 h2 => exact .cons (hk t List.mem_cons_self _ h1) (each3 (fun t' ht => hk t' (List.mem_cons_of_mem _ ht)) h2)
theorem vals2' : ∀ {ts : List (W × V)} {us : List Value}, PySem.W.EachIs (fun v (t : W × V) => RelV t.2 v) us ts → Vals (ts.map (·.2)) us
  | [], _, h => by cases h; exact .nil
  | t :: ts, _, h => by
    cases h with
    | cons h1 h2 => exact .cons h1 (vals2' h2)
theorem alike_self' : ∀ (d : W), Pr d → okN d = true → PySem.W.alike (dat d) (dat d) = true
  | .int _, _, _ => rfl
  | .sp, _, _ => rfl
  | .so, _, _ => rfl
  | .non, _, _ => rfl
  | .tn, _, _ => by show PySem.W.alike (.tuple []) (.tuple []) = true; rw [PySem.W.alike, PySem.W.alikeAll]
  | .tc a b, p, e => by
    obtain ⟨ea, eb⟩ := okN_two e
    obtain ⟨l, el⟩ := tl_dat p.2.1 p.2.2
    have A := alike_self' a p.1 ea
    have B := alike_self' b p.2.1 eb
    rw [el] at B
    rw [dat_tc el]
    rw [PySem.W.alike] at B ⊢
    rw [PySem.W.alikeAll, A, B]; rfl
  | .bl _, _, e => by cases e
  | .ln, _, e => by cases e
  | .lc _ _, _, e => by cases e
  | .und, _, e => by cases e
  | .ref _, _, e => by cases e
  | .rep _, _, e => by cases e
section
variable {X : Cx} {Z : Par} {a : Expr} {da : D} {ta : TE} {p p2 q pos : Pos}
theorem pe_ls (hc : X.calm = true) (hu : X.A.units + 65 < cLine) (hg : Gl X "len") (hm : X.mg "len" = none) (hg2 : Gl X "set") (hm2 : X.mg "set" = none) (ha : PE X a ta)
    (na : starEach [a] X.env = (false, eval a X.env) :: starEach [] X.env := by rfl) : PE X (.Call (.Name "len" p) [.Call (.Name "set" p2) [a] [] q] [] pos) (tLs X.K ta) := by
  refine ⟨fun pins s σ H Q I h => ?_⟩
  refine Call_ (ld_blt I hg hm PySem.boot_len (PyProof.Rows.callWith_builtin1 (PyProof.Rows.args_cons ?_ rfl) rfl rfl))
  refine Call_ (ld_blt I hg2 hm2 PyProof.Rows.boot_set (PyProof.Rows.callWith_type1 (PyProof.Rows.args_cons (thn (ha.run pins s σ H _ I h) fun v s1 ⟨x, H1, I1, r1, q1⟩ => PyProof.Rows.args_nil ?_) na) na rfl))
  obtain ⟨l, ts, rfl, hq, hk, h4, hnd, q1⟩ := q1
  cases r1
  obtain ⟨its, rv, pl, hz⟩ := I1.list hq
  obtain ⟨ks, k1, k2, k3, k4⟩ := keys_at I1 (fun t ht => (hk t ht).1) rv
  have kl : ks.length = ts.length := by
    have := congrArg List.length k3
    rw [List.length_map, List.length_map] at this
    exact this
  have hh : ks.map (fun p => p.1.hash X.w) = ts.map fun t => (hI t.1).1 := by
    have e1 : ks.map (fun p => p.1.hash X.w) = (ks.map (·.1)).map (NestedKey.hash X.w) := by rw [List.map_map]; rfl
    rw [e1, k3, List.map_map]
    exact List.map_congr_left fun t ht => (nk_hash t.1 (hk t ht).1.pr (hk t ht).2).1
  refine call_set_d ks (I1.ok.hd hc) pl.isList (by simpa using k1) k4 (by rw [kl]; exact h4) (by rw [hh]; exact hnd) (by omega) fun h' tk L hS pL hkp => PyProof.Rows.args_nil ?_
  have I2 : Inv X pins σ H1 { s1 with heap := h', toks := tk } := I1.kept (t' := tk) hkp
  obtain ⟨es, ep, t, ⟨o, ho, hex, hdt⟩, rows, T, m7, l4, led⟩ := hS.ex
  have hes : es.size = ts.length := by
    have z := congrArg List.length rows
    rw [Array.length_toList, List.length_map, pL.length_eq, List.length_map, kl] at z
    exact z
  have fits : t.fits es.size = true := by
    unfold SetTable.fits SetTable.fill
    have z := T.sz
    rw [List.length_map, pL.length_eq, List.length_map, kl] at z
    rw [T.dm, Bool.and_eq_true, beq_iff_eq, decide_eq_true_eq, z, hes, m7]
    exact ⟨rfl, by show ts.length + 0 ≤ 7; omega⟩
  exact call_len_set ho hex hdt fits (by rw [hes]; omega) ⟨.int ts.length, H1, I2.tok _, ⟨_, by rw [hes]⟩, q1⟩
theorem pe_ss (hc : X.calm = true) (hu : X.A.units + 65 < cLine) (hg : Gl X "sorted") (hm : X.mg "sorted" = none) (hg2 : Gl X "set") (hm2 : X.mg "set" = none) (ha : PE X a ta)
    (na : starEach [a] X.env = (false, eval a X.env) :: starEach [] X.env := by rfl) : PE X (.Call (.Name "sorted" p) [.Call (.Name "set" p2) [a] [] q] [] pos) (tSs X.K ta) := by
  refine ⟨fun pins s σ H Q I h => ?_⟩
  refine Call_ (ld_blt I hg hm (show bootBuiltins "sorted" = some (.builtin "sorted") by decide +kernel) (PyProof.Rows.callWith_builtin1 (PyProof.Rows.args_cons ?_ rfl) rfl rfl))
  refine Call_ (ld_blt I hg2 hm2 PyProof.Rows.boot_set (PyProof.Rows.callWith_type1 (PyProof.Rows.args_cons (thn (ha.run pins s σ H _ I h) fun v s1 ⟨x, H1, I1, r1, q1⟩ => PyProof.Rows.args_nil ?_) na) na rfl))
  obtain ⟨l, ts, rfl, hq, hk, h1, q1⟩ := q1
  cases r1
  obtain ⟨its, rv, pl, hz⟩ := I1.list hq
  obtain ⟨ks, k1, k2, k3, k4⟩ := keys_at I1 hk rv
  have kl : ks.length = ts.length := by
    have := congrArg List.length k3
    rw [List.length_map, List.length_map] at this
    exact this
  have nd : (ks.map fun p => p.1.hash X.w).Nodup := by
    match ks, kl with
    | [], _ => exact List.nodup_nil
    | [p], _ => exact List.nodup_cons.mpr ⟨List.not_mem_nil, List.nodup_nil⟩
    | _ :: _ :: r, kl => have : r.length + 1 + 1 = ts.length := kl; omega
  refine call_set_d ks (I1.ok.hd hc) pl.isList (by simpa using k1) k4 (by omega) nd (by omega) fun h' tk L hS pL hkp => PyProof.Rows.args_nil ?_
  have I2 : Inv X pins σ H1 { s1 with heap := h', toks := tk } := I1.kept (t' := tk) hkp
  obtain ⟨es, ep, t, ⟨o, ho, hex, hdt⟩, rows, T, m7, l4, led⟩ := hS.ex
  have hes : es.size = ts.length := by
    have z := congrArg List.length rows
    rw [Array.length_toList, List.length_map, pL.length_eq, List.length_map, kl] at z
    exact z
  have fits : t.fits es.size = true := by
    unfold SetTable.fits SetTable.fill
    have z := T.sz
    rw [List.length_map, pL.length_eq, List.length_map, kl] at z
    rw [T.dm, Bool.and_eq_true, beq_iff_eq, decide_eq_true_eq, z, hes, m7]
    exact ⟨rfl, by show ts.length + 0 ≤ 7; omega⟩
  refine Calls.call_function_entry kind_sorted plain_sorted entry_sorted (args_sorted1 _) ?_
  unfold Builtin.«sorted»
  refine wpAny_bind (m := checkCount "sorted" 1 1 _) (wpAny_pure (wpAny_bind (collect_set (A := X.A.in1) (I.ok.hd hc) ⟨o, ho, hex.1, hdt⟩ fits (by rw [hes]; unfold scanBound; omega) T.ris led fun s2 vs kp2 sz2 g2 o2 pm => ?_)))
  have ev : vs = its := by
    have e2 : (es.toList.map (·.2)).Perm its := by
      rw [rows, k1, List.map_map]
      have z := pL.map (fun p : Int × Addr => Value.ref p.2)
      rw [List.map_map] at z
      exact z
    have z := pm.trans e2
    match ts, h1, rv with
    | [], _, rv => cases rv; exact z.eq_nil
    | [t], _, rv =>
      cases rv with
      | cons r1 r2 => cases r2; exact List.perm_singleton.mp z
    | _ :: _ :: r, h1, _ => exact absurd h1 (by simp)
  subst ev
  have lv : vs.length ≤ sizeLine := by rw [← rv.length]; exact hz
  refine wpAny_bind (wpAny_newList ?_ lv)
  have atL : (s2.heap.push (seqObj "list" vs.toArray 0)).get? s2.heap.objs.size = some (seqObj "list" vs.toArray 0) := Heap.get?_push_size _ rfl
  have kp3 : ∀ b u, s1.heap.get? b = some u → (s2.heap.push (seqObj "list" vs.toArray 0)).get? b = some u := fun b u e => Heap.get?_push_of_some _ (kp2 b u (hkp b u e))
  have rd : ∀ t ∈ ts, ∀ u, RelV t.2 u → Reads (s2.heap.push (seqObj "list" vs.toArray 0)) u (dat t.1) [] := fun t ht u r => by
    obtain ⟨as, hr⟩ := Dp.reads I1 _ _ _ (hk t ht).dp r
    rw [((nk_is t.1 (hk t ht).pr (hk t ht).ok).1 u as hr).2] at hr
    exact PySem.W.reads_keeps kp3 hr
  refine wpAny_bind (wpAny_holding (PySem.W.list_sort_data (s := { s2 with heap := s2.heap.push (seqObj "list" vs.toArray 0) }) (enc := fun t : W × V => dat t.1) (bs := ts) (R := fun v (t : W × V) => RelV t.2 v) atL (each2 rv) (each3 (fun t ht u r => ⟨[], rd t ht u r, List.not_mem_nil⟩) rv) (fun d hd d' hd' => ?_) (.inl fun d hd => ?_) (Nat.le_trans h1 (by decide)) (fun t ht => ?_) fun out _ e3 => ?_))
  · obtain ⟨t1, ht1, rfl⟩ := List.mem_map.mp hd
    obtain ⟨t2, ht2, rfl⟩ := List.mem_map.mp hd'
    have : t1 = t2 := by
      match ts, h1, ht1, ht2 with
      | [t], _, ht1, ht2 => rw [List.mem_singleton.mp ht1, List.mem_singleton.mp ht2]
      | _ :: _ :: _, h1, _, _ => exact absurd h1 (by simp)
    rw [this]
    exact alike_self' t2.1 (hk t2 ht2).pr (hk t2 ht2).ok
  · obtain ⟨t1, ht1, rfl⟩ := List.mem_map.mp hd
    have k := hk t1 ht1
    cases hw : t1.1 with
    | tc c d =>
      have pr := k.pr
      rw [hw] at pr
      obtain ⟨l, el⟩ := tl_dat pr.2.1 pr.2.2
      exact ⟨_, _, dat_tc el⟩
    | _ => have z := k.tc; rw [hw] at z; cases z
  · have := (shal_ok (hk t ht).pr (hk t ht).sh).1
    show X.A.units + 1 + 1 + (dat t.1).depth < cLine
    omega
  · have em : ts.mergeSort (PySem.W.dataLe false fun t : W × V => dat t.1) = ts := by
      match ts, h1 with
      | [], _ => simp
      | [t], _ => simp
      | _ :: _ :: _, h1 => exact absurd h1 (by simp)
    rw [em] at e3
    obtain ⟨c, hc2⟩ := sortedHeap_at (vs := vs) (out := out.toArray) atL
    have k5 : ∀ b u, s1.heap.get? b = some u → (sortedHeap (s2.heap.push (seqObj "list" vs.toArray 0)) s2.heap.objs.size vs out.toArray).get? b = some u := fun b u e => by
      have z := kp2 b u (hkp b u e)
      have lt := Heap.lt_size z
      rw [sortedHeap_old (Nat.ne_of_lt lt) (by rw [Heap.size_push]; exact Nat.lt_succ_of_lt lt)]
      exact Heap.get?_push_of_some _ z
    have le : s1.heap.objs.size ≤ s2.heap.objs.size := by
      have z := Heap.lt_size ho
      exact Nat.le_trans (Nat.le_of_lt z) sz2
    have hn : H1 s2.heap.objs.size = none := I1.hok.fresh le
    have hlen : (ts.map (·.2)).length ≤ sizeLine := hz
    refine wpAny_pure ⟨_, rfl, .ref s2.heap.objs.size, upd H1 s2.heap.objs.size (.lst (ts.map (·.2))), Inv.call' (ch := []) I1 o2 (Un.laid k5 le hn) (I1.hok.laid k5 le ⟨hlen, out, c, vals2' e3, by simpa using hc2⟩) (by show AllBare s2.gens; rw [g2]; exact I1.bare) (fun _ z => nomatch z), rfl, q1 _ hn⟩
end
end G
/-! K31: len(set(xs)), sorted(set(xs)): what the interpreter's terms ask. -/
namespace G
open PySem PySem.Spec PyProof.Rows L2
theorem hIs_map : ∀ l : List (W × V), hIs (fstL (l.map fun t => (t.1, W.und))) = l.map fun t => (hI t.1).1
  | [] => rfl
  | t :: l => by show (hI t.1).1 :: hIs (fstL (l.map fun t => (t.1, W.und))) = _; rw [hIs_map l]; rfl
/-- data with their values -/
theorem pairs_of {K : PySem.W.Frag} {n : Nat} {H : Hp} : ∀ {ps : List (W × W)} {xs : List V}, Gs K H n xs ps → ∃ ts : List (W × V), ts.map (·.1) = fstL ps ∧ ts.map (·.2) = xs ∧ ∀ t ∈ ts, Good K H n t.2 t.1
  | [], xs, h => by cases h; exact ⟨[], rfl, rfl, fun _ h => nomatch h⟩
  | p :: ps, _, ⟨x, r, e, g, h2⟩ => by
    subst e
    obtain ⟨ts, t1, t2, t3⟩ := pairs_of h2
    refine ⟨(p.1, x) :: ts, by show p.1 :: ts.map (·.1) = p.1 :: fstL ps; rw [t1], by rw [← t2]; rfl, fun t ht => ?_⟩
    rcases List.mem_cons.mp ht with z | z
    · rw [z]; exact g
    · exact t3 t z
theorem okAll_ok : ∀ {l : List W}, okAll l = true → ∀ x ∈ l, isTc x = true ∧ okI x = true ∧ shal x 4 = true
  | [], _, _, h => nomatch h
  | y :: l, e, x, h => by
    have e' : (match isTc y with | true => (match okI y with | true => (match shal y 4 with | true => okAll l | false => false) | false => false) | false => false) = true := e
    cases z1 : isTc y with
    | false => rw [z1] at e'; cases e'
    | true =>
      rw [z1] at e'
      cases z2 : okI y with
      | false => simp only [z2] at e'; cases e'
      | true =>
        simp only [z2] at e'
        cases z3 : shal y 4 with
        | false => simp only [z3] at e'; cases e'
        | true =>
          simp only [z3] at e'
          rcases List.mem_cons.mp h with q | q
          · rw [q]; exact ⟨z1, z2, z3⟩
          · exact okAll_ok e' x q
theorem hIs_eq : ∀ l : List W, hIs l = l.map fun d => (hI d).1
  | [] => rfl
  | d :: l => by show (hI d).1 :: hIs l = _; rw [hIs_eq l]; rfl
section
variable {X : Cx} {Z : Par} {a : Expr} {da : D} {p p2 q pos : Pos}
theorem eLset (hZ : Z.K = X.K) (hc : X.calm = true) (hu : X.A.units + 65 < cLine) (hg : Gl X "len") (hm : X.mg "len" = none) (hg2 : Gl X "set") (hm2 : X.mg "set" = none) (ha : PE X a (tD Z da))
    (na : starEach [a] X.env = (false, eval a X.env) :: starEach [] X.env := by rfl) : PE X (.Call (.Name "len" p) [.Call (.Name "set" p2) [a] [] q] [] pos) (tD Z (dLset da)) :=
  pe_of (pe_ls hc hu hg hm hg2 hm2 ha na) fun σ H Q w => one (f := fun x h k => lstAt x h fun _ l => match short l 4 with
  | true => rds h l fun ps => (match okAll (fstL ps) with
    | true => (match distI (hIs (fstL ps)) with
      | true => onI l.length h k
      | false => false)
    | false => false)
  | false => false) (r := fun x H1 Q => ∃ (l : Addr) (ts : List (W × V)), x = V.ref l ∧ SqL X.K H1 l (ts.map fun t : W × V => t.2) ∧ (∀ t ∈ ts, KeyOk X.K H1 t.1 t.2 ∧ okI t.1 = true) ∧ ts.length ≤ 4 ∧ (ts.map fun t : W × V => (hI t.1).1).Nodup ∧ Q (.int ts.length) H1) (fun ρ h H x v k Q e R rx q => by
    obtain ⟨i, l, xs, hi, ex, ev, ho, rl, hl, e1⟩ := R.lst rx e
    cases es : short l 4 with
    | false => rw [es] at e1; cases e1
    | true =>
      rw [es] at e1
      obtain ⟨ps, e2, g, el⟩ := rds_ok R l xs _ e1 rl
      rw [hZ] at g
      cases z1 : okAll (fstL ps) with
      | false => rw [z1] at e2; cases e2
      | true =>
        rw [z1] at e2
        cases z2 : distI (hIs (fstL ps)) with
        | false => simp only [z2] at e2; cases e2
        | true =>
          simp only [z2] at e2
          obtain ⟨ts, t1, t2, t3⟩ := pairs_of g
          have lt : ts.length = l.length := by
            have := congrArg List.length t2
            rw [List.length_map, RL_length rl] at this
            exact this
          refine ⟨ρ i, ts, ev, by rw [t2]; exact SqL.of ho, fun t ht => ?_, by rw [lt]; exact short_le es, ?_, ?_⟩
          · have hm : t.1 ∈ fstL ps := by rw [← t1]; exact List.mem_map.mpr ⟨t, ht, rfl⟩
            obtain ⟨o1, o2, o3⟩ := okAll_ok z1 _ hm
            exact ⟨⟨(t3 t ht).dp, (t3 t ht).pr, okI_N o2, o1, o3⟩, o2⟩
          · have := distI_ok z2
            rw [hIs_eq, ← t1, List.map_map] at this
            exact this
          · rw [lt]
            exact q.now R (w := .int l.length) rfl (onI_eq e2)) w
theorem eSset (hZ : Z.K = X.K) (hc : X.calm = true) (hu : X.A.units + 65 < cLine) (hg : Gl X "sorted") (hm : X.mg "sorted" = none) (hg2 : Gl X "set") (hm2 : X.mg "set" = none) (ha : PE X a (tD Z da))
    (na : starEach [a] X.env = (false, eval a X.env) :: starEach [] X.env := by rfl) : PE X (.Call (.Name "sorted" p) [.Call (.Name "set" p2) [a] [] q] [] pos) (tD Z (dSset da)) :=
  pe_of (pe_ss hc hu hg hm hg2 hm2 ha na) fun σ H Q w => one (f := fun x h k => lstAt x h fun _ l => match l with
  | [] => newL [] h k
  | [y] => rd 6 h y fun d => (match isTc d with
    | true => (match okN d with
      | true => (match shal d 4 with
        | true => newL [y] h k
        | false => false)
      | false => false)
    | false => false)
  | _ => false) (r := fun x H1 Q => ∃ (l : Addr) (ts : List (W × V)), x = V.ref l ∧ SqL X.K H1 l (ts.map fun t : W × V => t.2) ∧ (∀ t ∈ ts, KeyOk X.K H1 t.1 t.2) ∧ ts.length ≤ 1 ∧ ∀ p, H1 p = none → Q (.ref p) (upd H1 p (.lst (ts.map fun t : W × V => t.2)))) (fun ρ h H x v k Q e R rx q => by
    obtain ⟨i, l, xs, hi, ex, ev, ho, rl, hl, e1⟩ := R.lst rx e
    match l, rl, e1 with
    | [], rl, e1 =>
      cases rl
      obtain ⟨_, n⟩ := newL_ok (l := []) (xs := []) R rfl e1 q
      exact ⟨ρ i, [], ev, SqL.of ho, (fun _ h => nomatch h), Nat.zero_le _, n⟩
    | [y], rl, e1 =>
      obtain ⟨u, r, ex2, ry, rr⟩ := rl
      cases rr
      subst ex2
      obtain ⟨d, e2, g⟩ := (rd_ok R 6).1 y u _ e1 ry
      rw [hZ] at g
      cases z1 : isTc d with
      | false => rw [z1] at e2; cases e2
      | true =>
        rw [z1] at e2
        cases z2 : okN d with
        | false => simp only [z2] at e2; cases e2
        | true =>
          simp only [z2] at e2
          cases z3 : shal d 4 with
          | false => simp only [z3] at e2; cases e2
          | true =>
            simp only [z3] at e2
            obtain ⟨_, n⟩ := newL_ok (l := [y]) (xs := [u]) R ⟨u, [], rfl, ry, rfl⟩ e2 q
            refine ⟨ρ i, [(d, u)], ev, SqL.of ho, fun t ht => ?_, Nat.le_refl _, n⟩
            rw [List.mem_singleton.mp ht]
            exact ⟨g.dp, g.pr, z2, z1, z3⟩
    | _ :: _ :: _, _, e1 => cases e1) w
end
end G
/-! K20: the defs keep their promises (printed by gen2.py). -/
namespace G
open PySem PySem.Spec PyProof.Rows L2
def topS (i : Nat) : Stmt := PySem.Challenge.pw_storyturns_k16_whole_anew.main.body.getD i (.Pass ⟨0, 0, 0, 0⟩)
def clsS (i j : Nat) : Stmt := match topS i with
  | .ClassDef (body := b) .. => b.getD j (.Pass ⟨0, 0, 0, 0⟩)
  | s => s
abbrev s_is_whole : Stmt := topS 19
theorem sc_is_whole : FnScope ["thing"] ["thing"] (defScope s_is_whole) := ⟨rfl, rfl, rfl, by decide +kernel, rfl, by decide +kernel, by decide +kernel⟩
theorem ok_is_whole {P : Program} {w : World} {K : PySem.W.Frag} {mg : Str → Option Value} {base : Heap} {Z : Par} {f : Addr} {fd : FuncData} (fx : Fx K mg Z) (FD : FunD K "is_whole" "is_whole" (defArgs s_is_whole) (defBody s_is_whole) (defScope s_is_whole) [] [] f fd)  : FnOk P w K mg base CX0 1 f fd ["thing"] (spF Z F_is_whole) := fn_ok FD sc_is_whole rfl rfl fun cdv A outer s H E hr => by
  have nd := sc_is_whole.nd
  have hu := un65 hr
  exact (sOne_ok (sRet_ok (vAnd (eIsInt rfl fx.n_isinstance (eVar 0) rfl fx.n_int) (vOne (vNot (eIsBool rfl fx.n_isinstance (eVar 0) rfl fx.n_bool))))))
abbrev s_is_between : Stmt := topS 20
theorem sc_is_between : FnScope ["thing", "least", "most"] ["thing", "least", "most"] (defScope s_is_between) := ⟨rfl, rfl, rfl, by decide +kernel, rfl, by decide +kernel, by decide +kernel⟩
theorem ok_is_between {P : Program} {w : World} {K : PySem.W.Frag} {mg : Str → Option Value} {base : Heap} {Z : Par} {f : Addr} {fd : FuncData} (fx : Fx K mg Z) (FD : FunD K "is_between" "is_between" (defArgs s_is_between) (defBody s_is_between) (defScope s_is_between) [] [] f fd) (c_is_whole : Cal P w K mg base Z 1 "is_whole" F_is_whole) : FnOk P w K mg base CX0 2 f fd ["thing", "least", "most"] (spF Z F_is_between) := fn_ok FD sc_is_between rfl rfl fun cdv A outer s H E hr => by
  have nd := sc_is_between.nd
  have hu := un65 hr
  exact (sOne_ok (sRet_ok (vAnd (eCall c_is_whole (hr.mono (by decide)) rfl (aCons_ok (eVar 0) aNil_ok)) (vOne (eChLL (eVar 1) (eVar 0) (eVar 2))))))
abbrev s_is_part : Stmt := topS 21
theorem sc_is_part : FnScope ["thing"] ["thing"] (defScope s_is_part) := ⟨rfl, rfl, rfl, by decide +kernel, rfl, by decide +kernel, by decide +kernel⟩
theorem ok_is_part {P : Program} {w : World} {K : PySem.W.Frag} {mg : Str → Option Value} {base : Heap} {Z : Par} {f : Addr} {fd : FuncData} (fx : Fx K mg Z) (FD : FunD K "is_part" "is_part" (defArgs s_is_part) (defBody s_is_part) (defScope s_is_part) [] [] f fd) (c_is_between : Cal P w K mg base Z 2 "is_between" F_is_between) : FnOk P w K mg base CX0 3 f fd ["thing"] (spF Z F_is_part) := fn_ok FD sc_is_part rfl rfl fun cdv A outer s H E hr => by
  have nd := sc_is_part.nd
  have hu := un65 hr
  exact (sSeq_ok (sIf_ok (PW.pt (wOr (xNot (xVal (eIsTup rfl fx.n_isinstance (eVar 0) rfl fx.n_tuple))) (wOr1 (CJ.x (jNe fx.hZ hu) (eLen rfl fx.n_len (eVar 0)) eInt rfl))))
  (sOne_ok (sRet_ok eBl))
  sNop_ok)
  (sOne_ok (sRet_ok (vAnd (eCall c_is_between (hr.mono (by decide)) rfl (aCons_ok (eIx fx.hZ (eVar 0) eInt) (aCons_ok eInt (aCons_ok (eGlobX rfl fx.i_MOST_HAND) aNil_ok)))) (vOne (eCall c_is_between (hr.mono (by decide)) rfl (aCons_ok (eIx fx.hZ (eVar 0) eInt) (aCons_ok eInt (aCons_ok (eGlobX rfl fx.i_MOST_OWN) aNil_ok)))))))))
abbrev s_is_word : Stmt := topS 22
theorem sc_is_word : FnScope ["thing"] ["thing"] (defScope s_is_word) := ⟨rfl, rfl, rfl, by decide +kernel, rfl, by decide +kernel, by decide +kernel⟩
theorem ok_is_word {P : Program} {w : World} {K : PySem.W.Frag} {mg : Str → Option Value} {base : Heap} {Z : Par} {f : Addr} {fd : FuncData} (fx : Fx K mg Z) (FD : FunD K "is_word" "is_word" (defArgs s_is_word) (defBody s_is_word) (defScope s_is_word) [] [] f fd) (c_is_part : Cal P w K mg base Z 3 "is_part" F_is_part) : FnOk P w K mg base CX0 4 f fd ["thing"] (spF Z F_is_word) := fn_ok FD sc_is_word rfl rfl fun cdv A outer s H E hr => by
  have nd := sc_is_word.nd
  have hu := un65 hr
  exact (sSeq_ok (sIf_ok (PW.pt (wOr (xNot (xVal (eIsTup rfl fx.n_isinstance (eVar 0) rfl fx.n_tuple))) (wOr (CJ.x (jNin fx.hZ hu) (eLen rfl fx.n_len (eVar 0)) (eTup (aCons_ok eInt (aCons_ok eInt aNil_ok))) rfl) (wOr1 (xNot (xVal (eIsStr rfl fx.n_isinstance (eIx fx.hZ (eVar 0) eInt) rfl fx.n_str)))))))
  (sOne_ok (sRet_ok eBl))
  sNop_ok)
  (sSeq_ok (sIf_ok (xNot (xVal (eCall c_is_part (hr.mono (by decide)) rfl (aCons_ok (eSlT fx.hZ (eVar 0) (pSome eInt) (pSome eInt)) aNil_ok))))
  (sOne_ok (sRet_ok eBl))
  sNop_ok)
  (sSeq_ok (sIf_ok (CJ.x (jEq fx.hZ hu) (eLen rfl fx.n_len (eVar 0)) eInt rfl)
  (sOne_ok (sRet_ok (CJ.e (jEq fx.hZ hu) (eIx fx.hZ (eVar 0) eInt) eSo rfl)))
  sNop_ok)
  (sOne_ok (sRet_ok (vAnd (CJ.e (jEq fx.hZ hu) (eIx fx.hZ (eVar 0) eInt) eSp rfl) (vOne (vOr (eIsN (eIx fx.hZ (eVar 0) eInt)) (vOne (eCall c_is_part (hr.mono (by decide)) rfl (aCons_ok (eIx fx.hZ (eVar 0) eInt) aNil_ok)))))))))))
abbrev s_uppers_of : Stmt := topS 23
theorem sc_uppers_of : FnScope ["words", "found", "word"] ["words"] (defScope s_uppers_of) := ⟨rfl, rfl, rfl, by decide +kernel, rfl, by decide +kernel, by decide +kernel⟩
theorem ok_uppers_of {P : Program} {w : World} {K : PySem.W.Frag} {mg : Str → Option Value} {base : Heap} {Z : Par} {f : Addr} {fd : FuncData} (fx : Fx K mg Z) (FD : FunD K "uppers_of" "uppers_of" (defArgs s_uppers_of) (defBody s_uppers_of) (defScope s_uppers_of) [] [] f fd)  : FnOk P w K mg base CX0 1 f fd ["words"] (spF Z F_uppers_of) := fn_ok FD sc_uppers_of rfl rfl fun cdv A outer s H E hr => by
  have nd := sc_uppers_of.nd
  have hu := un65 hr
  exact (sSeq_ok (sSet_ok (i := 1) nd rfl (by first | exact .inl rfl | exact .inr rfl) eDict)
  (sSeq_ok (sFor_ok PassesOwn.never rfl (iSeq_ok fx.hZ (eVar 0)) (gVar_ok (i := 2) nd rfl (by first | exact .inl rfl | exact .inr rfl) (by first | exact .inl rfl | exact .inr rfl))
  (sOne_ok (sIf_ok (CJ.x (jEq fx.hZ hu) (eIx fx.hZ (eVar 2) eInt) eSp rfl)
  (sOne_ok (sPut_ok hu (eVar 1) (eSlT fx.hZ (eVar 2) (pSome eInt) (pSome eInt)) (eIx fx.hZ (eVar 2) eInt)))
  sNop_ok)))
  (sOne_ok (sRet_ok (eVar 1)))))
abbrev s_outs_of : Stmt := topS 24
theorem sc_outs_of : FnScope ["words", "word"] ["words"] (defScope s_outs_of) := ⟨rfl, rfl, rfl, by decide +kernel, rfl, by decide +kernel, by decide +kernel⟩
theorem ok_outs_of {P : Program} {w : World} {K : PySem.W.Frag} {mg : Str → Option Value} {base : Heap} {Z : Par} {f : Addr} {fd : FuncData} (fx : Fx K mg Z) (FD : FunD K "outs_of" "outs_of" (defArgs s_outs_of) (defBody s_outs_of) (defScope s_outs_of) [] [] f fd)  : FnOk P w K mg base CX0 1 f fd ["words"] (spF Z F_outs_of) := fn_ok FD sc_outs_of rfl rfl fun cdv A outer s H E hr => by
  have nd := sc_outs_of.nd
  have hu := un65 hr
  exact (sOne_ok (sRet_ok (eLc (own := [("word", 1)]) rfl nd (iSeq_ok fx.hZ (eVar 0)) (blkOk_by rfl) (fun _ h => h) (fun _ _ _ _ _ => (gVar_ok (i := 1) nd rfl (by first | exact .inl rfl | exact .inr rfl) (by first | exact .inl rfl | exact .inr rfl))) (fun _ _ _ _ _ => (pts1 (CJ.x (jEq fx.hZ hu) (eIx fx.hZ (eVar 1) eInt) eSo rfl))) (fun _ _ _ _ _ => (eSlT fx.hZ (eVar 1) (pSome eInt) (pSome eInt))))))
abbrev s_check_alike : Stmt := topS 25
theorem sc_check_alike : FnScope ["words", "uppers", "word"] ["words"] (defScope s_check_alike) := ⟨rfl, rfl, rfl, by decide +kernel, rfl, by decide +kernel, by decide +kernel⟩
theorem ok_check_alike {P : Program} {w : World} {K : PySem.W.Frag} {mg : Str → Option Value} {base : Heap} {Z : Par} {f : Addr} {fd : FuncData} (fx : Fx K mg Z) (FD : FunD K "check_alike" "check_alike" (defArgs s_check_alike) (defBody s_check_alike) (defScope s_check_alike) [] [] f fd) (c_uppers_of : Cal P w K mg base Z 1 "uppers_of" F_uppers_of) : FnOk P w K mg base CX0 2 f fd ["words"] (spF Z F_check_alike) := fn_ok FD sc_check_alike rfl rfl fun cdv A outer s H E hr => by
  have nd := sc_check_alike.nd
  have hu := un65 hr
  exact (sSeq_ok (sSet_ok (i := 1) nd rfl (by first | exact .inl rfl | exact .inr rfl) (eCall c_uppers_of (hr.mono (by decide)) rfl (aCons_ok (eVar 0) aNil_ok)))
  (sOne_ok (sIf_ok (xVal (eAny rfl rfl fx.n_any (by decide +kernel) (eLc (own := [("word", 2)]) rfl nd (iSeq_ok fx.hZ (eVar 0)) (blkOk_by rfl) (fun _ h => h) (fun _ _ _ _ _ => (gVar_ok (i := 2) nd rfl (by first | exact .inl rfl | exact .inr rfl) (by first | exact .inl rfl | exact .inr rfl))) (fun _ _ _ _ _ => pts0) (fun _ _ _ _ _ => (vAnd (CJ.e (jEq fx.hZ hu) (eIx fx.hZ (eVar 2) eInt) eSp rfl) (vOne (CJ.e (jNe fx.hZ hu) (eIxD (Nat.lt_of_le_of_lt (Nat.add_le_add_left (by decide) _) hu) (eVar 1) (eSlT fx.hZ (eVar 2) (pSome eInt) (pSome eInt)) (fun _ _ => rfl)) (eIx fx.hZ (eVar 2) eInt) rfl)))))))
  (sOne_ok sNever_ok)
  sNop_ok)))
abbrev s_check_words : Stmt := topS 26
theorem sc_check_words : FnScope ["words", "word"] ["words"] (defScope s_check_words) := ⟨rfl, rfl, rfl, by decide +kernel, rfl, by decide +kernel, by decide +kernel⟩
theorem ok_check_words {P : Program} {w : World} {K : PySem.W.Frag} {mg : Str → Option Value} {base : Heap} {Z : Par} {f : Addr} {fd : FuncData} (fx : Fx K mg Z) (FD : FunD K "check_words" "check_words" (defArgs s_check_words) (defBody s_check_words) (defScope s_check_words) [] [] f fd) (c_is_word : Cal P w K mg base Z 4 "is_word" F_is_word) (c_check_alike : Cal P w K mg base Z 2 "check_alike" F_check_alike) : FnOk P w K mg base CX0 5 f fd ["words"] (spF Z F_check_words) := fn_ok FD sc_check_words rfl rfl fun cdv A outer s H E hr => by
  have nd := sc_check_words.nd
  have hu := un65 hr
  exact (sSeq_ok (sIf_ok (PW.pt (wOr (xNot (xVal (eIsList rfl fx.n_isinstance (eVar 0) rfl fx.n_list))) (wOr (CJ.x (jGt) (eLen rfl fx.n_len (eVar 0)) (eGlobX rfl fx.i_MOST_WORDS) rfl) (wOr1 (xNot (xVal (eAll rfl rfl fx.n_all (by decide +kernel) (eLc (own := [("word", 1)]) rfl nd (iSeq_ok fx.hZ (eVar 0)) (blkOk_by rfl) (fun _ h => h) (fun _ _ _ _ _ => (gVar_ok (i := 1) nd rfl (by first | exact .inl rfl | exact .inr rfl) (by first | exact .inl rfl | exact .inr rfl))) (fun _ _ _ _ _ => pts0) (fun _ _ _ _ _ => (eCall c_is_word (hr.mono (by decide)) rfl (aCons_ok (eVar 1) aNil_ok)))))))))))
  (sOne_ok sNever_ok)
  sNop_ok)
  (sOne_ok (sEx_ok (eCall c_check_alike (hr.mono (by decide)) rfl (aCons_ok (eVar 0) aNil_ok)))))
abbrev s_check_heard : Stmt := topS 27
theorem sc_check_heard : FnScope ["words", "part"] ["words", "part"] (defScope s_check_heard) := ⟨rfl, rfl, rfl, by decide +kernel, rfl, by decide +kernel, by decide +kernel⟩
theorem ok_check_heard {P : Program} {w : World} {K : PySem.W.Frag} {mg : Str → Option Value} {base : Heap} {Z : Par} {f : Addr} {fd : FuncData} (fx : Fx K mg Z) (FD : FunD K "check_heard" "check_heard" (defArgs s_check_heard) (defBody s_check_heard) (defScope s_check_heard) [] [] f fd) (c_uppers_of : Cal P w K mg base Z 1 "uppers_of" F_uppers_of) (c_is_part : Cal P w K mg base Z 3 "is_part" F_is_part) : FnOk P w K mg base CX0 4 f fd ["words", "part"] (spF Z F_check_heard) := fn_ok FD sc_check_heard rfl rfl fun cdv A outer s H E hr => by
  have nd := sc_check_heard.nd
  have hu := un65 hr
  exact (sOne_ok (sIf_ok (PW.pt (wOr (xNot (xVal (eCall c_is_part (hr.mono (by decide)) rfl (aCons_ok (eVar 1) aNil_ok)))) (wOr1 (xNinD (Nat.lt_of_le_of_lt (Nat.add_le_add_left (by decide) _) hu) (eVar 1) (eCall c_uppers_of (hr.mono (by decide)) rfl (aCons_ok (eVar 0) aNil_ok))))))
  (sOne_ok sNever_ok)
  sNop_ok))
abbrev s_check_rest : Stmt := topS 28
theorem sc_check_rest : FnScope ["rest"] ["rest"] (defScope s_check_rest) := ⟨rfl, rfl, rfl, by decide +kernel, rfl, by decide +kernel, by decide +kernel⟩
theorem ok_check_rest {P : Program} {w : World} {K : PySem.W.Frag} {mg : Str → Option Value} {base : Heap} {Z : Par} {f : Addr} {fd : FuncData} (fx : Fx K mg Z) (FD : FunD K "check_rest" "check_rest" (defArgs s_check_rest) (defBody s_check_rest) (defScope s_check_rest) [] [] f fd) (c_is_between : Cal P w K mg base Z 2 "is_between" F_is_between) : FnOk P w K mg base CX0 3 f fd ["rest"] (spF Z F_check_rest) := fn_ok FD sc_check_rest rfl rfl fun cdv A outer s H E hr => by
  have nd := sc_check_rest.nd
  have hu := un65 hr
  exact (sOne_ok (sIf_ok (xNot (xVal (eCall c_is_between (hr.mono (by decide)) rfl (aCons_ok (eVar 0) (aCons_ok eInt (aCons_ok (eGlobX rfl fx.i_MOST_REST) aNil_ok))))))
  (sOne_ok sNever_ok)
  sNop_ok))
abbrev s_way_up : Stmt := topS 29
theorem sc_way_up : FnScope ["uppers", "part", "found"] ["uppers", "part"] (defScope s_way_up) := ⟨rfl, rfl, rfl, by decide +kernel, rfl, by decide +kernel, by decide +kernel⟩
theorem ok_way_up {P : Program} {w : World} {K : PySem.W.Frag} {mg : Str → Option Value} {base : Heap} {Z : Par} {f : Addr} {fd : FuncData} (fx : Fx K mg Z) (FD : FunD K "way_up" "way_up" (defArgs s_way_up) (defBody s_way_up) (defScope s_way_up) [] [] f fd)  : FnOk P w K mg base CX0 1 f fd ["uppers", "part"] (spF Z F_way_up) := fn_ok FD sc_way_up rfl rfl fun cdv A outer s H E hr => by
  have nd := sc_way_up.nd
  have hu := un65 hr
  exact (sSeq_ok (sSet_ok (i := 2) nd rfl (by first | exact .inl rfl | exact .inr rfl) (eLst (aCons_ok (eVar 1) aNil_ok)))
  (sSeq_ok (sWh_ok PassesOwn.never (PW.pt (wAnd (xNotN (eIxD (Nat.lt_of_le_of_lt (Nat.add_le_add_left (by decide) _) hu) (eVar 0) (eIx fx.hZ (eVar 2) (eNeg eInt)) (fun _ _ => rfl))) (wAnd (xInD (Nat.lt_of_le_of_lt (Nat.add_le_add_left (by decide) _) hu) (eIxD (Nat.lt_of_le_of_lt (Nat.add_le_add_left (by decide) _) hu) (eVar 0) (eIx fx.hZ (eVar 2) (eNeg eInt)) (fun _ _ => rfl)) (eVar 0)) (wAnd1 (CJ.x (jNin fx.hZ hu) (eIxD (Nat.lt_of_le_of_lt (Nat.add_le_add_left (by decide) _) hu) (eVar 0) (eIx fx.hZ (eVar 2) (eNeg eInt)) (fun _ _ => rfl)) (eVar 2) rfl)))))
  (sOne_ok (sEx_ok (eApp rfl (eVar 2) (eIxD (Nat.lt_of_le_of_lt (Nat.add_le_add_left (by decide) _) hu) (eVar 0) (eIx fx.hZ (eVar 2) (eNeg eInt)) (fun _ _ => rfl))))))
  (sOne_ok (sRet_ok (eVar 2)))))
abbrev s_way_in : Stmt := topS 30
theorem sc_way_in : FnScope ["words", "part"] ["words", "part"] (defScope s_way_in) := ⟨rfl, rfl, rfl, by decide +kernel, rfl, by decide +kernel, by decide +kernel⟩
theorem ok_way_in {P : Program} {w : World} {K : PySem.W.Frag} {mg : Str → Option Value} {base : Heap} {Z : Par} {f : Addr} {fd : FuncData} (fx : Fx K mg Z) (FD : FunD K "way_in" "way_in" (defArgs s_way_in) (defBody s_way_in) (defScope s_way_in) [] [] f fd) (c_way_up : Cal P w K mg base Z 1 "way_up" F_way_up) (c_uppers_of : Cal P w K mg base Z 1 "uppers_of" F_uppers_of) : FnOk P w K mg base CX0 2 f fd ["words", "part"] (spF Z F_way_in) := fn_ok FD sc_way_in rfl rfl fun cdv A outer s H E hr => by
  have nd := sc_way_in.nd
  have hu := un65 hr
  exact (sOne_ok (sRet_ok (eRev fx.hZ (eCall c_way_up (hr.mono (by decide)) rfl (aCons_ok (eCall c_uppers_of (hr.mono (by decide)) rfl (aCons_ok (eVar 0) aNil_ok)) (aCons_ok (eVar 1) aNil_ok))))))
abbrev s_standing_in : Stmt := topS 31
theorem sc_standing_in : FnScope ["words", "uppers", "outs", "found", "part", "chain", "one"] ["words"] (defScope s_standing_in) := ⟨rfl, rfl, rfl, by decide +kernel, rfl, by decide +kernel, by decide +kernel⟩
theorem ok_standing_in {P : Program} {w : World} {K : PySem.W.Frag} {mg : Str → Option Value} {base : Heap} {Z : Par} {f : Addr} {fd : FuncData} (fx : Fx K mg Z) (FD : FunD K "standing_in" "standing_in" (defArgs s_standing_in) (defBody s_standing_in) (defScope s_standing_in) [] [] f fd) (c_outs_of : Cal P w K mg base Z 1 "outs_of" F_outs_of) (c_uppers_of : Cal P w K mg base Z 1 "uppers_of" F_uppers_of) (c_way_up : Cal P w K mg base Z 1 "way_up" F_way_up) : FnOk P w K mg base CX0 2 f fd ["words"] (spF Z F_standing_in) := fn_ok FD sc_standing_in rfl rfl fun cdv A outer s H E hr => by
  have nd := sc_standing_in.nd
  have hu := un65 hr
  exact (sSeq_ok (sUnp_ok (gTup_ok rfl (gCons_ok (gVar_ok (i := 1) nd rfl (by first | exact .inl rfl | exact .inr rfl) (by first | exact .inl rfl | exact .inr rfl)) (gCons_ok (gVar_ok (i := 2) nd rfl (by first | exact .inl rfl | exact .inr rfl) (by first | exact .inl rfl | exact .inr rfl)) (gCons_ok (gVar_ok (i := 3) nd rfl (by first | exact .inl rfl | exact .inr rfl) (by first | exact .inl rfl | exact .inr rfl)) gNil_ok))) rfl rfl (gs1 (gs1 (gs1 gs0)))) (eTup (aCons_ok (eCall c_uppers_of (hr.mono (by decide)) rfl (aCons_ok (eVar 0) aNil_ok)) (aCons_ok (eCall c_outs_of (hr.mono (by decide)) rfl (aCons_ok (eVar 0) aNil_ok)) (aCons_ok (eLst aNil_ok) aNil_ok)))))
  (sSeq_ok (sForD_ok (i := 1) PassesOwn.never rfl rfl (by first | exact .inl rfl | exact .inr (.inl rfl) | exact .inr (.inr rfl)) (gVar_ok (i := 4) nd rfl (by first | exact .inl rfl | exact .inr rfl) (by first | exact .inl rfl | exact .inr rfl))
  (sSeq_ok (sSet_ok (i := 5) nd rfl (by first | exact .inl rfl | exact .inr rfl) (eCall c_way_up (hr.mono (by decide)) rfl (aCons_ok (eVar 1) (aCons_ok (eVar 4) aNil_ok))))
  (sOne_ok (sIf_ok (PW.pt (wAnd (xIsN (eIxD (Nat.lt_of_le_of_lt (Nat.add_le_add_left (by decide) _) hu) (eVar 1) (eIx fx.hZ (eVar 5) (eNeg eInt)) (fun _ _ => rfl))) (wAnd1 (xNot (xVal (eAny rfl rfl fx.n_any (by decide +kernel) (eLc (own := [("one", 6)]) rfl nd (iSeq_ok fx.hZ (eVar 5)) (blkOk_by rfl) (fun _ h => h) (fun _ _ _ _ _ => (gVar_ok (i := 6) nd rfl (by first | exact .inl rfl | exact .inr rfl) (by first | exact .inl rfl | exact .inr rfl))) (fun _ _ _ _ _ => pts0) (fun _ _ _ _ _ => (CJ.e (jIn fx.hZ hu) (eVar 6) (eVar 2) rfl)))))))))
  (sOne_ok (sEx_ok (eApp rfl (eVar 3) (eVar 4))))
  sNop_ok))))
  (sOne_ok (sRet_ok (eSorted fx.hZ hu rfl fx.n_sorted (by decide +kernel) (eVar 3))))))
abbrev s_once : Stmt := topS 32
theorem sc_once : FnScope ["words", "outs", "word", "uppers", "part"] ["words"] (defScope s_once) := ⟨rfl, rfl, rfl, by decide +kernel, rfl, by decide +kernel, by decide +kernel⟩
theorem ok_once {P : Program} {w : World} {K : PySem.W.Frag} {mg : Str → Option Value} {base : Heap} {Z : Par} {f : Addr} {fd : FuncData} (fx : Fx K mg Z) (FD : FunD K "once" "once" (defArgs s_once) (defBody s_once) (defScope s_once) [] [] f fd) (c_uppers_of : Cal P w K mg base Z 1 "uppers_of" F_uppers_of) : FnOk P w K mg base CX0 2 f fd ["words"] (spF Z F_once) := fn_ok FD sc_once rfl rfl fun cdv A outer s H E hr => by
  have nd := sc_once.nd
  have hu := un65 hr
  exact (sSeq_ok (sSet_ok (i := 1) nd rfl (by first | exact .inl rfl | exact .inr rfl) (eSset fx.hZ rfl hu rfl fx.n_sorted rfl fx.n_set (eLc (own := [("word", 2)]) rfl nd (iSeq_ok fx.hZ (eVar 0)) (blkOk_by rfl) (fun _ h => h) (fun _ _ _ _ _ => (gVar_ok (i := 2) nd rfl (by first | exact .inl rfl | exact .inr rfl) (by first | exact .inl rfl | exact .inr rfl))) (fun _ _ _ _ _ => (pts1 (CJ.x (jEq fx.hZ hu) (eIx fx.hZ (eVar 2) eInt) eSo rfl))) (fun _ _ _ _ _ => (eVar 2)))))
  (sSeq_ok (sSet_ok (i := 3) nd rfl (by first | exact .inl rfl | exact .inr rfl) (eCall c_uppers_of (hr.mono (by decide)) rfl (aCons_ok (eVar 0) aNil_ok)))
  (sOne_ok (sRet_ok (eAdd (eVar 1) (eLc (own := [("part", 4)]) rfl nd (iSeq_ok fx.hZ (eSorted fx.hZ hu rfl fx.n_sorted (by decide +kernel) (eListD rfl rfl fx.n_list (by decide +kernel) (eVar 3)))) (blkOk_by rfl) (fun _ h => h) (fun _ _ _ _ _ => (gVar_ok (i := 4) nd rfl (by first | exact .inl rfl | exact .inr rfl) (by first | exact .inl rfl | exact .inr rfl))) (fun _ _ _ _ _ => pts0) (fun _ _ _ _ _ => (eTup (aCons_ok eSp (aCons_ok (eIx fx.hZ (eVar 4) eInt) (aCons_ok (eIx fx.hZ (eVar 4) eInt) (aCons_ok (eIxD (Nat.lt_of_le_of_lt (Nat.add_le_add_left (by decide) _) hu) (eVar 3) (eVar 4) (fun _ _ => rfl)) aNil_ok))))))))))))
abbrev s_is_way : Stmt := topS 35
theorem sc_is_way : FnScope ["uppers", "part", "way", "one", "other"] ["uppers", "part", "way"] (defScope s_is_way) := ⟨rfl, rfl, rfl, by decide +kernel, rfl, by decide +kernel, by decide +kernel⟩
theorem ok_is_way {P : Program} {w : World} {K : PySem.W.Frag} {mg : Str → Option Value} {base : Heap} {Z : Par} {f : Addr} {fd : FuncData} (fx : Fx K mg Z) (FD : FunD K "is_way" "is_way" (defArgs s_is_way) (defBody s_is_way) (defScope s_is_way) [] [] f fd)  : FnOk P w K mg base CX0 1 f fd ["uppers", "part", "way"] (spF Z F_is_way) := fn_ok FD sc_is_way rfl rfl fun cdv A outer s H E hr => by
  have nd := sc_is_way.nd
  have hu := un65 hr
  exact (sSeq_ok (sIf_ok (PW.pt (wOr (CJ.x (jEq fx.hZ hu) (eVar 2) (eLst aNil_ok) rfl) (wOr (CJ.x (jNe fx.hZ hu) (eIx fx.hZ (eVar 2) (eNeg eInt)) (eVar 1) rfl) (wOr (xNot (xVal (eAll rfl rfl fx.n_all (by decide +kernel) (eLc (own := [("one", 3)]) rfl nd (iSeq_ok fx.hZ (eVar 2)) (blkOk_by rfl) (fun _ h => h) (fun _ _ _ _ _ => (gVar_ok (i := 3) nd rfl (by first | exact .inl rfl | exact .inr rfl) (by first | exact .inl rfl | exact .inr rfl))) (fun _ _ _ _ _ => pts0) (fun _ _ _ _ _ => (eInD (Nat.lt_of_le_of_lt (Nat.add_le_add_left (by decide) _) hu) (eVar 3) (eVar 0))))))) (wOr1 (xNotN (eIxD (Nat.lt_of_le_of_lt (Nat.add_le_add_left (by decide) _) hu) (eVar 0) (eIx fx.hZ (eVar 2) eInt) (fun _ _ => rfl))))))))
  (sOne_ok (sRet_ok eBl))
  sNop_ok)
  (sOne_ok (sRet_ok (eAll rfl rfl fx.n_all (by decide +kernel) (eLc (own := [("one", 3), ("other", 4)]) rfl nd (iZip_ok fx.hZ rfl fx.n_zip (eVar 2) (eSl fx.hZ (eVar 2) (pSome eInt) pNone)) (blkOk_by rfl) (fun _ h => h) (fun _ _ _ _ _ => (gTup_ok rfl (gCons_ok (gVar_ok (i := 3) nd rfl (by first | exact .inl rfl | exact .inr rfl) (by first | exact .inl rfl | exact .inr rfl)) (gCons_ok (gVar_ok (i := 4) nd rfl (by first | exact .inl rfl | exact .inr rfl) (by first | exact .inl rfl | exact .inr rfl)) gNil_ok)) rfl rfl (gs1 (gs1 gs0)))) (fun _ _ _ _ _ => pts0) (fun _ _ _ _ _ => (CJ.e (jEq fx.hZ hu) (eIxD (Nat.lt_of_le_of_lt (Nat.add_le_add_left (by decide) _) hu) (eVar 0) (eVar 4) (fun _ _ => rfl)) (eVar 3) rfl)))))))
abbrev s_Stands_init : Stmt := clsS 36 0
theorem sc_Stands_init : FnScope ["self", "way"] ["self", "way"] (defScope s_Stands_init) := ⟨rfl, rfl, rfl, by decide +kernel, rfl, by decide +kernel, by decide +kernel⟩
theorem ok_Stands_init {P : Program} {w : World} {K : PySem.W.Frag} {mg : Str → Option Value} {base : Heap} {Z : Par} {f : Addr} {fd : FuncData} (fx : Fx K mg Z) (FD : FunD K "__init__" "Stands.__init__" (defArgs s_Stands_init) (defBody s_Stands_init) (defScope s_Stands_init) [] [] f fd)  : FnOk P w K mg base CX0 1 f fd ["self", "way"] (spF Z F_Stands_init) := fn_ok FD sc_Stands_init rfl rfl fun cdv A outer s H E hr => by
  have nd := sc_Stands_init.nd
  have hu := un65 hr
  exact (sOne_ok (sFld_ok fx.C (fx.at 0 rfl) (by decide) (eVar 0) (eList rfl fx.n_list (by decide +kernel) (eVar 1))))
abbrev s_Stands_shows : Stmt := clsS 36 1
theorem sc_Stands_shows : FnScope ["self", "words", "part", "outs", "one"] ["self", "words", "part"] (defScope s_Stands_shows) := ⟨rfl, rfl, rfl, by decide +kernel, rfl, by decide +kernel, by decide +kernel⟩
theorem ok_Stands_shows {P : Program} {w : World} {K : PySem.W.Frag} {mg : Str → Option Value} {base : Heap} {Z : Par} {f : Addr} {fd : FuncData} (fx : Fx K mg Z) (FD : FunD K "shows" "Stands.shows" (defArgs s_Stands_shows) (defBody s_Stands_shows) (defScope s_Stands_shows) [] [] f fd) (c_outs_of : Cal P w K mg base Z 1 "outs_of" F_outs_of) (c_is_way : Cal P w K mg base Z 1 "is_way" F_is_way) (c_uppers_of : Cal P w K mg base Z 1 "uppers_of" F_uppers_of) : FnOk P w K mg base CX0 2 f fd ["self", "words", "part"] (spF Z F_Stands_shows) := fn_ok FD sc_Stands_shows rfl rfl fun cdv A outer s H E hr => by
  have nd := sc_Stands_shows.nd
  have hu := un65 hr
  exact (sSeq_ok (sSet_ok (i := 3) nd rfl (by first | exact .inl rfl | exact .inr rfl) (eCall c_outs_of (hr.mono (by decide)) rfl (aCons_ok (eVar 1) aNil_ok)))
  (sOne_ok (sRet_ok (vAnd (eCall c_is_way (hr.mono (by decide)) rfl (aCons_ok (eCall c_uppers_of (hr.mono (by decide)) rfl (aCons_ok (eVar 1) aNil_ok)) (aCons_ok (eVar 2) (aCons_ok (eFld fx.C (fx.at 0 rfl) (by decide) (eVar 0)) aNil_ok)))) (vOne (vNot (eAny rfl rfl fx.n_any (by decide +kernel) (eLc (own := [("one", 4)]) rfl nd (iSeq_ok fx.hZ (eFld fx.C (fx.at 0 rfl) (by decide) (eVar 0))) (blkOk_by rfl) (fun _ h => h) (fun _ _ _ _ _ => (gVar_ok (i := 4) nd rfl (by first | exact .inl rfl | exact .inr rfl) (by first | exact .inl rfl | exact .inr rfl))) (fun _ _ _ _ _ => pts0) (fun _ _ _ _ _ => (CJ.e (jIn fx.hZ hu) (eVar 4) (eVar 3) rfl))))))))))
abbrev s_Gone_init : Stmt := clsS 37 0
theorem sc_Gone_init : FnScope ["self", "way"] ["self", "way"] (defScope s_Gone_init) := ⟨rfl, rfl, rfl, by decide +kernel, rfl, by decide +kernel, by decide +kernel⟩
theorem ok_Gone_init {P : Program} {w : World} {K : PySem.W.Frag} {mg : Str → Option Value} {base : Heap} {Z : Par} {f : Addr} {fd : FuncData} (fx : Fx K mg Z) (FD : FunD K "__init__" "Gone.__init__" (defArgs s_Gone_init) (defBody s_Gone_init) (defScope s_Gone_init) [] [] f fd)  : FnOk P w K mg base CX0 1 f fd ["self", "way"] (spF Z F_Gone_init) := fn_ok FD sc_Gone_init rfl rfl fun cdv A outer s H E hr => by
  have nd := sc_Gone_init.nd
  have hu := un65 hr
  exact (sOne_ok (sFld_ok fx.C (fx.at 0 rfl) (by decide) (eVar 0) (eList rfl fx.n_list (by decide +kernel) (eVar 1))))
abbrev s_Gone_shows : Stmt := clsS 37 1
theorem sc_Gone_shows : FnScope ["self", "words", "part", "outs", "one"] ["self", "words", "part"] (defScope s_Gone_shows) := ⟨rfl, rfl, rfl, by decide +kernel, rfl, by decide +kernel, by decide +kernel⟩
theorem ok_Gone_shows {P : Program} {w : World} {K : PySem.W.Frag} {mg : Str → Option Value} {base : Heap} {Z : Par} {f : Addr} {fd : FuncData} (fx : Fx K mg Z) (FD : FunD K "shows" "Gone.shows" (defArgs s_Gone_shows) (defBody s_Gone_shows) (defScope s_Gone_shows) [] [] f fd) (c_outs_of : Cal P w K mg base Z 1 "outs_of" F_outs_of) (c_is_way : Cal P w K mg base Z 1 "is_way" F_is_way) (c_uppers_of : Cal P w K mg base Z 1 "uppers_of" F_uppers_of) : FnOk P w K mg base CX0 2 f fd ["self", "words", "part"] (spF Z F_Gone_shows) := fn_ok FD sc_Gone_shows rfl rfl fun cdv A outer s H E hr => by
  have nd := sc_Gone_shows.nd
  have hu := un65 hr
  exact (sSeq_ok (sSet_ok (i := 3) nd rfl (by first | exact .inl rfl | exact .inr rfl) (eCall c_outs_of (hr.mono (by decide)) rfl (aCons_ok (eVar 1) aNil_ok)))
  (sOne_ok (sRet_ok (vAnd (eCall c_is_way (hr.mono (by decide)) rfl (aCons_ok (eCall c_uppers_of (hr.mono (by decide)) rfl (aCons_ok (eVar 1) aNil_ok)) (aCons_ok (eVar 2) (aCons_ok (eFld fx.C (fx.at 0 rfl) (by decide) (eVar 0)) aNil_ok)))) (vOne (eAny rfl rfl fx.n_any (by decide +kernel) (eLc (own := [("one", 4)]) rfl nd (iSeq_ok fx.hZ (eFld fx.C (fx.at 0 rfl) (by decide) (eVar 0))) (blkOk_by rfl) (fun _ h => h) (fun _ _ _ _ _ => (gVar_ok (i := 4) nd rfl (by first | exact .inl rfl | exact .inr rfl) (by first | exact .inl rfl | exact .inr rfl))) (fun _ _ _ _ _ => pts0) (fun _ _ _ _ _ => (CJ.e (jIn fx.hZ hu) (eVar 4) (eVar 3) rfl)))))))))
abbrev s_likes_of : Stmt := topS 39
theorem sc_likes_of : FnScope ["likes", "part", "one"] ["likes", "part"] (defScope s_likes_of) := ⟨rfl, rfl, rfl, by decide +kernel, rfl, by decide +kernel, by decide +kernel⟩
theorem ok_likes_of {P : Program} {w : World} {K : PySem.W.Frag} {mg : Str → Option Value} {base : Heap} {Z : Par} {f : Addr} {fd : FuncData} (fx : Fx K mg Z) (FD : FunD K "likes_of" "likes_of" (defArgs s_likes_of) (defBody s_likes_of) (defScope s_likes_of) [] [] f fd)  : FnOk P w K mg base CX0 1 f fd ["likes", "part"] (spF Z F_likes_of) := fn_ok FD sc_likes_of rfl rfl fun cdv A outer s H E hr => by
  have nd := sc_likes_of.nd
  have hu := un65 hr
  exact (sOne_ok (sRet_ok (eLen rfl fx.n_len (eLc (own := [("one", 2)]) rfl nd (iSeq_ok fx.hZ (eVar 0)) (blkOk_by rfl) (fun _ h => h) (fun _ _ _ _ _ => (gVar_ok (i := 2) nd rfl (by first | exact .inl rfl | exact .inr rfl) (by first | exact .inl rfl | exact .inr rfl))) (fun _ _ _ _ _ => (pts1 (CJ.x (jEq fx.hZ hu) (eIx fx.hZ (eVar 2) eInt) (eVar 1) rfl))) (fun _ _ _ _ _ => (eVar 2))))))
abbrev s_Liked_init : Stmt := clsS 40 0
theorem sc_Liked_init : FnScope ["self", "way", "marks"] ["self", "way", "marks"] (defScope s_Liked_init) := ⟨rfl, rfl, rfl, by decide +kernel, rfl, by decide +kernel, by decide +kernel⟩
theorem ok_Liked_init {P : Program} {w : World} {K : PySem.W.Frag} {mg : Str → Option Value} {base : Heap} {Z : Par} {f : Addr} {fd : FuncData} (fx : Fx K mg Z) (FD : FunD K "__init__" "Liked.__init__" (defArgs s_Liked_init) (defBody s_Liked_init) (defScope s_Liked_init) [] [] f fd)  : FnOk P w K mg base CX0 1 f fd ["self", "way", "marks"] (spF Z F_Liked_init) := fn_ok FD sc_Liked_init rfl rfl fun cdv A outer s H E hr => by
  have nd := sc_Liked_init.nd
  have hu := un65 hr
  exact (sSeq_ok (sFld_ok fx.C (fx.at 0 rfl) (by decide) (eVar 0) (eList rfl fx.n_list (by decide +kernel) (eVar 1)))
  (sOne_ok (sFld_ok fx.C (fx.at 1 rfl) (by decide) (eVar 0) (eList rfl fx.n_list (by decide +kernel) (eVar 2)))))
abbrev s_Liked_shows : Stmt := clsS 40 1
theorem sc_Liked_shows : FnScope ["self", "words", "likes", "stands", "uppers", "one", "marks", "many", "part", "own", "upper"] ["self", "words", "likes"] (defScope s_Liked_shows) := ⟨rfl, rfl, rfl, by decide +kernel, rfl, by decide +kernel, by decide +kernel⟩
theorem ok_Liked_shows {P : Program} {w : World} {K : PySem.W.Frag} {mg : Str → Option Value} {base : Heap} {Z : Par} {f : Addr} {fd : FuncData} (fx : Fx K mg Z) (FD : FunD K "shows" "Liked.shows" (defArgs s_Liked_shows) (defBody s_Liked_shows) (defScope s_Liked_shows) [] [] f fd) (c_uppers_of : Cal P w K mg base Z 1 "uppers_of" F_uppers_of) (c_standing_in : Cal P w K mg base Z 2 "standing_in" F_standing_in) (c_is_way : Cal P w K mg base Z 1 "is_way" F_is_way) (c_likes_of : Cal P w K mg base Z 1 "likes_of" F_likes_of) : FnOk P w K mg base CX0 3 f fd ["self", "words", "likes"] (spF Z F_Liked_shows) := fn_ok FD sc_Liked_shows rfl rfl fun cdv A outer s H E hr => by
  have nd := sc_Liked_shows.nd
  have hu := un65 hr
  exact (sSeq_ok (sUnp_ok (gTup_ok rfl (gCons_ok (gVar_ok (i := 3) nd rfl (by first | exact .inl rfl | exact .inr rfl) (by first | exact .inl rfl | exact .inr rfl)) (gCons_ok (gVar_ok (i := 4) nd rfl (by first | exact .inl rfl | exact .inr rfl) (by first | exact .inl rfl | exact .inr rfl)) gNil_ok)) rfl rfl (gs1 (gs1 gs0))) (eTup (aCons_ok (eCall c_standing_in (hr.mono (by decide)) rfl (aCons_ok (eVar 1) aNil_ok)) (aCons_ok (eCall c_uppers_of (hr.mono (by decide)) rfl (aCons_ok (eVar 1) aNil_ok)) aNil_ok))))
  (sSeq_ok (sIf_ok (PW.pt (wOr (CJ.x (jNe fx.hZ hu) (eLen rfl fx.n_len (eFld fx.C (fx.at 1 rfl) (by decide) (eVar 0))) (eLen rfl fx.n_len (eVar 3)) rfl) (wOr1 (xNot (xVal (eAll rfl rfl fx.n_all (by decide +kernel) (eLc (own := [("one", 5)]) rfl nd (iSeq_ok fx.hZ (eFld fx.C (fx.at 0 rfl) (by decide) (eVar 0))) (blkOk_by rfl) (fun _ h => h) (fun _ _ _ _ _ => (gVar_ok (i := 5) nd rfl (by first | exact .inl rfl | exact .inr rfl) (by first | exact .inl rfl | exact .inr rfl))) (fun _ _ _ _ _ => pts0) (fun _ _ _ _ _ => (CJ.e (jIn fx.hZ hu) (eVar 5) (eVar 3) rfl)))))))))
  (sOne_ok (sRet_ok eBl))
  sNop_ok)
  (sSeq_ok (sIf_ok (PW.pt (wOr (PW.pt (wAnd (CJ.x (jEq fx.hZ hu) (eFld fx.C (fx.at 0 rfl) (by decide) (eVar 0)) (eLst aNil_ok) rfl) (wAnd1 (CJ.x (jNe fx.hZ hu) (eVar 3) (eLst aNil_ok) rfl)))) (wOr1 (PW.pt (wAnd (CJ.x (jNe fx.hZ hu) (eFld fx.C (fx.at 0 rfl) (by decide) (eVar 0)) (eLst aNil_ok) rfl) (wAnd1 (xNot (xVal (eCall c_is_way (hr.mono (by decide)) rfl (aCons_ok (eVar 4) (aCons_ok (eIx fx.hZ (eFld fx.C (fx.at 0 rfl) (by decide) (eVar 0)) (eNeg eInt)) (aCons_ok (eFld fx.C (fx.at 0 rfl) (by decide) (eVar 0)) aNil_ok))))))))))))
  (sOne_ok (sRet_ok eBl))
  sNop_ok)
  (sSeq_ok (sPar2_ok rfl nd (hi := rfl) (hj := rfl) (by decide) rfl rfl (aCons_ok (eDzip fx.hZ rfl hu rfl fx.n_dict rfl fx.n_zip (eVar 3) (eFld fx.C (fx.at 1 rfl) (by decide) (eVar 0))) (aCons_ok (eSum rfl rfl fx.n_sum (by decide +kernel) (eLc (own := [("one", 5)]) rfl nd (iSeq_ok fx.hZ (eFld fx.C (fx.at 0 rfl) (by decide) (eVar 0))) (blkOk_by rfl) (fun _ h => h) (fun _ _ _ _ _ => (gVar_ok (i := 5) nd rfl (by first | exact .inl rfl | exact .inr rfl) (by first | exact .inl rfl | exact .inr rfl))) (fun _ _ _ _ _ => pts0) (fun _ _ _ _ _ => (eCall c_likes_of (hr.mono (by decide)) rfl (aCons_ok (eVar 2) (aCons_ok (eVar 5) aNil_ok)))))) aNil_ok)) rfl)
  (sSeq_ok (sFor_ok PassesOwn.never rfl (iSeq_ok fx.hZ (eVar 3)) (gVar_ok (i := 8) nd rfl (by first | exact .inl rfl | exact .inr rfl) (by first | exact .inl rfl | exact .inr rfl))
  (sSeq_ok (sPar2_ok rfl nd (hi := rfl) (hj := rfl) (by decide) rfl rfl (aCons_ok (eCall c_likes_of (hr.mono (by decide)) rfl (aCons_ok (eVar 2) (aCons_ok (eVar 8) aNil_ok))) (aCons_ok (eIxD (Nat.lt_of_le_of_lt (Nat.add_le_add_left (by decide) _) hu) (eVar 4) (eVar 8) (fun _ _ => rfl)) aNil_ok)) rfl)
  (sSeq_ok (sIf_ok (PW.pt (wOr (CJ.x (jLt) (eIxD (Nat.lt_of_le_of_lt (Nat.add_le_add_left (by decide) _) hu) (eVar 6) (eVar 8) (fun _ _ => rfl)) (eVar 9) rfl) (wOr1 (PW.pt (wAnd (xIsN (eVar 10)) (wAnd1 (CJ.x (jGt) (eIxD (Nat.lt_of_le_of_lt (Nat.add_le_add_left (by decide) _) hu) (eVar 6) (eVar 8) (fun _ _ => rfl)) (eVar 7) rfl)))))))
  (sOne_ok (sRet_ok eBl))
  sNop_ok)
  (sOne_ok (sIf_ok (PW.pt (wAnd (xNotN (eVar 10)) (wAnd1 (CJ.x (jLt) (eIxD (Nat.lt_of_le_of_lt (Nat.add_le_add_left (by decide) _) hu) (eVar 6) (eVar 10) (fun _ _ => rfl)) (eAdd (eCall c_likes_of (hr.mono (by decide)) rfl (aCons_ok (eVar 2) (aCons_ok (eVar 10) aNil_ok))) (eIxD (Nat.lt_of_le_of_lt (Nat.add_le_add_left (by decide) _) hu) (eVar 6) (eVar 8) (fun _ _ => rfl))) rfl))))
  (sOne_ok (sRet_ok eBl))
  sNop_ok)))))
  (sOne_ok (sRet_ok eBl)))))))
abbrev s_free_from : Stmt := topS 41
theorem sc_free_from : FnScope ["words", "part", "rest", "found", "late", "one", "at", "hand"] ["words", "part", "rest"] (defScope s_free_from) := ⟨rfl, rfl, rfl, by decide +kernel, rfl, by decide +kernel, by decide +kernel⟩
theorem ok_free_from {P : Program} {w : World} {K : PySem.W.Frag} {mg : Str → Option Value} {base : Heap} {Z : Par} {f : Addr} {fd : FuncData} (fx : Fx K mg Z) (FD : FunD K "free_from" "free_from" (defArgs s_free_from) (defBody s_free_from) (defScope s_free_from) [] [] f fd) (c_way_in : Cal P w K mg base Z 2 "way_in" F_way_in) : FnOk P w K mg base CX0 3 f fd ["words", "part", "rest"] (spF Z F_free_from) := fn_ok FD sc_free_from rfl rfl fun cdv A outer s H E hr => by
  have nd := sc_free_from.nd
  have hu := un65 hr
  exact (sSeq_ok (sSet_ok (i := 3) nd rfl (by first | exact .inl rfl | exact .inr rfl) (eMul (eLst (aCons_ok eInt aNil_ok)) eInt))
  (sSeq_ok (sSet_ok (i := 4) nd rfl (by first | exact .inl rfl | exact .inr rfl) (eIte (xNotN (eVar 1)) (eLc (own := [("one", 5)]) rfl nd (iSeq_ok fx.hZ (eCall c_way_in (hr.mono (by decide)) rfl (aCons_ok (eVar 0) (aCons_ok (eVar 1) aNil_ok)))) (blkOk_by rfl) (fun _ h => h) (fun _ _ _ _ _ => (gVar_ok (i := 5) nd rfl (by first | exact .inl rfl | exact .inr rfl) (by first | exact .inl rfl | exact .inr rfl))) (fun _ _ _ _ _ => pts0) (fun _ _ _ _ _ => (eIx fx.hZ (eVar 5) eInt))) (eLst aNil_ok)))
  (sSeq_ok (sSet_ok (i := 4) nd rfl (by first | exact .inl rfl | exact .inr rfl) (eSl fx.hZ (eVar 4) (pSome (eMx2 rfl rfl fx.n_max (by decide +kernel) eInt (eSub (eLen rfl fx.n_len (eVar 4)) (eVar 2)))) pNone))
  (sSeq_ok (sFor_ok PassesOwn.never rfl (iEnum_ok fx.hZ rfl fx.n_enumerate (eVar 4)) (gTup_ok rfl (gCons_ok (gVar_ok (i := 6) nd rfl (by first | exact .inl rfl | exact .inr rfl) (by first | exact .inl rfl | exact .inr rfl)) (gCons_ok (gVar_ok (i := 7) nd rfl (by first | exact .inl rfl | exact .inr rfl) (by first | exact .inl rfl | exact .inr rfl)) gNil_ok)) rfl rfl (gs1 (gs1 gs0)))
  (sOne_ok (sIx_ok (eVar 3) (eVar 7) (eSub (eAdd (eVar 2) eInt) (eSub (eLen rfl fx.n_len (eVar 4)) (eVar 6))))))
  (sOne_ok (sRet_ok (eVar 3)))))))
abbrev s_Turns_init : Stmt := clsS 42 0
theorem sc_Turns_init : FnScope ["self", "order"] ["self", "order"] (defScope s_Turns_init) := ⟨rfl, rfl, rfl, by decide +kernel, rfl, by decide +kernel, by decide +kernel⟩
theorem ok_Turns_init {P : Program} {w : World} {K : PySem.W.Frag} {mg : Str → Option Value} {base : Heap} {Z : Par} {f : Addr} {fd : FuncData} (fx : Fx K mg Z) (FD : FunD K "__init__" "Turns.__init__" (defArgs s_Turns_init) (defBody s_Turns_init) (defScope s_Turns_init) [] [] f fd)  : FnOk P w K mg base CX0 1 f fd ["self", "order"] (spF Z F_Turns_init) := fn_ok FD sc_Turns_init rfl rfl fun cdv A outer s H E hr => by
  have nd := sc_Turns_init.nd
  have hu := un65 hr
  exact (sOne_ok (sFld_ok fx.C (fx.at 2 rfl) (by decide) (eVar 0) (eList rfl fx.n_list (by decide +kernel) (eVar 1))))
abbrev s_Turns_shows : Stmt := clsS 42 1
theorem sc_Turns_shows : FnScope ["self", "words", "part", "mays", "rest", "length", "hand", "free", "left", "place"] ["self", "words", "part", "mays", "rest", "length"] (defScope s_Turns_shows) := ⟨rfl, rfl, rfl, by decide +kernel, rfl, by decide +kernel, by decide +kernel⟩
theorem ok_Turns_shows {P : Program} {w : World} {K : PySem.W.Frag} {mg : Str → Option Value} {base : Heap} {Z : Par} {f : Addr} {fd : FuncData} (fx : Fx K mg Z) (FD : FunD K "shows" "Turns.shows" (defArgs s_Turns_shows) (defBody s_Turns_shows) (defScope s_Turns_shows) [] [] f fd) (c_free_from : Cal P w K mg base Z 3 "free_from" F_free_from) : FnOk P w K mg base CX0 4 f fd ["self", "words", "part", "mays", "rest", "length"] (spF Z F_Turns_shows) := fn_ok FD sc_Turns_shows rfl rfl fun cdv A outer s H E hr => by
  have nd := sc_Turns_shows.nd
  have hu := un65 hr
  exact (sSeq_ok (sIf_ok (PW.pt (wOr (CJ.x (jNe fx.hZ hu) (eLen rfl fx.n_len (eFld fx.C (fx.at 2 rfl) (by decide) (eVar 0))) (eVar 5) rfl) (wOr1 (xNot (xVal (eAll rfl rfl fx.n_all (by decide +kernel) (eLc (own := [("hand", 6)]) rfl nd (iSeq_ok fx.hZ (eFld fx.C (fx.at 2 rfl) (by decide) (eVar 0))) (blkOk_by rfl) (fun _ h => h) (fun _ _ _ _ _ => (gVar_ok (i := 6) nd rfl (by first | exact .inl rfl | exact .inr rfl) (by first | exact .inl rfl | exact .inr rfl))) (fun _ _ _ _ _ => pts0) (fun _ _ _ _ _ => (eChLT eInt (eVar 6) (eLen rfl fx.n_len (eVar 3)))))))))))
  (sOne_ok (sRet_ok eBl))
  sNop_ok)
  (sSeq_ok (sPar2_ok rfl nd (hi := rfl) (hj := rfl) (by decide) rfl rfl (aCons_ok (eCall c_free_from (hr.mono (by decide)) rfl (aCons_ok (eVar 1) (aCons_ok (eVar 2) (aCons_ok (eVar 4) aNil_ok)))) (aCons_ok (eList rfl fx.n_list (by decide +kernel) (eVar 3)) aNil_ok)) rfl)
  (sSeq_ok (sFor_ok PassesOwn.never rfl (iEnum_ok fx.hZ rfl fx.n_enumerate (eFld fx.C (fx.at 2 rfl) (by decide) (eVar 0))) (gTup_ok rfl (gCons_ok (gVar_ok (i := 9) nd rfl (by first | exact .inl rfl | exact .inr rfl) (by first | exact .inl rfl | exact .inr rfl)) (gCons_ok (gVar_ok (i := 6) nd rfl (by first | exact .inl rfl | exact .inr rfl) (by first | exact .inl rfl | exact .inr rfl)) gNil_ok)) rfl rfl (gs1 (gs1 gs0)))
  (sSeq_ok (sIf_ok (PW.pt (wOr (CJ.x (jLt) (eVar 9) (eIx fx.hZ (eVar 7) (eVar 6)) rfl) (wOr1 (CJ.x (jEq fx.hZ hu) (eIx fx.hZ (eVar 8) (eVar 6)) eInt rfl))))
  (sOne_ok (sRet_ok eBl))
  sNop_ok)
  (sSeq_ok (sIx_ok (eVar 7) (eVar 6) (eAdd (eAdd (eVar 9) (eVar 4)) eInt))
  (sOne_ok (sIxSub_ok (eVar 8) (eVar 6) eInt)))))
  (sOne_ok (sRet_ok eBl)))))
abbrev s_joined : Stmt := topS 46
theorem sc_joined : FnScope ["one", "other", "found"] ["one", "other"] (defScope s_joined) := ⟨rfl, rfl, rfl, by decide +kernel, rfl, by decide +kernel, by decide +kernel⟩
theorem ok_joined {P : Program} {w : World} {K : PySem.W.Frag} {mg : Str → Option Value} {base : Heap} {Z : Par} {f : Addr} {fd : FuncData} (fx : Fx K mg Z) (FD : FunD K "joined" "joined" (defArgs s_joined) (defBody s_joined) (defScope s_joined) [] [] f fd) (c_check_words : Cal P w K mg base Z 5 "check_words" F_check_words) (c_check_alike : Cal P w K mg base Z 2 "check_alike" F_check_alike) (c_once : Cal P w K mg base Z 2 "once" F_once) : FnOk P w K mg base CX0 6 f fd ["one", "other"] (spF Z F_joined) := fn_ok FD sc_joined rfl rfl fun cdv A outer s H E hr => by
  have nd := sc_joined.nd
  have hu := un65 hr
  exact (sSeq_ok (sEx_ok (eCall c_check_words (hr.mono (by decide)) rfl (aCons_ok (eVar 0) aNil_ok)))
  (sSeq_ok (sEx_ok (eCall c_check_words (hr.mono (by decide)) rfl (aCons_ok (eVar 1) aNil_ok)))
  (sSeq_ok (sEx_ok (eCall c_check_alike (hr.mono (by decide)) rfl (aCons_ok (eAdd (eVar 0) (eVar 1)) aNil_ok)))
  (sSeq_ok (sSet_ok (i := 2) nd rfl (by first | exact .inl rfl | exact .inr rfl) (eCall c_once (hr.mono (by decide)) rfl (aCons_ok (eAdd (eVar 0) (eVar 1)) aNil_ok)))
  (sSeq_ok (sIf_ok (CJ.x (jGt) (eLen rfl fx.n_len (eVar 2)) (eGlobX rfl fx.i_MOST_WORDS) rfl)
  (sOne_ok sNever_ok)
  sNop_ok)
  (sOne_ok (sRet_ok (eVar 2))))))))
abbrev s_state_of : Stmt := topS 47
theorem sc_state_of : FnScope ["words", "part", "uppers", "outs", "chain", "way", "one"] ["words", "part"] (defScope s_state_of) := ⟨rfl, rfl, rfl, by decide +kernel, rfl, by decide +kernel, by decide +kernel⟩
theorem ok_state_of {P : Program} {w : World} {K : PySem.W.Frag} {mg : Str → Option Value} {base : Heap} {Z : Par} {f : Addr} {fd : FuncData} (fx : Fx K mg Z) (FD : FunD K "state_of" "state_of" (defArgs s_state_of) (defBody s_state_of) (defScope s_state_of) [] [] f fd) (c_outs_of : Cal P w K mg base Z 1 "outs_of" F_outs_of) (c_uppers_of : Cal P w K mg base Z 1 "uppers_of" F_uppers_of) (c_way_up : Cal P w K mg base Z 1 "way_up" F_way_up) (k_Gone : Mkr P w K mg base Z 1 "Gone" 1 F_Gone_init) (k_Stands : Mkr P w K mg base Z 1 "Stands" 0 F_Stands_init) : FnOk P w K mg base CX0 3 f fd ["words", "part"] (spF Z F_state_of) := fn_ok FD sc_state_of rfl rfl fun cdv A outer s H E hr => by
  have nd := sc_state_of.nd
  have hu := un65 hr
  exact (sSeq_ok (sUnp_ok (gTup_ok rfl (gCons_ok (gVar_ok (i := 2) nd rfl (by first | exact .inl rfl | exact .inr rfl) (by first | exact .inl rfl | exact .inr rfl)) (gCons_ok (gVar_ok (i := 3) nd rfl (by first | exact .inl rfl | exact .inr rfl) (by first | exact .inl rfl | exact .inr rfl)) gNil_ok)) rfl rfl (gs1 (gs1 gs0))) (eTup (aCons_ok (eCall c_uppers_of (hr.mono (by decide)) rfl (aCons_ok (eVar 0) aNil_ok)) (aCons_ok (eCall c_outs_of (hr.mono (by decide)) rfl (aCons_ok (eVar 0) aNil_ok)) aNil_ok))))
  (sSeq_ok (sSet_ok (i := 4) nd rfl (by first | exact .inl rfl | exact .inr rfl) (eCall c_way_up (hr.mono (by decide)) rfl (aCons_ok (eVar 2) (aCons_ok (eVar 1) aNil_ok))))
  (sSeq_ok (sIf_ok (xNotN (eIxD (Nat.lt_of_le_of_lt (Nat.add_le_add_left (by decide) _) hu) (eVar 2) (eIx fx.hZ (eVar 4) (eNeg eInt)) (fun _ _ => rfl)))
  (sOne_ok (sRet_ok eNev))
  sNop_ok)
  (sSeq_ok (sSet_ok (i := 5) nd rfl (by first | exact .inl rfl | exact .inr rfl) (eRev fx.hZ (eVar 4)))
  (sOne_ok (sRet_ok (eIte (xVal (eAny rfl rfl fx.n_any (by decide +kernel) (eLc (own := [("one", 6)]) rfl nd (iSeq_ok fx.hZ (eVar 5)) (blkOk_by rfl) (fun _ h => h) (fun _ _ _ _ _ => (gVar_ok (i := 6) nd rfl (by first | exact .inl rfl | exact .inr rfl) (by first | exact .inl rfl | exact .inr rfl))) (fun _ _ _ _ _ => pts0) (fun _ _ _ _ _ => (CJ.e (jIn fx.hZ hu) (eVar 6) (eVar 3) rfl))))) (eMk k_Gone (hr.mono (by decide)) rfl (aCons_ok (eVar 5) aNil_ok)) (eMk k_Stands (hr.mono (by decide)) rfl (aCons_ok (eVar 5) aNil_ok)))))))))
abbrev s_why : Stmt := topS 48
theorem sc_why : FnScope ["words", "part"] ["words", "part"] (defScope s_why) := ⟨rfl, rfl, rfl, by decide +kernel, rfl, by decide +kernel, by decide +kernel⟩
theorem ok_why {P : Program} {w : World} {K : PySem.W.Frag} {mg : Str → Option Value} {base : Heap} {Z : Par} {f : Addr} {fd : FuncData} (fx : Fx K mg Z) (FD : FunD K "why" "why" (defArgs s_why) (defBody s_why) (defScope s_why) [] [] f fd) (c_check_words : Cal P w K mg base Z 5 "check_words" F_check_words) (c_check_heard : Cal P w K mg base Z 4 "check_heard" F_check_heard) (c_state_of : Cal P w K mg base Z 3 "state_of" F_state_of) : FnOk P w K mg base CX0 6 f fd ["words", "part"] (spF Z F_why) := fn_ok FD sc_why rfl rfl fun cdv A outer s H E hr => by
  have nd := sc_why.nd
  have hu := un65 hr
  exact (sSeq_ok (sEx_ok (eCall c_check_words (hr.mono (by decide)) rfl (aCons_ok (eVar 0) aNil_ok)))
  (sSeq_ok (sEx_ok (eCall c_check_heard (hr.mono (by decide)) rfl (aCons_ok (eVar 0) (aCons_ok (eVar 1) aNil_ok))))
  (sOne_ok (sRet_ok (eCall c_state_of (hr.mono (by decide)) rfl (aCons_ok (eVar 0) (aCons_ok (eVar 1) aNil_ok)))))))
abbrev s_standing : Stmt := topS 49
theorem sc_standing : FnScope ["words"] ["words"] (defScope s_standing) := ⟨rfl, rfl, rfl, by decide +kernel, rfl, by decide +kernel, by decide +kernel⟩
theorem ok_standing {P : Program} {w : World} {K : PySem.W.Frag} {mg : Str → Option Value} {base : Heap} {Z : Par} {f : Addr} {fd : FuncData} (fx : Fx K mg Z) (FD : FunD K "standing" "standing" (defArgs s_standing) (defBody s_standing) (defScope s_standing) [] [] f fd) (c_check_words : Cal P w K mg base Z 5 "check_words" F_check_words) (c_standing_in : Cal P w K mg base Z 2 "standing_in" F_standing_in) : FnOk P w K mg base CX0 6 f fd ["words"] (spF Z F_standing) := fn_ok FD sc_standing rfl rfl fun cdv A outer s H E hr => by
  have nd := sc_standing.nd
  have hu := un65 hr
  exact (sSeq_ok (sEx_ok (eCall c_check_words (hr.mono (by decide)) rfl (aCons_ok (eVar 0) aNil_ok)))
  (sOne_ok (sRet_ok (eCall c_standing_in (hr.mono (by decide)) rfl (aCons_ok (eVar 0) aNil_ok)))))
abbrev s_waiting : Stmt := topS 50
theorem sc_waiting : FnScope ["words", "part"] ["words"] (defScope s_waiting) := ⟨rfl, rfl, rfl, by decide +kernel, rfl, by decide +kernel, by decide +kernel⟩
theorem ok_waiting {P : Program} {w : World} {K : PySem.W.Frag} {mg : Str → Option Value} {base : Heap} {Z : Par} {f : Addr} {fd : FuncData} (fx : Fx K mg Z) (FD : FunD K "waiting" "waiting" (defArgs s_waiting) (defBody s_waiting) (defScope s_waiting) [] [] f fd) (c_check_words : Cal P w K mg base Z 5 "check_words" F_check_words) (c_uppers_of : Cal P w K mg base Z 1 "uppers_of" F_uppers_of) (c_state_of : Cal P w K mg base Z 3 "state_of" F_state_of) : FnOk P w K mg base CX0 6 f fd ["words"] (spF Z F_waiting) := fn_ok FD sc_waiting rfl rfl fun cdv A outer s H E hr => by
  have nd := sc_waiting.nd
  have hu := un65 hr
  exact (sSeq_ok (sEx_ok (eCall c_check_words (hr.mono (by decide)) rfl (aCons_ok (eVar 0) aNil_ok)))
  (sOne_ok (sRet_ok (eSorted fx.hZ hu rfl fx.n_sorted (by decide +kernel) (eLcD (own := [("part", 1)]) rfl nd (eCall c_uppers_of (hr.mono (by decide)) rfl (aCons_ok (eVar 0) aNil_ok)) (blkOk_by rfl) (fun _ h => h) (fun _ _ _ _ _ => (gVar_ok (i := 1) nd rfl (by first | exact .inl rfl | exact .inr rfl) (by first | exact .inl rfl | exact .inr rfl))) (fun _ _ _ _ _ => (pts1 (xVal (eIsCls rfl fx.n_isinstance (eCall c_state_of (hr.mono (by decide)) rfl (aCons_ok (eVar 0) (aCons_ok (eVar 1) aNil_ok))) fx.hZ fx.C (by decide) rfl fx.k_Waits)))) (fun _ _ _ _ _ => (eVar 1)))))))
abbrev s_ways_of : Stmt := topS 52
theorem sc_ways_of : FnScope ["words", "uppers", "stands", "under", "part"] ["words"] (defScope s_ways_of) := ⟨rfl, rfl, rfl, by decide +kernel, rfl, by decide +kernel, by decide +kernel⟩
theorem ok_ways_of {P : Program} {w : World} {K : PySem.W.Frag} {mg : Str → Option Value} {base : Heap} {Z : Par} {f : Addr} {fd : FuncData} (fx : Fx K mg Z) (FD : FunD K "ways_of" "ways_of" (defArgs s_ways_of) (defBody s_ways_of) (defScope s_ways_of) [] [] f fd) (c_standing_in : Cal P w K mg base Z 2 "standing_in" F_standing_in) (c_uppers_of : Cal P w K mg base Z 1 "uppers_of" F_uppers_of) (c_way_in : Cal P w K mg base Z 2 "way_in" F_way_in) : FnOk P w K mg base CX0 3 f fd ["words"] (spF Z F_ways_of) := fn_ok FD sc_ways_of rfl rfl fun cdv A outer s H E hr => by
  have nd := sc_ways_of.nd
  have hu := un65 hr
  exact (sSeq_ok (sUnp_ok (gTup_ok rfl (gCons_ok (gVar_ok (i := 1) nd rfl (by first | exact .inl rfl | exact .inr rfl) (by first | exact .inl rfl | exact .inr rfl)) (gCons_ok (gVar_ok (i := 2) nd rfl (by first | exact .inl rfl | exact .inr rfl) (by first | exact .inl rfl | exact .inr rfl)) gNil_ok)) rfl rfl (gs1 (gs1 gs0))) (eTup (aCons_ok (eCall c_uppers_of (hr.mono (by decide)) rfl (aCons_ok (eVar 0) aNil_ok)) (aCons_ok (eCall c_standing_in (hr.mono (by decide)) rfl (aCons_ok (eVar 0) aNil_ok)) aNil_ok))))
  (sSeq_ok (sSet_ok (i := 3) nd rfl (by first | exact .inl rfl | exact .inr rfl) (eLc (own := [("part", 4)]) rfl nd (iSeq_ok fx.hZ (eVar 2)) (blkOk_by rfl) (fun _ h => h) (fun _ _ _ _ _ => (gVar_ok (i := 4) nd rfl (by first | exact .inl rfl | exact .inr rfl) (by first | exact .inl rfl | exact .inr rfl))) (fun _ _ _ _ _ => pts0) (fun _ _ _ _ _ => (eIxD (Nat.lt_of_le_of_lt (Nat.add_le_add_left (by decide) _) hu) (eVar 1) (eVar 4) (fun _ _ => rfl)))))
  (sOne_ok (sRet_ok (eSorted fx.hZ hu rfl fx.n_sorted (by decide +kernel) (eLc (own := [("part", 4)]) rfl nd (iSeq_ok fx.hZ (eVar 2)) (blkOk_by rfl) (fun _ h => h) (fun _ _ _ _ _ => (gVar_ok (i := 4) nd rfl (by first | exact .inl rfl | exact .inr rfl) (by first | exact .inl rfl | exact .inr rfl))) (fun _ _ _ _ _ => (pts1 (CJ.x (jNin fx.hZ hu) (eVar 4) (eVar 3) rfl))) (fun _ _ _ _ _ => (eCall c_way_in (hr.mono (by decide)) rfl (aCons_ok (eVar 0) (aCons_ok (eVar 4) aNil_ok))))))))))
abbrev s_ways : Stmt := topS 53
theorem sc_ways : FnScope ["words"] ["words"] (defScope s_ways) := ⟨rfl, rfl, rfl, by decide +kernel, rfl, by decide +kernel, by decide +kernel⟩
theorem ok_ways {P : Program} {w : World} {K : PySem.W.Frag} {mg : Str → Option Value} {base : Heap} {Z : Par} {f : Addr} {fd : FuncData} (fx : Fx K mg Z) (FD : FunD K "ways" "ways" (defArgs s_ways) (defBody s_ways) (defScope s_ways) [] [] f fd) (c_check_words : Cal P w K mg base Z 5 "check_words" F_check_words) (c_ways_of : Cal P w K mg base Z 3 "ways_of" F_ways_of) : FnOk P w K mg base CX0 6 f fd ["words"] (spF Z F_ways) := fn_ok FD sc_ways rfl rfl fun cdv A outer s H E hr => by
  have nd := sc_ways.nd
  have hu := un65 hr
  exact (sSeq_ok (sEx_ok (eCall c_check_words (hr.mono (by decide)) rfl (aCons_ok (eVar 0) aNil_ok)))
  (sOne_ok (sRet_ok (eCall c_ways_of (hr.mono (by decide)) rfl (aCons_ok (eVar 0) aNil_ok)))))
abbrev s_is_like : Stmt := topS 55
theorem sc_is_like : FnScope ["thing"] ["thing"] (defScope s_is_like) := ⟨rfl, rfl, rfl, by decide +kernel, rfl, by decide +kernel, by decide +kernel⟩
theorem ok_is_like {P : Program} {w : World} {K : PySem.W.Frag} {mg : Str → Option Value} {base : Heap} {Z : Par} {f : Addr} {fd : FuncData} (fx : Fx K mg Z) (FD : FunD K "is_like" "is_like" (defArgs s_is_like) (defBody s_is_like) (defScope s_is_like) [] [] f fd) (c_is_part : Cal P w K mg base Z 3 "is_part" F_is_part) (c_is_between : Cal P w K mg base Z 2 "is_between" F_is_between) : FnOk P w K mg base CX0 4 f fd ["thing"] (spF Z F_is_like) := fn_ok FD sc_is_like rfl rfl fun cdv A outer s H E hr => by
  have nd := sc_is_like.nd
  have hu := un65 hr
  exact (sOne_ok (sRet_ok (vAnd (eIsTup rfl fx.n_isinstance (eVar 0) rfl fx.n_tuple) (vAnd (CJ.e (jEq fx.hZ hu) (eLen rfl fx.n_len (eVar 0)) eInt rfl) (vAnd (eCall c_is_between (hr.mono (by decide)) rfl (aCons_ok (eIx fx.hZ (eVar 0) eInt) (aCons_ok eInt (aCons_ok (eGlobX rfl fx.i_MOST_HAND) aNil_ok)))) (vOne (eCall c_is_part (hr.mono (by decide)) rfl (aCons_ok (eIx fx.hZ (eVar 0) eInt) aNil_ok))))))))
abbrev s_liked : Stmt := topS 56
theorem sc_liked : FnScope ["words", "likes", "one", "uppers", "stands", "marks", "many", "part", "below", "other", "way", "here"] ["words", "likes"] (defScope s_liked) := ⟨rfl, rfl, rfl, by decide +kernel, rfl, by decide +kernel, by decide +kernel⟩
theorem ok_liked {P : Program} {w : World} {K : PySem.W.Frag} {mg : Str → Option Value} {base : Heap} {Z : Par} {f : Addr} {fd : FuncData} (fx : Fx K mg Z) (FD : FunD K "liked" "liked" (defArgs s_liked) (defBody s_liked) (defScope s_liked) [] [] f fd) (c_check_words : Cal P w K mg base Z 5 "check_words" F_check_words) (c_is_like : Cal P w K mg base Z 4 "is_like" F_is_like) (c_standing_in : Cal P w K mg base Z 2 "standing_in" F_standing_in) (c_uppers_of : Cal P w K mg base Z 1 "uppers_of" F_uppers_of) (c_way_in : Cal P w K mg base Z 2 "way_in" F_way_in) (c_likes_of : Cal P w K mg base Z 1 "likes_of" F_likes_of) (k_Liked : Mkr P w K mg base Z 1 "Liked" 3 F_Liked_init) : FnOk P w K mg base CX0 6 f fd ["words", "likes"] (spF Z F_liked) := fn_ok FD sc_liked rfl rfl fun cdv A outer s H E hr => by
  have nd := sc_liked.nd
  have hu := un65 hr
  exact (sSeq_ok (sEx_ok (eCall c_check_words (hr.mono (by decide)) rfl (aCons_ok (eVar 0) aNil_ok)))
  (sSeq_ok (sIf_ok (PW.pt (wOr (xNot (xVal (eIsList rfl fx.n_isinstance (eVar 1) rfl fx.n_list))) (wOr (CJ.x (jGt) (eLen rfl fx.n_len (eVar 1)) (eGlobX rfl fx.i_MOST_LIKES) rfl) (wOr1 (xNot (xVal (eAll rfl rfl fx.n_all (by decide +kernel) (eLc (own := [("one", 2)]) rfl nd (iSeq_ok fx.hZ (eVar 1)) (blkOk_by rfl) (fun _ h => h) (fun _ _ _ _ _ => (gVar_ok (i := 2) nd rfl (by first | exact .inl rfl | exact .inr rfl) (by first | exact .inl rfl | exact .inr rfl))) (fun _ _ _ _ _ => pts0) (fun _ _ _ _ _ => (eCall c_is_like (hr.mono (by decide)) rfl (aCons_ok (eVar 2) aNil_ok)))))))))))
  (sOne_ok sNever_ok)
  sNop_ok)
  (sSeq_ok (sIf_ok (CJ.x (jLt) (eLset fx.hZ rfl hu rfl fx.n_len rfl fx.n_set (eVar 1)) (eLen rfl fx.n_len (eVar 1)) rfl)
  (sOne_ok sNever_ok)
  sNop_ok)
  (sSeq_ok (sUnp_ok (gTup_ok rfl (gCons_ok (gVar_ok (i := 3) nd rfl (by first | exact .inl rfl | exact .inr rfl) (by first | exact .inl rfl | exact .inr rfl)) (gCons_ok (gVar_ok (i := 4) nd rfl (by first | exact .inl rfl | exact .inr rfl) (by first | exact .inl rfl | exact .inr rfl)) (gCons_ok (gVar_ok (i := 5) nd rfl (by first | exact .inl rfl | exact .inr rfl) (by first | exact .inl rfl | exact .inr rfl)) gNil_ok))) rfl rfl (gs1 (gs1 (gs1 gs0)))) (eTup (aCons_ok (eCall c_uppers_of (hr.mono (by decide)) rfl (aCons_ok (eVar 0) aNil_ok)) (aCons_ok (eCall c_standing_in (hr.mono (by decide)) rfl (aCons_ok (eVar 0) aNil_ok)) (aCons_ok eDict aNil_ok)))))
  (sSeq_ok (sFor_ok PassesOwn.never rfl (iSeq_ok fx.hZ (eSorted fx.hZ hu rfl fx.n_sorted (by decide +kernel) (eLc (own := [("part", 7)]) rfl nd (iSeq_ok fx.hZ (eVar 4)) (blkOk_by rfl) (fun _ h => h) (fun _ _ _ _ _ => (gVar_ok (i := 7) nd rfl (by first | exact .inl rfl | exact .inr rfl) (by first | exact .inl rfl | exact .inr rfl))) (fun _ _ _ _ _ => pts0) (fun _ _ _ _ _ => (eTup (aCons_ok (eNeg (eLen rfl fx.n_len (eCall c_way_in (hr.mono (by decide)) rfl (aCons_ok (eVar 0) (aCons_ok (eVar 7) aNil_ok))))) (aCons_ok (eVar 7) aNil_ok))))))) (gTup_ok rfl (gCons_ok (gVar_ok (i := 6) nd rfl (by first | exact .inl rfl | exact .inr rfl) (by first | exact .inl rfl | exact .inr rfl)) (gCons_ok (gVar_ok (i := 7) nd rfl (by first | exact .inl rfl | exact .inr rfl) (by first | exact .inl rfl | exact .inr rfl)) gNil_ok)) rfl rfl (gs1 (gs1 gs0)))
  (sSeq_ok (sSetLc (i := 8) (own := [("other", 9)]) rfl nd rfl rfl (sw_true rfl rfl rfl rfl) (iSeq_ok fx.hZ (eVar 4)) (blkOk_by rfl) (fun _ h => h) (fun _ _ _ _ _ => (gVar_ok (i := 9) nd rfl (by first | exact .inl rfl | exact .inr rfl) (by first | exact .inl rfl | exact .inr rfl))) (fun _ _ _ _ _ => (pts1 (CJ.x (jEq fx.hZ hu) (eIxD (Nat.lt_of_le_of_lt (Nat.add_le_add_left (by decide) _) hu) (eVar 3) (eVar 9) (fun _ _ => rfl)) (eVar 7) rfl))) (fun _ _ _ _ _ => (eIxD (Nat.lt_of_le_of_lt (Nat.add_le_add_left (by decide) _) hu) (eVar 5) (eVar 9) (fun _ _ => rfl))))
  (sOne_ok (sPut_ok hu (eVar 5) (eVar 7) (eAdd (eCall c_likes_of (hr.mono (by decide)) rfl (aCons_ok (eVar 1) (aCons_ok (eVar 7) aNil_ok))) (eMax fx.hZ rfl hu rfl fx.n_max (by decide +kernel) (eAdd (eLst (aCons_ok eInt aNil_ok)) (eVar 8))))))))
  (sSeq_ok (sUnp_ok (gTup_ok rfl (gCons_ok (gVar_ok (i := 10) nd rfl (by first | exact .inl rfl | exact .inr rfl) (by first | exact .inl rfl | exact .inr rfl)) (gCons_ok (gVar_ok (i := 11) nd rfl (by first | exact .inl rfl | exact .inr rfl) (by first | exact .inl rfl | exact .inr rfl)) gNil_ok)) rfl rfl (gs1 (gs1 gs0))) (eTup (aCons_ok (eLst aNil_ok) (aCons_ok (eLc (own := [("part", 7)]) rfl nd (iSeq_ok fx.hZ (eVar 4)) (blkOk_by rfl) (fun _ h => h) (fun _ _ _ _ _ => (gVar_ok (i := 7) nd rfl (by first | exact .inl rfl | exact .inr rfl) (by first | exact .inl rfl | exact .inr rfl))) (fun _ _ _ _ _ => (pts1 (xIsN (eIxD (Nat.lt_of_le_of_lt (Nat.add_le_add_left (by decide) _) hu) (eVar 3) (eVar 7) (fun _ _ => rfl))))) (fun _ _ _ _ _ => (eVar 7))) aNil_ok))))
  (sSeq_ok (sWh_ok PassesOwn.never (CJ.x (jNe fx.hZ hu) (eVar 11) (eLst aNil_ok) rfl)
  (sSeq_ok (sEx_ok (eApp rfl (eVar 10) (eIx fx.hZ (eMax fx.hZ rfl hu rfl fx.n_max (by decide +kernel) (eLc (own := [("part", 7)]) rfl nd (iSeq_ok fx.hZ (eVar 11)) (blkOk_by rfl) (fun _ h => h) (fun _ _ _ _ _ => (gVar_ok (i := 7) nd rfl (by first | exact .inl rfl | exact .inr rfl) (by first | exact .inl rfl | exact .inr rfl))) (fun _ _ _ _ _ => pts0) (fun _ _ _ _ _ => (eTup (aCons_ok (eIxD (Nat.lt_of_le_of_lt (Nat.add_le_add_left (by decide) _) hu) (eVar 5) (eVar 7) (fun _ _ => rfl)) (aCons_ok (eVar 7) aNil_ok)))))) eInt)))
  (sOne_ok (sSetLc (i := 11) (own := [("part", 7)]) rfl nd rfl rfl (sw_true rfl rfl rfl rfl) (iSeq_ok fx.hZ (eVar 4)) (blkOk_by rfl) (fun _ h => h) (fun _ _ _ _ _ => (gVar_ok (i := 7) nd rfl (by first | exact .inl rfl | exact .inr rfl) (by first | exact .inl rfl | exact .inr rfl))) (fun _ _ _ _ _ => (pts1 (CJ.x (jEq fx.hZ hu) (eIxD (Nat.lt_of_le_of_lt (Nat.add_le_add_left (by decide) _) hu) (eVar 3) (eVar 7) (fun _ _ => rfl)) (eIx fx.hZ (eVar 10) (eNeg eInt)) rfl))) (fun _ _ _ _ _ => (eVar 7))))))
  (sOne_ok (sRet_ok (eMk k_Liked (hr.mono (by decide)) rfl (aCons_ok (eVar 10) (aCons_ok (eLc (own := [("part", 7)]) rfl nd (iSeq_ok fx.hZ (eVar 4)) (blkOk_by rfl) (fun _ h => h) (fun _ _ _ _ _ => (gVar_ok (i := 7) nd rfl (by first | exact .inl rfl | exact .inr rfl) (by first | exact .inl rfl | exact .inr rfl))) (fun _ _ _ _ _ => pts0) (fun _ _ _ _ _ => (eIxD (Nat.lt_of_le_of_lt (Nat.add_le_add_left (by decide) _) hu) (eVar 5) (eVar 7) (fun _ _ => rfl)))) aNil_ok))))))))))))
abbrev s_may_go_on : Stmt := topS 57
theorem sc_may_go_on : FnScope ["words", "part", "rest", "way", "late", "one", "hand"] ["words", "part", "rest"] (defScope s_may_go_on) := ⟨rfl, rfl, rfl, by decide +kernel, rfl, by decide +kernel, by decide +kernel⟩
theorem ok_may_go_on {P : Program} {w : World} {K : PySem.W.Frag} {mg : Str → Option Value} {base : Heap} {Z : Par} {f : Addr} {fd : FuncData} (fx : Fx K mg Z) (FD : FunD K "may_go_on" "may_go_on" (defArgs s_may_go_on) (defBody s_may_go_on) (defScope s_may_go_on) [] [] f fd) (c_check_words : Cal P w K mg base Z 5 "check_words" F_check_words) (c_check_heard : Cal P w K mg base Z 4 "check_heard" F_check_heard) (c_check_rest : Cal P w K mg base Z 3 "check_rest" F_check_rest) (c_standing_in : Cal P w K mg base Z 2 "standing_in" F_standing_in) (c_way_in : Cal P w K mg base Z 2 "way_in" F_way_in) : FnOk P w K mg base CX0 6 f fd ["words", "part", "rest"] (spF Z F_may_go_on) := fn_ok FD sc_may_go_on rfl rfl fun cdv A outer s H E hr => by
  have nd := sc_may_go_on.nd
  have hu := un65 hr
  exact (sSeq_ok (sEx_ok (eCall c_check_words (hr.mono (by decide)) rfl (aCons_ok (eVar 0) aNil_ok)))
  (sSeq_ok (sEx_ok (eCall c_check_heard (hr.mono (by decide)) rfl (aCons_ok (eVar 0) (aCons_ok (eVar 1) aNil_ok))))
  (sSeq_ok (sEx_ok (eCall c_check_rest (hr.mono (by decide)) rfl (aCons_ok (eVar 2) aNil_ok)))
  (sSeq_ok (sIf_ok (CJ.x (jNin fx.hZ hu) (eVar 1) (eCall c_standing_in (hr.mono (by decide)) rfl (aCons_ok (eVar 0) aNil_ok)) rfl)
  (sOne_ok (sRet_ok (eLst aNil_ok)))
  sNop_ok)
  (sSeq_ok (sSet_ok (i := 3) nd rfl (by first | exact .inl rfl | exact .inr rfl) (eCall c_way_in (hr.mono (by decide)) rfl (aCons_ok (eVar 0) (aCons_ok (eVar 1) aNil_ok))))
  (sSeq_ok (sSet_ok (i := 4) nd rfl (by first | exact .inl rfl | exact .inr rfl) (eLc (own := [("one", 5)]) rfl nd (iSeq_ok fx.hZ (eSl fx.hZ (eVar 3) (pSome (eMx2 rfl rfl fx.n_max (by decide +kernel) eInt (eSub (eLen rfl fx.n_len (eVar 3)) (eVar 2)))) pNone)) (blkOk_by rfl) (fun _ h => h) (fun _ _ _ _ _ => (gVar_ok (i := 5) nd rfl (by first | exact .inl rfl | exact .inr rfl) (by first | exact .inl rfl | exact .inr rfl))) (fun _ _ _ _ _ => pts0) (fun _ _ _ _ _ => (eIx fx.hZ (eVar 5) eInt))))
  (sOne_ok (sRet_ok (eLc (own := [("hand", 6)]) rfl nd (iRange_ok rfl fx.n_range (eAdd (eGlobX rfl fx.i_MOST_HAND) eInt)) (blkOk_by rfl) (fun _ h => h) (fun _ _ _ _ _ => (gVar_ok (i := 6) nd rfl (by first | exact .inl rfl | exact .inr rfl) (by first | exact .inl rfl | exact .inr rfl))) (fun _ _ _ _ _ => (pts1 (CJ.x (jNin fx.hZ hu) (eVar 6) (eVar 4) rfl))) (fun _ _ _ _ _ => (eVar 6)))))))))))
abbrev s_Desk_init : Stmt := clsS 59 0
theorem sc_Desk_init : FnScope ["self", "hand", "rest"] ["self", "hand", "rest"] (defScope s_Desk_init) := ⟨rfl, rfl, rfl, by decide +kernel, rfl, by decide +kernel, by decide +kernel⟩
theorem ok_Desk_init {P : Program} {w : World} {K : PySem.W.Frag} {mg : Str → Option Value} {base : Heap} {Z : Par} {f : Addr} {fd : FuncData} (fx : Fx K mg Z) (FD : FunD K "__init__" "Desk.__init__" (defArgs s_Desk_init) (defBody s_Desk_init) (defScope s_Desk_init) [] [] f fd) (c_is_between : Cal P w K mg base Z 2 "is_between" F_is_between) (c_check_rest : Cal P w K mg base Z 3 "check_rest" F_check_rest) : FnOk P w K mg base CX0 4 f fd ["self", "hand", "rest"] (spF Z F_Desk_init) := fn_ok FD sc_Desk_init rfl rfl fun cdv A outer s H E hr => by
  have nd := sc_Desk_init.nd
  have hu := un65 hr
  exact (sSeq_ok (sIf_ok (xNot (xVal (eCall c_is_between (hr.mono (by decide)) rfl (aCons_ok (eVar 1) (aCons_ok eInt (aCons_ok (eGlobX rfl fx.i_MOST_HAND) aNil_ok))))))
  (sOne_ok sNever_ok)
  sNop_ok)
  (sSeq_ok (sEx_ok (eCall c_check_rest (hr.mono (by decide)) rfl (aCons_ok (eVar 2) aNil_ok)))
  (sSeq_ok (sFld_ok fx.C (fx.at 3 rfl) (by decide) (eVar 0) (eVar 1))
  (sSeq_ok (sFld_ok fx.C (fx.at 4 rfl) (by decide) (eVar 0) (eVar 2))
  (sOne_ok (sFld_ok fx.C (fx.at 5 rfl) (by decide) (eVar 0) (eLst aNil_ok)))))))
abbrev s_Desk_hear : Stmt := clsS 59 3
theorem sc_Desk_hear : FnScope ["self", "words", "found", "before", "after", "part"] ["self", "words"] (defScope s_Desk_hear) := ⟨rfl, rfl, rfl, by decide +kernel, rfl, by decide +kernel, by decide +kernel⟩
theorem ok_Desk_hear {P : Program} {w : World} {K : PySem.W.Frag} {mg : Str → Option Value} {base : Heap} {Z : Par} {f : Addr} {fd : FuncData} (fx : Fx K mg Z) (FD : FunD K "hear" "Desk.hear" (defArgs s_Desk_hear) (defBody s_Desk_hear) (defScope s_Desk_hear) [] [] f fd) (c_check_words : Cal P w K mg base Z 5 "check_words" F_check_words) (c_check_alike : Cal P w K mg base Z 2 "check_alike" F_check_alike) (c_once : Cal P w K mg base Z 2 "once" F_once) (c_standing_in : Cal P w K mg base Z 2 "standing_in" F_standing_in) : FnOk P w K mg base CX0 6 f fd ["self", "words"] (spF Z F_Desk_hear) := fn_ok FD sc_Desk_hear rfl rfl fun cdv A outer s H E hr => by
  have nd := sc_Desk_hear.nd
  have hu := un65 hr
  exact (sSeq_ok (sEx_ok (eCall c_check_words (hr.mono (by decide)) rfl (aCons_ok (eVar 1) aNil_ok)))
  (sSeq_ok (sEx_ok (eCall c_check_alike (hr.mono (by decide)) rfl (aCons_ok (eAdd (eFld fx.C (fx.at 5 rfl) (by decide) (eVar 0)) (eVar 1)) aNil_ok)))
  (sSeq_ok (sSet_ok (i := 2) nd rfl (by first | exact .inl rfl | exact .inr rfl) (eCall c_once (hr.mono (by decide)) rfl (aCons_ok (eAdd (eFld fx.C (fx.at 5 rfl) (by decide) (eVar 0)) (eVar 1)) aNil_ok)))
  (sSeq_ok (sIf_ok (CJ.x (jGt) (eLen rfl fx.n_len (eVar 2)) (eGlobX rfl fx.i_MOST_WORDS) rfl)
  (sOne_ok sNever_ok)
  sNop_ok)
  (sSeq_ok (sUnp_ok (gTup_ok rfl (gCons_ok (gVar_ok (i := 3) nd rfl (by first | exact .inl rfl | exact .inr rfl) (by first | exact .inl rfl | exact .inr rfl)) (gCons_ok (gVar_ok (i := 4) nd rfl (by first | exact .inl rfl | exact .inr rfl) (by first | exact .inl rfl | exact .inr rfl)) gNil_ok)) rfl rfl (gs1 (gs1 gs0))) (eTup (aCons_ok (eCall c_standing_in (hr.mono (by decide)) rfl (aCons_ok (eFld fx.C (fx.at 5 rfl) (by decide) (eVar 0)) aNil_ok)) (aCons_ok (eCall c_standing_in (hr.mono (by decide)) rfl (aCons_ok (eVar 2) aNil_ok)) aNil_ok))))
  (sSeq_ok (sFld_ok fx.C (fx.at 5 rfl) (by decide) (eVar 0) (eVar 2))
  (sOne_ok (sRet_ok (eTup (aCons_ok (eLc (own := [("part", 5)]) rfl nd (iSeq_ok fx.hZ (eVar 4)) (blkOk_by rfl) (fun _ h => h) (fun _ _ _ _ _ => (gVar_ok (i := 5) nd rfl (by first | exact .inl rfl | exact .inr rfl) (by first | exact .inl rfl | exact .inr rfl))) (fun _ _ _ _ _ => (pts1 (CJ.x (jNin fx.hZ hu) (eVar 5) (eVar 3) rfl))) (fun _ _ _ _ _ => (eVar 5))) (aCons_ok (eLc (own := [("part", 5)]) rfl nd (iSeq_ok fx.hZ (eVar 3)) (blkOk_by rfl) (fun _ h => h) (fun _ _ _ _ _ => (gVar_ok (i := 5) nd rfl (by first | exact .inl rfl | exact .inr rfl) (by first | exact .inl rfl | exact .inr rfl))) (fun _ _ _ _ _ => (pts1 (CJ.x (jNin fx.hZ hu) (eVar 5) (eVar 4) rfl))) (fun _ _ _ _ _ => (eVar 5))) aNil_ok)))))))))))
abbrev s_Desk_words : Stmt := clsS 59 4
theorem sc_Desk_words : FnScope ["self"] ["self"] (defScope s_Desk_words) := ⟨rfl, rfl, rfl, by decide +kernel, rfl, by decide +kernel, by decide +kernel⟩
theorem ok_Desk_words {P : Program} {w : World} {K : PySem.W.Frag} {mg : Str → Option Value} {base : Heap} {Z : Par} {f : Addr} {fd : FuncData} (fx : Fx K mg Z) (FD : FunD K "words" "Desk.words" (defArgs s_Desk_words) (defBody s_Desk_words) (defScope s_Desk_words) [] [] f fd)  : FnOk P w K mg base CX0 1 f fd ["self"] (spF Z F_Desk_words) := fn_ok FD sc_Desk_words rfl rfl fun cdv A outer s H E hr => by
  have nd := sc_Desk_words.nd
  have hu := un65 hr
  exact (sOne_ok (sRet_ok (eList rfl fx.n_list (by decide +kernel) (eFld fx.C (fx.at 5 rfl) (by decide) (eVar 0)))))
abbrev s_Desk_standing : Stmt := clsS 59 5
theorem sc_Desk_standing : FnScope ["self"] ["self"] (defScope s_Desk_standing) := ⟨rfl, rfl, rfl, by decide +kernel, rfl, by decide +kernel, by decide +kernel⟩
theorem ok_Desk_standing {P : Program} {w : World} {K : PySem.W.Frag} {mg : Str → Option Value} {base : Heap} {Z : Par} {f : Addr} {fd : FuncData} (fx : Fx K mg Z) (FD : FunD K "standing" "Desk.standing" (defArgs s_Desk_standing) (defBody s_Desk_standing) (defScope s_Desk_standing) [] [] f fd) (c_standing_in : Cal P w K mg base Z 2 "standing_in" F_standing_in) : FnOk P w K mg base CX0 3 f fd ["self"] (spF Z F_Desk_standing) := fn_ok FD sc_Desk_standing rfl rfl fun cdv A outer s H E hr => by
  have nd := sc_Desk_standing.nd
  have hu := un65 hr
  exact (sOne_ok (sRet_ok (eCall c_standing_in (hr.mono (by decide)) rfl (aCons_ok (eFld fx.C (fx.at 5 rfl) (by decide) (eVar 0)) aNil_ok))))
abbrev s_Desk_waiting : Stmt := clsS 59 6
theorem sc_Desk_waiting : FnScope ["self"] ["self"] (defScope s_Desk_waiting) := ⟨rfl, rfl, rfl, by decide +kernel, rfl, by decide +kernel, by decide +kernel⟩
theorem ok_Desk_waiting {P : Program} {w : World} {K : PySem.W.Frag} {mg : Str → Option Value} {base : Heap} {Z : Par} {f : Addr} {fd : FuncData} (fx : Fx K mg Z) (FD : FunD K "waiting" "Desk.waiting" (defArgs s_Desk_waiting) (defBody s_Desk_waiting) (defScope s_Desk_waiting) [] [] f fd) (c_waiting_telling : Cal P w K mg base Z 6 "waiting_telling" F_waiting) : FnOk P w K mg base CX0 7 f fd ["self"] (spF Z F_Desk_waiting) := fn_ok FD sc_Desk_waiting rfl rfl fun cdv A outer s H E hr => by
  have nd := sc_Desk_waiting.nd
  have hu := un65 hr
  exact (sOne_ok (sRet_ok (eCall c_waiting_telling (hr.mono (by decide)) rfl (aCons_ok (eFld fx.C (fx.at 5 rfl) (by decide) (eVar 0)) aNil_ok))))
abbrev s_Desk_ways : Stmt := clsS 59 7
theorem sc_Desk_ways : FnScope ["self"] ["self"] (defScope s_Desk_ways) := ⟨rfl, rfl, rfl, by decide +kernel, rfl, by decide +kernel, by decide +kernel⟩
theorem ok_Desk_ways {P : Program} {w : World} {K : PySem.W.Frag} {mg : Str → Option Value} {base : Heap} {Z : Par} {f : Addr} {fd : FuncData} (fx : Fx K mg Z) (FD : FunD K "ways" "Desk.ways" (defArgs s_Desk_ways) (defBody s_Desk_ways) (defScope s_Desk_ways) [] [] f fd) (c_ways_telling : Cal P w K mg base Z 6 "ways_telling" F_ways) : FnOk P w K mg base CX0 7 f fd ["self"] (spF Z F_Desk_ways) := fn_ok FD sc_Desk_ways rfl rfl fun cdv A outer s H E hr => by
  have nd := sc_Desk_ways.nd
  have hu := un65 hr
  exact (sOne_ok (sRet_ok (eCall c_ways_telling (hr.mono (by decide)) rfl (aCons_ok (eFld fx.C (fx.at 5 rfl) (by decide) (eVar 0)) aNil_ok))))
abbrev s_Desk_my_ends : Stmt := clsS 59 8
theorem sc_Desk_my_ends : FnScope ["self", "ends", "way", "part"] ["self"] (defScope s_Desk_my_ends) := ⟨rfl, rfl, rfl, by decide +kernel, rfl, by decide +kernel, by decide +kernel⟩
theorem ok_Desk_my_ends {P : Program} {w : World} {K : PySem.W.Frag} {mg : Str → Option Value} {base : Heap} {Z : Par} {f : Addr} {fd : FuncData} (fx : Fx K mg Z) (FD : FunD K "my_ends" "Desk.my_ends" (defArgs s_Desk_my_ends) (defBody s_Desk_my_ends) (defScope s_Desk_my_ends) [] [] f fd) (c_may_go_on : Cal P w K mg base Z 6 "may_go_on" F_may_go_on) (m_Desk_ways : Mt P w K mg base Z 7 "ways" 6 F_Desk_ways) : FnOk P w K mg base CX0 8 f fd ["self"] (spF Z F_Desk_my_ends) := fn_ok FD sc_Desk_my_ends rfl rfl fun cdv A outer s H E hr => by
  have nd := sc_Desk_my_ends.nd
  have hu := un65 hr
  exact (sSeq_ok (sSet_ok (i := 1) nd rfl (by first | exact .inl rfl | exact .inr rfl) (eSorted fx.hZ hu rfl fx.n_sorted (by decide +kernel) (eLc (own := [("way", 2)]) rfl nd (iSeq_ok fx.hZ (eMth0 (k := 7) (.cons (m_Desk_ways.mono (by decide)) .nil) fx.C (fx.nm (m := "ways") (by decide) (by decide +kernel)) hr (eVar 0))) (blkOk_by rfl) (fun _ h => h) (fun _ _ _ _ _ => (gVar_ok (i := 2) nd rfl (by first | exact .inl rfl | exact .inr rfl) (by first | exact .inl rfl | exact .inr rfl))) (fun _ _ _ _ _ => pts0) (fun _ _ _ _ _ => (eIx fx.hZ (eVar 2) (eNeg eInt))))))
  (sOne_ok (sRet_ok (eLc (own := [("part", 3)]) rfl nd (iSeq_ok fx.hZ (eVar 1)) (blkOk_by rfl) (fun _ h => h) (fun _ _ _ _ _ => (gVar_ok (i := 3) nd rfl (by first | exact .inl rfl | exact .inr rfl) (by first | exact .inl rfl | exact .inr rfl))) (fun _ _ _ _ _ => (pts1 (CJ.x (jIn fx.hZ hu) (eFld fx.C (fx.at 3 rfl) (by decide) (eVar 0)) (eCall c_may_go_on (hr.mono (by decide)) rfl (aCons_ok (eFld fx.C (fx.at 5 rfl) (by decide) (eVar 0)) (aCons_ok (eVar 3) (aCons_ok (eFld fx.C (fx.at 4 rfl) (by decide) (eVar 0)) aNil_ok)))) rfl))) (fun _ _ _ _ _ => (eVar 3))))))
abbrev s_check_going : Stmt := topS 63
theorem sc_check_going : FnScope ["words", "part", "mays", "rest", "length", "may"] ["words", "part", "mays", "rest", "length"] (defScope s_check_going) := ⟨rfl, rfl, rfl, by decide +kernel, rfl, by decide +kernel, by decide +kernel⟩
theorem ok_check_going {P : Program} {w : World} {K : PySem.W.Frag} {mg : Str → Option Value} {base : Heap} {Z : Par} {f : Addr} {fd : FuncData} (fx : Fx K mg Z) (FD : FunD K "check_going" "check_going" (defArgs s_check_going) (defBody s_check_going) (defScope s_check_going) [] [] f fd) (c_check_words : Cal P w K mg base Z 5 "check_words" F_check_words) (c_standing_in : Cal P w K mg base Z 2 "standing_in" F_standing_in) (c_is_part : Cal P w K mg base Z 3 "is_part" F_is_part) (c_is_between : Cal P w K mg base Z 2 "is_between" F_is_between) (c_check_rest : Cal P w K mg base Z 3 "check_rest" F_check_rest) : FnOk P w K mg base CX0 6 f fd ["words", "part", "mays", "rest", "length"] (spF Z F_check_going) := fn_ok FD sc_check_going rfl rfl fun cdv A outer s H E hr => by
  have nd := sc_check_going.nd
  have hu := un65 hr
  exact (sSeq_ok (sEx_ok (eCall c_check_words (hr.mono (by decide)) rfl (aCons_ok (eVar 0) aNil_ok)))
  (sSeq_ok (sIf_ok (PW.pt (wAnd (xNotN (eVar 1)) (wAnd1 (PW.pt (wOr (xNot (xVal (eCall c_is_part (hr.mono (by decide)) rfl (aCons_ok (eVar 1) aNil_ok)))) (wOr1 (CJ.x (jNin fx.hZ hu) (eVar 1) (eCall c_standing_in (hr.mono (by decide)) rfl (aCons_ok (eVar 0) aNil_ok)) rfl)))))))
  (sOne_ok sNever_ok)
  sNop_ok)
  (sSeq_ok (sIf_ok (PW.pt (wOr (xNot (xVal (eIsList rfl fx.n_isinstance (eVar 2) rfl fx.n_list))) (wOr1 (CJ.x (jNe fx.hZ hu) (eLen rfl fx.n_len (eVar 2)) (eAdd (eGlobX rfl fx.i_MOST_HAND) eInt) rfl))))
  (sOne_ok sNever_ok)
  sNop_ok)
  (sSeq_ok (sIf_ok (xNot (xVal (eAll rfl rfl fx.n_all (by decide +kernel) (eLc (own := [("may", 5)]) rfl nd (iSeq_ok fx.hZ (eVar 2)) (blkOk_by rfl) (fun _ h => h) (fun _ _ _ _ _ => (gVar_ok (i := 5) nd rfl (by first | exact .inl rfl | exact .inr rfl) (by first | exact .inl rfl | exact .inr rfl))) (fun _ _ _ _ _ => pts0) (fun _ _ _ _ _ => (eCall c_is_between (hr.mono (by decide)) rfl (aCons_ok (eVar 5) (aCons_ok eInt (aCons_ok (eGlobX rfl fx.i_MOST_MAY) aNil_ok)))))))))
  (sOne_ok sNever_ok)
  sNop_ok)
  (sSeq_ok (sEx_ok (eCall c_check_rest (hr.mono (by decide)) rfl (aCons_ok (eVar 3) aNil_ok)))
  (sOne_ok (sIf_ok (xNot (xVal (eCall c_is_between (hr.mono (by decide)) rfl (aCons_ok (eVar 4) (aCons_ok eInt (aCons_ok (eGlobX rfl fx.i_LONGEST) aNil_ok))))))
  (sOne_ok sNever_ok)
  sNop_ok)))))))
abbrev s_gone_through : Stmt := topS 64
theorem sc_gone_through : FnScope ["mays", "frees", "rest", "length", "left", "free", "order", "place", "some", "hand"] ["mays", "frees", "rest", "length"] (defScope s_gone_through) := ⟨rfl, rfl, rfl, by decide +kernel, rfl, by decide +kernel, by decide +kernel⟩
theorem ok_gone_through {P : Program} {w : World} {K : PySem.W.Frag} {mg : Str → Option Value} {base : Heap} {Z : Par} {f : Addr} {fd : FuncData} (fx : Fx K mg Z) (FD : FunD K "gone_through" "gone_through" (defArgs s_gone_through) (defBody s_gone_through) (defScope s_gone_through) [] [] f fd)  : FnOk P w K mg base CX0 1 f fd ["mays", "frees", "rest", "length"] (spF Z F_gone_through) := fn_ok FD sc_gone_through rfl rfl fun cdv A outer s H E hr => by
  have nd := sc_gone_through.nd
  have hu := un65 hr
  exact (sSeq_ok (sUnp_ok (gTup_ok rfl (gCons_ok (gVar_ok (i := 4) nd rfl (by first | exact .inl rfl | exact .inr rfl) (by first | exact .inl rfl | exact .inr rfl)) (gCons_ok (gVar_ok (i := 5) nd rfl (by first | exact .inl rfl | exact .inr rfl) (by first | exact .inl rfl | exact .inr rfl)) (gCons_ok (gVar_ok (i := 6) nd rfl (by first | exact .inl rfl | exact .inr rfl) (by first | exact .inl rfl | exact .inr rfl)) gNil_ok))) rfl rfl (gs1 (gs1 (gs1 gs0)))) (eTup (aCons_ok (eList rfl fx.n_list (by decide +kernel) (eVar 0)) (aCons_ok (eList rfl fx.n_list (by decide +kernel) (eVar 1)) (aCons_ok (eLst aNil_ok) aNil_ok)))))
  (sSeq_ok (sFor_ok PassesOwn.never rfl (iRange_ok rfl fx.n_range (eVar 3)) (gVar_ok (i := 7) nd rfl (by first | exact .inl rfl | exact .inr rfl) (by first | exact .inl rfl | exact .inr rfl))
  (sSeq_ok (sSetLc (i := 8) (own := [("hand", 9)]) rfl nd rfl rfl (sw_true rfl rfl rfl rfl) (iRange_ok rfl fx.n_range (eLen rfl fx.n_len (eVar 0))) (blkOk_by rfl) (fun _ h => h) (fun _ _ _ _ _ => (gVar_ok (i := 9) nd rfl (by first | exact .inl rfl | exact .inr rfl) (by first | exact .inl rfl | exact .inr rfl))) (fun _ _ _ _ _ => (pts1 (PW.pt (wAnd (CJ.x (jGt) (eIx fx.hZ (eVar 4) (eVar 9)) eInt rfl) (wAnd1 (CJ.x (jLe) (eIx fx.hZ (eVar 5) (eVar 9)) (eVar 7) rfl)))))) (fun _ _ _ _ _ => (eTup (aCons_ok (eIx fx.hZ (eVar 4) (eVar 9)) (aCons_ok (eVar 9) aNil_ok)))))
  (sSeq_ok (sIf_ok (CJ.x (jEq fx.hZ hu) (eVar 8) (eLst aNil_ok) rfl)
  (sOne_ok (sRet_ok (eTup (aCons_ok (eVar 6) (aCons_ok (eVar 4) aNil_ok)))))
  sNop_ok)
  (sSeq_ok (sSet_ok (i := 9) nd rfl (by first | exact .inl rfl | exact .inr rfl) (eIx fx.hZ (eMax fx.hZ rfl hu rfl fx.n_max (by decide +kernel) (eVar 8)) eInt))
  (sSeq_ok (sEx_ok (eApp rfl (eVar 6) (eVar 9)))
  (sSeq_ok (sIxSub_ok (eVar 4) (eVar 9) eInt)
  (sOne_ok (sIx_ok (eVar 5) (eVar 9) (eAdd (eAdd (eVar 7) (eVar 2)) eInt)))))))))
  (sOne_ok (sRet_ok (eTup (aCons_ok (eVar 6) (aCons_ok (eVar 4) aNil_ok)))))))
abbrev s_gone_on : Stmt := topS 66
theorem sc_gone_on : FnScope ["words", "part", "mays", "rest", "length", "frees", "order", "left"] ["words", "part", "mays", "rest", "length"] (defScope s_gone_on) := ⟨rfl, rfl, rfl, by decide +kernel, rfl, by decide +kernel, by decide +kernel⟩
theorem ok_gone_on {P : Program} {w : World} {K : PySem.W.Frag} {mg : Str → Option Value} {base : Heap} {Z : Par} {f : Addr} {fd : FuncData} (fx : Fx K mg Z) (FD : FunD K "gone_on" "gone_on" (defArgs s_gone_on) (defBody s_gone_on) (defScope s_gone_on) [] [] f fd) (c_check_going : Cal P w K mg base Z 6 "check_going" F_check_going) (c_free_from : Cal P w K mg base Z 3 "free_from" F_free_from) (c_gone_through : Cal P w K mg base Z 1 "gone_through" F_gone_through) (k_Turns : Mkr P w K mg base Z 1 "Turns" 4 F_Turns_init) : FnOk P w K mg base CX0 7 f fd ["words", "part", "mays", "rest", "length"] (spF Z F_gone_on) := fn_ok FD sc_gone_on rfl rfl fun cdv A outer s H E hr => by
  have nd := sc_gone_on.nd
  have hu := un65 hr
  exact (sSeq_ok (sEx_ok (eCall c_check_going (hr.mono (by decide)) rfl (aCons_ok (eVar 0) (aCons_ok (eVar 1) (aCons_ok (eVar 2) (aCons_ok (eVar 3) (aCons_ok (eVar 4) aNil_ok)))))))
  (sSeq_ok (sSet_ok (i := 5) nd rfl (by first | exact .inl rfl | exact .inr rfl) (eCall c_free_from (hr.mono (by decide)) rfl (aCons_ok (eVar 0) (aCons_ok (eVar 1) (aCons_ok (eVar 3) aNil_ok)))))
  (sSeq_ok (sUnp_ok (gTup_ok rfl (gCons_ok (gVar_ok (i := 6) nd rfl (by first | exact .inl rfl | exact .inr rfl) (by first | exact .inl rfl | exact .inr rfl)) (gCons_ok (gVar_ok (i := 7) nd rfl (by first | exact .inl rfl | exact .inr rfl) (by first | exact .inl rfl | exact .inr rfl)) gNil_ok)) rfl rfl (gs1 (gs1 gs0))) (eCall c_gone_through (hr.mono (by decide)) rfl (aCons_ok (eVar 2) (aCons_ok (eVar 5) (aCons_ok (eVar 3) (aCons_ok (eVar 4) aNil_ok))))))
  (sSeq_ok (sIf_ok (CJ.x (jEq fx.hZ hu) (eLen rfl fx.n_len (eVar 6)) (eVar 4) rfl)
  (sOne_ok (sRet_ok (eMk k_Turns (hr.mono (by decide)) rfl (aCons_ok (eVar 6) aNil_ok))))
  sNop_ok)
  (sOne_ok (sRet_ok eNev))))))
abbrev s__law_deep : Stmt := topS 71
theorem sc__law_deep : FnScope ["_law_thing", "_law_one"] ["_law_thing"] (defScope s__law_deep) := ⟨rfl, rfl, rfl, by decide +kernel, rfl, by decide +kernel, by decide +kernel⟩
theorem ok__law_deep {P : Program} {w : World} {K : PySem.W.Frag} {mg : Str → Option Value} {base : Heap} {Z : Par} {f : Addr} {fd : FuncData} (fx : Fx K mg Z) (FD : FunD K "_law_deep" "_law_deep" (defArgs s__law_deep) (defBody s__law_deep) (defScope s__law_deep) [] [] f fd) (hm : mg "_law_deep" = some (.ref f)) (hk : PySem.W.keepIn K (.ref f) = true) (hb : Binds K fd ["_law_thing"] []) : ∀ n : Nat, FnOk P w K mg base CX0 n f fd ["_law_thing"] (spF Z (F__law_deep n))
  | 0 => ⟨fun vs H Q E ⟨_, _, _, _, e, _⟩ => (by cases e), fun A outer s H args us vs Q E _ _ _ _ ⟨_, _, _, _, e, _⟩ => (by cases e)⟩
  | n + 1 => by
      have c__law_deep : Cal P w K mg base Z n "_law_deep" (F__law_deep n) := ⟨f, fd, ["_law_thing"], hm, hk, hb, ok__law_deep fx FD hm hk hb n⟩
      exact fn_ok FD sc__law_deep rfl rfl fun cdv A outer s H E hr => by
        have nd := sc__law_deep.nd
        have hu := un65 hr
        exact (sSeq_ok (sIf_ok (xVal (eIsList rfl fx.n_isinstance (eVar 0) rfl fx.n_list))
  (sOne_ok (sRet_ok (eLc (own := [("_law_one", 1)]) rfl nd (iSeq_ok fx.hZ (eVar 0)) (blkOk_by rfl) (fun _ h => h) (fun _ _ _ _ _ => (gVar_ok (i := 1) nd rfl (by first | exact .inl rfl | exact .inr rfl) (by first | exact .inl rfl | exact .inr rfl))) (fun _ _ _ _ _ => pts0) (fun _ _ _ _ _ => (eCall c__law_deep hr rfl (aCons_ok (eVar 1) aNil_ok))))))
  sNop_ok)
  (sOne_ok (sRet_ok (eIte (xVal (eIsTup rfl fx.n_isinstance (eVar 0) rfl fx.n_tuple)) (eTuple rfl fx.n_tuple (by decide +kernel) (eLc (own := [("_law_one", 1)]) rfl nd (iTup_ok fx.hZ (eVar 0)) (blkOk_by rfl) (fun _ h => h) (fun _ _ _ _ _ => (gVar_ok (i := 1) nd rfl (by first | exact .inl rfl | exact .inr rfl) (by first | exact .inl rfl | exact .inr rfl))) (fun _ _ _ _ _ => pts0) (fun _ _ _ _ _ => (eCall c__law_deep hr rfl (aCons_ok (eVar 1) aNil_ok))))) (eVar 0)))))
abbrev s__law_spoilt : Stmt := topS 72
theorem sc__law_spoilt : FnScope ["_law_found", "_law_one"] ["_law_found"] (defScope s__law_spoilt) := ⟨rfl, rfl, rfl, by decide +kernel, rfl, by decide +kernel, by decide +kernel⟩
theorem ok__law_spoilt {P : Program} {w : World} {K : PySem.W.Frag} {mg : Str → Option Value} {base : Heap} {Z : Par} {f : Addr} {fd : FuncData} (fx : Fx K mg Z) (FD : FunD K "_law_spoilt" "_law_spoilt" (defArgs s__law_spoilt) (defBody s__law_spoilt) (defScope s__law_spoilt) [] [] f fd) (hm : mg "_law_spoilt" = some (.ref f)) (hk : PySem.W.keepIn K (.ref f) = true) (hb : Binds K fd ["_law_found"] []) : ∀ n : Nat, FnOk P w K mg base CX0 n f fd ["_law_found"] (spF Z (F__law_spoilt n))
  | 0 => ⟨fun vs H Q E ⟨_, _, _, _, e, _⟩ => (by cases e), fun A outer s H args us vs Q E _ _ _ _ ⟨_, _, _, _, e, _⟩ => (by cases e)⟩
  | n + 1 => by
      have c__law_spoilt : Cal P w K mg base Z n "_law_spoilt" (F__law_spoilt n) := ⟨f, fd, ["_law_found"], hm, hk, hb, ok__law_spoilt fx FD hm hk hb n⟩
      exact fn_ok FD sc__law_spoilt rfl rfl fun cdv A outer s H E hr => by
        have nd := sc__law_spoilt.nd
        have hu := un65 hr
        exact (sSeq_ok (sIf_ok (xVal (eIsLT rfl fx.n_isinstance (eVar 0) rfl fx.n_list rfl fx.n_tuple))
  (sOne_ok (sFor_ok PassesOwn.never rfl (iSeq_ok fx.hZ (eVar 0)) (gVar_ok (i := 1) nd rfl (by first | exact .inl rfl | exact .inr rfl) (by first | exact .inl rfl | exact .inr rfl))
  (sOne_ok (sEx_ok (eCall c__law_spoilt hr rfl (aCons_ok (eVar 1) aNil_ok))))))
  sNop_ok)
  (sOne_ok (sIf_ok (xVal (eIsList rfl fx.n_isinstance (eVar 0) rfl fx.n_list))
  (sOne_ok (sEx_ok (eApp rfl (eVar 0) (eTup aNil_ok))))
  sNop_ok)))
abbrev s__law_put : Stmt := topS 73
theorem sc__law_put : FnScope ["_law_handed", "_law_some", "_law_row", "_law_other"] ["_law_handed", "_law_some"] (defScope s__law_put) := ⟨rfl, rfl, rfl, by decide +kernel, rfl, by decide +kernel, by decide +kernel⟩
theorem ok__law_put {P : Program} {w : World} {K : PySem.W.Frag} {mg : Str → Option Value} {base : Heap} {Z : Par} {f : Addr} {fd : FuncData} (fx : Fx K mg Z) (FD : FunD K "_law_put" "_law_put" (defArgs s__law_put) (defBody s__law_put) (defScope s__law_put) [] [] f fd) (c__law_deep : Cal P w K mg base Z 6 "_law_deep" (F__law_deep 6)) : FnOk P w K mg base CX0 7 f fd ["_law_handed", "_law_some"] (spF Z F__law_put) := fn_ok FD sc__law_put rfl rfl fun cdv A outer s H E hr => by
  have nd := sc__law_put.nd
  have hu := un65 hr
  exact (sOne_ok (sFor_ok PassesOwn.never rfl (iZip_ok fx.hZ rfl fx.n_zip (eVar 0) (eVar 1)) (gTup_ok rfl (gCons_ok (gVar_ok (i := 2) nd rfl (by first | exact .inl rfl | exact .inr rfl) (by first | exact .inl rfl | exact .inr rfl)) (gCons_ok (gVar_ok (i := 3) nd rfl (by first | exact .inl rfl | exact .inr rfl) (by first | exact .inl rfl | exact .inr rfl)) gNil_ok)) rfl rfl (gs1 (gs1 gs0)))
  (sSeq_ok (sWh_ok PassesOwn.never (CJ.x (jNe fx.hZ hu) (eVar 2) (eLst aNil_ok) rfl)
  (sOne_ok (sEx_ok (ePop rfl (eVar 2)))))
  (sOne_ok (sEx_ok (eExt rfl (eVar 2) (eCall c__law_deep (hr.mono (by decide)) rfl (aCons_ok (eVar 3) aNil_ok))))))))
abbrev s__law_two : Stmt := topS 75
theorem sc__law_two : FnScope ["_law_found"] ["_law_found"] (defScope s__law_two) := ⟨rfl, rfl, rfl, by decide +kernel, rfl, by decide +kernel, by decide +kernel⟩
theorem ok__law_two {P : Program} {w : World} {K : PySem.W.Frag} {mg : Str → Option Value} {base : Heap} {Z : Par} {f : Addr} {fd : FuncData} (fx : Fx K mg Z) (FD : FunD K "_law_two" "_law_two" (defArgs s__law_two) (defBody s__law_two) (defScope s__law_two) [] [] f fd)  : FnOk P w K mg base CX0 1 f fd ["_law_found"] (spF Z F__law_two) := fn_ok FD sc__law_two rfl rfl fun cdv A outer s H E hr => by
  have nd := sc__law_two.nd
  have hu := un65 hr
  exact (sOne_ok (sRet_ok (eTup (aCons_ok (eVar 0) (aCons_ok (eVar 0) aNil_ok)))))
abbrev s__law_why : Stmt := topS 77
theorem sc__law_why : FnScope ["_law_words", "_law_part", "_law_found"] ["_law_words", "_law_part"] (defScope s__law_why) := ⟨rfl, rfl, rfl, by decide +kernel, rfl, by decide +kernel, by decide +kernel⟩
theorem ok__law_why {P : Program} {w : World} {K : PySem.W.Frag} {mg : Str → Option Value} {base : Heap} {Z : Par} {f : Addr} {fd : FuncData} (fx : Fx K mg Z) (FD : FunD K "_law_why" "_law_why" (defArgs s__law_why) (defBody s__law_why) (defScope s__law_why) [] [] f fd) (c_why : Cal P w K mg base Z 6 "why" F_why) (c__law_deep : Cal P w K mg base Z 6 "_law_deep" (F__law_deep 6)) (m_Gone_shows : Mt P w K mg base Z 2 "shows" 1 F_Gone_shows) (m_Stands_shows : Mt P w K mg base Z 2 "shows" 0 F_Stands_shows) : FnOk P w K mg base CX0 7 f fd ["_law_words", "_law_part"] (spF Z F__law_why) := fn_ok FD sc__law_why rfl rfl fun cdv A outer s H E hr => by
  have nd := sc__law_why.nd
  have hu := un65 hr
  exact (sSeq_ok (sSet_ok (i := 2) nd rfl (by first | exact .inl rfl | exact .inr rfl) (eCall c_why (hr.mono (by decide)) rfl (aCons_ok (eVar 0) (aCons_ok (eVar 1) aNil_ok))))
  (sOne_ok (sRet_ok (eTup (aCons_ok (eLst (aCons_ok (eIsCls rfl fx.n_isinstance (eVar 2) fx.hZ fx.C (by decide) rfl fx.k_Stands) (aCons_ok (eMth (k := 6) (.cons (m_Stands_shows.mono (by decide)) (.cons (m_Gone_shows.mono (by decide)) .nil)) fx.C (fx.nm (m := "shows") (by decide) (by decide +kernel)) hr (eVar 2) (aCons_ok (eCall c__law_deep (hr.mono (by decide)) rfl (aCons_ok (eVar 0) aNil_ok)) (aCons_ok (eVar 1) aNil_ok))) aNil_ok))) (aCons_ok (eLst aNil_ok) aNil_ok))))))
abbrev s__law_liked : Stmt := topS 78
theorem sc__law_liked : FnScope ["_law_words", "_law_likes", "_law_found"] ["_law_words", "_law_likes"] (defScope s__law_liked) := ⟨rfl, rfl, rfl, by decide +kernel, rfl, by decide +kernel, by decide +kernel⟩
theorem ok__law_liked {P : Program} {w : World} {K : PySem.W.Frag} {mg : Str → Option Value} {base : Heap} {Z : Par} {f : Addr} {fd : FuncData} (fx : Fx K mg Z) (FD : FunD K "_law_liked" "_law_liked" (defArgs s__law_liked) (defBody s__law_liked) (defScope s__law_liked) [] [] f fd) (c_liked : Cal P w K mg base Z 6 "liked" F_liked) (c__law_deep : Cal P w K mg base Z 6 "_law_deep" (F__law_deep 6)) (m_Liked_shows : Mt P w K mg base Z 3 "shows" 3 F_Liked_shows) : FnOk P w K mg base CX0 7 f fd ["_law_words", "_law_likes"] (spF Z F__law_liked) := fn_ok FD sc__law_liked rfl rfl fun cdv A outer s H E hr => by
  have nd := sc__law_liked.nd
  have hu := un65 hr
  exact (sSeq_ok (sSet_ok (i := 2) nd rfl (by first | exact .inl rfl | exact .inr rfl) (eCall c_liked (hr.mono (by decide)) rfl (aCons_ok (eVar 0) (aCons_ok (eVar 1) aNil_ok))))
  (sOne_ok (sRet_ok (eTup (aCons_ok (eLst (aCons_ok (eMth (k := 6) (.cons (m_Liked_shows.mono (by decide)) .nil) fx.C (fx.nm (m := "shows") (by decide) (by decide +kernel)) hr (eVar 2) (aCons_ok (eCall c__law_deep (hr.mono (by decide)) rfl (aCons_ok (eVar 0) aNil_ok)) (aCons_ok (eList rfl fx.n_list (by decide +kernel) (eVar 1)) aNil_ok))) aNil_ok)) (aCons_ok (eLst (aCons_ok (eFld fx.C (fx.at 0 rfl) (by decide) (eVar 2)) (aCons_ok (eFld fx.C (fx.at 1 rfl) (by decide) (eVar 2)) aNil_ok))) aNil_ok))))))
abbrev s__law_gone : Stmt := topS 79
theorem sc__law_gone : FnScope ["_law_words", "_law_part", "_law_mays", "_law_found", "_law_some"] ["_law_words", "_law_part", "_law_mays"] (defScope s__law_gone) := ⟨rfl, rfl, rfl, by decide +kernel, rfl, by decide +kernel, by decide +kernel⟩
theorem ok__law_gone {P : Program} {w : World} {K : PySem.W.Frag} {mg : Str → Option Value} {base : Heap} {Z : Par} {f : Addr} {fd : FuncData} (fx : Fx K mg Z) (FD : FunD K "_law_gone" "_law_gone" (defArgs s__law_gone) (defBody s__law_gone) (defScope s__law_gone) [] [] f fd) (c_gone_on : Cal P w K mg base Z 7 "gone_on" F_gone_on) (c__law_deep : Cal P w K mg base Z 6 "_law_deep" (F__law_deep 6)) (m_Turns_shows : Mt P w K mg base Z 4 "shows" 4 F_Turns_shows) : FnOk P w K mg base CX0 8 f fd ["_law_words", "_law_part", "_law_mays"] (spF Z F__law_gone) := fn_ok FD sc__law_gone rfl rfl fun cdv A outer s H E hr => by
  have nd := sc__law_gone.nd
  have hu := un65 hr
  exact (sSeq_ok (sSet_ok (i := 3) nd rfl (by first | exact .inl rfl | exact .inr rfl) (eCall c_gone_on (hr.mono (by decide)) rfl (aCons_ok (eVar 0) (aCons_ok (eVar 1) (aCons_ok (eVar 2) (aCons_ok eInt (aCons_ok eInt aNil_ok)))))))
  (sSeq_ok (sSet_ok (i := 4) nd rfl (by first | exact .inl rfl | exact .inr rfl) (eIte (xVal (eIsCls rfl fx.n_isinstance (eVar 3) fx.hZ fx.C (by decide) rfl fx.k_Turns)) (eFld fx.C (fx.at 2 rfl) (by decide) (eVar 3)) (eFld fx.C (fx.at 7 rfl) (by decide) (eVar 3))))
  (sOne_ok (sRet_ok (eTup (aCons_ok (eLst (aCons_ok (eIsCls rfl fx.n_isinstance (eVar 3) fx.hZ fx.C (by decide) rfl fx.k_Turns) (aCons_ok (eMth (k := 7) (.cons (m_Turns_shows.mono (by decide)) .nil) fx.C (fx.nm (m := "shows") (by decide) (by decide +kernel)) hr (eVar 3) (aCons_ok (eCall c__law_deep (hr.mono (by decide)) rfl (aCons_ok (eVar 0) aNil_ok)) (aCons_ok (eVar 1) (aCons_ok (eList rfl fx.n_list (by decide +kernel) (eVar 2)) (aCons_ok eInt (aCons_ok eInt aNil_ok)))))) aNil_ok))) (aCons_ok (eVar 4) aNil_ok)))))))
abbrev s__law_desk : Stmt := topS 80
theorem sc__law_desk : FnScope ["_law_words", "_law_desk_here", "_law_found"] ["_law_words"] (defScope s__law_desk) := ⟨rfl, rfl, rfl, by decide +kernel, rfl, by decide +kernel, by decide +kernel⟩
theorem ok__law_desk {P : Program} {w : World} {K : PySem.W.Frag} {mg : Str → Option Value} {base : Heap} {Z : Par} {f : Addr} {fd : FuncData} (fx : Fx K mg Z) (FD : FunD K "_law_desk" "_law_desk" (defArgs s__law_desk) (defBody s__law_desk) (defScope s__law_desk) [] [] f fd) (c__law_two : Cal P w K mg base Z 1 "_law_two" F__law_two) (m_Desk_my_ends : Mt P w K mg base Z 8 "my_ends" 6 F_Desk_my_ends) (m_Desk_ways : Mt P w K mg base Z 7 "ways" 6 F_Desk_ways) (m_Desk_waiting : Mt P w K mg base Z 7 "waiting" 6 F_Desk_waiting) (m_Desk_standing : Mt P w K mg base Z 3 "standing" 6 F_Desk_standing) (m_Desk_words : Mt P w K mg base Z 1 "words" 6 F_Desk_words) (m_Desk_hear : Mt P w K mg base Z 6 "hear" 6 F_Desk_hear) (k_Desk : Mkr P w K mg base Z 4 "Desk" 6 F_Desk_init) : FnOk P w K mg base CX0 9 f fd ["_law_words"] (spF Z F__law_desk) := fn_ok FD sc__law_desk rfl rfl fun cdv A outer s H E hr => by
  have nd := sc__law_desk.nd
  have hu := un65 hr
  exact (sSeq_ok (sSet_ok (i := 1) nd rfl (by first | exact .inl rfl | exact .inr rfl) (eMk k_Desk (hr.mono (by decide)) rfl (aCons_ok eInt (aCons_ok eInt aNil_ok))))
  (sSeq_ok (sSet_ok (i := 2) nd rfl (by first | exact .inl rfl | exact .inr rfl) (eLst (aCons_ok (eMth (k := 8) (.cons (m_Desk_hear.mono (by decide)) .nil) fx.C (fx.nm (m := "hear") (by decide) (by decide +kernel)) hr (eVar 1) (aCons_ok (eVar 0) aNil_ok)) (aCons_ok (eMth0 (k := 8) (.cons (m_Desk_words.mono (by decide)) .nil) fx.C (fx.nm (m := "words") (by decide) (by decide +kernel)) hr (eVar 1)) (aCons_ok (eMth0 (k := 8) (.cons (m_Desk_standing.mono (by decide)) .nil) fx.C (fx.nm (m := "standing") (by decide) (by decide +kernel)) hr (eVar 1)) (aCons_ok (eMth0 (k := 8) (.cons (m_Desk_waiting.mono (by decide)) .nil) fx.C (fx.nm (m := "waiting") (by decide) (by decide +kernel)) hr (eVar 1)) (aCons_ok (eMth0 (k := 8) (.cons (m_Desk_ways.mono (by decide)) .nil) fx.C (fx.nm (m := "ways") (by decide) (by decide +kernel)) hr (eVar 1)) (aCons_ok (eMth0 (k := 8) (.cons (m_Desk_my_ends.mono (by decide)) .nil) fx.C (fx.nm (m := "my_ends") (by decide) (by decide +kernel)) hr (eVar 1)) aNil_ok))))))))
  (sOne_ok (sRet_ok (eCall c__law_two (hr.mono (by decide)) rfl (aCons_ok (eAdd (eVar 2) (eLst (aCons_ok (eMth0 (k := 8) (.cons (m_Desk_words.mono (by decide)) .nil) fx.C (fx.nm (m := "words") (by decide) (by decide +kernel)) hr (eVar 1)) (aCons_ok (eMth0 (k := 8) (.cons (m_Desk_standing.mono (by decide)) .nil) fx.C (fx.nm (m := "standing") (by decide) (by decide +kernel)) hr (eVar 1)) (aCons_ok (eMth0 (k := 8) (.cons (m_Desk_waiting.mono (by decide)) .nil) fx.C (fx.nm (m := "waiting") (by decide) (by decide +kernel)) hr (eVar 1)) (aCons_ok (eMth0 (k := 8) (.cons (m_Desk_ways.mono (by decide)) .nil) fx.C (fx.nm (m := "ways") (by decide) (by decide +kernel)) hr (eVar 1)) aNil_ok)))))) aNil_ok))))))
abbrev s_law : Stmt := topS 81
def stL (l : List Stmt) (i : Nat) : Stmt := l.getD i (.Pass ⟨0, 0, 0, 0⟩)
def forB : Stmt → List Stmt
  | .For (body := b) .. => b
  | _ => []
def nonE : Expr := .Constant .none 0 ⟨0, 0, 0, 0⟩
def asgV : Stmt → Expr
  | .Assign (value := v) .. => v
  | _ => nonE
def ifT : Stmt → Expr
  | .If (test := t) .. => t
  | _ => nonE
def eltE (e : Expr) (i : Nat) : Expr := match e with
  | .List (elts := l) .. => l.getD i nonE
  | _ => nonE
def binR : Expr → Expr
  | .BinOp (right := r) .. => r
  | _ => nonE
def opdE : Expr → Expr
  | .UnaryOp (operand := r) .. => r
  | _ => nonE
def argE (e : Expr) (i : Nat) : Expr := match e with
  | .Call (args := l) .. => l.getD i nonE
  | _ => nonE
def lamA : Expr → Arguments
  | .Lambda (args := a) .. => a
  | _ => ⟨[], [], none, [], [], none, []⟩
def lamB : Expr → Expr
  | .Lambda (body := a) .. => a
  | _ => nonE
def lamSc : Expr → Scope
  | .Lambda (scope := a) .. => a
  | _ => { kind := .function, names := [], isGenerator := false, isCoroutine := false }
theorem lamK_ok {js : List Nat} {b : D} {g : List W} {l : List W} {h : Hh} {k : KW} (e : lamK js b g l h k = true) : l.length = 1 ∧ slots g js (fun ws => b (l ++ ws) h k) = true := by
  unfold lamK at e
  cases z : Nat.beq l.length 1 with
  | false => rw [z] at e; cases e
  | true => rw [z] at e; exact ⟨Nat.eq_of_beq_eq_true z, e⟩
theorem LOk.mono {P : Program} {w : World} {K : PySem.W.Frag} {mg : Str → Option Value} {base : Heap} {j k : Nat} {F : LW} {fr : List Str} {sp : List (Option V) → Sp} (o : LOk P w K mg base j F fr sp) (h : j ≤ k) : LOk P w K mg base k F fr sp := ⟨fun A outer s H us vs ws Q E f c hr => o.run A outer s H us vs ws Q E f c (hr.mono h)⟩
def lamE : Nat → Expr
  | 0 => (eltE (asgV (stL (forB (stL (defBody s_law) 2)) 3)) 1)
  | 1 => (eltE (asgV (stL (forB (stL (defBody s_law) 2)) 3)) 0)
  | 2 => (eltE (binR (asgV (stL (forB (stL (defBody s_law) 2)) 4))) 1)
  | 3 => (eltE (binR (asgV (stL (forB (stL (defBody s_law) 2)) 4))) 0)
  | 4 => (eltE (binR (asgV (stL (forB (stL (defBody s_law) 2)) 5))) 1)
  | 5 => (eltE (binR (asgV (stL (forB (stL (defBody s_law) 2)) 5))) 0)
  | 6 => (eltE (binR (argE (opdE (ifT (stL (forB (stL (defBody s_law) 2)) 6))) 0)) 0)
  | 7 => (eltE (asgV (stL (forB (stL (defBody s_law) 2)) 7)) 0)
  | 8 => (eltE (asgV (stL (defBody s_law) 3)) 0)
  | 9 => (eltE (asgV (stL (defBody s_law) 7)) 1)
  | 10 => (eltE (asgV (stL (defBody s_law) 7)) 0)
  | _ => .Constant .none 0 ⟨0, 0, 0, 0⟩
def lw (qn : Str) (cells : List (Str × Addr)) (q : Nat) : LW := ⟨qn, lamA (lamE q), lamB (lamE q), lamSc (lamE q), cloFrom cells (lamSc (lamE q)).names []⟩
def lfr : Nat → List Str
  | 0 => ["_law_part", "_law_here"]
  | 1 => ["_law_part"]
  | 2 => []
  | 3 => []
  | 4 => ["_law_part", "_law_rest"]
  | 5 => []
  | 6 => []
  | 7 => []
  | 8 => []
  | 9 => ["_law_made"]
  | 10 => []
  | _ => []
def ljs : Nat → List Nat
  | 0 => [0, 2]
  | 1 => [0]
  | 2 => []
  | 3 => []
  | 4 => [0, 1]
  | 5 => []
  | 6 => []
  | 7 => []
  | 8 => []
  | 9 => [3]
  | 10 => []
  | _ => []
noncomputable def lbd : Nat → D
  | 0 => B_0
  | 1 => B_1
  | 2 => B_2
  | 3 => B_3
  | 4 => B_4
  | 5 => B_5
  | 6 => B_6
  | 7 => B_7
  | 8 => B_8
  | 9 => B_9
  | 10 => B_10
  | _ => dNev
theorem lsc_0 {qn : Str} {cells : List (Str × Addr)} : NdefX.NScope ["_law_one", "_law_part", "_law_here"] ["_law_one"] (lfr 0) (lw qn cells 0).scope := NdefX.nscope_by (show NdefX.nscB ["_law_one", "_law_part", "_law_here"] ["_law_one"] (lfr 0) (lamSc (lamE 0)) = true by decide +kernel)
theorem lok_0 {P : Program} {w : World} {K : PySem.W.Frag} {mg : Str → Option Value} {base : Heap} {Z : Par} {qn : Str} {cells : List (Str × Addr)} (fx : Fx K mg Z) (c__law_two : Cal P w K mg base Z 1 "_law_two" F__law_two) (m_Gone_shows : Mt P w K mg base Z 2 "shows" 1 F_Gone_shows) (m_Stands_shows : Mt P w K mg base Z 2 "shows" 0 F_Stands_shows) : LOk P w K mg base 3 (lw qn cells 0) (lfr 0) (spL Z B_0) := lok_of lsc_0 (fun pm cv ctv us hl => match us, hl with | [_], _ => rfl) spL_len (fun ws vs H Q E hl h => spL_start (by rw [hl]; rfl) h) fun A outer s H E f c hr => by
  have nd := (lsc_0 (qn := qn) (cells := cells)).nd
  have hu := un65 hr
  exact (eCall c__law_two (hr.mono (by decide)) rfl (aCons_ok (eLst (aCons_ok (eMth (k := 2) (.cons (m_Stands_shows.mono (by decide)) (.cons (m_Gone_shows.mono (by decide)) .nil)) fx.C (fx.nm (m := "shows") (by decide) (by decide +kernel)) hr (eVar 2) (aCons_ok (eIx fx.hZ (eVar 0) eInt) (aCons_ok (eVar 1) aNil_ok))) aNil_ok)) aNil_ok))
theorem lsc_1 {qn : Str} {cells : List (Str × Addr)} : NdefX.NScope ["_law_some", "_law_part"] ["_law_some"] (lfr 1) (lw qn cells 1).scope := NdefX.nscope_by (show NdefX.nscB ["_law_some", "_law_part"] ["_law_some"] (lfr 1) (lamSc (lamE 1)) = true by decide +kernel)
theorem lok_1 {P : Program} {w : World} {K : PySem.W.Frag} {mg : Str → Option Value} {base : Heap} {Z : Par} {qn : Str} {cells : List (Str × Addr)} (fx : Fx K mg Z) (c__law_why : Cal P w K mg base Z 7 "_law_why" F__law_why) : LOk P w K mg base 8 (lw qn cells 1) (lfr 1) (spL Z B_1) := lok_of lsc_1 (fun pm cv ctv us hl => match us, hl with | [_], _ => rfl) spL_len (fun ws vs H Q E hl h => spL_start (by rw [hl]; rfl) h) fun A outer s H E f c hr => by
  have nd := (lsc_1 (qn := qn) (cells := cells)).nd
  have hu := un65 hr
  exact (eCall c__law_why (hr.mono (by decide)) rfl (aCons_ok (eIx fx.hZ (eVar 0) eInt) (aCons_ok (eVar 1) aNil_ok)))
theorem lsc_2 {qn : Str} {cells : List (Str × Addr)} : NdefX.NScope ["_law_one"] ["_law_one"] (lfr 2) (lw qn cells 2).scope := NdefX.nscope_by (show NdefX.nscB ["_law_one"] ["_law_one"] (lfr 2) (lamSc (lamE 2)) = true by decide +kernel)
theorem lok_2 {P : Program} {w : World} {K : PySem.W.Frag} {mg : Str → Option Value} {base : Heap} {Z : Par} {qn : Str} {cells : List (Str × Addr)} (fx : Fx K mg Z) (c__law_two : Cal P w K mg base Z 1 "_law_two" F__law_two) (c_waiting_telling : Cal P w K mg base Z 6 "waiting_telling" F_waiting) : LOk P w K mg base 7 (lw qn cells 2) (lfr 2) (spL Z B_2) := lok_of lsc_2 (fun pm cv ctv us hl => match us, hl with | [_], _ => rfl) spL_len (fun ws vs H Q E hl h => spL_start (by rw [hl]; rfl) h) fun A outer s H E f c hr => by
  have nd := (lsc_2 (qn := qn) (cells := cells)).nd
  have hu := un65 hr
  exact (eCall c__law_two (hr.mono (by decide)) rfl (aCons_ok (eCall c_waiting_telling (hr.mono (by decide)) rfl (aCons_ok (eIx fx.hZ (eVar 0) eInt) aNil_ok)) aNil_ok))
theorem lsc_3 {qn : Str} {cells : List (Str × Addr)} : NdefX.NScope ["_law_some"] ["_law_some"] (lfr 3) (lw qn cells 3).scope := NdefX.nscope_by (show NdefX.nscB ["_law_some"] ["_law_some"] (lfr 3) (lamSc (lamE 3)) = true by decide +kernel)
theorem lok_3 {P : Program} {w : World} {K : PySem.W.Frag} {mg : Str → Option Value} {base : Heap} {Z : Par} {qn : Str} {cells : List (Str × Addr)} (fx : Fx K mg Z) (c__law_two : Cal P w K mg base Z 1 "_law_two" F__law_two) (c_standing : Cal P w K mg base Z 6 "standing" F_standing) : LOk P w K mg base 7 (lw qn cells 3) (lfr 3) (spL Z B_3) := lok_of lsc_3 (fun pm cv ctv us hl => match us, hl with | [_], _ => rfl) spL_len (fun ws vs H Q E hl h => spL_start (by rw [hl]; rfl) h) fun A outer s H E f c hr => by
  have nd := (lsc_3 (qn := qn) (cells := cells)).nd
  have hu := un65 hr
  exact (eCall c__law_two (hr.mono (by decide)) rfl (aCons_ok (eCall c_standing (hr.mono (by decide)) rfl (aCons_ok (eIx fx.hZ (eVar 0) eInt) aNil_ok)) aNil_ok))
theorem lsc_4 {qn : Str} {cells : List (Str × Addr)} : NdefX.NScope ["_law_one", "_law_part", "_law_rest"] ["_law_one"] (lfr 4) (lw qn cells 4).scope := NdefX.nscope_by (show NdefX.nscB ["_law_one", "_law_part", "_law_rest"] ["_law_one"] (lfr 4) (lamSc (lamE 4)) = true by decide +kernel)
theorem lok_4 {P : Program} {w : World} {K : PySem.W.Frag} {mg : Str → Option Value} {base : Heap} {Z : Par} {qn : Str} {cells : List (Str × Addr)} (fx : Fx K mg Z) (c__law_two : Cal P w K mg base Z 1 "_law_two" F__law_two) (c_may_go_on : Cal P w K mg base Z 6 "may_go_on" F_may_go_on) : LOk P w K mg base 7 (lw qn cells 4) (lfr 4) (spL Z B_4) := lok_of lsc_4 (fun pm cv ctv us hl => match us, hl with | [_], _ => rfl) spL_len (fun ws vs H Q E hl h => spL_start (by rw [hl]; rfl) h) fun A outer s H E f c hr => by
  have nd := (lsc_4 (qn := qn) (cells := cells)).nd
  have hu := un65 hr
  exact (eCall c__law_two (hr.mono (by decide)) rfl (aCons_ok (eCall c_may_go_on (hr.mono (by decide)) rfl (aCons_ok (eIx fx.hZ (eVar 0) eInt) (aCons_ok (eVar 1) (aCons_ok (eVar 2) aNil_ok)))) aNil_ok))
theorem lsc_5 {qn : Str} {cells : List (Str × Addr)} : NdefX.NScope ["_law_some"] ["_law_some"] (lfr 5) (lw qn cells 5).scope := NdefX.nscope_by (show NdefX.nscB ["_law_some"] ["_law_some"] (lfr 5) (lamSc (lamE 5)) = true by decide +kernel)
theorem lok_5 {P : Program} {w : World} {K : PySem.W.Frag} {mg : Str → Option Value} {base : Heap} {Z : Par} {qn : Str} {cells : List (Str × Addr)} (fx : Fx K mg Z) (c__law_two : Cal P w K mg base Z 1 "_law_two" F__law_two) (c_ways_telling : Cal P w K mg base Z 6 "ways_telling" F_ways) : LOk P w K mg base 7 (lw qn cells 5) (lfr 5) (spL Z B_5) := lok_of lsc_5 (fun pm cv ctv us hl => match us, hl with | [_], _ => rfl) spL_len (fun ws vs H Q E hl h => spL_start (by rw [hl]; rfl) h) fun A outer s H E f c hr => by
  have nd := (lsc_5 (qn := qn) (cells := cells)).nd
  have hu := un65 hr
  exact (eCall c__law_two (hr.mono (by decide)) rfl (aCons_ok (eCall c_ways_telling (hr.mono (by decide)) rfl (aCons_ok (eIx fx.hZ (eVar 0) eInt) aNil_ok)) aNil_ok))
theorem lsc_6 {qn : Str} {cells : List (Str × Addr)} : NdefX.NScope ["_law_some"] ["_law_some"] (lfr 6) (lw qn cells 6).scope := NdefX.nscope_by (show NdefX.nscB ["_law_some"] ["_law_some"] (lfr 6) (lamSc (lamE 6)) = true by decide +kernel)
theorem lok_6 {P : Program} {w : World} {K : PySem.W.Frag} {mg : Str → Option Value} {base : Heap} {Z : Par} {qn : Str} {cells : List (Str × Addr)} (fx : Fx K mg Z) (c__law_desk : Cal P w K mg base Z 9 "_law_desk" F__law_desk) : LOk P w K mg base 10 (lw qn cells 6) (lfr 6) (spL Z B_6) := lok_of lsc_6 (fun pm cv ctv us hl => match us, hl with | [_], _ => rfl) spL_len (fun ws vs H Q E hl h => spL_start (by rw [hl]; rfl) h) fun A outer s H E f c hr => by
  have nd := (lsc_6 (qn := qn) (cells := cells)).nd
  have hu := un65 hr
  exact (eCall c__law_desk (hr.mono (by decide)) rfl (aCons_ok (eIx fx.hZ (eVar 0) eInt) aNil_ok))
theorem lsc_7 {qn : Str} {cells : List (Str × Addr)} : NdefX.NScope ["_law_some"] ["_law_some"] (lfr 7) (lw qn cells 7).scope := NdefX.nscope_by (show NdefX.nscB ["_law_some"] ["_law_some"] (lfr 7) (lamSc (lamE 7)) = true by decide +kernel)
theorem lok_7 {P : Program} {w : World} {K : PySem.W.Frag} {mg : Str → Option Value} {base : Heap} {Z : Par} {qn : Str} {cells : List (Str × Addr)} (fx : Fx K mg Z) (c__law_gone : Cal P w K mg base Z 8 "_law_gone" F__law_gone) : LOk P w K mg base 9 (lw qn cells 7) (lfr 7) (spL Z B_7) := lok_of lsc_7 (fun pm cv ctv us hl => match us, hl with | [_], _ => rfl) spL_len (fun ws vs H Q E hl h => spL_start (by rw [hl]; rfl) h) fun A outer s H E f c hr => by
  have nd := (lsc_7 (qn := qn) (cells := cells)).nd
  have hu := un65 hr
  exact (eCall c__law_gone (hr.mono (by decide)) rfl (aCons_ok (eIx fx.hZ (eVar 0) eInt) (aCons_ok (eTup (aCons_ok eInt (aCons_ok eInt aNil_ok))) (aCons_ok (eIx fx.hZ (eVar 0) eInt) aNil_ok))))
theorem lsc_8 {qn : Str} {cells : List (Str × Addr)} : NdefX.NScope ["_law_some"] ["_law_some"] (lfr 8) (lw qn cells 8).scope := NdefX.nscope_by (show NdefX.nscB ["_law_some"] ["_law_some"] (lfr 8) (lamSc (lamE 8)) = true by decide +kernel)
theorem lok_8 {P : Program} {w : World} {K : PySem.W.Frag} {mg : Str → Option Value} {base : Heap} {Z : Par} {qn : Str} {cells : List (Str × Addr)} (fx : Fx K mg Z) (c__law_two : Cal P w K mg base Z 1 "_law_two" F__law_two) (c_joined : Cal P w K mg base Z 6 "joined" F_joined) : LOk P w K mg base 7 (lw qn cells 8) (lfr 8) (spL Z B_8) := lok_of lsc_8 (fun pm cv ctv us hl => match us, hl with | [_], _ => rfl) spL_len (fun ws vs H Q E hl h => spL_start (by rw [hl]; rfl) h) fun A outer s H E f c hr => by
  have nd := (lsc_8 (qn := qn) (cells := cells)).nd
  have hu := un65 hr
  exact (eCall c__law_two (hr.mono (by decide)) rfl (aCons_ok (eCall c_joined (hr.mono (by decide)) rfl (aCons_ok (eIx fx.hZ (eVar 0) eInt) (aCons_ok (eIx fx.hZ (eVar 0) eInt) aNil_ok))) aNil_ok))
theorem lsc_9 {qn : Str} {cells : List (Str × Addr)} : NdefX.NScope ["_law_one", "_law_made"] ["_law_one"] (lfr 9) (lw qn cells 9).scope := NdefX.nscope_by (show NdefX.nscB ["_law_one", "_law_made"] ["_law_one"] (lfr 9) (lamSc (lamE 9)) = true by decide +kernel)
theorem lok_9 {P : Program} {w : World} {K : PySem.W.Frag} {mg : Str → Option Value} {base : Heap} {Z : Par} {qn : Str} {cells : List (Str × Addr)} (fx : Fx K mg Z) (c__law_two : Cal P w K mg base Z 1 "_law_two" F__law_two) (m_Liked_shows : Mt P w K mg base Z 3 "shows" 3 F_Liked_shows) : LOk P w K mg base 4 (lw qn cells 9) (lfr 9) (spL Z B_9) := lok_of lsc_9 (fun pm cv ctv us hl => match us, hl with | [_], _ => rfl) spL_len (fun ws vs H Q E hl h => spL_start (by rw [hl]; rfl) h) fun A outer s H E f c hr => by
  have nd := (lsc_9 (qn := qn) (cells := cells)).nd
  have hu := un65 hr
  exact (eCall c__law_two (hr.mono (by decide)) rfl (aCons_ok (eLst (aCons_ok (eMth (k := 3) (.cons (m_Liked_shows.mono (by decide)) .nil) fx.C (fx.nm (m := "shows") (by decide) (by decide +kernel)) hr (eVar 1) (aCons_ok (eIx fx.hZ (eVar 0) eInt) (aCons_ok (eIx fx.hZ (eVar 0) eInt) aNil_ok))) aNil_ok)) aNil_ok))
theorem lsc_10 {qn : Str} {cells : List (Str × Addr)} : NdefX.NScope ["_law_some"] ["_law_some"] (lfr 10) (lw qn cells 10).scope := NdefX.nscope_by (show NdefX.nscB ["_law_some"] ["_law_some"] (lfr 10) (lamSc (lamE 10)) = true by decide +kernel)
theorem lok_10 {P : Program} {w : World} {K : PySem.W.Frag} {mg : Str → Option Value} {base : Heap} {Z : Par} {qn : Str} {cells : List (Str × Addr)} (fx : Fx K mg Z) (c__law_liked : Cal P w K mg base Z 7 "_law_liked" F__law_liked) : LOk P w K mg base 8 (lw qn cells 10) (lfr 10) (spL Z B_10) := lok_of lsc_10 (fun pm cv ctv us hl => match us, hl with | [_], _ => rfl) spL_len (fun ws vs H Q E hl h => spL_start (by rw [hl]; rfl) h) fun A outer s H E f c hr => by
  have nd := (lsc_10 (qn := qn) (cells := cells)).nd
  have hu := un65 hr
  exact (eCall c__law_liked (hr.mono (by decide)) rfl (aCons_ok (eIx fx.hZ (eVar 0) eInt) (aCons_ok (eIx fx.hZ (eVar 0) eInt) aNil_ok)))
theorem lams_run {P : Program} {w : World} {K : PySem.W.Frag} {mg : Str → Option Value} {base : Heap} {Z : Par} {qn : Str} {cells : List (Str × Addr)} {g : List W} (fx : Fx K mg Z) (c__law_two : Cal P w K mg base Z 1 "_law_two" F__law_two) (m_Gone_shows : Mt P w K mg base Z 2 "shows" 1 F_Gone_shows) (m_Stands_shows : Mt P w K mg base Z 2 "shows" 0 F_Stands_shows) (c__law_why : Cal P w K mg base Z 7 "_law_why" F__law_why) (c_waiting_telling : Cal P w K mg base Z 6 "waiting_telling" F_waiting) (c_standing : Cal P w K mg base Z 6 "standing" F_standing) (c_may_go_on : Cal P w K mg base Z 6 "may_go_on" F_may_go_on) (c_ways_telling : Cal P w K mg base Z 6 "ways_telling" F_ways) (c__law_desk : Cal P w K mg base Z 9 "_law_desk" F__law_desk) (c__law_gone : Cal P w K mg base Z 8 "_law_gone" F__law_gone) (c_joined : Cal P w K mg base Z 6 "joined" F_joined) (m_Liked_shows : Mt P w K mg base Z 3 "shows" 3 F_Liked_shows) (c__law_liked : Cal P w K mg base Z 7 "_law_liked" F__law_liked) : ∀ q l h kk, LT g q l h kk = true → LOk P w K mg base 10 (lw qn cells q) (lfr q) (spL Z (lbd q)) ∧ l.length = 1 ∧ slots g (ljs q) (fun ws => lbd q (l ++ ws) h kk) = true := fun q l h kk e => by
  match q, e with
  | 0, e => exact ⟨(lok_0 fx c__law_two m_Gone_shows m_Stands_shows).mono (by decide), lamK_ok e⟩
  | 1, e => exact ⟨(lok_1 fx c__law_why).mono (by decide), lamK_ok e⟩
  | 2, e => exact ⟨(lok_2 fx c__law_two c_waiting_telling).mono (by decide), lamK_ok e⟩
  | 3, e => exact ⟨(lok_3 fx c__law_two c_standing).mono (by decide), lamK_ok e⟩
  | 4, e => exact ⟨(lok_4 fx c__law_two c_may_go_on).mono (by decide), lamK_ok e⟩
  | 5, e => exact ⟨(lok_5 fx c__law_two c_ways_telling).mono (by decide), lamK_ok e⟩
  | 6, e => exact ⟨(lok_6 fx c__law_desk).mono (by decide), lamK_ok e⟩
  | 7, e => exact ⟨(lok_7 fx c__law_gone).mono (by decide), lamK_ok e⟩
  | 8, e => exact ⟨(lok_8 fx c__law_two c_joined).mono (by decide), lamK_ok e⟩
  | 9, e => exact ⟨(lok_9 fx c__law_two m_Liked_shows).mono (by decide), lamK_ok e⟩
  | 10, e => exact ⟨(lok_10 fx c__law_liked).mono (by decide), lamK_ok e⟩
  | n + 11, e => cases e
-- lams_run needs: c__law_two m_Gone_shows m_Stands_shows c__law_why c_waiting_telling c_standing c_may_go_on c_ways_telling c__law_desk c__law_gone c_joined m_Liked_shows c__law_liked
abbrev s__law_door_right : Stmt := topS 74
theorem sc__law_door_right : FnScope ["_law_ask", "_law_lists", "_law_others", "_law_handed", "_law_fixed", "_law_told_lists", "_law_text", "_law_due", "_law_some", "_law_again"] ["_law_ask", "_law_lists", "_law_others"] (defScope s__law_door_right) := ⟨rfl, rfl, rfl, by decide +kernel, rfl, by decide +kernel, by decide +kernel⟩
theorem ok__law_door_right {P : Program} {w : World} {K : PySem.W.Frag} {mg : Str → Option Value} {base : Heap} {Z : Par} {f : Addr} {fd : FuncData} {g : List W} {cs : List Addr} {oc : Addr → Obj} {wv : List (Option V)} {F0 : Nat → LW} {fr0 : Nat → List Str} {js0 : Nat → List Nat} {b0 : Nat → D} (fx : Fx K mg Z) (FD : FunD K "_law_door_right" "_law_door_right" (defArgs s__law_door_right) (defBody s__law_door_right) (defScope s__law_door_right) [] [] f fd) (c__law_deep : Cal P w K mg base Z 6 "_law_deep" (F__law_deep 6)) (c__law_spoilt : Cal P w K mg base Z 6 "_law_spoilt" (F__law_spoilt 6)) (c__law_put : Cal P w K mg base Z 7 "_law_put" F__law_put) (T : Lams P w K mg base Z 10 (LT g) cs oc g wv F0 fr0 js0 b0) : FnOkG P w K mg base 11 f fd ["_law_ask", "_law_lists", "_law_others"] (spF Z (F__law_door_right g)) := fn_okG FD sc__law_door_right rfl rfl fun cdv A outer s H E hr hgu => by
  have nd := sc__law_door_right.nd
  have hu := un65 hr
  exact (sSeq_ok (sSet_ok (i := 3) nd rfl (by first | exact .inl rfl | exact .inr rfl) (eCall c__law_deep (hr.mono (by decide)) rfl (aCons_ok (eVar 1) aNil_ok)))
  (sSeq_ok (sUnp_ok (gTup_ok rfl (gCons_ok (gVar_ok (i := 4) nd rfl (by first | exact .inl rfl | exact .inr rfl) (by first | exact .inl rfl | exact .inr rfl)) (gCons_ok (gVar_ok (i := 5) nd rfl (by first | exact .inl rfl | exact .inr rfl) (by first | exact .inl rfl | exact .inr rfl)) gNil_ok)) rfl rfl (gs1 (gs1 gs0))) (eClv T (hr.mono (by decide)) rfl (by first | exact .inl rfl | exact .inr (.inl rfl) | exact .inr (.inr rfl)) (aCons_ok (eVar 3) aNil_ok)))
  (sSeq_ok (sPar2_ok rfl nd (hi := rfl) (hj := rfl) (by decide) rfl rfl (aCons_ok (eStr fx.hZ hu hgu rfl fx.n_str (eVar 4)) (aCons_ok (eStr fx.hZ hu hgu rfl fx.n_str (eIx fx.hZ (eClv T (hr.mono (by decide)) rfl (by first | exact .inl rfl | exact .inr (.inl rfl) | exact .inr (.inr rfl)) (aCons_ok (eCall c__law_deep (hr.mono (by decide)) rfl (aCons_ok (eVar 2) aNil_ok)) aNil_ok)) eInt)) aNil_ok)) rfl)
  (sSeq_ok (sIf_ok (CJ.x (jNe fx.hZ hu) (eVar 3) (eVar 1) rfl)
  (sOne_ok (sRet_ok eBl))
  sNop_ok)
  (sSeq_ok (sEx_ok (eCall c__law_spoilt (hr.mono (by decide)) rfl (aCons_ok (eVar 5) aNil_ok)))
  (sSeq_ok (sIf_ok (PW.pt (wOr (CJ.x (jNe fx.hZ hu) (eStr fx.hZ hu hgu rfl fx.n_str (eIx fx.hZ (eClv T (hr.mono (by decide)) rfl (by first | exact .inl rfl | exact .inr (.inl rfl) | exact .inr (.inr rfl)) (aCons_ok (eVar 3) aNil_ok)) eInt)) (eVar 6) rfl) (wOr1 (CJ.x (jNe fx.hZ hu) (eVar 3) (eVar 1) rfl))))
  (sOne_ok (sRet_ok eBl))
  sNop_ok)
  (sSeq_ok (sFor_ok PassesOwn.never rfl (iTup_ok fx.hZ (eTup (aCons_ok (eTup (aCons_ok (eVar 2) (aCons_ok (eVar 7) aNil_ok))) (aCons_ok (eTup (aCons_ok (eVar 1) (aCons_ok (eVar 6) aNil_ok))) aNil_ok)))) (gTup_ok rfl (gCons_ok (gVar_ok (i := 8) nd rfl (by first | exact .inl rfl | exact .inr rfl) (by first | exact .inl rfl | exact .inr rfl)) (gCons_ok (gVar_ok (i := 9) nd rfl (by first | exact .inl rfl | exact .inr rfl) (by first | exact .inl rfl | exact .inr rfl)) gNil_ok)) rfl rfl (gs1 (gs1 gs0)))
  (sSeq_ok (sEx_ok (eCall c__law_put (hr.mono (by decide)) rfl (aCons_ok (eVar 3) (aCons_ok (eVar 8) aNil_ok))))
  (sOne_ok (sIf_ok (PW.pt (wOr (CJ.x (jNe fx.hZ hu) (eStr fx.hZ hu hgu rfl fx.n_str (eIx fx.hZ (eClv T (hr.mono (by decide)) rfl (by first | exact .inl rfl | exact .inr (.inl rfl) | exact .inr (.inr rfl)) (aCons_ok (eVar 3) aNil_ok)) eInt)) (eVar 9) rfl) (wOr1 (CJ.x (jNe fx.hZ hu) (eVar 3) (eVar 8) rfl))))
  (sOne_ok (sRet_ok eBl))
  sNop_ok))))
  (sOne_ok (sRet_ok eBl)))))))))
abbrev s__law_doors_right : Stmt := topS 76
theorem sc__law_doors_right : FnScope ["_law_asks", "_law_lists", "_law_others", "_law_ask"] ["_law_asks", "_law_lists", "_law_others"] (defScope s__law_doors_right) := ⟨rfl, rfl, rfl, by decide +kernel, rfl, by decide +kernel, by decide +kernel⟩
theorem ok__law_doors_right {P : Program} {w : World} {K : PySem.W.Frag} {mg : Str → Option Value} {base : Heap} {Z : Par} {f : Addr} {fd : FuncData} {g : List W} {cs : List Addr} {oc : Addr → Obj} {wv : List (Option V)} {F0 : Nat → LW} {fr0 : Nat → List Str} {js0 : Nat → List Nat} {b0 : Nat → D} (fx : Fx K mg Z) (FD : FunD K "_law_doors_right" "_law_doors_right" (defArgs s__law_doors_right) (defBody s__law_doors_right) (defScope s__law_doors_right) [] [] f fd) (c_door : CalG P w K mg base Z 11 "_law_door_right" (F__law_door_right g)) : FnOkG P w K mg base 12 f fd ["_law_asks", "_law_lists", "_law_others"] (spF Z (F__law_doors_right g)) := fn_okG FD sc__law_doors_right rfl rfl fun cdv A outer s H E hr hgu => by
  have nd := sc__law_doors_right.nd
  have hu := un65 hr
  exact (sOne_ok (sRet_ok (eAll rfl rfl fx.n_all (by decide +kernel) (eLc (own := [("_law_ask", 3)]) rfl nd (iSeq_ok fx.hZ (eVar 0)) (blkOk_by rfl) (fun _ h => h) (fun _ _ _ _ _ => (gVar_ok (i := 3) nd rfl (by first | exact .inl rfl | exact .inr rfl) (by first | exact .inl rfl | exact .inr rfl))) (fun _ _ _ _ _ => pts0) (fun _ _ _ _ _ => (eCallG c_door (hr.mono (by decide)) hgu rfl (aCons_ok (eVar 3) (aCons_ok (eVar 1) (aCons_ok (eVar 2) aNil_ok)))))))))
-- levels: {'lam': 10, '_law_door_right': 11, '_law_doors_right': 12}
end G
/-! K33: the draws. -/
namespace G
open PySem PySem.Spec PyProof.Rows L2
/-- nothing is gone -/
def Grown (H H' : Hp) : Prop := ∀ b o, H b = some o → H' b = some o
section
variable {P : Program} {w : World} {K : PySem.W.Frag} {mg : Str → Option Value} {base : Heap} {f : Addr} {fd : FuncData}
abbrev s_cell : Stmt := topS 68
theorem sc_cell : FnScope ["_law_script", "_law_k"] ["_law_script", "_law_k"] (defScope s_cell) := ⟨rfl, rfl, rfl, by decide +kernel, rfl, by decide +kernel, by decide +kernel⟩
def spCell (K : PySem.W.Frag) : Sp := fun vs H Q _ => ∃ (a : Addr) (ns : List Int) (k : Nat), vs = [.ref a, .int k] ∧ SqL K H a (ns.map V.int) ∧ ∀ c : Int, Q (.int c) H
theorem ok_cell (FD : FunD K "_law_cell_at" "_law_cell_at" (defArgs s_cell) (defBody s_cell) (defScope s_cell) [] [] f fd) (nl : mg "len" = none) : FnOk P w K mg base CX0 1 f fd ["_law_script", "_law_k"] (spCell K) := by
  refine FD.ok sc_cell (fun vs H Q E h => ?_) fun cdv A outer s H vs Q E hr h => ⟨_, PSs.nox (pss_cons (ps_if (pt_cmpR op_lt (pv 1) (pe_callB call_len rfl nl boot_len (pa_cons (pv 0) pa_nil)) (nomark _)) (pss_one (ps_ret (pe_ix ix_seq (pv 0) (pv 1) fun _ _ => rfl))) pss_nil) (pss_one (ps_ret pe_int))), ?_⟩
  · obtain ⟨a, ns, k, rfl, _⟩ := h; rfl
  · obtain ⟨a, ns, k, rfl, hS, q⟩ := h
    refine ⟨.int k, rfl, .ref a, rfl, _, (ns.map V.int).length, rfl, Or.inl ⟨_, hS, rfl⟩, _, _, rfl, rfl, _, rfl, ?_⟩
    by_cases hk : (k : Int) < ((ns.map V.int).length : Int)
    · have hk' : k < ns.length := by rw [List.length_map] at hk; omega
      rw [decide_eq_true hk]
      dsimp only
      rw [if_pos rfl]
      refine ⟨.ref a, rfl, .int k, rfl, Or.inl ⟨a, _, (k : Int), .int ns[k], rfl, rfl, hS, atI_nat ?_, q _⟩⟩
      rw [List.getElem?_map, List.getElem?_eq_getElem hk']; rfl
    · rw [decide_eq_false hk]
      dsimp only
      rw [if_neg (by decide)]
      exact q 0
/-! ### _law_draw -/
abbrev s_draw : Stmt := topS 69
theorem sc_draw : FnScope ["_law_cell", "_law_k", "_law_most", "_law_primes"] ["_law_cell", "_law_k", "_law_most"] (defScope s_draw) := ⟨rfl, rfl, rfl, by decide +kernel, rfl, by decide +kernel, by decide +kernel⟩
def primesL : List Int := [1000003, 1000033, 1000037, 1000039, 1000081, 1000099, 1000117, 1000121, 1000133, 1000151, 1000159, 1000171, 1000183, 1000187, 1000193, 1000199]
def spDraw : Sp := fun vs H Q _ => ∃ (c : Int) (k : Nat) (m : Int), vs = [.int c, .int k, .int m] ∧ k < 1000 ∧ 0 < m ∧ ∀ r H', Grown H H' → Q (.int r) H'
theorem ok_draw (FD : FunD K "_law_draw" "_law_draw" (defArgs s_draw) (defBody s_draw) (defScope s_draw) [] [] f fd) : FnOk P w K mg base CX0 1 f fd ["_law_cell", "_law_k", "_law_most"] spDraw := by
  refine FD.ok sc_draw (fun vs H Q E h => ?_) fun cdv A outer s H vs Q E hr h => ⟨_, PSs.nox (pss_cons (ps_set (i := 3) sc_draw.nd rfl (Or.inl rfl) (pe_tup (pa_cons pe_int (pa_cons pe_int (pa_cons pe_int (pa_cons pe_int (pa_cons pe_int (pa_cons pe_int (pa_cons pe_int (pa_cons pe_int (pa_cons pe_int (pa_cons pe_int (pa_cons pe_int (pa_cons pe_int (pa_cons pe_int (pa_cons pe_int (pa_cons pe_int (pa_cons pe_int pa_nil))))))))))))))))))
    (pss_one (ps_ret (pe_op op_mod (pe_op op_mod (pe_op op_add (pe_op op_mul (pv 0) pe_int) (pe_op op_mul (pv 1) pe_int)) (pe_ix ix_seq (pv 3) (pe_op op_mod (pv 1) pe_int) fun _ _ => rfl)) (pv 2))))), ?_⟩
  · obtain ⟨c, k, m, rfl, _⟩ := h; rfl
  · obtain ⟨c, k, m, rfl, hk, hm, q⟩ := h
    refine ⟨by decide, fun p np => ?_⟩
    have e1 : (k : Int) % 16 = ((k % 16 : Nat) : Int) := by omega
    have hlt : k % 16 < primesL.length := Nat.mod_lt _ (by decide)
    have hpos : ∀ x ∈ primesL, 0 < x := by decide
    have l0 : (L2.start ["_law_cell", "_law_k", "_law_most", "_law_primes"] [V.int c, V.int (k : Int), V.int m]).set 3 (some (V.ref p)) = [some (V.int c), some (V.int (k : Int)), some (V.int m), some (V.ref p)] := rfl
    show (fun σ H => _) ((L2.start ["_law_cell", "_law_k", "_law_most", "_law_primes"] [V.int c, V.int (k : Int), V.int m]).set 3 (some (V.ref p))) _
    rw [l0]
    refine ⟨.int c, rfl, c, 48271, rfl, rfl, Or.inr (by decide), .int k, rfl, (k : Int), 69621, rfl, rfl, Or.inr (by decide), _, _, rfl, rfl, .ref p, rfl, .int k, rfl, (k : Int), 16, rfl, rfl, (by decide : (0 : Int) < 16), Or.inr (Or.inl ⟨p, primesL.map V.int, ((k : Int) % 16), .int (primesL[k % 16]), rfl, rfl, Or.inl (Or.inl upd_same), ?_, ?_⟩)⟩
    · rw [e1]
      refine atI_nat ?_
      rw [List.getElem?_map, List.getElem?_eq_getElem hlt]; rfl
    · refine ⟨_, _, rfl, rfl, hpos _ (List.getElem_mem hlt), .int m, rfl, _, _, rfl, rfl, hm, q _ _ fun b o hb => ?_⟩
      unfold upd
      by_cases hbp : b = p
      · subst hbp; rw [np] at hb; cases hb
      · rw [if_neg hbp]; exact hb
/-! ### _law_number -/
abbrev s_number : Stmt := topS 70
theorem sc_number : FnScope ["_law_cell", "_law_k", "_law_limit", "_law_small"] ["_law_cell", "_law_k", "_law_limit"] (defScope s_number) := ⟨rfl, rfl, rfl, by decide +kernel, rfl, by decide +kernel, by decide +kernel⟩
def spNumber : Sp := fun vs H Q _ => ∃ (c : Int) (k : Nat), vs = [.int c, .int k, .int 3] ∧ k < 1000 ∧ ∀ r H', 0 ≤ r → r < 3 → Grown H H' → Q (.int r) H'
def sevensL : List Int := [1, 7, 49, 343, 2401]
theorem ok_number {fe : Addr} {de : FuncData} (FD : FunD K "_law_number" "_law_number" (defArgs s_number) (defBody s_number) (defScope s_number) [] [] f fd) (g1 : mg "_law_draw" = some (.ref fe)) (g2 : PySem.W.keepIn K (.ref fe) = true) (g3 : Binds K de ["_law_cell", "_law_k", "_law_most"] []) (g4 : FnOk P w K mg base CX0 1 fe de ["_law_cell", "_law_k", "_law_most"] spDraw) : FnOk P w K mg base CX0 2 f fd ["_law_cell", "_law_k", "_law_limit"] spNumber := by
  refine FD.ok sc_number (fun vs H Q E h => ?_) fun cdv A outer s H vs Q E hr h => ⟨_, PSs.nox (pss_cons (ps_if (pt_cmpR op_ge (pv 0) (pe_op op_pow pe_int pe_int) (nomark _)) (pss_one (ps_ret (pe_op op_mod (pe_op op_fdiv (pe_op op_sub (pv 0) (pe_op op_pow pe_int pe_int)) (pe_ix ix_seq (pe_tup (pa_cons pe_int (pa_cons pe_int (pa_cons pe_int (pa_cons pe_int (pa_cons pe_int pa_nil)))))) (pe_op op_mod (pv 1) pe_int) fun _ _ => rfl)) (pv 2)))) pss_nil)
    (pss_cons (ps_set (i := 3) sc_number.nd rfl (Or.inl rfl) (pe_op op_mod (pv 0) pe_int))
    (pss_one (ps_ret (pe_op op_mod (pe_call g4 hr rfl g1 g2 g3 (dvs := []) (ds := []) .nil pass0 (pa_cons (pe_op op_mul (pe_op op_add (pv 3) (pe_op op_mul pe_int (pv 1))) (pe_op op_add (pe_op op_add (pv 3) (pe_op op_mul pe_int (pv 1))) pe_int)) (pa_cons (pe_op op_add (pe_op op_mod (pv 1) pe_int) pe_int) (pa_cons pe_int pa_nil)))) (pv 2)))))), ?_⟩
  · obtain ⟨c, k, rfl, _⟩ := h; rfl
  · obtain ⟨c, k, rfl, hk, q⟩ := h
    refine ⟨.int c, rfl, 10, 18, rfl, rfl, ⟨by decide, by decide, by decide⟩, c, _, rfl, rfl, _, rfl, ?_⟩
    have m3 : ∀ z : Int, 0 ≤ z % 3 ∧ z % 3 < 3 := fun z => by omega
    by_cases hc : (10 : Int) ^ (18 : Int).toNat ≤ c
    · rw [decide_eq_true hc]
      dsimp only
      rw [if_pos rfl]
      have e1 : (k : Int) % 5 = ((k % 5 : Nat) : Int) := by omega
      have hlt : k % 5 < sevensL.length := Nat.mod_lt _ (by decide)
      have hpos : ∀ x ∈ sevensL, 0 < x ∧ x < 1073741824 := by decide
      refine ⟨.int c, rfl, 10, 18, rfl, rfl, ⟨by decide, by decide, by decide⟩, c, _, rfl, rfl, by decide, fun p np => ⟨.int k, rfl, (k : Int), 5, rfl, rfl, (by decide : (0 : Int) < 5), Or.inr (Or.inl ⟨p, sevensL.map V.int, ((k : Int) % 5), .int (sevensL[k % 5]), rfl, rfl, Or.inl (Or.inl upd_same), ?_, ?_⟩)⟩⟩
      · rw [e1]
        refine atI_nat ?_
        rw [List.getElem?_map, List.getElem?_eq_getElem hlt]; rfl
      · refine ⟨_, _, rfl, rfl, hpos _ (List.getElem_mem hlt), .int 3, rfl, _, _, rfl, rfl, (by decide : (0 : Int) < 3), q _ _ (m3 _).1 (m3 _).2 fun b o hb => ?_⟩
        unfold upd
        by_cases hbp : b = p
        · subst hbp; rw [np] at hb; cases hb
        · rw [if_neg hbp]; exact hb
    · rw [decide_eq_false hc]
      dsimp only
      rw [if_neg (by decide)]
      refine ⟨.int c, rfl, c, 1000003, rfl, rfl, (by decide : (0 : Int) < 1000003), ?_⟩
      have hb : 0 ≤ c % 1000003 ∧ c % 1000003 < 1000003 := by omega
      dsimp only [gName]
      generalize c % 1000003 = t at hb ⊢
      have l0 : (L2.start ["_law_cell", "_law_k", "_law_limit", "_law_small"] [V.int c, V.int (k : Int), V.int 3]).set 3 (some (V.int t)) = [some (V.int c), some (V.int (k : Int)), some (V.int 3), some (V.int t)] := rfl
      rw [l0]
      refine ⟨.int t, rfl, .int k, rfl, 977, k, rfl, rfl, Or.inl (by decide), t, _, rfl, rfl, .int t, rfl, .int k, rfl, 31, k, rfl, rfl, Or.inl (by decide), t, _, rfl, rfl, _, 5, rfl, rfl, t + 977 * k, t + 31 * k + 5, rfl, rfl, ?_, .int k, rfl, k, 9, rfl, rfl, (by decide : (0 : Int) < 9), _, 1, rfl, rfl, ?_⟩
      · left; constructor <;> omega
      · refine ⟨(t + 977 * k) * (t + 31 * k + 5), k % 9 + 1, 999983, ?_, by omega, by decide, fun r H' g => ⟨.int 3, rfl, r, 3, rfl, rfl, (by decide : (0 : Int) < 3), q _ _ (m3 _).1 (m3 _).2 g⟩⟩
        have e9 : (k : Int) % 9 + 1 = ((k % 9 + 1 : Nat) : Int) := by omega
        rw [← e9]; rfl
end
end G
/-! K34: the three parts of law (printed by gen3.py). -/
namespace G
open PySem PySem.Spec PyProof.Rows L2
abbrev NL : List Str := ["_law_script", "_law_words", "_law_other", "_law_by", "_law_part", "_law_rest", "_law_here", "_law_asks", "_law_likes", "_law_more", "_law_made"]
abbrev CY : List Str := ["_law_part", "_law_rest", "_law_here", "_law_made"]
theorem sc_law : FnScope NL ["_law_script"] (defScope s_law) := ⟨rfl, rfl, rfl, by decide +kernel, rfl, by decide +kernel, by decide +kernel⟩
theorem hfr_0 : ∀ y ∈ (lamSc (lamE 0)).names, y.2 = .free → (defScope s_law).names.lookup y.1 = some .cell ∨ (defScope s_law).names.lookup y.1 = some .free := by decide +kernel
theorem hfr_1 : ∀ y ∈ (lamSc (lamE 1)).names, y.2 = .free → (defScope s_law).names.lookup y.1 = some .cell ∨ (defScope s_law).names.lookup y.1 = some .free := by decide +kernel
theorem hfr_2 : ∀ y ∈ (lamSc (lamE 2)).names, y.2 = .free → (defScope s_law).names.lookup y.1 = some .cell ∨ (defScope s_law).names.lookup y.1 = some .free := by decide +kernel
theorem hfr_3 : ∀ y ∈ (lamSc (lamE 3)).names, y.2 = .free → (defScope s_law).names.lookup y.1 = some .cell ∨ (defScope s_law).names.lookup y.1 = some .free := by decide +kernel
theorem hfr_4 : ∀ y ∈ (lamSc (lamE 4)).names, y.2 = .free → (defScope s_law).names.lookup y.1 = some .cell ∨ (defScope s_law).names.lookup y.1 = some .free := by decide +kernel
theorem hfr_5 : ∀ y ∈ (lamSc (lamE 5)).names, y.2 = .free → (defScope s_law).names.lookup y.1 = some .cell ∨ (defScope s_law).names.lookup y.1 = some .free := by decide +kernel
theorem hfr_6 : ∀ y ∈ (lamSc (lamE 6)).names, y.2 = .free → (defScope s_law).names.lookup y.1 = some .cell ∨ (defScope s_law).names.lookup y.1 = some .free := by decide +kernel
theorem hfr_7 : ∀ y ∈ (lamSc (lamE 7)).names, y.2 = .free → (defScope s_law).names.lookup y.1 = some .cell ∨ (defScope s_law).names.lookup y.1 = some .free := by decide +kernel
theorem hfr_8 : ∀ y ∈ (lamSc (lamE 8)).names, y.2 = .free → (defScope s_law).names.lookup y.1 = some .cell ∨ (defScope s_law).names.lookup y.1 = some .free := by decide +kernel
theorem hfr_9 : ∀ y ∈ (lamSc (lamE 9)).names, y.2 = .free → (defScope s_law).names.lookup y.1 = some .cell ∨ (defScope s_law).names.lookup y.1 = some .free := by decide +kernel
theorem hfr_10 : ∀ y ∈ (lamSc (lamE 10)).names, y.2 = .free → (defScope s_law).names.lookup y.1 = some .cell ∨ (defScope s_law).names.lookup y.1 = some .free := by decide +kernel
theorem hky : ∀ y ∈ CY, (defScope s_law).names.lookup y = some .cell := by decide +kernel
theorem law_pre {P : Program} {w : World} {K : PySem.W.Frag} {mg : Str → Option Value} {base : Heap} {Z : Par} {f Pt cd : Addr} {cs : List Addr} {A : Around} {outer : List Env} {s : Shared} {H : Hp} {E : XK} {F : Nat → LW} {qn : Str} (eF : F = lw ((envOfC "law" (defScope s_law) s.heap.objs.size f (.ref cd)).qual ++ "<lambda>") (envOfC "law" (defScope s_law) s.heap.objs.size f (.ref cd)).cells) (eq : qn = (envOfC "law" (defScope s_law) s.heap.objs.size f (.ref cd)).qual ++ "<lambda>") (fx : Fx K mg (Zd Z cs F Pt qn)) (TB : LamX.TabB base mg cd Pt) (hin : ∀ c ∈ cs, ∃ y, (envOfC "law" (defScope s_law) s.heap.objs.size f (.ref cd)).cells.lookup y = some c) (hcs : CY.map (fun y => (envOfC "law" (defScope s_law) s.heap.objs.size f (.ref cd)).cells.lookup y) = cs.map some) (hd : ∀ oc g wv, CellV cs oc wv → CalG P w K mg base (Zg (Zd Z cs F Pt qn) cs oc g wv) 12 "_law_doors_right" (F__law_doors_right g)) (hmx : ∃ f, mg "_law_doors_right" = some (.ref f) ∧ PySem.W.keepIn K (.ref f) = true) 
  (hr : Room 12 (A.deeper (envOfC "law" (defScope s_law) s.heap.objs.size f (.ref cd)))) (hgu : (A.deeper (envOfC "law" (defScope s_law) s.heap.objs.size f (.ref cd))).guards = some []) : ∃ d1 d2 : DT, T_pre = sSeq d1 d2 ∧ PS (cxOf CX0 P w K mg base NL "law" (defScope s_law) f (.ref cd) A outer s H E).nox (stL (defBody s_law) 0) (tS (Zd Z cs F Pt qn) d1) ∧ PS (cxOf CX0 P w K mg base NL "law" (defScope s_law) f (.ref cd) A outer s H E).nox (stL (defBody s_law) 1) (tS (Zd Z cs F Pt qn) d2) := by
  subst eF eq
  have nd := sc_law.nd
  have hu := un65 hr
  have hcode : (envOfC "law" (defScope s_law) s.heap.objs.size f (.ref cd)).code = .ref cd := rfl
  exact ⟨_, _, rfl, (sSet_ok (i := 1) nd rfl (by first | exact .inl rfl | exact .inr rfl) (eLst (aCons_ok (eTup (aCons_ok eSp (aCons_ok eInt (aCons_ok eInt (aCons_ok eNon aNil_ok))))) (aCons_ok (eTup (aCons_ok eSp (aCons_ok eInt (aCons_ok eInt (aCons_ok (eTup (aCons_ok eInt (aCons_ok eInt aNil_ok))) aNil_ok))))) (aCons_ok (eTup (aCons_ok eSp (aCons_ok eInt (aCons_ok eInt (aCons_ok (eTup (aCons_ok eInt (aCons_ok eInt aNil_ok))) aNil_ok))))) (aCons_ok (eTup (aCons_ok eSp (aCons_ok eInt (aCons_ok eInt (aCons_ok (eTup (aCons_ok eInt (aCons_ok eInt aNil_ok))) aNil_ok))))) aNil_ok)))))), (sSet_ok (i := 2) nd rfl (by first | exact .inl rfl | exact .inr rfl) (eLst (aCons_ok (eTup (aCons_ok eSp (aCons_ok eInt (aCons_ok eInt (aCons_ok eNon aNil_ok))))) (aCons_ok (eTup (aCons_ok eSp (aCons_ok eInt (aCons_ok eInt (aCons_ok (eTup (aCons_ok eInt (aCons_ok eInt aNil_ok))) aNil_ok))))) (aCons_ok (eTup (aCons_ok eSp (aCons_ok eInt (aCons_ok eInt (aCons_ok (eTup (aCons_ok eInt (aCons_ok eInt aNil_ok))) aNil_ok))))) (aCons_ok (eTup (aCons_ok eSo (aCons_ok eInt (aCons_ok eInt aNil_ok)))) aNil_ok))))))⟩
theorem law_turn {P : Program} {w : World} {K : PySem.W.Frag} {mg : Str → Option Value} {base : Heap} {Z : Par} {f Pt cd : Addr} {cs : List Addr} {A : Around} {outer : List Env} {s : Shared} {H : Hp} {E : XK} {F : Nat → LW} {qn : Str} (eF : F = lw ((envOfC "law" (defScope s_law) s.heap.objs.size f (.ref cd)).qual ++ "<lambda>") (envOfC "law" (defScope s_law) s.heap.objs.size f (.ref cd)).cells) (eq : qn = (envOfC "law" (defScope s_law) s.heap.objs.size f (.ref cd)).qual ++ "<lambda>") (fx : Fx K mg (Zd Z cs F Pt qn)) (TB : LamX.TabB base mg cd Pt) (hin : ∀ c ∈ cs, ∃ y, (envOfC "law" (defScope s_law) s.heap.objs.size f (.ref cd)).cells.lookup y = some c) (hcs : CY.map (fun y => (envOfC "law" (defScope s_law) s.heap.objs.size f (.ref cd)).cells.lookup y) = cs.map some) (hd : ∀ oc g wv, CellV cs oc wv → CalG P w K mg base (Zg (Zd Z cs F Pt qn) cs oc g wv) 12 "_law_doors_right" (F__law_doors_right g)) (hmx : ∃ f, mg "_law_doors_right" = some (.ref f) ∧ PySem.W.keepIn K (.ref f) = true) (c_why : Cal P w K mg base (Zd Z cs F Pt qn) 6 "why" F_why)
  (hr : Room 12 (A.deeper (envOfC "law" (defScope s_law) s.heap.objs.size f (.ref cd)))) (hgu : (A.deeper (envOfC "law" (defScope s_law) s.heap.objs.size f (.ref cd))).guards = some []) : PSs (cxOf CX0 P w K mg base NL "law" (defScope s_law) f (.ref cd) A outer s H E).nox ((forB (stL (defBody s_law) 2)).drop 2) (tS (Zd Z cs F Pt qn) T_turn) := by
  subst eF eq
  have nd := sc_law.nd
  have hu := un65 hr
  have hcode : (envOfC "law" (defScope s_law) s.heap.objs.size f (.ref cd)).code = .ref cd := rfl
  exact (sSeq_ok (sSet_ok (i := 6) nd rfl (by first | exact .inl rfl | exact .inr rfl) (eCall c_why (hr.mono (by decide)) rfl (aCons_ok (eVar 1) (aCons_ok (eVar 4) aNil_ok))))
  (sSeq_ok (sSet_ok (i := 7) nd rfl (by first | exact .inl rfl | exact .inr rfl) (eLst (aCons_ok (eLam (q := 1) TB hcode hin (by rfl) (hdef := by rfl) (hfr_1)) (aCons_ok (eLam (q := 0) TB hcode hin (by rfl) (hdef := by rfl) (hfr_0)) aNil_ok))))
  (sSeq_ok (sSet_ok (i := 7) nd rfl (by first | exact .inl rfl | exact .inr rfl) (eAdd (eVar 7) (eLst (aCons_ok (eLam (q := 3) TB hcode hin (by rfl) (hdef := by rfl) (hfr_3)) (aCons_ok (eLam (q := 2) TB hcode hin (by rfl) (hdef := by rfl) (hfr_2)) aNil_ok)))))
  (sSeq_ok (sSet_ok (i := 7) nd rfl (by first | exact .inl rfl | exact .inr rfl) (eAdd (eVar 7) (eLst (aCons_ok (eLam (q := 5) TB hcode hin (by rfl) (hdef := by rfl) (hfr_5)) (aCons_ok (eLam (q := 4) TB hcode hin (by rfl) (hdef := by rfl) (hfr_4)) aNil_ok)))))
  (sSeq_ok (sIf_ok (xNot (xVal (eCallC (js := [4, 5, 6, 10]) (cy := CY) (fun _ => rfl) (fun _ _ _ => trivial) rfl hky hcs (fun _ _ _ => apt_d) hd (hr.mono (by decide)) hgu rfl hmx (aCons_ok (eAdd (eVar 7) (eLst (aCons_ok (eLam (q := 6) TB hcode hin (by rfl) (hdef := by rfl) (hfr_6)) aNil_ok))) (aCons_ok (eLst (aCons_ok (eVar 1) aNil_ok)) (aCons_ok (eLst (aCons_ok (eVar 2) aNil_ok)) aNil_ok))))))
  (sOne_ok (sRet_ok eBl))
  sNop_ok)
  (sSeq_ok (sSet_ok (i := 7) nd rfl (by first | exact .inl rfl | exact .inr rfl) (eLst (aCons_ok (eLam (q := 7) TB hcode hin (by rfl) (hdef := by rfl) (hfr_7)) aNil_ok)))
  (sOne_ok (sIf_ok (xNot (xVal (eCallC (js := [4, 5, 6, 10]) (cy := CY) (fun _ => rfl) (fun _ _ _ => trivial) rfl hky hcs (fun _ _ _ => apt_d) hd (hr.mono (by decide)) hgu rfl hmx (aCons_ok (eVar 7) (aCons_ok (eLst (aCons_ok (eVar 1) (aCons_ok (eLst (aCons_ok eInt (aCons_ok eInt (aCons_ok eInt (aCons_ok eInt (aCons_ok eInt (aCons_ok eInt aNil_ok))))))) aNil_ok))) (aCons_ok (eLst (aCons_ok (eVar 2) (aCons_ok (eLst (aCons_ok eInt (aCons_ok eInt (aCons_ok eInt (aCons_ok eInt (aCons_ok eInt (aCons_ok eInt aNil_ok))))))) aNil_ok))) aNil_ok))))))
  (sOne_ok (sRet_ok eBl))
  sNop_ok))))))))
theorem law_tail {P : Program} {w : World} {K : PySem.W.Frag} {mg : Str → Option Value} {base : Heap} {Z : Par} {f Pt cd : Addr} {cs : List Addr} {A : Around} {outer : List Env} {s : Shared} {H : Hp} {E : XK} {F : Nat → LW} {qn : Str} (eF : F = lw ((envOfC "law" (defScope s_law) s.heap.objs.size f (.ref cd)).qual ++ "<lambda>") (envOfC "law" (defScope s_law) s.heap.objs.size f (.ref cd)).cells) (eq : qn = (envOfC "law" (defScope s_law) s.heap.objs.size f (.ref cd)).qual ++ "<lambda>") (fx : Fx K mg (Zd Z cs F Pt qn)) (TB : LamX.TabB base mg cd Pt) (hin : ∀ c ∈ cs, ∃ y, (envOfC "law" (defScope s_law) s.heap.objs.size f (.ref cd)).cells.lookup y = some c) (hcs : CY.map (fun y => (envOfC "law" (defScope s_law) s.heap.objs.size f (.ref cd)).cells.lookup y) = cs.map some) (hd : ∀ oc g wv, CellV cs oc wv → CalG P w K mg base (Zg (Zd Z cs F Pt qn) cs oc g wv) 12 "_law_doors_right" (F__law_doors_right g)) (hmx : ∃ f, mg "_law_doors_right" = some (.ref f) ∧ PySem.W.keepIn K (.ref f) = true) (c_liked : Cal P w K mg base (Zd Z cs F Pt qn) 6 "liked" F_liked)
  (hr : Room 12 (A.deeper (envOfC "law" (defScope s_law) s.heap.objs.size f (.ref cd)))) (hgu : (A.deeper (envOfC "law" (defScope s_law) s.heap.objs.size f (.ref cd))).guards = some []) : PSs (cxOf CX0 P w K mg base NL "law" (defScope s_law) f (.ref cd) A outer s H E).nox ((defBody s_law).drop 3) (tS (Zd Z cs F Pt qn) T_tail) := by
  subst eF eq
  have nd := sc_law.nd
  have hu := un65 hr
  have hcode : (envOfC "law" (defScope s_law) s.heap.objs.size f (.ref cd)).code = .ref cd := rfl
  exact (sSeq_ok (sSet_ok (i := 7) nd rfl (by first | exact .inl rfl | exact .inr rfl) (eLst (aCons_ok (eLam (q := 8) TB hcode hin (by rfl) (hdef := by rfl) (hfr_8)) aNil_ok)))
  (sSeq_ok (sIf_ok (xNot (xVal (eCallC (js := [4, 5, 6, 10]) (cy := CY) (fun _ => rfl) (fun _ _ _ => trivial) rfl hky hcs (fun _ _ _ => apt_d) hd (hr.mono (by decide)) hgu rfl hmx (aCons_ok (eVar 7) (aCons_ok (eLst (aCons_ok (eVar 1) (aCons_ok (eVar 2) aNil_ok))) (aCons_ok (eLst (aCons_ok (eVar 2) (aCons_ok (eVar 1) aNil_ok))) aNil_ok))))))
  (sOne_ok (sRet_ok eBl))
  sNop_ok)
  (sSeq_ok (sPar2_ok rfl nd (hi := rfl) (hj := rfl) (by decide) rfl rfl (aCons_ok (eLst (aCons_ok (eTup (aCons_ok eInt (aCons_ok (eTup (aCons_ok eInt (aCons_ok eInt aNil_ok))) aNil_ok))) (aCons_ok (eTup (aCons_ok eInt (aCons_ok (eTup (aCons_ok eInt (aCons_ok eInt aNil_ok))) aNil_ok))) (aCons_ok (eTup (aCons_ok eInt (aCons_ok (eTup (aCons_ok eInt (aCons_ok eInt aNil_ok))) aNil_ok))) aNil_ok)))) (aCons_ok (eLst (aCons_ok (eTup (aCons_ok eInt (aCons_ok (eTup (aCons_ok eInt (aCons_ok eInt aNil_ok))) aNil_ok))) (aCons_ok (eTup (aCons_ok eInt (aCons_ok (eTup (aCons_ok eInt (aCons_ok eInt aNil_ok))) aNil_ok))) (aCons_ok (eTup (aCons_ok eInt (aCons_ok (eTup (aCons_ok eInt (aCons_ok eInt aNil_ok))) aNil_ok))) aNil_ok)))) aNil_ok)) rfl)
  (sSeq_ok (sSet_ok (i := 10) nd rfl (by first | exact .inl rfl | exact .inr rfl) (eCall c_liked (hr.mono (by decide)) rfl (aCons_ok (eVar 1) (aCons_ok (eVar 8) aNil_ok))))
  (sSeq_ok (sSet_ok (i := 7) nd rfl (by first | exact .inl rfl | exact .inr rfl) (eLst (aCons_ok (eLam (q := 10) TB hcode hin (by rfl) (hdef := by rfl) (hfr_10)) (aCons_ok (eLam (q := 9) TB hcode hin (by rfl) (hdef := by rfl) (hfr_9)) aNil_ok))))
  (sSeq_ok (sIf_ok (xNot (xVal (eCallC (js := [4, 5, 6, 10]) (cy := CY) (fun _ => rfl) (fun _ _ _ => trivial) rfl hky hcs (fun _ _ _ => apt_d) hd (hr.mono (by decide)) hgu rfl hmx (aCons_ok (eVar 7) (aCons_ok (eLst (aCons_ok (eVar 1) (aCons_ok (eVar 8) aNil_ok))) (aCons_ok (eLst (aCons_ok (eVar 1) (aCons_ok (eVar 9) aNil_ok))) aNil_ok))))))
  (sOne_ok (sRet_ok eBl))
  sNop_ok)
  (sOne_ok (sRet_ok (eCallC (js := [4, 5, 6, 10]) (cy := CY) (fun _ => rfl) (fun _ _ _ => trivial) rfl hky hcs (fun _ _ _ => apt_d) hd (hr.mono (by decide)) hgu rfl hmx (aCons_ok (eVar 7) (aCons_ok (eLst (aCons_ok (eVar 1) (aCons_ok (eVar 8) aNil_ok))) (aCons_ok (eLst (aCons_ok (eVar 2) (aCons_ok (eVar 8) aNil_ok))) aNil_ok))))))))))))
end G
/-! K35: the canonical state between two turns. -/
namespace G
noncomputable section
open PySem PySem.Spec PyProof.Rows L2
def isRef (n : Nat) : W → Bool
  | .ref m => Nat.beq m n
  | _ => false
def lsEq : List W → List W → Bool
  | [], [] => true
  | x :: xs, y :: ys => eqT x y (lsEq xs ys)
  | _, _ => false
def tupW (l : List W) : W := toTup l
def iW (n : Nat) : W := .int (.ofNat n)
def wordsW : List W := [tupW [.sp, iW 0, iW 0, .non], tupW [.sp, iW 1, iW 0, tupW [iW 0, iW 0]], tupW [.sp, iW 0, iW 1, tupW [iW 1, iW 0]], tupW [.sp, iW 2, iW 0, tupW [iW 0, iW 0]]]
def otherW : List W := [tupW [.sp, iW 0, iW 0, .non], tupW [.sp, iW 1, iW 0, tupW [iW 0, iW 0]], tupW [.sp, iW 0, iW 1, tupW [iW 1, iW 0]], tupW [.so, iW 1, iW 0]]
/-- cell 0: the table, 1: the script, 2: words, 3: other -/
def hcan : Hh := ⟨4, .nd .tab (.nd .opq (.nd (.lst otherW) .lf .lf) .lf) (.nd (.lst wordsW) .lf .lf)⟩
def chk : KS := fun s h => match Nat.beq s.length 11 with
  | true => nth s 0 fun a => (match isRef 1 a with
    | true => nth s 1 fun a => (match isRef 2 a with
      | true => nth s 2 fun b => (match isRef 3 b with
        | true => geth h 0 fun c => (match c with
          | .tab => geth h 1 fun c => (match c with
            | .opq => geth h 2 fun c => (match c with
              | .lst l => (match lsEq l wordsW with
                | true => geth h 3 fun c => (match c with
                  | .lst l => lsEq l otherW
                  | _ => false)
                | false => false)
              | _ => false)
            | _ => false)
          | _ => false)
        | false => false)
      | false => false)
    | false => false)
  | false => false
def scan (part rest : W) : St := [.ref 1, .ref 2, .ref 3, .und, part, rest, .und, .und, .und, .und, .und]
/-- ahead of law's first statement -/
def hini : Hh := ⟨2, .nd .tab (.nd .opq .lf .lf) .lf⟩
def sini : St := [.ref 1, .und, .und, .und, .und, .und, .und, .und, .und, .und, .und]
def turnB (part rest : W) : Bool := T_turn ⟨chk, fun _ _ => false⟩ (scan part rest) hcan
def tailB : Bool := T_tail ⟨fun _ _ => false, fun w _ => match w with | .bl true => true | _ => false⟩ (scan .und .und) hcan
def preB : Bool := T_pre ⟨chk, fun _ _ => false⟩ sini hini
def partW : Nat → W
  | 0 => tupW [iW 0, iW 0]
  | 1 => tupW [iW 1, iW 0]
  | _ => tupW [iW 0, iW 1]
/-- what the computation answers -/
structure Ev : Prop where
  pre : preB = true
  tail : tailB = true
  turn : ∀ p r : Nat, p < 3 → r < 3 → turnB (partW p) (iW (1 + r)) = true
theorem lsEq_ok : ∀ {a b : List W}, lsEq a b = true → a = b
  | [], [], _ => rfl
  | x :: xs, y :: ys, e => by
    obtain ⟨h1, h2⟩ := eqT_ok x y _ e
    rw [h1, lsEq_ok h2]
  | [], _ :: _, e => by cases e
  | _ :: _, [], e => by cases e
theorem isRef_ok {n : Nat} {w : W} (e : isRef n w = true) : w = .ref n := by
  cases w with
  | ref m => rw [Nat.eq_of_beq_eq_true (show Nat.beq m n = true from e)]
  | _ => cases e
def noref : W → Bool
  | .ref _ => false
  | .tc a b => noref a && noref b
  | _ => true
section
variable {ρ : Nat → Addr} {N N' : Nat} {H : Hp}
theorem RP_nr : ∀ (w : W), noref w = true → (∀ v, RW ρ N H w v → RW ρ N' H w v) ∧ ∀ xs, RT ρ N H w xs → RT ρ N' H w xs
  | .ref _, e => by cases e
  | .tc a b, e => by
    have e' : noref a = true ∧ noref b = true := (Bool.and_eq_true _ _).mp e
    have ia := RP_nr a e'.1
    have ib := RP_nr b e'.2
    exact ⟨fun v ⟨p, x, r, e, h, h1, h2⟩ => ⟨p, x, r, e, h, ia.1 _ h1, ib.2 _ h2⟩, fun xs ⟨x, r, e, h1, h2⟩ => ⟨x, r, e, ia.1 _ h1, ib.2 _ h2⟩⟩
  | .und, _ => ⟨fun _ h => h, fun _ h => h⟩
  | .non, _ => ⟨fun _ h => h, fun _ h => h⟩
  | .bl _, _ => ⟨fun _ h => h, fun _ h => h⟩
  | .int _, _ => ⟨fun _ h => h, fun _ h => h⟩
  | .sp, _ => ⟨fun _ h => h, fun _ h => h⟩
  | .so, _ => ⟨fun _ h => h, fun _ h => h⟩
  | .tn, _ => ⟨fun _ h => h, fun _ h => h⟩
  | .ln, _ => ⟨fun _ h => h, fun _ h => h⟩
  | .lc _ _, _ => ⟨fun _ h => h, fun _ h => h⟩
  | .rep _, _ => ⟨fun _ h => h, fun _ h => h⟩
theorem RL_nr : ∀ {l : List W} {xs : List V}, l.all noref = true → RL ρ N H l xs → RL ρ N' H l xs
  | [], _, _, h => h
  | _ :: _, _, e, ⟨x, r, e1, h1, h2⟩ => by
    have e' := (Bool.and_eq_true _ _).mp (show (_ && _) = true from e)
    exact ⟨x, r, e1, (RP_nr _ e'.1).1 _ h1, RL_nr e'.2 h2⟩
theorem nth_get : ∀ {s : List W} {i : Nat} {k : W → Bool}, nth s i k = true → ∃ w, s[i]? = some w ∧ k w = true
  | [], _, _, e => by cases e
  | x :: _, 0, _, e => ⟨x, rfl, e⟩
  | _ :: xs, n + 1, _, e => nth_get (s := xs) (i := n) e
theorem RSg_get : ∀ {s : List W} {σ : List (Option V)} {i : Nat} {w : W}, RS ρ N H s σ → s[i]? = some w → ∃ x, σ[i]? = some x ∧ (w = .und ∨ ∃ v, x = some v ∧ RW ρ N H w v)
  | [], _, _, _, _, e => by cases e
  | _ :: _, _, 0, _, ⟨x, r, e1, h1, _⟩, e => by cases e; subst e1; exact ⟨x, rfl, h1⟩
  | _ :: l, _, n + 1, _, ⟨x, r, e1, _, h2⟩, e => by subst e1; exact RSg_get (s := l) (i := n) h2 e
theorem RS_len : ∀ {s : List W} {σ : List (Option V)}, RS ρ N H s σ → σ.length = s.length
  | [], _, h => by cases h; rfl
  | _ :: l, _, ⟨x, r, e, _, h⟩ => by subst e; exact congrArg (· + 1) (RS_len (s := l) h)
/-- slots of which nothing is known -/
theorem RS_unds : ∀ {σ : List (Option V)}, RS ρ N H (padK σ.length) σ
  | [] => rfl
  | x :: r => ⟨x, r, rfl, .inl rfl, RS_unds (σ := r)⟩
variable {Z : Par} {h : Hh} {s : St} {σ : L2.St}
theorem ref_slot {i n : Nat} {w : W} {M : Nat} (S : RS ρ M H s σ) (e : s[i]? = some w) (r : isRef n w = true) : σ[i]? = some (some (.ref (ρ n))) := by
  have z := isRef_ok r
  subst z
  obtain ⟨x, y, u⟩ := RSg_get S e
  rcases u with u | ⟨v, u, u3⟩
  · cases u
  · rw [y, u, u3.2]
/-- what a turn leaves stands again as it stood before -/
theorem chk_ok (hj : ∀ ρ N H, Z.J ρ N H) (R : Rel Z ρ h H) (S : RS ρ h.n H s σ) (e : chk s h = true) : Rel Z ρ hcan H ∧ RS ρ 4 H (scan .und .und) σ := by
  unfold chk at e
  cases z : Nat.beq s.length 11 with
  | false => rw [z] at e; cases e
  | true =>
    rw [z] at e
    have hl : σ.length = 11 := (RS_len S).trans (Nat.eq_of_beq_eq_true z)
    obtain ⟨a0, ea0, e⟩ := nth_get e
    try dsimp only at e
    cases z0 : isRef 1 a0 with
    | false => rw [z0] at e; cases e
    | true =>
      rw [z0] at e
      obtain ⟨a1, ea1, e⟩ := nth_get e
      try dsimp only at e
      cases z1 : isRef 2 a1 with
      | false => rw [z1] at e; cases e
      | true =>
        rw [z1] at e
        obtain ⟨a2, ea2, e⟩ := nth_get e
        try dsimp only at e
        cases z2 : isRef 3 a2 with
        | false => rw [z2] at e; cases e
        | true =>
          rw [z2] at e
          obtain ⟨i0, c0, k0, e⟩ := R.get e
          cases c0 with
          | tab =>
            obtain ⟨i1, c1, k1, e⟩ := R.get e
            cases c1 with
            | opq =>
              obtain ⟨i2, c2, k2, e⟩ := R.get e
              cases c2 with
              | lst l2 =>
                try dsimp only at e
                cases z3 : lsEq l2 wordsW with
                | false => rw [z3] at e; cases e
                | true =>
                  rw [z3] at e
                  obtain ⟨i3, c3, k3, e⟩ := R.get e
                  cases c3 with
                  | lst l3 =>
                    have w2 := lsEq_ok z3
                    have w3 := lsEq_ok e
                    subst w2 w3
                    obtain ⟨xs2, p2, q2, t2⟩ := k2
                    obtain ⟨xs3, p3, q3, t3⟩ := k3
                    refine ⟨⟨fun i j hi hj => R.inj i j (Nat.lt_of_lt_of_le hi i3) (Nat.lt_of_lt_of_le hj i3), fun i hi => ?_, hj _ _ _⟩, ?_⟩
                    · match i, hi with
                      | 0, _ => exact ⟨.tab, rfl, k0⟩
                      | 1, _ => exact ⟨.opq, rfl, k1⟩
                      | 2, _ => exact ⟨.lst wordsW, rfl, xs2, p2, RL_nr (by decide +kernel) q2, t2⟩
                      | 3, _ => exact ⟨.lst otherW, rfl, xs3, p3, RL_nr (by decide +kernel) q3, t3⟩
                      | n + 4, hi => exact absurd hi (by show ¬ n + 4 < 4; omega)
                    · have s0 := ref_slot S ea0 z0
                      have s1 := ref_slot S ea1 z1
                      have s2 := ref_slot S ea2 z2
                      match σ, hl, s0, s1, s2 with
                      | x0 :: x1 :: x2 :: r, hl, s0, s1, s2 =>
                        have hr : r.length = 8 := by
                          have : (x0 :: x1 :: x2 :: r).length = r.length + 3 := rfl
                          omega
                        have u := RS_unds (ρ := ρ) (N := 4) (H := H) (σ := r)
                        rw [hr] at u
                        exact ⟨x0, _, rfl, .inr ⟨_, Option.some.inj s0, by decide, rfl⟩, x1, _, rfl, .inr ⟨_, Option.some.inj s1, by decide, rfl⟩, x2, _, rfl, .inr ⟨_, Option.some.inj s2, by decide, rfl⟩, u⟩
                  | _ => cases e
              | _ => cases e
            | _ => cases e
          | _ => cases e
end
end
end G
/-! K36: the computation itself, by the kernel. -/
namespace G
open PySem PySem.Spec PyProof.Rows L2
theorem pre_t : preB = true := by decide +kernel
theorem tail_t : tailB = true := by decide +kernel
theorem turn_0_0 : turnB (partW 0) (iW (1 + 0)) = true := by decide +kernel
theorem turn_0_1 : turnB (partW 0) (iW (1 + 1)) = true := by decide +kernel
theorem turn_0_2 : turnB (partW 0) (iW (1 + 2)) = true := by decide +kernel
theorem turn_1_0 : turnB (partW 1) (iW (1 + 0)) = true := by decide +kernel
theorem turn_1_1 : turnB (partW 1) (iW (1 + 1)) = true := by decide +kernel
theorem turn_1_2 : turnB (partW 1) (iW (1 + 2)) = true := by decide +kernel
theorem turn_2_0 : turnB (partW 2) (iW (1 + 0)) = true := by decide +kernel
theorem turn_2_1 : turnB (partW 2) (iW (1 + 1)) = true := by decide +kernel
theorem turn_2_2 : turnB (partW 2) (iW (1 + 2)) = true := by decide +kernel
theorem ev_all : Ev := ⟨pre_t, tail_t, fun p r hp hr => by
  match p, r, hp, hr with
  | 0, 0, _, _ => exact turn_0_0
  | 0, 1, _, _ => exact turn_0_1
  | 0, 2, _, _ => exact turn_0_2
  | 1, 0, _, _ => exact turn_1_0
  | 1, 1, _, _ => exact turn_1_1
  | 1, 2, _, _ => exact turn_1_2
  | 2, 0, _, _ => exact turn_2_0
  | 2, 1, _, _ => exact turn_2_1
  | 2, 2, _, _ => exact turn_2_2
  | n + 3, _, hp, _ => exact absurd hp (by omega)
  | 0, n + 3, _, hr => exact absurd hr (by omega)
  | 1, n + 3, _, hr => exact absurd hr (by omega)
  | 2, n + 3, _, hr => exact absurd hr (by omega)⟩
end G
/-! K38: what the top must leave, what follows by levels (printed by gen4.py). -/
namespace G
open PySem PySem.Spec PyProof.Rows L2
structure Defs (K : PySem.W.Frag) (mg : Str → Option Value) (ca : Nat → Addr) : Prop where
  d_is_whole : ∃ (f : Addr) (fd : FuncData), mg "is_whole" = some (.ref f) ∧ FunD K "is_whole" "is_whole" (defArgs s_is_whole) (defBody s_is_whole) (defScope s_is_whole) [] [] f fd
  d_is_between : ∃ (f : Addr) (fd : FuncData), mg "is_between" = some (.ref f) ∧ FunD K "is_between" "is_between" (defArgs s_is_between) (defBody s_is_between) (defScope s_is_between) [] [] f fd
  d_is_part : ∃ (f : Addr) (fd : FuncData), mg "is_part" = some (.ref f) ∧ FunD K "is_part" "is_part" (defArgs s_is_part) (defBody s_is_part) (defScope s_is_part) [] [] f fd
  d_is_word : ∃ (f : Addr) (fd : FuncData), mg "is_word" = some (.ref f) ∧ FunD K "is_word" "is_word" (defArgs s_is_word) (defBody s_is_word) (defScope s_is_word) [] [] f fd
  d_uppers_of : ∃ (f : Addr) (fd : FuncData), mg "uppers_of" = some (.ref f) ∧ FunD K "uppers_of" "uppers_of" (defArgs s_uppers_of) (defBody s_uppers_of) (defScope s_uppers_of) [] [] f fd
  d_outs_of : ∃ (f : Addr) (fd : FuncData), mg "outs_of" = some (.ref f) ∧ FunD K "outs_of" "outs_of" (defArgs s_outs_of) (defBody s_outs_of) (defScope s_outs_of) [] [] f fd
  d_check_alike : ∃ (f : Addr) (fd : FuncData), mg "check_alike" = some (.ref f) ∧ FunD K "check_alike" "check_alike" (defArgs s_check_alike) (defBody s_check_alike) (defScope s_check_alike) [] [] f fd
  d_check_words : ∃ (f : Addr) (fd : FuncData), mg "check_words" = some (.ref f) ∧ FunD K "check_words" "check_words" (defArgs s_check_words) (defBody s_check_words) (defScope s_check_words) [] [] f fd
  d_check_heard : ∃ (f : Addr) (fd : FuncData), mg "check_heard" = some (.ref f) ∧ FunD K "check_heard" "check_heard" (defArgs s_check_heard) (defBody s_check_heard) (defScope s_check_heard) [] [] f fd
  d_check_rest : ∃ (f : Addr) (fd : FuncData), mg "check_rest" = some (.ref f) ∧ FunD K "check_rest" "check_rest" (defArgs s_check_rest) (defBody s_check_rest) (defScope s_check_rest) [] [] f fd
  d_way_up : ∃ (f : Addr) (fd : FuncData), mg "way_up" = some (.ref f) ∧ FunD K "way_up" "way_up" (defArgs s_way_up) (defBody s_way_up) (defScope s_way_up) [] [] f fd
  d_way_in : ∃ (f : Addr) (fd : FuncData), mg "way_in" = some (.ref f) ∧ FunD K "way_in" "way_in" (defArgs s_way_in) (defBody s_way_in) (defScope s_way_in) [] [] f fd
  d_standing_in : ∃ (f : Addr) (fd : FuncData), mg "standing_in" = some (.ref f) ∧ FunD K "standing_in" "standing_in" (defArgs s_standing_in) (defBody s_standing_in) (defScope s_standing_in) [] [] f fd
  d_once : ∃ (f : Addr) (fd : FuncData), mg "once" = some (.ref f) ∧ FunD K "once" "once" (defArgs s_once) (defBody s_once) (defScope s_once) [] [] f fd
  d_is_way : ∃ (f : Addr) (fd : FuncData), mg "is_way" = some (.ref f) ∧ FunD K "is_way" "is_way" (defArgs s_is_way) (defBody s_is_way) (defScope s_is_way) [] [] f fd
  d_Stands_init : ∃ (f : Addr) (fd : FuncData), (mg "Stands" = some (.ref (ca 0)) ∧ Mk K (ca 0) f) ∧ FunD K "__init__" "Stands.__init__" (defArgs s_Stands_init) (defBody s_Stands_init) (defScope s_Stands_init) [] [] f fd
  d_Stands_shows : ∃ (f : Addr) (fd : FuncData), Meth K (ca 0) "shows" f ∧ FunD K "shows" "Stands.shows" (defArgs s_Stands_shows) (defBody s_Stands_shows) (defScope s_Stands_shows) [] [] f fd
  d_Gone_init : ∃ (f : Addr) (fd : FuncData), (mg "Gone" = some (.ref (ca 1)) ∧ Mk K (ca 1) f) ∧ FunD K "__init__" "Gone.__init__" (defArgs s_Gone_init) (defBody s_Gone_init) (defScope s_Gone_init) [] [] f fd
  d_Gone_shows : ∃ (f : Addr) (fd : FuncData), Meth K (ca 1) "shows" f ∧ FunD K "shows" "Gone.shows" (defArgs s_Gone_shows) (defBody s_Gone_shows) (defScope s_Gone_shows) [] [] f fd
  d_likes_of : ∃ (f : Addr) (fd : FuncData), mg "likes_of" = some (.ref f) ∧ FunD K "likes_of" "likes_of" (defArgs s_likes_of) (defBody s_likes_of) (defScope s_likes_of) [] [] f fd
  d_Liked_init : ∃ (f : Addr) (fd : FuncData), (mg "Liked" = some (.ref (ca 3)) ∧ Mk K (ca 3) f) ∧ FunD K "__init__" "Liked.__init__" (defArgs s_Liked_init) (defBody s_Liked_init) (defScope s_Liked_init) [] [] f fd
  d_Liked_shows : ∃ (f : Addr) (fd : FuncData), Meth K (ca 3) "shows" f ∧ FunD K "shows" "Liked.shows" (defArgs s_Liked_shows) (defBody s_Liked_shows) (defScope s_Liked_shows) [] [] f fd
  d_free_from : ∃ (f : Addr) (fd : FuncData), mg "free_from" = some (.ref f) ∧ FunD K "free_from" "free_from" (defArgs s_free_from) (defBody s_free_from) (defScope s_free_from) [] [] f fd
  d_Turns_init : ∃ (f : Addr) (fd : FuncData), (mg "Turns" = some (.ref (ca 4)) ∧ Mk K (ca 4) f) ∧ FunD K "__init__" "Turns.__init__" (defArgs s_Turns_init) (defBody s_Turns_init) (defScope s_Turns_init) [] [] f fd
  d_Turns_shows : ∃ (f : Addr) (fd : FuncData), Meth K (ca 4) "shows" f ∧ FunD K "shows" "Turns.shows" (defArgs s_Turns_shows) (defBody s_Turns_shows) (defScope s_Turns_shows) [] [] f fd
  d_joined : ∃ (f : Addr) (fd : FuncData), mg "joined" = some (.ref f) ∧ FunD K "joined" "joined" (defArgs s_joined) (defBody s_joined) (defScope s_joined) [] [] f fd
  d_state_of : ∃ (f : Addr) (fd : FuncData), mg "state_of" = some (.ref f) ∧ FunD K "state_of" "state_of" (defArgs s_state_of) (defBody s_state_of) (defScope s_state_of) [] [] f fd
  d_why : ∃ (f : Addr) (fd : FuncData), mg "why" = some (.ref f) ∧ FunD K "why" "why" (defArgs s_why) (defBody s_why) (defScope s_why) [] [] f fd
  d_standing : ∃ (f : Addr) (fd : FuncData), mg "standing" = some (.ref f) ∧ FunD K "standing" "standing" (defArgs s_standing) (defBody s_standing) (defScope s_standing) [] [] f fd
  d_waiting_telling : ∃ (f : Addr) (fd : FuncData), mg "waiting_telling" = some (.ref f) ∧ FunD K "waiting" "waiting" (defArgs s_waiting) (defBody s_waiting) (defScope s_waiting) [] [] f fd
  d_ways_of : ∃ (f : Addr) (fd : FuncData), mg "ways_of" = some (.ref f) ∧ FunD K "ways_of" "ways_of" (defArgs s_ways_of) (defBody s_ways_of) (defScope s_ways_of) [] [] f fd
  d_ways_telling : ∃ (f : Addr) (fd : FuncData), mg "ways_telling" = some (.ref f) ∧ FunD K "ways" "ways" (defArgs s_ways) (defBody s_ways) (defScope s_ways) [] [] f fd
  d_is_like : ∃ (f : Addr) (fd : FuncData), mg "is_like" = some (.ref f) ∧ FunD K "is_like" "is_like" (defArgs s_is_like) (defBody s_is_like) (defScope s_is_like) [] [] f fd
  d_liked : ∃ (f : Addr) (fd : FuncData), mg "liked" = some (.ref f) ∧ FunD K "liked" "liked" (defArgs s_liked) (defBody s_liked) (defScope s_liked) [] [] f fd
  d_may_go_on : ∃ (f : Addr) (fd : FuncData), mg "may_go_on" = some (.ref f) ∧ FunD K "may_go_on" "may_go_on" (defArgs s_may_go_on) (defBody s_may_go_on) (defScope s_may_go_on) [] [] f fd
  d_Desk_init : ∃ (f : Addr) (fd : FuncData), (mg "Desk" = some (.ref (ca 6)) ∧ Mk K (ca 6) f) ∧ FunD K "__init__" "Desk.__init__" (defArgs s_Desk_init) (defBody s_Desk_init) (defScope s_Desk_init) [] [] f fd
  d_Desk_hear : ∃ (f : Addr) (fd : FuncData), Meth K (ca 6) "hear" f ∧ FunD K "hear" "Desk.hear" (defArgs s_Desk_hear) (defBody s_Desk_hear) (defScope s_Desk_hear) [] [] f fd
  d_Desk_words : ∃ (f : Addr) (fd : FuncData), Meth K (ca 6) "words" f ∧ FunD K "words" "Desk.words" (defArgs s_Desk_words) (defBody s_Desk_words) (defScope s_Desk_words) [] [] f fd
  d_Desk_standing : ∃ (f : Addr) (fd : FuncData), Meth K (ca 6) "standing" f ∧ FunD K "standing" "Desk.standing" (defArgs s_Desk_standing) (defBody s_Desk_standing) (defScope s_Desk_standing) [] [] f fd
  d_Desk_waiting : ∃ (f : Addr) (fd : FuncData), Meth K (ca 6) "waiting" f ∧ FunD K "waiting" "Desk.waiting" (defArgs s_Desk_waiting) (defBody s_Desk_waiting) (defScope s_Desk_waiting) [] [] f fd
  d_Desk_ways : ∃ (f : Addr) (fd : FuncData), Meth K (ca 6) "ways" f ∧ FunD K "ways" "Desk.ways" (defArgs s_Desk_ways) (defBody s_Desk_ways) (defScope s_Desk_ways) [] [] f fd
  d_Desk_my_ends : ∃ (f : Addr) (fd : FuncData), Meth K (ca 6) "my_ends" f ∧ FunD K "my_ends" "Desk.my_ends" (defArgs s_Desk_my_ends) (defBody s_Desk_my_ends) (defScope s_Desk_my_ends) [] [] f fd
  d_check_going : ∃ (f : Addr) (fd : FuncData), mg "check_going" = some (.ref f) ∧ FunD K "check_going" "check_going" (defArgs s_check_going) (defBody s_check_going) (defScope s_check_going) [] [] f fd
  d_gone_through : ∃ (f : Addr) (fd : FuncData), mg "gone_through" = some (.ref f) ∧ FunD K "gone_through" "gone_through" (defArgs s_gone_through) (defBody s_gone_through) (defScope s_gone_through) [] [] f fd
  d_gone_on : ∃ (f : Addr) (fd : FuncData), mg "gone_on" = some (.ref f) ∧ FunD K "gone_on" "gone_on" (defArgs s_gone_on) (defBody s_gone_on) (defScope s_gone_on) [] [] f fd
  d__law_deep : ∃ (f : Addr) (fd : FuncData), mg "_law_deep" = some (.ref f) ∧ FunD K "_law_deep" "_law_deep" (defArgs s__law_deep) (defBody s__law_deep) (defScope s__law_deep) [] [] f fd
  d__law_spoilt : ∃ (f : Addr) (fd : FuncData), mg "_law_spoilt" = some (.ref f) ∧ FunD K "_law_spoilt" "_law_spoilt" (defArgs s__law_spoilt) (defBody s__law_spoilt) (defScope s__law_spoilt) [] [] f fd
  d__law_put : ∃ (f : Addr) (fd : FuncData), mg "_law_put" = some (.ref f) ∧ FunD K "_law_put" "_law_put" (defArgs s__law_put) (defBody s__law_put) (defScope s__law_put) [] [] f fd
  d__law_two : ∃ (f : Addr) (fd : FuncData), mg "_law_two" = some (.ref f) ∧ FunD K "_law_two" "_law_two" (defArgs s__law_two) (defBody s__law_two) (defScope s__law_two) [] [] f fd
  d__law_why : ∃ (f : Addr) (fd : FuncData), mg "_law_why" = some (.ref f) ∧ FunD K "_law_why" "_law_why" (defArgs s__law_why) (defBody s__law_why) (defScope s__law_why) [] [] f fd
  d__law_liked : ∃ (f : Addr) (fd : FuncData), mg "_law_liked" = some (.ref f) ∧ FunD K "_law_liked" "_law_liked" (defArgs s__law_liked) (defBody s__law_liked) (defScope s__law_liked) [] [] f fd
  d__law_gone : ∃ (f : Addr) (fd : FuncData), mg "_law_gone" = some (.ref f) ∧ FunD K "_law_gone" "_law_gone" (defArgs s__law_gone) (defBody s__law_gone) (defScope s__law_gone) [] [] f fd
  d__law_desk : ∃ (f : Addr) (fd : FuncData), mg "_law_desk" = some (.ref f) ∧ FunD K "_law_desk" "_law_desk" (defArgs s__law_desk) (defBody s__law_desk) (defScope s__law_desk) [] [] f fd
structure AllC (P : Program) (w : World) (K : PySem.W.Frag) (mg : Str → Option Value) (base : Heap) (Z : Par) : Prop where
  c_is_whole : Cal P w K mg base Z 1 "is_whole" F_is_whole
  c_is_between : Cal P w K mg base Z 2 "is_between" F_is_between
  c_is_part : Cal P w K mg base Z 3 "is_part" F_is_part
  c_is_word : Cal P w K mg base Z 4 "is_word" F_is_word
  c_uppers_of : Cal P w K mg base Z 1 "uppers_of" F_uppers_of
  c_outs_of : Cal P w K mg base Z 1 "outs_of" F_outs_of
  c_check_alike : Cal P w K mg base Z 2 "check_alike" F_check_alike
  c_check_words : Cal P w K mg base Z 5 "check_words" F_check_words
  c_check_heard : Cal P w K mg base Z 4 "check_heard" F_check_heard
  c_check_rest : Cal P w K mg base Z 3 "check_rest" F_check_rest
  c_way_up : Cal P w K mg base Z 1 "way_up" F_way_up
  c_way_in : Cal P w K mg base Z 2 "way_in" F_way_in
  c_standing_in : Cal P w K mg base Z 2 "standing_in" F_standing_in
  c_once : Cal P w K mg base Z 2 "once" F_once
  c_is_way : Cal P w K mg base Z 1 "is_way" F_is_way
  k_Stands : Mkr P w K mg base Z 1 "Stands" 0 F_Stands_init
  m_Stands_shows : Mt P w K mg base Z 2 "shows" 0 F_Stands_shows
  k_Gone : Mkr P w K mg base Z 1 "Gone" 1 F_Gone_init
  m_Gone_shows : Mt P w K mg base Z 2 "shows" 1 F_Gone_shows
  c_likes_of : Cal P w K mg base Z 1 "likes_of" F_likes_of
  k_Liked : Mkr P w K mg base Z 1 "Liked" 3 F_Liked_init
  m_Liked_shows : Mt P w K mg base Z 3 "shows" 3 F_Liked_shows
  c_free_from : Cal P w K mg base Z 3 "free_from" F_free_from
  k_Turns : Mkr P w K mg base Z 1 "Turns" 4 F_Turns_init
  m_Turns_shows : Mt P w K mg base Z 4 "shows" 4 F_Turns_shows
  c_joined : Cal P w K mg base Z 6 "joined" F_joined
  c_state_of : Cal P w K mg base Z 3 "state_of" F_state_of
  c_why : Cal P w K mg base Z 6 "why" F_why
  c_standing : Cal P w K mg base Z 6 "standing" F_standing
  c_waiting_telling : Cal P w K mg base Z 6 "waiting_telling" F_waiting
  c_ways_of : Cal P w K mg base Z 3 "ways_of" F_ways_of
  c_ways_telling : Cal P w K mg base Z 6 "ways_telling" F_ways
  c_is_like : Cal P w K mg base Z 4 "is_like" F_is_like
  c_liked : Cal P w K mg base Z 6 "liked" F_liked
  c_may_go_on : Cal P w K mg base Z 6 "may_go_on" F_may_go_on
  k_Desk : Mkr P w K mg base Z 4 "Desk" 6 F_Desk_init
  m_Desk_hear : Mt P w K mg base Z 6 "hear" 6 F_Desk_hear
  m_Desk_words : Mt P w K mg base Z 1 "words" 6 F_Desk_words
  m_Desk_standing : Mt P w K mg base Z 3 "standing" 6 F_Desk_standing
  m_Desk_waiting : Mt P w K mg base Z 7 "waiting" 6 F_Desk_waiting
  m_Desk_ways : Mt P w K mg base Z 7 "ways" 6 F_Desk_ways
  m_Desk_my_ends : Mt P w K mg base Z 8 "my_ends" 6 F_Desk_my_ends
  c_check_going : Cal P w K mg base Z 6 "check_going" F_check_going
  c_gone_through : Cal P w K mg base Z 1 "gone_through" F_gone_through
  c_gone_on : Cal P w K mg base Z 7 "gone_on" F_gone_on
  c__law_deep : Cal P w K mg base Z 6 "_law_deep" (F__law_deep 6)
  c__law_spoilt : Cal P w K mg base Z 6 "_law_spoilt" (F__law_spoilt 6)
  c__law_put : Cal P w K mg base Z 7 "_law_put" F__law_put
  c__law_two : Cal P w K mg base Z 1 "_law_two" F__law_two
  c__law_why : Cal P w K mg base Z 7 "_law_why" F__law_why
  c__law_liked : Cal P w K mg base Z 7 "_law_liked" F__law_liked
  c__law_gone : Cal P w K mg base Z 8 "_law_gone" F__law_gone
  c__law_desk : Cal P w K mg base Z 9 "_law_desk" F__law_desk
theorem all_ok {P : Program} {w : World} {K : PySem.W.Frag} {mg : Str → Option Value} {base : Heap} {Z : Par} (D : Defs K mg Z.ca) (fx : Fx K mg Z) : AllC P w K mg base Z := by
  have c_is_whole : Cal P w K mg base Z 1 "is_whole" F_is_whole := by
    obtain ⟨f, fd, h1, h2⟩ := D.d_is_whole
    exact ⟨f, fd, ["thing"], h1, h2.kp, (h2.bindsN fun _ _ _ _ _ _ us hl => match us, hl with | [_], _ => rfl), (ok_is_whole fx h2 )⟩
  have c_is_between : Cal P w K mg base Z 2 "is_between" F_is_between := by
    obtain ⟨f, fd, h1, h2⟩ := D.d_is_between
    exact ⟨f, fd, ["thing", "least", "most"], h1, h2.kp, (h2.bindsN fun _ _ _ _ _ _ us hl => match us, hl with | [_, _, _], _ => rfl), (ok_is_between fx h2 c_is_whole)⟩
  have c_is_part : Cal P w K mg base Z 3 "is_part" F_is_part := by
    obtain ⟨f, fd, h1, h2⟩ := D.d_is_part
    exact ⟨f, fd, ["thing"], h1, h2.kp, (h2.bindsN fun _ _ _ _ _ _ us hl => match us, hl with | [_], _ => rfl), (ok_is_part fx h2 c_is_between)⟩
  have c_is_word : Cal P w K mg base Z 4 "is_word" F_is_word := by
    obtain ⟨f, fd, h1, h2⟩ := D.d_is_word
    exact ⟨f, fd, ["thing"], h1, h2.kp, (h2.bindsN fun _ _ _ _ _ _ us hl => match us, hl with | [_], _ => rfl), (ok_is_word fx h2 c_is_part)⟩
  have c_uppers_of : Cal P w K mg base Z 1 "uppers_of" F_uppers_of := by
    obtain ⟨f, fd, h1, h2⟩ := D.d_uppers_of
    exact ⟨f, fd, ["words"], h1, h2.kp, (h2.bindsN fun _ _ _ _ _ _ us hl => match us, hl with | [_], _ => rfl), (ok_uppers_of fx h2 )⟩
  have c_outs_of : Cal P w K mg base Z 1 "outs_of" F_outs_of := by
    obtain ⟨f, fd, h1, h2⟩ := D.d_outs_of
    exact ⟨f, fd, ["words"], h1, h2.kp, (h2.bindsN fun _ _ _ _ _ _ us hl => match us, hl with | [_], _ => rfl), (ok_outs_of fx h2 )⟩
  have c_check_alike : Cal P w K mg base Z 2 "check_alike" F_check_alike := by
    obtain ⟨f, fd, h1, h2⟩ := D.d_check_alike
    exact ⟨f, fd, ["words"], h1, h2.kp, (h2.bindsN fun _ _ _ _ _ _ us hl => match us, hl with | [_], _ => rfl), (ok_check_alike fx h2 c_uppers_of)⟩
  have c_check_words : Cal P w K mg base Z 5 "check_words" F_check_words := by
    obtain ⟨f, fd, h1, h2⟩ := D.d_check_words
    exact ⟨f, fd, ["words"], h1, h2.kp, (h2.bindsN fun _ _ _ _ _ _ us hl => match us, hl with | [_], _ => rfl), (ok_check_words fx h2 c_is_word c_check_alike)⟩
  have c_check_heard : Cal P w K mg base Z 4 "check_heard" F_check_heard := by
    obtain ⟨f, fd, h1, h2⟩ := D.d_check_heard
    exact ⟨f, fd, ["words", "part"], h1, h2.kp, (h2.bindsN fun _ _ _ _ _ _ us hl => match us, hl with | [_, _], _ => rfl), (ok_check_heard fx h2 c_uppers_of c_is_part)⟩
  have c_check_rest : Cal P w K mg base Z 3 "check_rest" F_check_rest := by
    obtain ⟨f, fd, h1, h2⟩ := D.d_check_rest
    exact ⟨f, fd, ["rest"], h1, h2.kp, (h2.bindsN fun _ _ _ _ _ _ us hl => match us, hl with | [_], _ => rfl), (ok_check_rest fx h2 c_is_between)⟩
  have c_way_up : Cal P w K mg base Z 1 "way_up" F_way_up := by
    obtain ⟨f, fd, h1, h2⟩ := D.d_way_up
    exact ⟨f, fd, ["uppers", "part"], h1, h2.kp, (h2.bindsN fun _ _ _ _ _ _ us hl => match us, hl with | [_, _], _ => rfl), (ok_way_up fx h2 )⟩
  have c_way_in : Cal P w K mg base Z 2 "way_in" F_way_in := by
    obtain ⟨f, fd, h1, h2⟩ := D.d_way_in
    exact ⟨f, fd, ["words", "part"], h1, h2.kp, (h2.bindsN fun _ _ _ _ _ _ us hl => match us, hl with | [_, _], _ => rfl), (ok_way_in fx h2 c_way_up c_uppers_of)⟩
  have c_standing_in : Cal P w K mg base Z 2 "standing_in" F_standing_in := by
    obtain ⟨f, fd, h1, h2⟩ := D.d_standing_in
    exact ⟨f, fd, ["words"], h1, h2.kp, (h2.bindsN fun _ _ _ _ _ _ us hl => match us, hl with | [_], _ => rfl), (ok_standing_in fx h2 c_outs_of c_uppers_of c_way_up)⟩
  have c_once : Cal P w K mg base Z 2 "once" F_once := by
    obtain ⟨f, fd, h1, h2⟩ := D.d_once
    exact ⟨f, fd, ["words"], h1, h2.kp, (h2.bindsN fun _ _ _ _ _ _ us hl => match us, hl with | [_], _ => rfl), (ok_once fx h2 c_uppers_of)⟩
  have c_is_way : Cal P w K mg base Z 1 "is_way" F_is_way := by
    obtain ⟨f, fd, h1, h2⟩ := D.d_is_way
    exact ⟨f, fd, ["uppers", "part", "way"], h1, h2.kp, (h2.bindsN fun _ _ _ _ _ _ us hl => match us, hl with | [_, _, _], _ => rfl), (ok_is_way fx h2 )⟩
  have k_Stands : Mkr P w K mg base Z 1 "Stands" 0 F_Stands_init := by
    obtain ⟨f, fd, h1, h2⟩ := D.d_Stands_init
    exact ⟨f, fd, ["self", "way"], h1.1, h1.2, (h2.bindsN fun _ _ _ _ _ _ us hl => match us, hl with | [_, _], _ => rfl), (ok_Stands_init fx h2 )⟩
  have m_Stands_shows : Mt P w K mg base Z 2 "shows" 0 F_Stands_shows := by
    obtain ⟨f, fd, h1, h2⟩ := D.d_Stands_shows
    exact ⟨by decide, f, fd, ["self", "words", "part"], h1, (h2.bindsN fun _ _ _ _ _ _ us hl => match us, hl with | [_, _, _], _ => rfl), (ok_Stands_shows fx h2 c_outs_of c_is_way c_uppers_of)⟩
  have k_Gone : Mkr P w K mg base Z 1 "Gone" 1 F_Gone_init := by
    obtain ⟨f, fd, h1, h2⟩ := D.d_Gone_init
    exact ⟨f, fd, ["self", "way"], h1.1, h1.2, (h2.bindsN fun _ _ _ _ _ _ us hl => match us, hl with | [_, _], _ => rfl), (ok_Gone_init fx h2 )⟩
  have m_Gone_shows : Mt P w K mg base Z 2 "shows" 1 F_Gone_shows := by
    obtain ⟨f, fd, h1, h2⟩ := D.d_Gone_shows
    exact ⟨by decide, f, fd, ["self", "words", "part"], h1, (h2.bindsN fun _ _ _ _ _ _ us hl => match us, hl with | [_, _, _], _ => rfl), (ok_Gone_shows fx h2 c_outs_of c_is_way c_uppers_of)⟩
  have c_likes_of : Cal P w K mg base Z 1 "likes_of" F_likes_of := by
    obtain ⟨f, fd, h1, h2⟩ := D.d_likes_of
    exact ⟨f, fd, ["likes", "part"], h1, h2.kp, (h2.bindsN fun _ _ _ _ _ _ us hl => match us, hl with | [_, _], _ => rfl), (ok_likes_of fx h2 )⟩
  have k_Liked : Mkr P w K mg base Z 1 "Liked" 3 F_Liked_init := by
    obtain ⟨f, fd, h1, h2⟩ := D.d_Liked_init
    exact ⟨f, fd, ["self", "way", "marks"], h1.1, h1.2, (h2.bindsN fun _ _ _ _ _ _ us hl => match us, hl with | [_, _, _], _ => rfl), (ok_Liked_init fx h2 )⟩
  have m_Liked_shows : Mt P w K mg base Z 3 "shows" 3 F_Liked_shows := by
    obtain ⟨f, fd, h1, h2⟩ := D.d_Liked_shows
    exact ⟨by decide, f, fd, ["self", "words", "likes"], h1, (h2.bindsN fun _ _ _ _ _ _ us hl => match us, hl with | [_, _, _], _ => rfl), (ok_Liked_shows fx h2 c_uppers_of c_standing_in c_is_way c_likes_of)⟩
  have c_free_from : Cal P w K mg base Z 3 "free_from" F_free_from := by
    obtain ⟨f, fd, h1, h2⟩ := D.d_free_from
    exact ⟨f, fd, ["words", "part", "rest"], h1, h2.kp, (h2.bindsN fun _ _ _ _ _ _ us hl => match us, hl with | [_, _, _], _ => rfl), (ok_free_from fx h2 c_way_in)⟩
  have k_Turns : Mkr P w K mg base Z 1 "Turns" 4 F_Turns_init := by
    obtain ⟨f, fd, h1, h2⟩ := D.d_Turns_init
    exact ⟨f, fd, ["self", "order"], h1.1, h1.2, (h2.bindsN fun _ _ _ _ _ _ us hl => match us, hl with | [_, _], _ => rfl), (ok_Turns_init fx h2 )⟩
  have m_Turns_shows : Mt P w K mg base Z 4 "shows" 4 F_Turns_shows := by
    obtain ⟨f, fd, h1, h2⟩ := D.d_Turns_shows
    exact ⟨by decide, f, fd, ["self", "words", "part", "mays", "rest", "length"], h1, (h2.bindsN fun _ _ _ _ _ _ us hl => match us, hl with | [_, _, _, _, _, _], _ => rfl), (ok_Turns_shows fx h2 c_free_from)⟩
  have c_joined : Cal P w K mg base Z 6 "joined" F_joined := by
    obtain ⟨f, fd, h1, h2⟩ := D.d_joined
    exact ⟨f, fd, ["one", "other"], h1, h2.kp, (h2.bindsN fun _ _ _ _ _ _ us hl => match us, hl with | [_, _], _ => rfl), (ok_joined fx h2 c_check_words c_check_alike c_once)⟩
  have c_state_of : Cal P w K mg base Z 3 "state_of" F_state_of := by
    obtain ⟨f, fd, h1, h2⟩ := D.d_state_of
    exact ⟨f, fd, ["words", "part"], h1, h2.kp, (h2.bindsN fun _ _ _ _ _ _ us hl => match us, hl with | [_, _], _ => rfl), (ok_state_of fx h2 c_outs_of c_uppers_of c_way_up k_Gone k_Stands)⟩
  have c_why : Cal P w K mg base Z 6 "why" F_why := by
    obtain ⟨f, fd, h1, h2⟩ := D.d_why
    exact ⟨f, fd, ["words", "part"], h1, h2.kp, (h2.bindsN fun _ _ _ _ _ _ us hl => match us, hl with | [_, _], _ => rfl), (ok_why fx h2 c_check_words c_check_heard c_state_of)⟩
  have c_standing : Cal P w K mg base Z 6 "standing" F_standing := by
    obtain ⟨f, fd, h1, h2⟩ := D.d_standing
    exact ⟨f, fd, ["words"], h1, h2.kp, (h2.bindsN fun _ _ _ _ _ _ us hl => match us, hl with | [_], _ => rfl), (ok_standing fx h2 c_check_words c_standing_in)⟩
  have c_waiting_telling : Cal P w K mg base Z 6 "waiting_telling" F_waiting := by
    obtain ⟨f, fd, h1, h2⟩ := D.d_waiting_telling
    exact ⟨f, fd, ["words"], h1, h2.kp, (h2.bindsN fun _ _ _ _ _ _ us hl => match us, hl with | [_], _ => rfl), (ok_waiting fx h2 c_check_words c_uppers_of c_state_of)⟩
  have c_ways_of : Cal P w K mg base Z 3 "ways_of" F_ways_of := by
    obtain ⟨f, fd, h1, h2⟩ := D.d_ways_of
    exact ⟨f, fd, ["words"], h1, h2.kp, (h2.bindsN fun _ _ _ _ _ _ us hl => match us, hl with | [_], _ => rfl), (ok_ways_of fx h2 c_standing_in c_uppers_of c_way_in)⟩
  have c_ways_telling : Cal P w K mg base Z 6 "ways_telling" F_ways := by
    obtain ⟨f, fd, h1, h2⟩ := D.d_ways_telling
    exact ⟨f, fd, ["words"], h1, h2.kp, (h2.bindsN fun _ _ _ _ _ _ us hl => match us, hl with | [_], _ => rfl), (ok_ways fx h2 c_check_words c_ways_of)⟩
  have c_is_like : Cal P w K mg base Z 4 "is_like" F_is_like := by
    obtain ⟨f, fd, h1, h2⟩ := D.d_is_like
    exact ⟨f, fd, ["thing"], h1, h2.kp, (h2.bindsN fun _ _ _ _ _ _ us hl => match us, hl with | [_], _ => rfl), (ok_is_like fx h2 c_is_part c_is_between)⟩
  have c_liked : Cal P w K mg base Z 6 "liked" F_liked := by
    obtain ⟨f, fd, h1, h2⟩ := D.d_liked
    exact ⟨f, fd, ["words", "likes"], h1, h2.kp, (h2.bindsN fun _ _ _ _ _ _ us hl => match us, hl with | [_, _], _ => rfl), (ok_liked fx h2 c_check_words c_is_like c_standing_in c_uppers_of c_way_in c_likes_of k_Liked)⟩
  have c_may_go_on : Cal P w K mg base Z 6 "may_go_on" F_may_go_on := by
    obtain ⟨f, fd, h1, h2⟩ := D.d_may_go_on
    exact ⟨f, fd, ["words", "part", "rest"], h1, h2.kp, (h2.bindsN fun _ _ _ _ _ _ us hl => match us, hl with | [_, _, _], _ => rfl), (ok_may_go_on fx h2 c_check_words c_check_heard c_check_rest c_standing_in c_way_in)⟩
  have k_Desk : Mkr P w K mg base Z 4 "Desk" 6 F_Desk_init := by
    obtain ⟨f, fd, h1, h2⟩ := D.d_Desk_init
    exact ⟨f, fd, ["self", "hand", "rest"], h1.1, h1.2, (h2.bindsN fun _ _ _ _ _ _ us hl => match us, hl with | [_, _, _], _ => rfl), (ok_Desk_init fx h2 c_is_between c_check_rest)⟩
  have m_Desk_hear : Mt P w K mg base Z 6 "hear" 6 F_Desk_hear := by
    obtain ⟨f, fd, h1, h2⟩ := D.d_Desk_hear
    exact ⟨by decide, f, fd, ["self", "words"], h1, (h2.bindsN fun _ _ _ _ _ _ us hl => match us, hl with | [_, _], _ => rfl), (ok_Desk_hear fx h2 c_check_words c_check_alike c_once c_standing_in)⟩
  have m_Desk_words : Mt P w K mg base Z 1 "words" 6 F_Desk_words := by
    obtain ⟨f, fd, h1, h2⟩ := D.d_Desk_words
    exact ⟨by decide, f, fd, ["self"], h1, (h2.bindsN fun _ _ _ _ _ _ us hl => match us, hl with | [_], _ => rfl), (ok_Desk_words fx h2 )⟩
  have m_Desk_standing : Mt P w K mg base Z 3 "standing" 6 F_Desk_standing := by
    obtain ⟨f, fd, h1, h2⟩ := D.d_Desk_standing
    exact ⟨by decide, f, fd, ["self"], h1, (h2.bindsN fun _ _ _ _ _ _ us hl => match us, hl with | [_], _ => rfl), (ok_Desk_standing fx h2 c_standing_in)⟩
  have m_Desk_waiting : Mt P w K mg base Z 7 "waiting" 6 F_Desk_waiting := by
    obtain ⟨f, fd, h1, h2⟩ := D.d_Desk_waiting
    exact ⟨by decide, f, fd, ["self"], h1, (h2.bindsN fun _ _ _ _ _ _ us hl => match us, hl with | [_], _ => rfl), (ok_Desk_waiting fx h2 c_waiting_telling)⟩
  have m_Desk_ways : Mt P w K mg base Z 7 "ways" 6 F_Desk_ways := by
    obtain ⟨f, fd, h1, h2⟩ := D.d_Desk_ways
    exact ⟨by decide, f, fd, ["self"], h1, (h2.bindsN fun _ _ _ _ _ _ us hl => match us, hl with | [_], _ => rfl), (ok_Desk_ways fx h2 c_ways_telling)⟩
  have m_Desk_my_ends : Mt P w K mg base Z 8 "my_ends" 6 F_Desk_my_ends := by
    obtain ⟨f, fd, h1, h2⟩ := D.d_Desk_my_ends
    exact ⟨by decide, f, fd, ["self"], h1, (h2.bindsN fun _ _ _ _ _ _ us hl => match us, hl with | [_], _ => rfl), (ok_Desk_my_ends fx h2 c_may_go_on m_Desk_ways)⟩
  have c_check_going : Cal P w K mg base Z 6 "check_going" F_check_going := by
    obtain ⟨f, fd, h1, h2⟩ := D.d_check_going
    exact ⟨f, fd, ["words", "part", "mays", "rest", "length"], h1, h2.kp, (h2.bindsN fun _ _ _ _ _ _ us hl => match us, hl with | [_, _, _, _, _], _ => rfl), (ok_check_going fx h2 c_check_words c_standing_in c_is_part c_is_between c_check_rest)⟩
  have c_gone_through : Cal P w K mg base Z 1 "gone_through" F_gone_through := by
    obtain ⟨f, fd, h1, h2⟩ := D.d_gone_through
    exact ⟨f, fd, ["mays", "frees", "rest", "length"], h1, h2.kp, (h2.bindsN fun _ _ _ _ _ _ us hl => match us, hl with | [_, _, _, _], _ => rfl), (ok_gone_through fx h2 )⟩
  have c_gone_on : Cal P w K mg base Z 7 "gone_on" F_gone_on := by
    obtain ⟨f, fd, h1, h2⟩ := D.d_gone_on
    exact ⟨f, fd, ["words", "part", "mays", "rest", "length"], h1, h2.kp, (h2.bindsN fun _ _ _ _ _ _ us hl => match us, hl with | [_, _, _, _, _], _ => rfl), (ok_gone_on fx h2 c_check_going c_free_from c_gone_through k_Turns)⟩
  have c__law_deep : Cal P w K mg base Z 6 "_law_deep" (F__law_deep 6) := by
    obtain ⟨f, fd, h1, h2⟩ := D.d__law_deep
    have hb : Binds K fd ["_law_thing"] [] := (h2.bindsN fun _ _ _ _ _ _ us hl => match us, hl with | [_], _ => rfl)
    exact ⟨f, fd, ["_law_thing"], h1, h2.kp, hb, ok__law_deep fx h2 h1 h2.kp hb 6⟩
  have c__law_spoilt : Cal P w K mg base Z 6 "_law_spoilt" (F__law_spoilt 6) := by
    obtain ⟨f, fd, h1, h2⟩ := D.d__law_spoilt
    have hb : Binds K fd ["_law_found"] [] := (h2.bindsN fun _ _ _ _ _ _ us hl => match us, hl with | [_], _ => rfl)
    exact ⟨f, fd, ["_law_found"], h1, h2.kp, hb, ok__law_spoilt fx h2 h1 h2.kp hb 6⟩
  have c__law_put : Cal P w K mg base Z 7 "_law_put" F__law_put := by
    obtain ⟨f, fd, h1, h2⟩ := D.d__law_put
    exact ⟨f, fd, ["_law_handed", "_law_some"], h1, h2.kp, (h2.bindsN fun _ _ _ _ _ _ us hl => match us, hl with | [_, _], _ => rfl), (ok__law_put fx h2 c__law_deep)⟩
  have c__law_two : Cal P w K mg base Z 1 "_law_two" F__law_two := by
    obtain ⟨f, fd, h1, h2⟩ := D.d__law_two
    exact ⟨f, fd, ["_law_found"], h1, h2.kp, (h2.bindsN fun _ _ _ _ _ _ us hl => match us, hl with | [_], _ => rfl), (ok__law_two fx h2 )⟩
  have c__law_why : Cal P w K mg base Z 7 "_law_why" F__law_why := by
    obtain ⟨f, fd, h1, h2⟩ := D.d__law_why
    exact ⟨f, fd, ["_law_words", "_law_part"], h1, h2.kp, (h2.bindsN fun _ _ _ _ _ _ us hl => match us, hl with | [_, _], _ => rfl), (ok__law_why fx h2 c_why c__law_deep m_Gone_shows m_Stands_shows)⟩
  have c__law_liked : Cal P w K mg base Z 7 "_law_liked" F__law_liked := by
    obtain ⟨f, fd, h1, h2⟩ := D.d__law_liked
    exact ⟨f, fd, ["_law_words", "_law_likes"], h1, h2.kp, (h2.bindsN fun _ _ _ _ _ _ us hl => match us, hl with | [_, _], _ => rfl), (ok__law_liked fx h2 c_liked c__law_deep m_Liked_shows)⟩
  have c__law_gone : Cal P w K mg base Z 8 "_law_gone" F__law_gone := by
    obtain ⟨f, fd, h1, h2⟩ := D.d__law_gone
    exact ⟨f, fd, ["_law_words", "_law_part", "_law_mays"], h1, h2.kp, (h2.bindsN fun _ _ _ _ _ _ us hl => match us, hl with | [_, _, _], _ => rfl), (ok__law_gone fx h2 c_gone_on c__law_deep m_Turns_shows)⟩
  have c__law_desk : Cal P w K mg base Z 9 "_law_desk" F__law_desk := by
    obtain ⟨f, fd, h1, h2⟩ := D.d__law_desk
    exact ⟨f, fd, ["_law_words"], h1, h2.kp, (h2.bindsN fun _ _ _ _ _ _ us hl => match us, hl with | [_], _ => rfl), (ok__law_desk fx h2 c__law_two m_Desk_my_ends m_Desk_ways m_Desk_waiting m_Desk_standing m_Desk_words m_Desk_hear k_Desk)⟩
  exact ⟨c_is_whole, c_is_between, c_is_part, c_is_word, c_uppers_of, c_outs_of, c_check_alike, c_check_words, c_check_heard, c_check_rest, c_way_up, c_way_in, c_standing_in, c_once, c_is_way, k_Stands, m_Stands_shows, k_Gone, m_Gone_shows, c_likes_of, k_Liked, m_Liked_shows, c_free_from, k_Turns, m_Turns_shows, c_joined, c_state_of, c_why, c_standing, c_waiting_telling, c_ways_of, c_ways_telling, c_is_like, c_liked, c_may_go_on, k_Desk, m_Desk_hear, m_Desk_words, m_Desk_standing, m_Desk_waiting, m_Desk_ways, m_Desk_my_ends, c_check_going, c_gone_through, c_gone_on, c__law_deep, c__law_spoilt, c__law_put, c__law_two, c__law_why, c__law_liked, c__law_gone, c__law_desk⟩
end G
/-! K37: law's cells, its lambdas, its doors. -/
namespace G
open PySem PySem.Spec PyProof.Rows L2
abbrev lEnv (L f cd : Addr) : Env := envOfC "law" (defScope s_law) L f (.ref cd)
/-- where law's cells lie -/
def lcs (L : Nat) : List Addr := [L + 1 + 1 + 1, L + 1 + 1 + 1 + 1, L + 1, L + 1 + 1]
theorem lcs_eq {L f cd : Nat} : CY.map (fun y => (lEnv L f cd).cells.lookup y) = (lcs L).map some := by rfl
theorem lcs_nd (L : Nat) : (lcs L).Nodup := by
  have h : ∀ a b c d : Nat, a = L + 3 → b = L + 4 → c = L + 1 → d = L + 2 → ([a, b, c, d] : List Nat).Nodup := fun a b c d h1 h2 h3 h4 => by
    subst h1 h2 h3 h4
    simp only [List.nodup_cons, List.mem_cons, List.not_mem_nil, or_false, not_or, List.nodup_nil, not_false_eq_true, and_true]
    omega
  exact h _ _ _ _ rfl rfl rfl rfl
section
variable {cells : List (Str × Addr)} {cs : List Addr} (hcs : CY.map (fun y => cells.lookup y) = cs.map some)
include hcs
theorem cy_at {i : Nat} {y : Str} (e : CY[i]? = some y) : ∃ c, cs[i]? = some c ∧ cells.lookup y = some c := by
  have h1 : (CY.map fun y => cells.lookup y)[i]? = (cs.map some)[i]? := by rw [hcs]
  rw [List.getElem?_map, List.getElem?_map, e] at h1
  cases q : cs[i]? with
  | none => rw [q] at h1; cases h1
  | some c => rw [q] at h1; exact ⟨c, rfl, Option.some.inj h1⟩
theorem cy_mem {y : Str} (h : y ∈ CY) : ∃ (i : Nat) (c : Addr), CY[i]? = some y ∧ cs[i]? = some c ∧ cells.lookup y = some c := by
  obtain ⟨i, hi⟩ := List.mem_iff_getElem?.mp h
  obtain ⟨c, h1, h2⟩ := cy_at hcs hi
  exact ⟨i, c, hi, h1, h2⟩
theorem cs_in : ∀ c ∈ cs, ∃ y, cells.lookup y = some c := fun c hc => by
  have : some c ∈ CY.map fun y => cells.lookup y := by rw [hcs]; exact List.mem_map.mpr ⟨c, hc, rfl⟩
  obtain ⟨y, _, e⟩ := List.mem_map.mp this
  exact ⟨y, e⟩
end
theorem fr_sub : ∀ q, q < 11 → ∀ y ∈ (lamSc (lamE q)).names, y.2 = .free → y.1 ∈ CY := by decide +kernel
theorem fr_js : ∀ q, q < 11 → (ljs q).map (fun j => CY[j]?) = (lfr q).map some := by decide +kernel
theorem fr_in : ∀ q, q < 11 → ∀ y ∈ lfr q, (y, NameKind.free) ∈ (lamSc (lamE q)).names := by decide +kernel
theorem nodup_at {cs : List Addr} (nd : cs.Nodup) {i j : Nat} {c : Addr} (h1 : cs[i]? = some c) (h2 : cs[j]? = some c) : i = j := by
  obtain ⟨p1, _⟩ := List.getElem?_eq_some_iff.mp h1
  exact (List.getElem?_inj p1 nd).mp (h1.trans h2.symm)
/-- the lambdas' captured cells hold what law's cells hold -/
theorem lams_ca {cells : List (Str × Addr)} {cs : List Addr} (hcs : CY.map (fun y => cells.lookup y) = cs.map some) (nd : cs.Nodup) {oc : Addr → Obj} {wv : List (Option V)} (CV : CellV cs oc wv) {qn : Str} :
    ∀ (q : Nat) (h : Heap) (H : Hp), (∀ c ∈ cs, h.get? c = some (oc c)) → (∀ c ∈ cs, H c = none) → NdefX.CellsAt (lw qn cells q).cl (lfr q) ((ljs q).map (NdefX.slotAt wv)) h H := by
  intro q h H ho hn
  by_cases hq : q < 11
  · have hfree : ∀ y ∈ (lamSc (lamE q)).names, y.2 = .free → ∃ c, cells.lookup y.1 = some c := fun y hy e => by
      obtain ⟨_, c, _, _, z⟩ := cy_mem hcs (fr_sub q hq y hy e)
      exact ⟨c, z⟩
    have inCY : ∀ {y : Str} {c : Addr}, (lw qn cells q).cl.lookup y = some c → cells.lookup y = some c ∧ y ∈ CY := fun {y c} e => by
      refine ⟨NdefX.clo_cm hfree e, ?_⟩
      rcases cloFrom_mem (PySem.mem_of_lookup (show (cloFrom cells (lamSc (lamE q)).names []).lookup y = some c from e)) with hm | ⟨h1, _⟩
      · cases hm
      · exact fr_sub q hq _ h1 rfl
    have atc : ∀ {y : Str} {c : Addr}, (lw qn cells q).cl.lookup y = some c → ∃ i : Nat, CY[i]? = some y ∧ cs[i]? = some c := fun {y c} e => by
      obtain ⟨h1, h2⟩ := inCY e
      obtain ⟨i, c', e1, e2, e3⟩ := cy_mem hcs h2
      rw [h1] at e3
      cases e3
      exact ⟨i, e1, e2⟩
    refine ⟨?_, fun y c e => ?_, fun x y c e1 e2 => ?_, fun i y e => ?_⟩
    · have := congrArg List.length (fr_js q hq)
      rw [List.length_map, List.length_map] at this
      rw [List.length_map]
      exact this
    · obtain ⟨i, _, e2⟩ := atc e
      have hc := List.mem_of_getElem? e2
      obtain ⟨v, ev⟩ := CV.all c hc
      exact ⟨hn c hc, v, oc c, ho c hc, ev⟩
    · obtain ⟨i, a1, a2⟩ := atc e1
      obtain ⟨j, b1, b2⟩ := atc e2
      have := nodup_at nd a2 b2
      subst this
      rw [a1] at b1
      exact Option.some.inj b1
    · have hy : y ∈ lfr q := List.mem_of_getElem? e
      have hj := fr_js q hq
      have h1 : ((ljs q).map fun j => CY[j]?)[i]? = ((lfr q).map some)[i]? := by rw [hj]
      rw [List.getElem?_map, List.getElem?_map, e] at h1
      cases ej : (ljs q)[i]? with
      | none => rw [ej] at h1; cases h1
      | some j =>
        rw [ej] at h1
        have h2 : CY[j]? = some y := Option.some.inj h1
        obtain ⟨c, e1, e2⟩ := cy_at hcs h2
        refine ⟨c, NdefX.clo_has hfree (fr_in q hq y hy) e2, fun v ev => ?_⟩
        rw [List.getElem?_map, ej] at ev
        have ev2 := NdefX.slotAt_some (Option.some.inj (show some (NdefX.slotAt wv j) = some (some v) from ev))
        obtain ⟨u, r, d⟩ := CV.val j c v e1 ev2
        exact ⟨u, r, oc c, ho c (List.mem_of_getElem? e1), d⟩
  · obtain ⟨n, rfl⟩ : ∃ n, q = n + 11 := ⟨q - 11, by omega⟩
    refine ⟨rfl, fun y c e => ?_, fun x y c e => ?_, fun i y e => ?_⟩
    · cases e
    · cases e
    · cases e
theorem Fx.imp {K : PySem.W.Frag} {mg : Str → Option Value} {Z Z' : Par} (fx : Fx K mg Z) (h1 : Z'.K = Z.K) (h2 : Z'.ca = Z.ca) (h3 : Z'.fname = Z.fname) : Fx K mg Z' where
  hZ := h1.trans fx.hZ
  C := by
    obtain ⟨c1, c2, c3, c4, c5, c6, c7⟩ := fx.C
    refine ⟨?_, ?_, ?_, c4, c5, ?_, ?_⟩
    · rw [h2]; exact c1
    · rw [h2, h3]; exact c2
    · rw [h2]; exact c3
    · rw [h2]; exact c6
    · rw [h2]; exact c7
  fn := h3.trans fx.fn
  n_len := fx.n_len
  n_list := fx.n_list
  n_tuple := fx.n_tuple
  n_any := fx.n_any
  n_all := fx.n_all
  n_sum := fx.n_sum
  n_max := fx.n_max
  n_sorted := fx.n_sorted
  n_range := fx.n_range
  n_zip := fx.n_zip
  n_enumerate := fx.n_enumerate
  n_isinstance := fx.n_isinstance
  n_int := fx.n_int
  n_bool := fx.n_bool
  n_str := fx.n_str
  n_set := fx.n_set
  n_dict := fx.n_dict
  i_MOST_HAND := fx.i_MOST_HAND
  i_MOST_OWN := fx.i_MOST_OWN
  i_MOST_WORDS := fx.i_MOST_WORDS
  i_MOST_REST := fx.i_MOST_REST
  i_MOST_LIKES := fx.i_MOST_LIKES
  i_MOST_MAY := fx.i_MOST_MAY
  i_LONGEST := fx.i_LONGEST
  k_Stands := by rw [h2]; exact fx.k_Stands
  k_Waits := by rw [h2]; exact fx.k_Waits
  k_Turns := by rw [h2]; exact fx.k_Turns
/-- the two defs of the doors -/
structure Doors (K : PySem.W.Frag) (mg : Str → Option Value) : Prop where
  one : ∃ (f : Addr) (fd : FuncData), mg "_law_door_right" = some (.ref f) ∧ FunD K "_law_door_right" "_law_door_right" (defArgs s__law_door_right) (defBody s__law_door_right) (defScope s__law_door_right) [] [] f fd
  all : ∃ (f : Addr) (fd : FuncData), mg "_law_doors_right" = some (.ref f) ∧ FunD K "_law_doors_right" "_law_doors_right" (defArgs s__law_doors_right) (defBody s__law_doors_right) (defScope s__law_doors_right) [] [] f fd
/-- the doors, called with law's cells passed on -/
theorem doors_ok {P : Program} {w : World} {K : PySem.W.Frag} {mg : Str → Option Value} {base : Heap} {Z : Par} (D : Defs K mg Z.ca) (DD : Doors K mg) (fx : Fx K mg Z) {cells : List (Str × Addr)} {cs : List Addr} (hcs : CY.map (fun y => cells.lookup y) = cs.map some) (nd : cs.Nodup) {qn : Str} {Pt : Addr}
    (oc : Addr → Obj) (g : List W) (wv : List (Option V)) (CV : CellV cs oc wv) : CalG P w K mg base (Zg (Zd Z cs (lw qn cells) Pt qn) cs oc g wv) 12 "_law_doors_right" (F__law_doors_right g) := by
  have fz : Fx K mg (Zg (Zd Z cs (lw qn cells) Pt qn) cs oc g wv) := fx.imp rfl rfl rfl
  have fn : Fx K mg (Zg (Zd Z cs (lw qn cells) Pt qn) cs oc g wv).noJ := fx.imp rfl rfl rfl
  have A : AllC P w K mg base (Zg (Zd Z cs (lw qn cells) Pt qn) cs oc g wv) := all_ok D fz
  have N : AllC P w K mg base (Zg (Zd Z cs (lw qn cells) Pt qn) cs oc g wv).noJ := all_ok D fn
  have T : Lams P w K mg base (Zg (Zd Z cs (lw qn cells) Pt qn) cs oc g wv) 10 (LT g) cs oc g wv (lw qn cells) lfr ljs lbd :=
    ⟨fun _ _ _ => Iff.rfl, apt_d, fun q a H h => h, lams_run fn N.c__law_two N.m_Gone_shows N.m_Stands_shows N.c__law_why N.c_waiting_telling N.c_standing N.c_may_go_on N.c_ways_telling N.c__law_desk N.c__law_gone N.c_joined N.m_Liked_shows N.c__law_liked, lams_ca hcs nd CV⟩
  have c1 : CalG P w K mg base (Zg (Zd Z cs (lw qn cells) Pt qn) cs oc g wv) 11 "_law_door_right" (F__law_door_right g) := by
    obtain ⟨f, fd, h1, h2⟩ := DD.one
    exact ⟨f, fd, ["_law_ask", "_law_lists", "_law_others"], h1, h2.kp, (h2.bindsN fun _ _ _ _ _ _ us hl => match us, hl with | [_, _, _], _ => rfl), ok__law_door_right fz h2 A.c__law_deep A.c__law_spoilt A.c__law_put T⟩
  obtain ⟨f, fd, h1, h2⟩ := DD.all
  exact ⟨f, fd, ["_law_asks", "_law_lists", "_law_others"], h1, h2.kp, (h2.bindsN fun _ _ _ _ _ _ us hl => match us, hl with | [_, _, _], _ => rfl), ok__law_doors_right (cs := cs) (oc := oc) (wv := wv) (F0 := lw qn cells) (fr0 := lfr) (js0 := ljs) (b0 := lbd) fz h2 c1⟩
end G
/-! K39: law keeps its promise. -/
namespace G
open PySem PySem.Spec PyProof.Rows L2
def spLaw (Pt : Addr) : Sp := fun vs H Q _ => ∃ (a : Addr) (ns : List Int), vs = [.ref a] ∧ Rd H a (.lst (ns.map V.int)) ∧ H Pt = some (.tbl #[]) ∧ ∀ H', Q (.bl true) H'
/-- a def by its promise -/
def Has (P : Program) (w : World) (K : PySem.W.Frag) (mg : Str → Option Value) (base : Heap) (k : Nat) (x : Str) (ps : List Str) (sp : Sp) : Prop :=
  ∃ (f : Addr) (fd : FuncData), mg x = some (.ref f) ∧ PySem.W.keepIn K (.ref f) = true ∧ Binds K fd ps [] ∧ FnOk P w K mg base CX0 k f fd ps sp
/-- between two turns -/
def Btw (Z : Par) (σ : L2.St) (H : Hp) : Prop := ∃ ρ, Rel Z ρ hcan H ∧ RS ρ 4 H (scan .und .und) σ
theorem scan_get {ρ : Nat → Addr} {N : Nat} {H : Hp} {σ : L2.St} (S : RS ρ N H (scan .und .und) σ) : ∃ x3 x4 x5 x6 x7 x8 x9 x10, σ = [some (.ref (ρ 1)), some (.ref (ρ 2)), some (.ref (ρ 3)), x3, x4, x5, x6, x7, x8, x9, x10] := by
  obtain ⟨x0, _, rfl, h0, x1, _, rfl, h1, x2, _, rfl, h2, x3, _, rfl, _, x4, _, rfl, _, x5, _, rfl, _, x6, _, rfl, _, x7, _, rfl, _, x8, _, rfl, _, x9, _, rfl, _, x10, _, rfl, _, rfl⟩ := S
  rcases h0 with h0 | ⟨v0, rfl, _, rfl⟩
  · cases h0
  rcases h1 with h1 | ⟨v1, rfl, _, rfl⟩
  · cases h1
  rcases h2 with h2 | ⟨v2, rfl, _, rfl⟩
  · cases h2
  exact ⟨x3, x4, x5, x6, x7, x8, x9, x10, rfl⟩
theorem scan_mk {ρ : Nat → Addr} {H : Hp} {p r : W} {vp vr : V} (hp : RW ρ 4 H p vp) (hr : RW ρ 4 H r vr) {x3 x6 x7 x8 x9 x10 : Option V} : RS ρ 4 H (scan p r) [some (.ref (ρ 1)), some (.ref (ρ 2)), some (.ref (ρ 3)), x3, some vp, some vr, x6, x7, x8, x9, x10] :=
  ⟨_, _, rfl, .inr ⟨_, rfl, by decide, rfl⟩, _, _, rfl, .inr ⟨_, rfl, by decide, rfl⟩, _, _, rfl, .inr ⟨_, rfl, by decide, rfl⟩, _, _, rfl, .inl rfl, _, _, rfl, .inr ⟨_, rfl, hp⟩, _, _, rfl, .inr ⟨_, rfl, hr⟩, _, _, rfl, .inl rfl, _, _, rfl, .inl rfl, _, _, rfl, .inl rfl, _, _, rfl, .inl rfl, _, _, rfl, .inl rfl, rfl⟩
theorem seq_in {Z : Par} {a b : DT} {De : Ends} {σ : L2.St} {H : Hp} (h : tS Z (sSeq a b) De σ H) : tSeq (tS Z a) (tS Z b) De σ H := by
  obtain ⟨ρ, s, h, E, e, R, S, qn, qr⟩ := h
  exact ⟨ρ, s, h, _, e, R, S, fun ρ' h' H' s' σ' e' x' R' S' => ⟨ρ', s', h', E, e', R', S', qn.ext x', qr.ext x'⟩, qr⟩
/-- the drawn part -/
def pW : Nat → Int × Int
  | 0 => (0, 0)
  | 1 => (1, 0)
  | _ => (0, 1)
theorem part_rw {ρ : Nat → Addr} {N : Nat} {H : Hp} {k : Nat} {p : Addr} (h : H p = some (.tup [.int (pW k).1, .int (pW k).2])) : RW ρ N H (partW k) (.ref p) := by
  match k, h with
  | 0, h => exact ⟨p, .int 0, [.int 0], rfl, h, rfl, .int 0, [], rfl, rfl, rfl⟩
  | 1, h => exact ⟨p, .int 1, [.int 0], rfl, h, rfl, .int 0, [], rfl, rfl, rfl⟩
  | n + 2, h => exact ⟨p, .int 0, [.int 1], rfl, h, rfl, .int 1, [], rfl, rfl, rfl⟩
/-- a turn, the part and the rest drawn -/
theorem turn_q {Z : Par} (ev : Ev) (hj : ∀ ρ N H, Z.J ρ N H) {De : Ends} {ρ : Nat → Addr} {H H' : Hp} (R : Rel Z ρ hcan H) (kp : ∀ b u, H b = some u → H' b = some u) {k : Nat} {p : Addr} (hk : k < 3) (hp : H' p = some (.tup [.int (pW k).1, .int (pW k).2])) {r : Int} (h0 : 0 ≤ r) (h3 : r < 3) {x3 x6 x7 x8 x9 x10 : Option V}
    (hn : ∀ σ H, Btw Z σ H → De.nx σ H) : tS Z T_turn De [some (.ref (ρ 1)), some (.ref (ρ 2)), some (.ref (ρ 3)), x3, some (.ref p), some (.int (1 + r)), x6, x7, x8, x9, x10] H' := by
  obtain ⟨n, rfl⟩ : ∃ n : Nat, r = n := ⟨r.toNat, by omega⟩
  have hn3 : n < 3 := by omega
  obtain ⟨R', _⟩ := R.grow kp
  have e := ev.turn k n hk hn3
  refine ⟨ρ, scan (partW k) (iW (1 + n)), hcan, ⟨chk, fun _ _ => false⟩, e, R', scan_mk (part_rw hp) ?_, fun ρ2 h2 H2 s2 σ2 e2 x2 R2 S2 => hn _ _ ⟨ρ2, chk_ok hj R2 S2 e2⟩, fun _ _ _ _ _ e2 => by cases e2⟩
  show V.int (1 + (n : Int)) = V.int (Int.ofNat (1 + n))
  have : (1 : Int) + n = Int.ofNat (1 + n) := by
    show (1 : Int) + n = ((1 + n : Nat) : Int)
    omega
  rw [this]
/-- what follows the loop -/
theorem tail_q {Z : Par} (ev : Ev) {De : Ends} {σ : L2.St} {H : Hp} (h : Btw Z σ H) (hq : ∀ H', De.rt (.bl true) H') : tS Z T_tail De σ H := by
  obtain ⟨ρ, R, S⟩ := h
  refine ⟨ρ, scan .und .und, hcan, ⟨fun _ _ => false, fun w _ => match w with | .bl true => true | _ => false⟩, ev.tail, R, S, (fun _ _ _ _ _ e2 => by cases e2), fun ρ2 h2 H2 w v e2 x2 R2 r2 => ?_⟩
  match w, e2, r2 with
  | .bl true, _, r2 =>
    have : v = .bl true := r2
    rw [this]
    exact hq H2
/-- ahead of the loop -/
theorem pre_q {Z : Par} (ev : Ev) (hj : ∀ ρ N H, Z.J ρ N H) {De : Ends} {a Pt : Addr} {ns : List Int} {H : Hp} (hS : Rd H a (.lst (ns.map V.int))) (hT : H Pt = some (.tbl #[])) (ht : Z.tabP Pt H) (hn : ∀ σ H, Btw Z σ H → De.nx σ H) : tS Z T_pre De (L2.start NL [.ref a]) H := by
  have ne : Pt ≠ a := fun z => by
    rcases hS with q | ⟨o, q⟩ <;> (rw [← z, hT] at q; cases q)
  refine ⟨fun i => match i with | 0 => Pt | _ => a, sini, hini, ⟨chk, fun _ _ => false⟩, ev.pre, ⟨fun i j hi hj' e => ?_, fun i hi => ?_, hj _ _ _⟩, ?_, fun ρ2 h2 H2 s2 σ2 e2 x2 R2 S2 => hn _ _ ⟨ρ2, chk_ok hj R2 S2 e2⟩, fun _ _ _ _ _ e2 => by cases e2⟩
  · match i, j, hi, hj', e with
    | 0, 0, _, _, _ => rfl
    | 0, 1, _, _, e => exact absurd e ne
    | 1, 0, _, _, e => exact absurd e.symm ne
    | 1, 1, _, _, _ => rfl
    | n + 2, _, hi, _, _ => exact absurd hi (by show ¬ n + 2 < 2; omega)
    | 0, n + 2, _, hj', _ => exact absurd hj' (by show ¬ n + 2 < 2; omega)
    | 1, n + 2, _, hj', _ => exact absurd hj' (by show ¬ n + 2 < 2; omega)
  · match i, hi with
    | 0, _ => exact ⟨.tab, rfl, ⟨_, hT⟩, ht⟩
    | 1, _ => exact ⟨.opq, rfl, ns, hS⟩
    | n + 2, hi => exact absurd hi (by show ¬ n + 2 < 2; omega)
  · exact ⟨_, _, rfl, .inr ⟨_, rfl, by decide, rfl⟩, RS_unds (σ := List.replicate 10 none)⟩
theorem Rd_grow {H H' : Hp} {a : Addr} {u : HO} (g : ∀ b o, H b = some o → H' b = some o) (h : Rd H a u) : Rd H' a u := h.imp (g _ _) fun ⟨o, z⟩ => ⟨o, g _ _ z⟩
theorem grow_upd {H : Hp} {p : Addr} {o : HO} (hp : H p = none) : ∀ b u, H b = some u → upd H p o b = some u := fun b u e => by rw [upd_ne (ne_of_none e hp)]; exact e
/-- the part and the rest are drawn -/
theorem draw_q {K : PySem.W.Frag} {Z : Par} (ev : Ev) (hj : ∀ ρ N H, Z.J ρ N H) {De : Ends} {ρ : Nat → Addr} {H : Hp} (R : Rel Z ρ hcan H) {i : Nat} (hi : i < 2) (hn : ∀ σ H, Btw Z σ H → De.nx σ H) {x3 x4 x5 x6 x7 x8 x9 x10 : Option V} :
    gName 3 (V.int (0 + (i : Int))) [some (V.ref (ρ 1)), some (V.ref (ρ 2)), some (V.ref (ρ 3)), x3, x4, x5, x6, x7, x8, x9, x10] H fun σ2 H2 =>
      tSeq (tAsg (tOp (rIx K) (tTup (tCons (tTup (tCons (tC (V.int 0)) (tCons (tC (V.int 0)) tNil))) (tCons (tTup (tCons (tC (V.int 1)) (tCons (tC (V.int 0)) tNil))) (tCons (tTup (tCons (tC (V.int 0)) (tCons (tC (V.int 1)) tNil))) tNil))))
          (tCall spNumber [] E0 (tCons (tCall (spCell K) [] E0 (tCons (tVar 0) (tCons (tVar 3) tNil))) (tCons (tOp (rI0 fun i j => V.int (i + j)) (tVar 3) (tC (V.int 1))) (tCons (tC (V.int 3)) tNil))))) (gName 4))
        (tSeq (tAsg (tOp (rI0 fun i j => V.int (i + j)) (tC (V.int 1)) (tCall spNumber [] E0 (tCons (tCall (spCell K) [] E0 (tCons (tVar 0) (tCons (tVar 3) tNil))) (tCons (tOp (rI0 fun i j => V.int (i + j)) (tVar 3) (tC (V.int 2))) (tCons (tC (V.int 3)) tNil))))) (gName 5)) (tS Z T_turn)) De σ2 H2 := by
  obtain ⟨c1, e1, k1⟩ := R.cell 1 (by decide)
  obtain rfl : Cell.opq = c1 := Option.some.inj e1
  obtain ⟨ns, hS⟩ := k1
  rw [Int.zero_add]
  have l3 : ([some (V.ref (ρ 1)), some (V.ref (ρ 2)), some (V.ref (ρ 3)), x3, x4, x5, x6, x7, x8, x9, x10] : L2.St).set 3 (some (V.int (i : Int))) = [some (V.ref (ρ 1)), some (V.ref (ρ 2)), some (V.ref (ρ 3)), some (V.int (i : Int)), x4, x5, x6, x7, x8, x9, x10] := rfl
  unfold gName
  rw [l3]
  refine ⟨by decide, fun p0 n0 => ⟨by decide, fun p1 n1 => ⟨by decide, fun p2 n2 => ⟨by show 3 ≤ sizeLine; decide, fun p n => ?_⟩⟩⟩⟩
  have g0 := grow_upd (o := .tup [.int 0, .int 0]) n0
  have g1 := grow_upd (o := .tup [.int 1, .int 0]) n1
  have g2 := grow_upd (o := .tup [.int 0, .int 1]) n2
  have g3 := grow_upd (o := .tup [.ref p0, .ref p1, .ref p2]) n
  have gg : ∀ b o, H b = some o → _ := fun b o e => g3 b o (g2 b o (g1 b o (g0 b o e)))
  refine ⟨.ref (ρ 1), rfl, .int i, rfl, ρ 1, ns, i, rfl, .inl (Rd_grow gg hS), fun c => ⟨.int i, rfl, i, 1, rfl, rfl, c, i + 1, rfl, by omega, fun r H' r0 r3 gr => ?_⟩⟩
  have fin : ∀ (k : Nat) (pk : Addr), k < 3 → H' pk = some (.tup [.int (pW k).1, .int (pW k).2]) →
      tSeq (tAsg (tOp (rI0 fun i j => V.int (i + j)) (tC (V.int 1)) (tCall spNumber [] E0 (tCons (tCall (spCell K) [] E0 (tCons (tVar 0) (tCons (tVar 3) tNil))) (tCons (tOp (rI0 fun i j => V.int (i + j)) (tVar 3) (tC (V.int 2))) (tCons (tC (V.int 3)) tNil))))) (gName 5)) (tS Z T_turn) De
        [some (V.ref (ρ 1)), some (V.ref (ρ 2)), some (V.ref (ρ 3)), some (V.int (i : Int)), some (V.ref pk), x5, x6, x7, x8, x9, x10] H' := fun k pk hk hp =>
    ⟨.ref (ρ 1), rfl, .int i, rfl, ρ 1, ns, i, rfl, .inl (Rd_grow gr (Rd_grow gg hS)), fun c2 => ⟨.int i, rfl, i, 2, rfl, rfl, c2, i + 2, rfl, by omega, fun r2 H2 r20 r23 gr2 => ⟨1, r2, rfl, rfl, turn_q ev hj R (fun b o e => gr2 b o (gr b o (gg b o e))) hk (gr2 _ _ hp) r20 r23 hn⟩⟩⟩
  have hp0 := gr _ _ (g3 _ _ (g2 _ _ (g1 p0 _ upd_same)))
  have hp1 := gr _ _ (g3 _ _ (g2 p1 _ upd_same))
  have hp2 := gr _ _ (g3 p2 _ upd_same)
  have hp := gr p _ upd_same
  obtain ⟨m, rfl⟩ : ∃ m : Nat, r = m := ⟨r.toNat, by omega⟩
  have hm : m < 3 := by omega
  refine .inr (.inl ⟨p, [.ref p0, .ref p1, .ref p2], m, ?_⟩)
  match m, hm with
  | 0, _ => exact ⟨.ref p0, rfl, rfl, .inl (.inl hp), atI_nat (j := 0) rfl, fin 0 p0 (by decide) hp0⟩
  | 1, _ => exact ⟨.ref p1, rfl, rfl, .inl (.inl hp), atI_nat (j := 1) rfl, fin 1 p1 (by decide) hp1⟩
  | 2, _ => exact ⟨.ref p2, rfl, rfl, .inl (.inl hp), atI_nat (j := 2) rfl, fin 2 p2 (by decide) hp2⟩
  | n + 3, hm => exact absurd hm (by omega)
section
variable {P : Program} {w : World} {K : PySem.W.Frag} {mg : Str → Option Value} {base : Heap} {Z : Par} {f fd_cd cd Pt : Addr} {fd : FuncData}
theorem ok_law (ev : Ev) (D : Defs K mg Z.ca) (DD : Doors K mg) (fx : Fx K mg Z) (FD : FunD K "law" "law" (defArgs s_law) (defBody s_law) (defScope s_law) [] [] f fd) (hcd : fd.code = .ref cd) (TB : LamX.TabB base mg cd Pt)
    (hc : Has P w K mg base 1 "_law_cell_at" ["_law_script", "_law_k"] (spCell K)) (hm : Has P w K mg base 2 "_law_number" ["_law_cell", "_law_k", "_law_limit"] spNumber) : FnOkG P w K mg base 13 f fd ["_law_script"] (spLaw Pt) := by
  obtain ⟨oc, od, dV, kV, doc, pm, an, cdv, ct, osl, rfl, lk, hcode, _, _⟩ := FD.ex
  obtain rfl : cdv = .ref cd := hcd
  obtain ⟨fc, dc, c1, c2, c3, c4⟩ := hc
  obtain ⟨fm, dm, m1, m2, m3, m4⟩ := hm
  refine ⟨fun vs H Q E ⟨a, ns, e, _⟩ => by rw [e]; rfl, fun A outer s H args us vs Q E hr hg e0 hb r ⟨a, ns, ev0, hS, hT, q⟩ => ?_⟩
  subst ev0
  refine LamX.run_ofS lk hcode sc_law hr e0 hb r rfl fun hr' => ?_
  have lP : Pt < s.heap.objs.size := Heap.lt_size (e0.hok Pt _ hT)
  have nP : Pt ∉ lcs s.heap.objs.size := fun z => by
    have h : ∀ L x a b c d : Nat, a = L + 3 → b = L + 4 → c = L + 1 → d = L + 2 → x ∈ ([a, b, c, d] : List Nat) → L < x := fun L x a b c d h1 h2 h3 h4 hx => by
      simp only [List.mem_cons, List.not_mem_nil, or_false] at hx
      omega
    exact absurd lP (Nat.lt_asymm (h _ _ _ _ _ _ rfl rfl rfl rfl z))
  have hcs := lcs_eq (L := s.heap.objs.size) (f := f) (cd := cd)
  have fz : Fx K mg (Zd Z (lcs s.heap.objs.size) (lw ((lEnv s.heap.objs.size f cd).qual ++ "<lambda>") (lEnv s.heap.objs.size f cd).cells) Pt ((lEnv s.heap.objs.size f cd).qual ++ "<lambda>")) := fx.imp rfl rfl rfl
  have A1 : AllC P w K mg base (Zd Z (lcs s.heap.objs.size) (lw ((lEnv s.heap.objs.size f cd).qual ++ "<lambda>") (lEnv s.heap.objs.size f cd).cells) Pt ((lEnv s.heap.objs.size f cd).qual ++ "<lambda>")) := all_ok D fz
  have hd := doors_ok (P := P) (w := w) (base := base) D DD fx hcs (lcs_nd _) (qn := (lEnv s.heap.objs.size f cd).qual ++ "<lambda>") (Pt := Pt)
  have hmx : ∃ f, mg "_law_doors_right" = some (.ref f) ∧ PySem.W.keepIn K (.ref f) = true := by
    obtain ⟨f, fd, h1, h2⟩ := DD.all
    exact ⟨f, h1, h2.kp⟩
  obtain ⟨pA, pB, eP, p0, p1⟩ := law_pre (P := P) (w := w) (K := K) (mg := mg) (base := base) (Z := Z) (f := f) (Pt := Pt) (cd := cd) (A := A) (outer := outer) (s := s) (H := H) (E := E) rfl rfl fz TB (cs_in hcs) hcs hd hmx hr' hg
  have pt := law_turn (P := P) (w := w) (K := K) (mg := mg) (base := base) (Z := Z) (f := f) (Pt := Pt) (cd := cd) (A := A) (outer := outer) (s := s) (H := H) (E := E) rfl rfl fz TB (cs_in hcs) hcs hd hmx A1.c_why hr' hg
  have ptl := law_tail (P := P) (w := w) (K := K) (mg := mg) (base := base) (Z := Z) (f := f) (Pt := Pt) (cd := cd) (A := A) (outer := outer) (s := s) (H := H) (E := E) rfl rfl fz TB (cs_in hcs) hcs hd hmx A1.c_liked hr' hg
  have h1 : Room 1 (A.deeper (lEnv s.heap.objs.size f cd)) := hr'.mono (by decide)
  have h2 : Room 2 (A.deeper (lEnv s.heap.objs.size f cd)) := hr'.mono (by decide)
  refine ⟨_, PSs.nox (pss_cons p0 (pss_cons p1 (pss_cons (ps_for PassesOwn.never rfl (pi_range1 rfl fx.n_range (pa_cons pe_int pa_nil)) (pg_name (i := 3) sc_law.nd rfl (.inl rfl))
    (pss_cons (ps_set (i := 4) sc_law.nd rfl (.inr rfl) (pe_ix ix_seq (pe_tup (pa_cons (pe_tup (pa_cons pe_int (pa_cons pe_int pa_nil))) (pa_cons (pe_tup (pa_cons pe_int (pa_cons pe_int pa_nil))) (pa_cons (pe_tup (pa_cons pe_int (pa_cons pe_int pa_nil))) pa_nil))))
      (pe_call m4 h2 rfl m1 m2 m3 (dvs := []) (ds := []) .nil pass0 (pa_cons (pe_call c4 h1 rfl c1 c2 c3 (dvs := []) (ds := []) .nil pass0 (pa_cons (pv 0) (pa_cons (pv 3) pa_nil))) (pa_cons (pe_op op_add (pv 3) pe_int) (pa_cons pe_int pa_nil)))) fun _ _ => rfl))
    (pss_cons (ps_set (i := 5) sc_law.nd rfl (.inr rfl) (pe_op op_add pe_int (pe_call m4 h2 rfl m1 m2 m3 (dvs := []) (ds := []) .nil pass0 (pa_cons (pe_call c4 h1 rfl c1 c2 c3 (dvs := []) (ds := []) .nil pass0 (pa_cons (pv 0) (pa_cons (pv 3) pa_nil))) (pa_cons (pe_op op_add (pv 3) pe_int) (pa_cons pe_int pa_nil)))))) pt))) ptl))), ?_⟩
  have hj : ∀ ρ N H, (Zd Z (lcs s.heap.objs.size) (lw ((lEnv s.heap.objs.size f cd).qual ++ "<lambda>") (lEnv s.heap.objs.size f cd).cells) Pt ((lEnv s.heap.objs.size f cd).qual ++ "<lambda>")).J ρ N H := fun _ _ _ => trivial
  have pq := fun De hn => pre_q (De := De) ev hj hS hT ⟨rfl, nP, #[], hT, trivial, fun _ _ z => by cases z⟩ hn
  rw [eP] at pq
  refine seq_in (pq { nx := _, rt := Q } fun σ H1 b1 => ?_)
  refine ⟨2, rfl, by decide, by decide, for_range (lo := 0) (n := 2) (fun _ σ H => Btw (Zd Z (lcs s.heap.objs.size) (lw ((lEnv s.heap.objs.size f cd).qual ++ "<lambda>") (lEnv s.heap.objs.size f cd).cells) Pt ((lEnv s.heap.objs.size f cd).qual ++ "<lambda>")) σ H) b1 (fun i σ H hi bt => ?_) fun σ H bt => tail_q ev bt q⟩
  obtain ⟨ρ, R, S⟩ := bt
  obtain ⟨x3, x4, x5, x6, x7, x8, x9, x10, rfl⟩ := scan_get S
  exact draw_q ev hj R hi (fun _ _ z => z)
end
end G
/-! K40: the head (printed by gen5.py). -/
namespace G
open PySem PySem.Spec PyProof.Rows L2
def hnames0 : List Str := ["_wall", "TaleError", "BadWords", "BadPart", "BadLikes", "BadRest", "BadMays", "BadLength", "BadHand", "BadUpper", "Resting", "Unlike", "TooMany", "MOST_HAND", "MOST_OWN", "MOST_WORDS", "MOST_REST", "is_whole", "is_between", "is_part", "is_word", "uppers_of", "outs_of", "check_alike", "check_words", "check_heard", "check_rest", "way_up", "way_in", "standing_in"]
def hnames1 : List Str := ["once", "Answer", "is_way", "Stands", "Gone", "Waits", "likes_of", "Liked", "free_from", "Turns", "Short", "MOST_LIKES", "joined", "state_of", "why", "standing", "waiting", "waiting_telling", "ways_of", "ways", "ways_telling", "is_like", "liked", "may_go_on", "Desk", "MOST_MAY", "LONGEST", "check_going", "gone_through", "stretches_to"]
def hnames2 : List Str := ["gone_on", "_law_cell_at", "_law_draw", "_law_number", "_law_deep", "_law_spoilt", "_law_put", "_law_door_right", "_law_two", "_law_doors_right", "_law_why", "_law_liked", "_law_gone", "_law_desk"]
def hnames : List Str := hnames0 ++ (hnames1 ++ (hnames2))
def hfa0 : List He.Fa := [.glo "is_whole", .glo "is_between", .glo "is_part", .glo "is_word", .glo "uppers_of", .glo "outs_of", .glo "check_alike", .glo "check_words", .glo "check_heard", .glo "check_rest", .glo "way_up", .glo "way_in", .glo "standing_in", .glo "once", .glo "is_way", .glo "Stands", .mkr "Stands", .meth "Stands" "shows", .glo "Gone", .mkr "Gone", .meth "Gone" "shows", .glo "likes_of", .glo "Liked", .mkr "Liked", .meth "Liked" "shows", .glo "free_from", .glo "Turns", .mkr "Turns", .meth "Turns" "shows", .glo "joined"]
def hfa1 : List He.Fa := [.glo "state_of", .glo "why", .glo "standing", .glo "waiting_telling", .glo "ways_of", .glo "ways_telling", .glo "is_like", .glo "liked", .glo "may_go_on", .glo "Desk", .mkr "Desk", .meth "Desk" "hear", .meth "Desk" "words", .meth "Desk" "standing", .meth "Desk" "waiting", .meth "Desk" "ways", .meth "Desk" "my_ends", .glo "check_going", .glo "gone_through", .glo "gone_on", .glo "_law_deep", .glo "_law_spoilt", .glo "_law_put", .glo "_law_two", .glo "_law_why", .glo "_law_liked", .glo "_law_gone", .glo "_law_desk", .glo "_law_door_right", .glo "_law_doors_right"]
def hfa2 : List He.Fa := [.glo "_law_cell_at", .glo "_law_draw", .glo "_law_number", .glo "law", .free "len", .free "list", .free "tuple", .free "any", .free "all", .free "sum", .free "max", .free "sorted", .free "range", .free "zip", .free "enumerate", .free "isinstance", .free "int", .free "bool", .free "str", .free "set", .free "dict", .int "MOST_HAND" 5, .int "MOST_OWN" 9, .int "MOST_WORDS" 60, .int "MOST_REST" 5, .int "MOST_LIKES" 60, .int "MOST_MAY" 20, .int "LONGEST" 60, .cls "Stands", .cls "Gone"]
def hfa3 : List He.Fa := [.cls "Waits", .cls "Liked", .cls "Turns", .cls "Short", .cls "Desk", .noat "Stands" "way", .noat "Stands" "marks", .noat "Stands" "order", .noat "Stands" "hand", .noat "Stands" "rest", .noat "Stands" "known", .noat "Stands" "chain", .noat "Stands" "stretches", .noat "Gone" "way", .noat "Gone" "marks", .noat "Gone" "order", .noat "Gone" "hand", .noat "Gone" "rest", .noat "Gone" "known", .noat "Gone" "chain", .noat "Gone" "stretches", .noat "Waits" "way", .noat "Waits" "marks", .noat "Waits" "order", .noat "Waits" "hand", .noat "Waits" "rest", .noat "Waits" "known", .noat "Waits" "chain", .noat "Waits" "stretches", .noat "Liked" "way"]
def hfa4 : List He.Fa := [.noat "Liked" "marks", .noat "Liked" "order", .noat "Liked" "hand", .noat "Liked" "rest", .noat "Liked" "known", .noat "Liked" "chain", .noat "Liked" "stretches", .noat "Turns" "way", .noat "Turns" "marks", .noat "Turns" "order", .noat "Turns" "hand", .noat "Turns" "rest", .noat "Turns" "known", .noat "Turns" "chain", .noat "Turns" "stretches", .noat "Short" "way", .noat "Short" "marks", .noat "Short" "order", .noat "Short" "hand", .noat "Short" "rest", .noat "Short" "known", .noat "Short" "chain", .noat "Short" "stretches", .noat "Desk" "way", .noat "Desk" "marks", .noat "Desk" "order", .noat "Desk" "hand", .noat "Desk" "rest", .noat "Desk" "known", .noat "Desk" "chain"]
def hfa5 : List He.Fa := [.noat "Desk" "stretches", .glo "Waits", .glo "Short"]
def hfa : List He.Fa := hfa0 ++ (hfa1 ++ (hfa2 ++ (hfa3 ++ (hfa4 ++ (hfa5)))))
def hfn0 : List He.DefD := [⟨("is_whole", none), "is_whole", "is_whole", defArgs s_is_whole, defBody s_is_whole, defScope s_is_whole, [], []⟩, ⟨("is_between", none), "is_between", "is_between", defArgs s_is_between, defBody s_is_between, defScope s_is_between, [], []⟩, ⟨("is_part", none), "is_part", "is_part", defArgs s_is_part, defBody s_is_part, defScope s_is_part, [], []⟩, ⟨("is_word", none), "is_word", "is_word", defArgs s_is_word, defBody s_is_word, defScope s_is_word, [], []⟩, ⟨("uppers_of", none), "uppers_of", "uppers_of", defArgs s_uppers_of, defBody s_uppers_of, defScope s_uppers_of, [], []⟩, ⟨("outs_of", none), "outs_of", "outs_of", defArgs s_outs_of, defBody s_outs_of, defScope s_outs_of, [], []⟩, ⟨("check_alike", none), "check_alike", "check_alike", defArgs s_check_alike, defBody s_check_alike, defScope s_check_alike, [], []⟩, ⟨("check_words", none), "check_words", "check_words", defArgs s_check_words, defBody s_check_words, defScope s_check_words, [], []⟩, ⟨("check_heard", none), "check_heard", "check_heard", defArgs s_check_heard, defBody s_check_heard, defScope s_check_heard, [], []⟩, ⟨("check_rest", none), "check_rest", "check_rest", defArgs s_check_rest, defBody s_check_rest, defScope s_check_rest, [], []⟩, ⟨("way_up", none), "way_up", "way_up", defArgs s_way_up, defBody s_way_up, defScope s_way_up, [], []⟩, ⟨("way_in", none), "way_in", "way_in", defArgs s_way_in, defBody s_way_in, defScope s_way_in, [], []⟩, ⟨("standing_in", none), "standing_in", "standing_in", defArgs s_standing_in, defBody s_standing_in, defScope s_standing_in, [], []⟩, ⟨("once", none), "once", "once", defArgs s_once, defBody s_once, defScope s_once, [], []⟩, ⟨("is_way", none), "is_way", "is_way", defArgs s_is_way, defBody s_is_way, defScope s_is_way, [], []⟩, ⟨("Stands", some "__init__"), "__init__", "Stands.__init__", defArgs s_Stands_init, defBody s_Stands_init, defScope s_Stands_init, [], []⟩, ⟨("Stands", some "shows"), "shows", "Stands.shows", defArgs s_Stands_shows, defBody s_Stands_shows, defScope s_Stands_shows, [], []⟩, ⟨("Gone", some "__init__"), "__init__", "Gone.__init__", defArgs s_Gone_init, defBody s_Gone_init, defScope s_Gone_init, [], []⟩, ⟨("Gone", some "shows"), "shows", "Gone.shows", defArgs s_Gone_shows, defBody s_Gone_shows, defScope s_Gone_shows, [], []⟩, ⟨("likes_of", none), "likes_of", "likes_of", defArgs s_likes_of, defBody s_likes_of, defScope s_likes_of, [], []⟩]
def hfn1 : List He.DefD := [⟨("Liked", some "__init__"), "__init__", "Liked.__init__", defArgs s_Liked_init, defBody s_Liked_init, defScope s_Liked_init, [], []⟩, ⟨("Liked", some "shows"), "shows", "Liked.shows", defArgs s_Liked_shows, defBody s_Liked_shows, defScope s_Liked_shows, [], []⟩, ⟨("free_from", none), "free_from", "free_from", defArgs s_free_from, defBody s_free_from, defScope s_free_from, [], []⟩, ⟨("Turns", some "__init__"), "__init__", "Turns.__init__", defArgs s_Turns_init, defBody s_Turns_init, defScope s_Turns_init, [], []⟩, ⟨("Turns", some "shows"), "shows", "Turns.shows", defArgs s_Turns_shows, defBody s_Turns_shows, defScope s_Turns_shows, [], []⟩, ⟨("joined", none), "joined", "joined", defArgs s_joined, defBody s_joined, defScope s_joined, [], []⟩, ⟨("state_of", none), "state_of", "state_of", defArgs s_state_of, defBody s_state_of, defScope s_state_of, [], []⟩, ⟨("why", none), "why", "why", defArgs s_why, defBody s_why, defScope s_why, [], []⟩, ⟨("standing", none), "standing", "standing", defArgs s_standing, defBody s_standing, defScope s_standing, [], []⟩, ⟨("waiting_telling", none), "waiting", "waiting", defArgs s_waiting, defBody s_waiting, defScope s_waiting, [], []⟩, ⟨("ways_of", none), "ways_of", "ways_of", defArgs s_ways_of, defBody s_ways_of, defScope s_ways_of, [], []⟩, ⟨("ways_telling", none), "ways", "ways", defArgs s_ways, defBody s_ways, defScope s_ways, [], []⟩, ⟨("is_like", none), "is_like", "is_like", defArgs s_is_like, defBody s_is_like, defScope s_is_like, [], []⟩, ⟨("liked", none), "liked", "liked", defArgs s_liked, defBody s_liked, defScope s_liked, [], []⟩, ⟨("may_go_on", none), "may_go_on", "may_go_on", defArgs s_may_go_on, defBody s_may_go_on, defScope s_may_go_on, [], []⟩, ⟨("Desk", some "__init__"), "__init__", "Desk.__init__", defArgs s_Desk_init, defBody s_Desk_init, defScope s_Desk_init, [], []⟩, ⟨("Desk", some "hear"), "hear", "Desk.hear", defArgs s_Desk_hear, defBody s_Desk_hear, defScope s_Desk_hear, [], []⟩, ⟨("Desk", some "words"), "words", "Desk.words", defArgs s_Desk_words, defBody s_Desk_words, defScope s_Desk_words, [], []⟩, ⟨("Desk", some "standing"), "standing", "Desk.standing", defArgs s_Desk_standing, defBody s_Desk_standing, defScope s_Desk_standing, [], []⟩, ⟨("Desk", some "waiting"), "waiting", "Desk.waiting", defArgs s_Desk_waiting, defBody s_Desk_waiting, defScope s_Desk_waiting, [], []⟩]
def hfn2 : List He.DefD := [⟨("Desk", some "ways"), "ways", "Desk.ways", defArgs s_Desk_ways, defBody s_Desk_ways, defScope s_Desk_ways, [], []⟩, ⟨("Desk", some "my_ends"), "my_ends", "Desk.my_ends", defArgs s_Desk_my_ends, defBody s_Desk_my_ends, defScope s_Desk_my_ends, [], []⟩, ⟨("check_going", none), "check_going", "check_going", defArgs s_check_going, defBody s_check_going, defScope s_check_going, [], []⟩, ⟨("gone_through", none), "gone_through", "gone_through", defArgs s_gone_through, defBody s_gone_through, defScope s_gone_through, [], []⟩, ⟨("gone_on", none), "gone_on", "gone_on", defArgs s_gone_on, defBody s_gone_on, defScope s_gone_on, [], []⟩, ⟨("_law_deep", none), "_law_deep", "_law_deep", defArgs s__law_deep, defBody s__law_deep, defScope s__law_deep, [], []⟩, ⟨("_law_spoilt", none), "_law_spoilt", "_law_spoilt", defArgs s__law_spoilt, defBody s__law_spoilt, defScope s__law_spoilt, [], []⟩, ⟨("_law_put", none), "_law_put", "_law_put", defArgs s__law_put, defBody s__law_put, defScope s__law_put, [], []⟩, ⟨("_law_two", none), "_law_two", "_law_two", defArgs s__law_two, defBody s__law_two, defScope s__law_two, [], []⟩, ⟨("_law_why", none), "_law_why", "_law_why", defArgs s__law_why, defBody s__law_why, defScope s__law_why, [], []⟩, ⟨("_law_liked", none), "_law_liked", "_law_liked", defArgs s__law_liked, defBody s__law_liked, defScope s__law_liked, [], []⟩, ⟨("_law_gone", none), "_law_gone", "_law_gone", defArgs s__law_gone, defBody s__law_gone, defScope s__law_gone, [], []⟩, ⟨("_law_desk", none), "_law_desk", "_law_desk", defArgs s__law_desk, defBody s__law_desk, defScope s__law_desk, [], []⟩, ⟨("_law_door_right", none), "_law_door_right", "_law_door_right", defArgs s__law_door_right, defBody s__law_door_right, defScope s__law_door_right, [], []⟩, ⟨("_law_doors_right", none), "_law_doors_right", "_law_doors_right", defArgs s__law_doors_right, defBody s__law_doors_right, defScope s__law_doors_right, [], []⟩, ⟨("_law_cell_at", none), "_law_cell_at", "_law_cell_at", defArgs s_cell, defBody s_cell, defScope s_cell, [], []⟩, ⟨("_law_draw", none), "_law_draw", "_law_draw", defArgs s_draw, defBody s_draw, defScope s_draw, [], []⟩, ⟨("_law_number", none), "_law_number", "_law_number", defArgs s_number, defBody s_number, defScope s_number, [], []⟩, ⟨("law", none), "law", "law", defArgs s_law, defBody s_law, defScope s_law, [], []⟩]
def hfn : List He.DefD := hfn0 ++ (hfn1 ++ (hfn2))
def cname : Nat → Str
  | 0 => "Stands"
  | 1 => "Gone"
  | 2 => "Waits"
  | 3 => "Liked"
  | 4 => "Turns"
  | 5 => "Short"
  | _ => "Desk"
def caK (K : PySem.W.Frag) (c : Nat) : Addr := He.ga K (cname c)
def lt7 (f : Nat → Bool) : Bool := f 0 && (f 1 && (f 2 && (f 3 && (f 4 && (f 5 && f 6)))))
def exK (K : PySem.W.Frag) : Bool := He.eqO (PySem.W.specialIn K (.builtin "object.__class__") "__get__") (some (some (.builtin "getset_descriptor.__get__"))) && (decide (PySem.W.takesIn K (.builtin "object.__class__") = some true) &&
  (lt7 (fun c => He.eqO (PySem.W.findIn K (.ref (caK K c)) "__class__") (some (some (.builtin "object.__class__"))) && (decide (PySem.W.mroIn K (caK K c) (.type "object") = some true) && lt7 fun q => decide (PySem.W.kitOne K (.ref (caK K c)) (.ref (caK K q)) = some (Nat.beq c q)))) &&
  K.all fun p => match p.2.cls with
    | .type c => !(decide (c = "list"))
    | _ => true))
abbrev RR : PySem.W.OpenRow := PySem.W.OpenLaw.row PySem.Challenge.rw_storyturns_k16_whole_anew
def htf : List He.Defn := [("law", none)]
abbrev hk : PySem.W.Hook := He.hookX 4 hfa hfn [] htf exK
def hob (s : PySem.W.SharedT) : He.AlX := He.obsX 4 hfa hfn [] htf exK (HandSHeadRun.getT s)
theorem hob_eq (s : PySem.W.SharedT) : hob s = hk.obs s.abs := He.obsX_eq (HandSHeadRun.getT_eq s)
theorem hrun (w : World) : HandSHeadRun.RunEq RR (PySem.W.view RR.prog [81]) hk hob 20000 hnames w := by
  intro os
  kernel_rfl
end G
/-! K41: what the head's facts give (printed by gen5.py). -/
namespace G
open PySem PySem.Spec PyProof.Rows L2
/-! ### what the facts give -/
theorem lt7_ok {f : Nat → Bool} (h : lt7 f = true) : ∀ c, c < 7 → f c = true := fun c hc => by
  obtain ⟨h0, h⟩ := He.ba h
  obtain ⟨h1, h⟩ := He.ba h
  obtain ⟨h2, h⟩ := He.ba h
  obtain ⟨h3, h⟩ := He.ba h
  obtain ⟨h4, h⟩ := He.ba h
  obtain ⟨h5, h6⟩ := He.ba h
  match c, hc with
  | 0, _ => exact h0
  | 1, _ => exact h1
  | 2, _ => exact h2
  | 3, _ => exact h3
  | 4, _ => exact h4
  | 5, _ => exact h5
  | 6, _ => exact h6
  | n + 7, hc => exact absurd hc (by omega)
/-- the plainest parameters -/
def Zt (K : PySem.W.Frag) : Par where
  K := K
  ca := caK K
  fname := fnames
  fnj := fnames_inj
  lamP := fun _ _ _ => False
  lamU := fun _ _ _ _ _ _ h => h
  tabP := fun _ _ => False
  tabU := fun _ _ _ _ _ h => h
  J := fun _ _ _ => True
  jU := fun _ _ _ _ _ _ _ _ _ _ => trivial
section
variable {K : PySem.W.Frag} {hp : Heap} {mg : Str → Option Value}
theorem hdefs (X : K.In hp) (G : hp.Ns mainGlobals mg) (c : He.SaysD hfa hfn K) : Defs K mg (caK K) where
  d_is_whole := by
    obtain ⟨fd, FD⟩ := c.def_ 0 (d := ⟨("is_whole", none), "is_whole", "is_whole", defArgs s_is_whole, defBody s_is_whole, defScope s_is_whole, [], []⟩) rfl
    exact ⟨_, fd, He.glo_ok X G (c.fact 0 (f := .glo "is_whole") rfl), FD⟩
  d_is_between := by
    obtain ⟨fd, FD⟩ := c.def_ 1 (d := ⟨("is_between", none), "is_between", "is_between", defArgs s_is_between, defBody s_is_between, defScope s_is_between, [], []⟩) rfl
    exact ⟨_, fd, He.glo_ok X G (c.fact 1 (f := .glo "is_between") rfl), FD⟩
  d_is_part := by
    obtain ⟨fd, FD⟩ := c.def_ 2 (d := ⟨("is_part", none), "is_part", "is_part", defArgs s_is_part, defBody s_is_part, defScope s_is_part, [], []⟩) rfl
    exact ⟨_, fd, He.glo_ok X G (c.fact 2 (f := .glo "is_part") rfl), FD⟩
  d_is_word := by
    obtain ⟨fd, FD⟩ := c.def_ 3 (d := ⟨("is_word", none), "is_word", "is_word", defArgs s_is_word, defBody s_is_word, defScope s_is_word, [], []⟩) rfl
    exact ⟨_, fd, He.glo_ok X G (c.fact 3 (f := .glo "is_word") rfl), FD⟩
  d_uppers_of := by
    obtain ⟨fd, FD⟩ := c.def_ 4 (d := ⟨("uppers_of", none), "uppers_of", "uppers_of", defArgs s_uppers_of, defBody s_uppers_of, defScope s_uppers_of, [], []⟩) rfl
    exact ⟨_, fd, He.glo_ok X G (c.fact 4 (f := .glo "uppers_of") rfl), FD⟩
  d_outs_of := by
    obtain ⟨fd, FD⟩ := c.def_ 5 (d := ⟨("outs_of", none), "outs_of", "outs_of", defArgs s_outs_of, defBody s_outs_of, defScope s_outs_of, [], []⟩) rfl
    exact ⟨_, fd, He.glo_ok X G (c.fact 5 (f := .glo "outs_of") rfl), FD⟩
  d_check_alike := by
    obtain ⟨fd, FD⟩ := c.def_ 6 (d := ⟨("check_alike", none), "check_alike", "check_alike", defArgs s_check_alike, defBody s_check_alike, defScope s_check_alike, [], []⟩) rfl
    exact ⟨_, fd, He.glo_ok X G (c.fact 6 (f := .glo "check_alike") rfl), FD⟩
  d_check_words := by
    obtain ⟨fd, FD⟩ := c.def_ 7 (d := ⟨("check_words", none), "check_words", "check_words", defArgs s_check_words, defBody s_check_words, defScope s_check_words, [], []⟩) rfl
    exact ⟨_, fd, He.glo_ok X G (c.fact 7 (f := .glo "check_words") rfl), FD⟩
  d_check_heard := by
    obtain ⟨fd, FD⟩ := c.def_ 8 (d := ⟨("check_heard", none), "check_heard", "check_heard", defArgs s_check_heard, defBody s_check_heard, defScope s_check_heard, [], []⟩) rfl
    exact ⟨_, fd, He.glo_ok X G (c.fact 8 (f := .glo "check_heard") rfl), FD⟩
  d_check_rest := by
    obtain ⟨fd, FD⟩ := c.def_ 9 (d := ⟨("check_rest", none), "check_rest", "check_rest", defArgs s_check_rest, defBody s_check_rest, defScope s_check_rest, [], []⟩) rfl
    exact ⟨_, fd, He.glo_ok X G (c.fact 9 (f := .glo "check_rest") rfl), FD⟩
  d_way_up := by
    obtain ⟨fd, FD⟩ := c.def_ 10 (d := ⟨("way_up", none), "way_up", "way_up", defArgs s_way_up, defBody s_way_up, defScope s_way_up, [], []⟩) rfl
    exact ⟨_, fd, He.glo_ok X G (c.fact 10 (f := .glo "way_up") rfl), FD⟩
  d_way_in := by
    obtain ⟨fd, FD⟩ := c.def_ 11 (d := ⟨("way_in", none), "way_in", "way_in", defArgs s_way_in, defBody s_way_in, defScope s_way_in, [], []⟩) rfl
    exact ⟨_, fd, He.glo_ok X G (c.fact 11 (f := .glo "way_in") rfl), FD⟩
  d_standing_in := by
    obtain ⟨fd, FD⟩ := c.def_ 12 (d := ⟨("standing_in", none), "standing_in", "standing_in", defArgs s_standing_in, defBody s_standing_in, defScope s_standing_in, [], []⟩) rfl
    exact ⟨_, fd, He.glo_ok X G (c.fact 12 (f := .glo "standing_in") rfl), FD⟩
  d_once := by
    obtain ⟨fd, FD⟩ := c.def_ 13 (d := ⟨("once", none), "once", "once", defArgs s_once, defBody s_once, defScope s_once, [], []⟩) rfl
    exact ⟨_, fd, He.glo_ok X G (c.fact 13 (f := .glo "once") rfl), FD⟩
  d_is_way := by
    obtain ⟨fd, FD⟩ := c.def_ 14 (d := ⟨("is_way", none), "is_way", "is_way", defArgs s_is_way, defBody s_is_way, defScope s_is_way, [], []⟩) rfl
    exact ⟨_, fd, He.glo_ok X G (c.fact 14 (f := .glo "is_way") rfl), FD⟩
  d_Stands_init := by
    obtain ⟨fd, FD⟩ := c.def_ 15 (d := ⟨("Stands", some "__init__"), "__init__", "Stands.__init__", defArgs s_Stands_init, defBody s_Stands_init, defScope s_Stands_init, [], []⟩) rfl
    exact ⟨_, fd, ⟨He.glo_ok X G (c.fact 15 (f := .glo "Stands") rfl), He.mkr_ok (c.fact 16 (f := .mkr "Stands") rfl)⟩, FD⟩
  d_Stands_shows := by
    obtain ⟨fd, FD⟩ := c.def_ 16 (d := ⟨("Stands", some "shows"), "shows", "Stands.shows", defArgs s_Stands_shows, defBody s_Stands_shows, defScope s_Stands_shows, [], []⟩) rfl
    exact ⟨_, fd, He.meth_ok (c.fact 17 (f := .meth "Stands" "shows") rfl), FD⟩
  d_Gone_init := by
    obtain ⟨fd, FD⟩ := c.def_ 17 (d := ⟨("Gone", some "__init__"), "__init__", "Gone.__init__", defArgs s_Gone_init, defBody s_Gone_init, defScope s_Gone_init, [], []⟩) rfl
    exact ⟨_, fd, ⟨He.glo_ok X G (c.fact 18 (f := .glo "Gone") rfl), He.mkr_ok (c.fact 19 (f := .mkr "Gone") rfl)⟩, FD⟩
  d_Gone_shows := by
    obtain ⟨fd, FD⟩ := c.def_ 18 (d := ⟨("Gone", some "shows"), "shows", "Gone.shows", defArgs s_Gone_shows, defBody s_Gone_shows, defScope s_Gone_shows, [], []⟩) rfl
    exact ⟨_, fd, He.meth_ok (c.fact 20 (f := .meth "Gone" "shows") rfl), FD⟩
  d_likes_of := by
    obtain ⟨fd, FD⟩ := c.def_ 19 (d := ⟨("likes_of", none), "likes_of", "likes_of", defArgs s_likes_of, defBody s_likes_of, defScope s_likes_of, [], []⟩) rfl
    exact ⟨_, fd, He.glo_ok X G (c.fact 21 (f := .glo "likes_of") rfl), FD⟩
  d_Liked_init := by
    obtain ⟨fd, FD⟩ := c.def_ 20 (d := ⟨("Liked", some "__init__"), "__init__", "Liked.__init__", defArgs s_Liked_init, defBody s_Liked_init, defScope s_Liked_init, [], []⟩) rfl
    exact ⟨_, fd, ⟨He.glo_ok X G (c.fact 22 (f := .glo "Liked") rfl), He.mkr_ok (c.fact 23 (f := .mkr "Liked") rfl)⟩, FD⟩
  d_Liked_shows := by
    obtain ⟨fd, FD⟩ := c.def_ 21 (d := ⟨("Liked", some "shows"), "shows", "Liked.shows", defArgs s_Liked_shows, defBody s_Liked_shows, defScope s_Liked_shows, [], []⟩) rfl
    exact ⟨_, fd, He.meth_ok (c.fact 24 (f := .meth "Liked" "shows") rfl), FD⟩
  d_free_from := by
    obtain ⟨fd, FD⟩ := c.def_ 22 (d := ⟨("free_from", none), "free_from", "free_from", defArgs s_free_from, defBody s_free_from, defScope s_free_from, [], []⟩) rfl
    exact ⟨_, fd, He.glo_ok X G (c.fact 25 (f := .glo "free_from") rfl), FD⟩
  d_Turns_init := by
    obtain ⟨fd, FD⟩ := c.def_ 23 (d := ⟨("Turns", some "__init__"), "__init__", "Turns.__init__", defArgs s_Turns_init, defBody s_Turns_init, defScope s_Turns_init, [], []⟩) rfl
    exact ⟨_, fd, ⟨He.glo_ok X G (c.fact 26 (f := .glo "Turns") rfl), He.mkr_ok (c.fact 27 (f := .mkr "Turns") rfl)⟩, FD⟩
  d_Turns_shows := by
    obtain ⟨fd, FD⟩ := c.def_ 24 (d := ⟨("Turns", some "shows"), "shows", "Turns.shows", defArgs s_Turns_shows, defBody s_Turns_shows, defScope s_Turns_shows, [], []⟩) rfl
    exact ⟨_, fd, He.meth_ok (c.fact 28 (f := .meth "Turns" "shows") rfl), FD⟩
  d_joined := by
    obtain ⟨fd, FD⟩ := c.def_ 25 (d := ⟨("joined", none), "joined", "joined", defArgs s_joined, defBody s_joined, defScope s_joined, [], []⟩) rfl
    exact ⟨_, fd, He.glo_ok X G (c.fact 29 (f := .glo "joined") rfl), FD⟩
  d_state_of := by
    obtain ⟨fd, FD⟩ := c.def_ 26 (d := ⟨("state_of", none), "state_of", "state_of", defArgs s_state_of, defBody s_state_of, defScope s_state_of, [], []⟩) rfl
    exact ⟨_, fd, He.glo_ok X G (c.fact 30 (f := .glo "state_of") rfl), FD⟩
  d_why := by
    obtain ⟨fd, FD⟩ := c.def_ 27 (d := ⟨("why", none), "why", "why", defArgs s_why, defBody s_why, defScope s_why, [], []⟩) rfl
    exact ⟨_, fd, He.glo_ok X G (c.fact 31 (f := .glo "why") rfl), FD⟩
  d_standing := by
    obtain ⟨fd, FD⟩ := c.def_ 28 (d := ⟨("standing", none), "standing", "standing", defArgs s_standing, defBody s_standing, defScope s_standing, [], []⟩) rfl
    exact ⟨_, fd, He.glo_ok X G (c.fact 32 (f := .glo "standing") rfl), FD⟩
  d_waiting_telling := by
    obtain ⟨fd, FD⟩ := c.def_ 29 (d := ⟨("waiting_telling", none), "waiting", "waiting", defArgs s_waiting, defBody s_waiting, defScope s_waiting, [], []⟩) rfl
    exact ⟨_, fd, He.glo_ok X G (c.fact 33 (f := .glo "waiting_telling") rfl), FD⟩
  d_ways_of := by
    obtain ⟨fd, FD⟩ := c.def_ 30 (d := ⟨("ways_of", none), "ways_of", "ways_of", defArgs s_ways_of, defBody s_ways_of, defScope s_ways_of, [], []⟩) rfl
    exact ⟨_, fd, He.glo_ok X G (c.fact 34 (f := .glo "ways_of") rfl), FD⟩
  d_ways_telling := by
    obtain ⟨fd, FD⟩ := c.def_ 31 (d := ⟨("ways_telling", none), "ways", "ways", defArgs s_ways, defBody s_ways, defScope s_ways, [], []⟩) rfl
    exact ⟨_, fd, He.glo_ok X G (c.fact 35 (f := .glo "ways_telling") rfl), FD⟩
  d_is_like := by
    obtain ⟨fd, FD⟩ := c.def_ 32 (d := ⟨("is_like", none), "is_like", "is_like", defArgs s_is_like, defBody s_is_like, defScope s_is_like, [], []⟩) rfl
    exact ⟨_, fd, He.glo_ok X G (c.fact 36 (f := .glo "is_like") rfl), FD⟩
  d_liked := by
    obtain ⟨fd, FD⟩ := c.def_ 33 (d := ⟨("liked", none), "liked", "liked", defArgs s_liked, defBody s_liked, defScope s_liked, [], []⟩) rfl
    exact ⟨_, fd, He.glo_ok X G (c.fact 37 (f := .glo "liked") rfl), FD⟩
  d_may_go_on := by
    obtain ⟨fd, FD⟩ := c.def_ 34 (d := ⟨("may_go_on", none), "may_go_on", "may_go_on", defArgs s_may_go_on, defBody s_may_go_on, defScope s_may_go_on, [], []⟩) rfl
    exact ⟨_, fd, He.glo_ok X G (c.fact 38 (f := .glo "may_go_on") rfl), FD⟩
  d_Desk_init := by
    obtain ⟨fd, FD⟩ := c.def_ 35 (d := ⟨("Desk", some "__init__"), "__init__", "Desk.__init__", defArgs s_Desk_init, defBody s_Desk_init, defScope s_Desk_init, [], []⟩) rfl
    exact ⟨_, fd, ⟨He.glo_ok X G (c.fact 39 (f := .glo "Desk") rfl), He.mkr_ok (c.fact 40 (f := .mkr "Desk") rfl)⟩, FD⟩
  d_Desk_hear := by
    obtain ⟨fd, FD⟩ := c.def_ 36 (d := ⟨("Desk", some "hear"), "hear", "Desk.hear", defArgs s_Desk_hear, defBody s_Desk_hear, defScope s_Desk_hear, [], []⟩) rfl
    exact ⟨_, fd, He.meth_ok (c.fact 41 (f := .meth "Desk" "hear") rfl), FD⟩
  d_Desk_words := by
    obtain ⟨fd, FD⟩ := c.def_ 37 (d := ⟨("Desk", some "words"), "words", "Desk.words", defArgs s_Desk_words, defBody s_Desk_words, defScope s_Desk_words, [], []⟩) rfl
    exact ⟨_, fd, He.meth_ok (c.fact 42 (f := .meth "Desk" "words") rfl), FD⟩
  d_Desk_standing := by
    obtain ⟨fd, FD⟩ := c.def_ 38 (d := ⟨("Desk", some "standing"), "standing", "Desk.standing", defArgs s_Desk_standing, defBody s_Desk_standing, defScope s_Desk_standing, [], []⟩) rfl
    exact ⟨_, fd, He.meth_ok (c.fact 43 (f := .meth "Desk" "standing") rfl), FD⟩
  d_Desk_waiting := by
    obtain ⟨fd, FD⟩ := c.def_ 39 (d := ⟨("Desk", some "waiting"), "waiting", "Desk.waiting", defArgs s_Desk_waiting, defBody s_Desk_waiting, defScope s_Desk_waiting, [], []⟩) rfl
    exact ⟨_, fd, He.meth_ok (c.fact 44 (f := .meth "Desk" "waiting") rfl), FD⟩
  d_Desk_ways := by
    obtain ⟨fd, FD⟩ := c.def_ 40 (d := ⟨("Desk", some "ways"), "ways", "Desk.ways", defArgs s_Desk_ways, defBody s_Desk_ways, defScope s_Desk_ways, [], []⟩) rfl
    exact ⟨_, fd, He.meth_ok (c.fact 45 (f := .meth "Desk" "ways") rfl), FD⟩
  d_Desk_my_ends := by
    obtain ⟨fd, FD⟩ := c.def_ 41 (d := ⟨("Desk", some "my_ends"), "my_ends", "Desk.my_ends", defArgs s_Desk_my_ends, defBody s_Desk_my_ends, defScope s_Desk_my_ends, [], []⟩) rfl
    exact ⟨_, fd, He.meth_ok (c.fact 46 (f := .meth "Desk" "my_ends") rfl), FD⟩
  d_check_going := by
    obtain ⟨fd, FD⟩ := c.def_ 42 (d := ⟨("check_going", none), "check_going", "check_going", defArgs s_check_going, defBody s_check_going, defScope s_check_going, [], []⟩) rfl
    exact ⟨_, fd, He.glo_ok X G (c.fact 47 (f := .glo "check_going") rfl), FD⟩
  d_gone_through := by
    obtain ⟨fd, FD⟩ := c.def_ 43 (d := ⟨("gone_through", none), "gone_through", "gone_through", defArgs s_gone_through, defBody s_gone_through, defScope s_gone_through, [], []⟩) rfl
    exact ⟨_, fd, He.glo_ok X G (c.fact 48 (f := .glo "gone_through") rfl), FD⟩
  d_gone_on := by
    obtain ⟨fd, FD⟩ := c.def_ 44 (d := ⟨("gone_on", none), "gone_on", "gone_on", defArgs s_gone_on, defBody s_gone_on, defScope s_gone_on, [], []⟩) rfl
    exact ⟨_, fd, He.glo_ok X G (c.fact 49 (f := .glo "gone_on") rfl), FD⟩
  d__law_deep := by
    obtain ⟨fd, FD⟩ := c.def_ 45 (d := ⟨("_law_deep", none), "_law_deep", "_law_deep", defArgs s__law_deep, defBody s__law_deep, defScope s__law_deep, [], []⟩) rfl
    exact ⟨_, fd, He.glo_ok X G (c.fact 50 (f := .glo "_law_deep") rfl), FD⟩
  d__law_spoilt := by
    obtain ⟨fd, FD⟩ := c.def_ 46 (d := ⟨("_law_spoilt", none), "_law_spoilt", "_law_spoilt", defArgs s__law_spoilt, defBody s__law_spoilt, defScope s__law_spoilt, [], []⟩) rfl
    exact ⟨_, fd, He.glo_ok X G (c.fact 51 (f := .glo "_law_spoilt") rfl), FD⟩
  d__law_put := by
    obtain ⟨fd, FD⟩ := c.def_ 47 (d := ⟨("_law_put", none), "_law_put", "_law_put", defArgs s__law_put, defBody s__law_put, defScope s__law_put, [], []⟩) rfl
    exact ⟨_, fd, He.glo_ok X G (c.fact 52 (f := .glo "_law_put") rfl), FD⟩
  d__law_two := by
    obtain ⟨fd, FD⟩ := c.def_ 48 (d := ⟨("_law_two", none), "_law_two", "_law_two", defArgs s__law_two, defBody s__law_two, defScope s__law_two, [], []⟩) rfl
    exact ⟨_, fd, He.glo_ok X G (c.fact 53 (f := .glo "_law_two") rfl), FD⟩
  d__law_why := by
    obtain ⟨fd, FD⟩ := c.def_ 49 (d := ⟨("_law_why", none), "_law_why", "_law_why", defArgs s__law_why, defBody s__law_why, defScope s__law_why, [], []⟩) rfl
    exact ⟨_, fd, He.glo_ok X G (c.fact 54 (f := .glo "_law_why") rfl), FD⟩
  d__law_liked := by
    obtain ⟨fd, FD⟩ := c.def_ 50 (d := ⟨("_law_liked", none), "_law_liked", "_law_liked", defArgs s__law_liked, defBody s__law_liked, defScope s__law_liked, [], []⟩) rfl
    exact ⟨_, fd, He.glo_ok X G (c.fact 55 (f := .glo "_law_liked") rfl), FD⟩
  d__law_gone := by
    obtain ⟨fd, FD⟩ := c.def_ 51 (d := ⟨("_law_gone", none), "_law_gone", "_law_gone", defArgs s__law_gone, defBody s__law_gone, defScope s__law_gone, [], []⟩) rfl
    exact ⟨_, fd, He.glo_ok X G (c.fact 56 (f := .glo "_law_gone") rfl), FD⟩
  d__law_desk := by
    obtain ⟨fd, FD⟩ := c.def_ 52 (d := ⟨("_law_desk", none), "_law_desk", "_law_desk", defArgs s__law_desk, defBody s__law_desk, defScope s__law_desk, [], []⟩) rfl
    exact ⟨_, fd, He.glo_ok X G (c.fact 57 (f := .glo "_law_desk") rfl), FD⟩
theorem hdoors (X : K.In hp) (G : hp.Ns mainGlobals mg) (c : He.SaysD hfa hfn K) : Doors K mg where
  one := by
    obtain ⟨fd, FD⟩ := c.def_ 53 (d := ⟨("_law_door_right", none), "_law_door_right", "_law_door_right", defArgs s__law_door_right, defBody s__law_door_right, defScope s__law_door_right, [], []⟩) rfl
    exact ⟨_, fd, He.glo_ok X G (c.fact 58 (f := .glo "_law_door_right") rfl), FD⟩
  all := by
    obtain ⟨fd, FD⟩ := c.def_ 54 (d := ⟨("_law_doors_right", none), "_law_doors_right", "_law_doors_right", defArgs s__law_doors_right, defBody s__law_doors_right, defScope s__law_doors_right, [], []⟩) rfl
    exact ⟨_, fd, He.glo_ok X G (c.fact 59 (f := .glo "_law_doors_right") rfl), FD⟩
theorem hd_cell (X : K.In hp) (G : hp.Ns mainGlobals mg) (c : He.SaysD hfa hfn K) : mg "_law_cell_at" = some (.ref (He.fAd K ("_law_cell_at", none))) ∧ ∃ fd, FunD K "_law_cell_at" "_law_cell_at" (defArgs s_cell) (defBody s_cell) (defScope s_cell) [] [] (He.fAd K ("_law_cell_at", none)) fd := by
  obtain ⟨fd, FD⟩ := c.def_ 55 (d := ⟨("_law_cell_at", none), "_law_cell_at", "_law_cell_at", defArgs s_cell, defBody s_cell, defScope s_cell, [], []⟩) rfl
  exact ⟨He.glo_ok X G (c.fact 60 (f := .glo "_law_cell_at") rfl), fd, FD⟩
theorem hd_draw (X : K.In hp) (G : hp.Ns mainGlobals mg) (c : He.SaysD hfa hfn K) : mg "_law_draw" = some (.ref (He.fAd K ("_law_draw", none))) ∧ ∃ fd, FunD K "_law_draw" "_law_draw" (defArgs s_draw) (defBody s_draw) (defScope s_draw) [] [] (He.fAd K ("_law_draw", none)) fd := by
  obtain ⟨fd, FD⟩ := c.def_ 56 (d := ⟨("_law_draw", none), "_law_draw", "_law_draw", defArgs s_draw, defBody s_draw, defScope s_draw, [], []⟩) rfl
  exact ⟨He.glo_ok X G (c.fact 61 (f := .glo "_law_draw") rfl), fd, FD⟩
theorem hd_number (X : K.In hp) (G : hp.Ns mainGlobals mg) (c : He.SaysD hfa hfn K) : mg "_law_number" = some (.ref (He.fAd K ("_law_number", none))) ∧ ∃ fd, FunD K "_law_number" "_law_number" (defArgs s_number) (defBody s_number) (defScope s_number) [] [] (He.fAd K ("_law_number", none)) fd := by
  obtain ⟨fd, FD⟩ := c.def_ 57 (d := ⟨("_law_number", none), "_law_number", "_law_number", defArgs s_number, defBody s_number, defScope s_number, [], []⟩) rfl
  exact ⟨He.glo_ok X G (c.fact 62 (f := .glo "_law_number") rfl), fd, FD⟩
theorem hd_law (X : K.In hp) (G : hp.Ns mainGlobals mg) (c : He.SaysD hfa hfn K) : mg "law" = some (.ref (He.fAd K ("law", none))) ∧ ∃ fd, FunD K "law" "law" (defArgs s_law) (defBody s_law) (defScope s_law) [] [] (He.fAd K ("law", none)) fd := by
  obtain ⟨fd, FD⟩ := c.def_ 58 (d := ⟨("law", none), "law", "law", defArgs s_law, defBody s_law, defScope s_law, [], []⟩) rfl
  exact ⟨He.glo_ok X G (c.fact 63 (f := .glo "law") rfl), fd, FD⟩
theorem hcl (c : He.SaysD hfa hfn K) : ∀ i, i < 7 → Cls K (caK K i)
  | 0, _ => He.cls_ok (c.fact 88 (f := .cls "Stands") rfl)
  | 1, _ => He.cls_ok (c.fact 89 (f := .cls "Gone") rfl)
  | 2, _ => He.cls_ok (c.fact 90 (f := .cls "Waits") rfl)
  | 3, _ => He.cls_ok (c.fact 91 (f := .cls "Liked") rfl)
  | 4, _ => He.cls_ok (c.fact 92 (f := .cls "Turns") rfl)
  | 5, _ => He.cls_ok (c.fact 93 (f := .cls "Short") rfl)
  | 6, _ => He.cls_ok (c.fact 94 (f := .cls "Desk") rfl)
  | n + 7, h => absurd h (by omega)
theorem hna_0 (c : He.SaysD hfa hfn K) : ∀ f, f < 8 → NoAttr K (caK K 0) (fnames f)
  | 0, _ => He.noat_ok (c.fact 95 (f := .noat "Stands" "way") rfl)
  | 1, _ => He.noat_ok (c.fact 96 (f := .noat "Stands" "marks") rfl)
  | 2, _ => He.noat_ok (c.fact 97 (f := .noat "Stands" "order") rfl)
  | 3, _ => He.noat_ok (c.fact 98 (f := .noat "Stands" "hand") rfl)
  | 4, _ => He.noat_ok (c.fact 99 (f := .noat "Stands" "rest") rfl)
  | 5, _ => He.noat_ok (c.fact 100 (f := .noat "Stands" "known") rfl)
  | 6, _ => He.noat_ok (c.fact 101 (f := .noat "Stands" "chain") rfl)
  | 7, _ => He.noat_ok (c.fact 102 (f := .noat "Stands" "stretches") rfl)
  | n + 8, h => absurd h (by omega)
theorem hna_1 (c : He.SaysD hfa hfn K) : ∀ f, f < 8 → NoAttr K (caK K 1) (fnames f)
  | 0, _ => He.noat_ok (c.fact 103 (f := .noat "Gone" "way") rfl)
  | 1, _ => He.noat_ok (c.fact 104 (f := .noat "Gone" "marks") rfl)
  | 2, _ => He.noat_ok (c.fact 105 (f := .noat "Gone" "order") rfl)
  | 3, _ => He.noat_ok (c.fact 106 (f := .noat "Gone" "hand") rfl)
  | 4, _ => He.noat_ok (c.fact 107 (f := .noat "Gone" "rest") rfl)
  | 5, _ => He.noat_ok (c.fact 108 (f := .noat "Gone" "known") rfl)
  | 6, _ => He.noat_ok (c.fact 109 (f := .noat "Gone" "chain") rfl)
  | 7, _ => He.noat_ok (c.fact 110 (f := .noat "Gone" "stretches") rfl)
  | n + 8, h => absurd h (by omega)
theorem hna_2 (c : He.SaysD hfa hfn K) : ∀ f, f < 8 → NoAttr K (caK K 2) (fnames f)
  | 0, _ => He.noat_ok (c.fact 111 (f := .noat "Waits" "way") rfl)
  | 1, _ => He.noat_ok (c.fact 112 (f := .noat "Waits" "marks") rfl)
  | 2, _ => He.noat_ok (c.fact 113 (f := .noat "Waits" "order") rfl)
  | 3, _ => He.noat_ok (c.fact 114 (f := .noat "Waits" "hand") rfl)
  | 4, _ => He.noat_ok (c.fact 115 (f := .noat "Waits" "rest") rfl)
  | 5, _ => He.noat_ok (c.fact 116 (f := .noat "Waits" "known") rfl)
  | 6, _ => He.noat_ok (c.fact 117 (f := .noat "Waits" "chain") rfl)
  | 7, _ => He.noat_ok (c.fact 118 (f := .noat "Waits" "stretches") rfl)
  | n + 8, h => absurd h (by omega)
theorem hna_3 (c : He.SaysD hfa hfn K) : ∀ f, f < 8 → NoAttr K (caK K 3) (fnames f)
  | 0, _ => He.noat_ok (c.fact 119 (f := .noat "Liked" "way") rfl)
  | 1, _ => He.noat_ok (c.fact 120 (f := .noat "Liked" "marks") rfl)
  | 2, _ => He.noat_ok (c.fact 121 (f := .noat "Liked" "order") rfl)
  | 3, _ => He.noat_ok (c.fact 122 (f := .noat "Liked" "hand") rfl)
  | 4, _ => He.noat_ok (c.fact 123 (f := .noat "Liked" "rest") rfl)
  | 5, _ => He.noat_ok (c.fact 124 (f := .noat "Liked" "known") rfl)
  | 6, _ => He.noat_ok (c.fact 125 (f := .noat "Liked" "chain") rfl)
  | 7, _ => He.noat_ok (c.fact 126 (f := .noat "Liked" "stretches") rfl)
  | n + 8, h => absurd h (by omega)
theorem hna_4 (c : He.SaysD hfa hfn K) : ∀ f, f < 8 → NoAttr K (caK K 4) (fnames f)
  | 0, _ => He.noat_ok (c.fact 127 (f := .noat "Turns" "way") rfl)
  | 1, _ => He.noat_ok (c.fact 128 (f := .noat "Turns" "marks") rfl)
  | 2, _ => He.noat_ok (c.fact 129 (f := .noat "Turns" "order") rfl)
  | 3, _ => He.noat_ok (c.fact 130 (f := .noat "Turns" "hand") rfl)
  | 4, _ => He.noat_ok (c.fact 131 (f := .noat "Turns" "rest") rfl)
  | 5, _ => He.noat_ok (c.fact 132 (f := .noat "Turns" "known") rfl)
  | 6, _ => He.noat_ok (c.fact 133 (f := .noat "Turns" "chain") rfl)
  | 7, _ => He.noat_ok (c.fact 134 (f := .noat "Turns" "stretches") rfl)
  | n + 8, h => absurd h (by omega)
theorem hna_5 (c : He.SaysD hfa hfn K) : ∀ f, f < 8 → NoAttr K (caK K 5) (fnames f)
  | 0, _ => He.noat_ok (c.fact 135 (f := .noat "Short" "way") rfl)
  | 1, _ => He.noat_ok (c.fact 136 (f := .noat "Short" "marks") rfl)
  | 2, _ => He.noat_ok (c.fact 137 (f := .noat "Short" "order") rfl)
  | 3, _ => He.noat_ok (c.fact 138 (f := .noat "Short" "hand") rfl)
  | 4, _ => He.noat_ok (c.fact 139 (f := .noat "Short" "rest") rfl)
  | 5, _ => He.noat_ok (c.fact 140 (f := .noat "Short" "known") rfl)
  | 6, _ => He.noat_ok (c.fact 141 (f := .noat "Short" "chain") rfl)
  | 7, _ => He.noat_ok (c.fact 142 (f := .noat "Short" "stretches") rfl)
  | n + 8, h => absurd h (by omega)
theorem hna_6 (c : He.SaysD hfa hfn K) : ∀ f, f < 8 → NoAttr K (caK K 6) (fnames f)
  | 0, _ => He.noat_ok (c.fact 143 (f := .noat "Desk" "way") rfl)
  | 1, _ => He.noat_ok (c.fact 144 (f := .noat "Desk" "marks") rfl)
  | 2, _ => He.noat_ok (c.fact 145 (f := .noat "Desk" "order") rfl)
  | 3, _ => He.noat_ok (c.fact 146 (f := .noat "Desk" "hand") rfl)
  | 4, _ => He.noat_ok (c.fact 147 (f := .noat "Desk" "rest") rfl)
  | 5, _ => He.noat_ok (c.fact 148 (f := .noat "Desk" "known") rfl)
  | 6, _ => He.noat_ok (c.fact 149 (f := .noat "Desk" "chain") rfl)
  | 7, _ => He.noat_ok (c.fact 150 (f := .noat "Desk" "stretches") rfl)
  | n + 8, h => absurd h (by omega)
theorem hclsf (c : He.SaysD hfa hfn K) (e : exK K = true) : ClsF K (Zt K) := by
  obtain ⟨e2, e⟩ := He.ba e
  obtain ⟨e3, e⟩ := He.ba e
  obtain ⟨e4, _⟩ := He.ba e
  have z := lt7_ok e4
  refine ⟨hcl c, fun q f hq hf => ?_, fun q hq => He.eqO_ok (He.ba (z q hq)).1, He.eqO_ok e2, of_decide_eq_true e3, fun q hq => of_decide_eq_true (He.ba (He.ba (z q hq)).2).1, fun q r hq hr => of_decide_eq_true (lt7_ok (He.ba (He.ba (z q hq)).2).2 r hr)⟩
  match q, hq with
  | 0, _ => exact hna_0 c f hf
  | 1, _ => exact hna_1 c f hf
  | 2, _ => exact hna_2 c f hf
  | 3, _ => exact hna_3 c f hf
  | 4, _ => exact hna_4 c f hf
  | 5, _ => exact hna_5 c f hf
  | 6, _ => exact hna_6 c f hf
  | n + 7, h => exact absurd h (by omega)
theorem hfx (X : K.In hp) (G : hp.Ns mainGlobals mg) (c : He.SaysD hfa hfn K) (e : exK K = true) : Fx K mg (Zt K) where
  hZ := rfl
  C := hclsf c e
  fn := rfl
  n_len := He.free_ok X G (c.fact 64 (f := .free "len") rfl)
  n_list := He.free_ok X G (c.fact 65 (f := .free "list") rfl)
  n_tuple := He.free_ok X G (c.fact 66 (f := .free "tuple") rfl)
  n_any := He.free_ok X G (c.fact 67 (f := .free "any") rfl)
  n_all := He.free_ok X G (c.fact 68 (f := .free "all") rfl)
  n_sum := He.free_ok X G (c.fact 69 (f := .free "sum") rfl)
  n_max := He.free_ok X G (c.fact 70 (f := .free "max") rfl)
  n_sorted := He.free_ok X G (c.fact 71 (f := .free "sorted") rfl)
  n_range := He.free_ok X G (c.fact 72 (f := .free "range") rfl)
  n_zip := He.free_ok X G (c.fact 73 (f := .free "zip") rfl)
  n_enumerate := He.free_ok X G (c.fact 74 (f := .free "enumerate") rfl)
  n_isinstance := He.free_ok X G (c.fact 75 (f := .free "isinstance") rfl)
  n_int := He.free_ok X G (c.fact 76 (f := .free "int") rfl)
  n_bool := He.free_ok X G (c.fact 77 (f := .free "bool") rfl)
  n_str := He.free_ok X G (c.fact 78 (f := .free "str") rfl)
  n_set := He.free_ok X G (c.fact 79 (f := .free "set") rfl)
  n_dict := He.free_ok X G (c.fact 80 (f := .free "dict") rfl)
  i_MOST_HAND := He.int_ok X G (c.fact 81 (f := .int "MOST_HAND" 5) rfl)
  i_MOST_OWN := He.int_ok X G (c.fact 82 (f := .int "MOST_OWN" 9) rfl)
  i_MOST_WORDS := He.int_ok X G (c.fact 83 (f := .int "MOST_WORDS" 60) rfl)
  i_MOST_REST := He.int_ok X G (c.fact 84 (f := .int "MOST_REST" 5) rfl)
  i_MOST_LIKES := He.int_ok X G (c.fact 85 (f := .int "MOST_LIKES" 60) rfl)
  i_MOST_MAY := He.int_ok X G (c.fact 86 (f := .int "MOST_MAY" 20) rfl)
  i_LONGEST := He.int_ok X G (c.fact 87 (f := .int "LONGEST" 60) rfl)
  k_Stands := He.glo_ok X G (c.fact 15 (f := .glo "Stands") rfl)
  k_Waits := He.glo_ok X G (c.fact 151 (f := .glo "Waits") rfl)
  k_Turns := He.glo_ok X G (c.fact 26 (f := .glo "Turns") rfl)
theorem hnl (e : exK K = true) {a : Addr} {o : Obj} (h : K.lookup a = some o) : o.cls ≠ .type "list" := fun z => by
  obtain ⟨_, e⟩ := He.ba e
  obtain ⟨_, e⟩ := He.ba e
  obtain ⟨_, e⟩ := He.ba e
  have y := List.all_eq_true.mp e _ (He.lookup_mem h)
  have y2 : (match o.cls with | .type c => !(decide (c = "list")) | _ => true) = true := y
  rw [z] at y2
  revert y2
  decide
end
-- law at 81; fact indices: free {'len': 64, 'list': 65, 'tuple': 66, 'any': 67, 'all': 68, 'sum': 69, 'max': 70, 'sorted': 71, 'range': 72, 'zip': 73, 'enumerate': 74, 'isinstance': 75, 'int': 76, 'bool': 77, 'str': 78, 'set': 79, 'dict': 80} ints {'MOST_HAND': 81, 'MOST_OWN': 82, 'MOST_WORDS': 83, 'MOST_REST': 84, 'MOST_LIKES': 85, 'MOST_MAY': 86, 'LONGEST': 87} cls [88, 89, 90, 91, 92, 93, 94] noat [[95, 96, 97, 98, 99, 100, 101, 102], [103, 104, 105, 106, 107, 108, 109, 110], [111, 112, 113, 114, 115, 116, 117, 118], [119, 120, 121, 122, 123, 124, 125, 126], [127, 128, 129, 130, 131, 132, 133, 134], [135, 136, 137, 138, 139, 140, 141, 142], [143, 144, 145, 146, 147, 148, 149, 150]] glo [15, 18, 151, 22, 26, 152, 39] more {'one': (53, 58), 'all': (54, 59), 'cell': (55, 60), 'draw': (56, 61), 'number': (57, 62), 'law': (58, 63)}
end G
/-! K42: the law's call at the head's heap; the statement. -/
namespace G
open PySem PySem.Spec PyProof.Rows L2
/-- what is tracked at the law's call: the script, locked, and the table of the lambdas' code objects -/
def lawH (a Pt : Addr) (ob : Obj) (ns : List Int) : Hp := fun b => if b = a then some (.frz ob (.lst (ns.map V.int))) else if b = Pt then some (.tbl #[]) else none
section
variable {a Pt b : Addr} {ob : Obj} {ns : List Int}
theorem lawH_a : lawH a Pt ob ns a = some (.frz ob (.lst (ns.map V.int))) := if_pos rfl
theorem lawH_P (h : Pt ≠ a) : lawH a Pt ob ns Pt = some (.tbl #[]) := (if_neg h).trans (if_pos rfl)
theorem lawH_o (h : b ≠ a) (h2 : b ≠ Pt) : lawH a Pt ob ns b = none := (if_neg h).trans (if_neg h2)
theorem lawH_cases {u : HO} (e : lawH a Pt ob ns b = some u) : (b = a ∧ u = .frz ob (.lst (ns.map V.int))) ∨ (b = Pt ∧ b ≠ a ∧ u = .tbl #[]) := by
  by_cases h : b = a
  · subst h
    rw [lawH_a] at e
    exact .inl ⟨rfl, (Option.some.inj e).symm⟩
  · by_cases h2 : b = Pt
    · subst h2
      rw [lawH_P h] at e
      exact .inr ⟨rfl, h, (Option.some.inj e).symm⟩
    · rw [lawH_o h h2] at e
      cases e
end
theorem law_run {P : Program} {w : World} {K : PySem.W.Frag} {mg mb : Str → Option Value} {fa a cd Pt : Addr} {fd : FuncData} {st : Shared} {vs : List Value} {ns : List Int} (kin : K.In st.heap) (gl : st.heap.Ns mainGlobals mg) (bl : st.heap.Ns builtinsNs mb) (bb : ∀ y : Str, y ≠ "__name__" → mb y = bootBuiltins y)
    (lim : st.heap.NoLimit) (gen : st.gens = #[]) (tab : st.heap.get? Pt = some { cls := .none, data := .fields #[] }) (tout : K.lookup Pt = none) (aout : K.lookup a = none) (hd : PySem.W.CodeHd st.heap cd Pt)
    (bm : ∃ (m : Addr) (o : Obj), mg "__builtins__" = some (.ref m) ∧ m ≠ builtinsNs ∧ st.heap.get? m = some o ∧ o.cls = .type "module" ∧ o.dict = some builtinsNs ∧ o.data = .plain)
    (scr : st.heap.get? a = some { cls := .type "list", data := .seq vs.toArray }) (ia : IntsAre vs ns) (len : ns.length ≤ sizeLine) (room : Room 13 callerA)
    (F : ∀ base : Heap, K.In base → base.Ns mainGlobals mg → LamX.TabB base mg cd Pt → FnOkG P w K mg base 13 fa fd ["_law_script"] (spLaw Pt)) (bnd : ∀ (s : Shared) (u : Value), BindsTo s fd ⟨[u], []⟩ [("_law_script", u)]) :
    codeAny (model P w) callerA (.call (.ref fa) ⟨[.ref a], []⟩) (fun r s' => r = .ok (.ret (.bool true)) ∧ OldK st.heap s'.heap ∧ s'.os = st.os ∧ AllBare s'.gens) st := by
  have ne : Pt ≠ a := fun z => by
    rw [z, scr] at tab
    have := congrArg Obj.cls (Option.some.inj tab)
    cases this
  -- what stands in the heap and is neither of the two
  have free : ∀ {b : Addr} {o : Obj}, st.heap.get? b = some o → (∀ xs n, o.data ≠ .seq xs n) → o.data ≠ .fields #[] → lawH a Pt { cls := .type "list", data := .seq vs.toArray } ns b = none := fun {b o} e n1 n2 => by
    refine lawH_o (fun z => ?_) fun z => ?_
    · rw [z, scr] at e
      cases e
      exact n1 _ _ rfl
    · rw [z, tab] at e
      cases e
      exact n2 rfl
  have up : ∀ {b : Addr} {o : Obj}, st.heap.get? b = some o → (∀ xs n, o.data ≠ .seq xs n) → o.data ≠ .fields #[] → (hidT st.heap (lawH a Pt { cls := .type "list", data := .seq vs.toArray } ns)).get? b = some o := fun {b o} e n1 n2 => hidT_get e (free e n1 n2)
  have upN : ∀ {b : Addr} {m : Str → Option Value}, st.heap.Ns b m → (hidT st.heap (lawH a Pt { cls := .type "list", data := .seq vs.toArray } ns)).Ns b m := fun {b m} ⟨o, es, ep, e, d, r⟩ =>
    ⟨o, es, ep, up e (fun xs n z => by rw [d] at z; cases z) (fun z => by rw [d] at z; cases z), d, r⟩
  have kinB : K.In (hidT st.heap (lawH a Pt { cls := .type "list", data := .seq vs.toArray } ns)) := fun b o e => by
    refine hidT_get (kin b o e) (lawH_o (fun z => ?_) fun z => ?_)
    · rw [z, aout] at e; cases e
    · rw [z, tout] at e; cases e
  have md : L2.Mod K mg (hidT st.heap (lawH a Pt { cls := .type "list", data := .seq vs.toArray } ns)) := by
    obtain ⟨mc, l1, l2⟩ := lim
    exact ⟨kinB, upN gl, ⟨mb, upN bl, bb⟩, mc, upN l1, l2⟩
  have TB : LamX.TabB (hidT st.heap (lawH a Pt { cls := .type "list", data := .seq vs.toArray } ns)) mg cd Pt := by
    refine ⟨?_, ?_, fun z => ?_⟩
    · obtain ⟨o, us, fl, tf, g1, g2, iF, tx, tt, e1, r1, r2, r3, rest⟩ := hd
      refine ⟨o, us, fl, tf, g1, g2, iF, tx, tt, up e1 (fun xs n z => by rw [r2] at z; cases z) (fun z => ?_), r1, r2, r3, rest⟩
      rw [r2] at z
      cases z
      simp at r3
    · obtain ⟨m, o, b1, b2, b3, b4, b5, b6⟩ := bm
      refine ⟨m, o, b1, b2, fun q => ?_, fun q => ?_, up b3 (fun xs n z => by rw [b6] at z; cases z) (fun z => by rw [b6] at z; cases z), b4, b5, b6⟩
      · obtain ⟨o', es, ep, e, d, _⟩ := gl
        rw [q, e] at b3
        cases b3
        rw [d] at b6
        cases b6
      · rw [q, tab] at b3
        cases b3
        cases b6
    · obtain ⟨o', es, ep, e, d, _⟩ := gl
      rw [z, tab] at e
      cases e
      cases d
  have ok0 : HOk P w (lawH a Pt { cls := .type "list", data := .seq vs.toArray } ns) st.heap := fun b u e => by
    rcases lawH_cases e with ⟨rfl, rfl⟩ | ⟨rfl, _, rfl⟩
    · exact ⟨scr, by rw [List.length_map]; exact len, vs, _, vals_ints ia, scr⟩
    · exact tab
  have env : Env0 P w K mg (hidT st.heap (lawH a Pt { cls := .type "list", data := .seq vs.toArray } ns)) callerA [] st (lawH a Pt { cls := .type "list", data := .seq vs.toArray } ns) :=
    ⟨rfl, md, fun _ _ e => of_hidT e, Nat.le_of_eq (hidT_size _ _), trivial, (fun _ z => by cases z), ok0, .of_eq gen⟩
  refine codeAny_mono ((F _ kinB (upN gl) TB).run callerA [] st _ ⟨[.ref a], []⟩ [.ref a] [.ref a] (fun v _ => v = .bl true) (fun _ _ _ => False) room rfl env (bnd st (.ref a)) (.cons rfl .nil) ⟨a, ns, rfl, .inr ⟨_, lawH_a⟩, lawH_P ne, fun _ => rfl⟩) fun r s' h => ?_
  match r, h with
  | .error e, h => exact (show False from h).elim
  | .ok .next, h => exact False.elim h
  | .ok .brk, h => exact False.elim h
  | .ok .cont, h => exact False.elim h
  | .ok (.ret u), ⟨v, H', os, bare, un, ok', rv, q⟩ =>
    subst q
    obtain rfl : u = Value.bool true := rv
    -- every old object but the table stands as it stood; the table has grown
    have kept : ∀ b o, b ≠ Pt → st.heap.get? b = some o → s'.heap.get? b = some o := fun b o nb e => by
      by_cases hb : b = a
      · subst hb
        have y := (ok' b _ (un.frzs b _ _ lawH_a)).1
        rw [scr] at e
        rw [← e]
        exact y
      · exact un.keep b o e (lawH_o hb nb) (fun z => by cases z) (by simp)
    obtain ⟨more, ht⟩ := un.tbls Pt #[] (lawH_P ne)
    have grown : s'.heap.get? Pt = some { cls := .none, data := .fields (#[] ++ more) } := ok' Pt _ ht
    refine ⟨rfl, ⟨fun b o e => ?_, fun b o e => ?_⟩, os, bare⟩
    · by_cases hb : b = Pt
      · subst hb
        rw [tab] at e
        cases e
        exact .inr (.inl ⟨(hd.tab tab).isCodeTable, rfl, #[], more, rfl, grown⟩)
      · exact .inl (kept b o hb e)
    · by_cases hb : b = Pt
      · subst hb
        exact ⟨_, grown⟩
      · exact ⟨o, kept b o hb e⟩
/-- what the head leaves, at the law's call -/
theorem law_at (ev : Ev) {w : World} {K : PySem.W.Frag} {hp : Heap} {mg : Str → Option Value} (X : K.In hp) (G0 : hp.Ns mainGlobals mg) (c : He.SaysX hfa hfn [] htf exK w hp K) {fa : Addr} (hfa0 : mg "law" = some (.ref fa)) (P : Program) :
    ∃ (fd : FuncData) (cd Pt : Addr), hp.get? Pt = some { cls := .none, data := .fields #[] } ∧ K.lookup Pt = none ∧ PySem.W.CodeHd hp cd Pt ∧ (∀ (s : Shared) (u : Value), BindsTo s fd ⟨[u], []⟩ [("_law_script", u)]) ∧
      ∀ base : Heap, K.In base → base.Ns mainGlobals mg → LamX.TabB base mg cd Pt → FnOkG P w K mg base 13 fa fd ["_law_script"] (spLaw Pt) := by
  have d := c.t.d
  obtain ⟨g1, fd, FD⟩ := hd_law X G0 d
  rw [hfa0] at g1
  have ea : fa = He.fAd K ("law", none) := by
    have z := Option.some.inj g1
    injection z
  subst ea
  have hm : ((("law" : Str), (none : Option Str)) : He.Defn) ∈ htf := List.mem_singleton.mpr rfl
  obtain ⟨oc, od, dV, kV, doc, pm, an, cdv, ct, osl, ef, lk, hc, _, _⟩ := FD.ex
  obtain ⟨cd, ec⟩ := He.codeIn_ref hc
  have efc : fd.code = .ref cd := by rw [ef]; exact ec
  have e1 : He.codeOf K ("law", none) = cd := He.codeOf_eq lk efc
  have hd := c.hd _ hm
  have out := c.out _ hm
  have em := c.empty _ hm
  have fx := hfx X G0 d c.more
  have D := hdefs X G0 d
  have DD := hdoors X G0 d
  obtain ⟨k1, fc, FC⟩ := hd_cell X G0 d
  obtain ⟨k2, fe, FE⟩ := hd_draw X G0 d
  obtain ⟨k3, fm, FM⟩ := hd_number X G0 d
  refine ⟨fd, (He.cT K ("law", none)).1, (He.cT K ("law", none)).2, em, out, PySem.W.codeHd_of_K X hd, fun s u => FD.bindsA (ps := ["_law_script"]) (fun _ _ _ _ _ _ us hl => match us, hl with | [_], _ => rfl) s [u] rfl, fun base kb gb TB => ?_⟩
  have bC : Binds K fc ["_law_script", "_law_k"] [] := FC.bindsN fun _ _ _ _ _ _ us hl => match us, hl with | [_, _], _ => rfl
  have bE : Binds K fe ["_law_cell", "_law_k", "_law_most"] [] := FE.bindsN fun _ _ _ _ _ _ us hl => match us, hl with | [_, _, _], _ => rfl
  have bM : Binds K fm ["_law_cell", "_law_k", "_law_limit"] [] := FM.bindsN fun _ _ _ _ _ _ us hl => match us, hl with | [_, _, _], _ => rfl
  exact ok_law ev D DD fx FD (by rw [efc]; exact congrArg Value.ref e1.symm) TB ⟨_, fc, k1, FC.kp, bC, ok_cell FC fx.n_len⟩ ⟨_, fm, k3, FM.kp, bM, ok_number FM k2 FE.kp bE (ok_draw FE)⟩
theorem law_walk (ev : Ev) {q : Program} {loose : List Str} {XP : (Str → Option Value) → Heap → Prop} {d : DefRec} (hdf : d.params.defaults = []) (hn : d.name = ("law" : Str)) : PySem.W.WalkO q loose XP hk.says RR.toRowW d [] (fun f vs => PySem.call f vs) := by
  refine Att.attach_callB (l := PySem.Challenge.rw_storyturns_k16_whole_anew) (n := 63) rfl hdf fun w s0 s1 mg mb fa o pm cd doc a vs ns GG Y ho hd hcd hmg hobj hints hlen hbits hg => ?_
  obtain ⟨K, KX, c⟩ := Y
  rw [hn] at hmg
  obtain ⟨fd, cd', Pt, h1, h2, h3, h4, h5⟩ := law_at ev KX GG.T.g c hmg (PySem.Challenge.rw_storyturns_k16_whole_anew).prog
  have aout : K.lookup a = none := by
    cases z : K.lookup a with
    | none => rfl
    | some u =>
      have y := KX a u z
      rw [hobj] at y
      cases y
      exact absurd rfl (hnl c.more z)
  exact law_run KX GG.T.g GG.T.b GG.T.builtins GG.T.nolimit hg h1 h2 aout h3 GG.T.bmain hobj hints (Nat.le_trans hlen (by decide)) ⟨rfl, by decide, by decide⟩ h5 h4
end G
/-! K43: the statement. -/
namespace G
open PySem PySem.W PySem.Calls PyProof.Rows
theorem end_law (h : RR.wellSaid = true → RR.Holds) : PySem.Challenge.rw_storyturns_k16_whole_anew.Holds := by
  w_on; o_law
  rename_i said
  exact h said
theorem end_bare : RR.prog.bare := ⟨rfl, rfl, rfl, rfl, rfl, by decide +kernel⟩
theorem end_open : opening RR.prog = plainProg RR.prog.main.scope.names := by kernel_rfl
theorem end_fence (s : Shared) : fenceModules? RR.prog s = some s := by kernel_rfl
abbrev lawD : DefRec := HandSHeadRun.topDef RR.prog 81
theorem end_name : lawD.name = ("law" : PySem.Str) := by kernel_rfl
theorem end_dfl : lawD.params.defaults = [] := by kernel_rfl
theorem end_def : defOf (view RR.prog [81]) RR.name = some (lawD, []) := by kernel_rfl
theorem end_the : RR.prog.theDef RR.name = some (lawD.params, lawD.body, lawD.scope) := by kernel_rfl
theorem end_kw : kwWritten? lawD.params.kwonlyargs lawD.params.kw_defaults = some [] := by kernel_rfl
theorem end_wr : (!RR.writes || RR.records.isEmpty) = true := by rfl
theorem end_top : (chainsOk (view RR.prog [81]) && opensWell RR.prog && (frees RR.toRowW && RR.within.isEmpty)) = true := by decide +kernel
theorem end_wit : RR.toRowW.promised := by w_witness2
end G
open PySem PySem.W
theorem PySem.Challenge.cw_storyturns_k16_whole_anew_holds : PySem.Challenge.rw_storyturns_k16_whole_anew.Holds :=
  G.end_law fun said => HandSHeadRun.head_any (r := G.RR) (q := view G.RR.prog [81]) (H := G.hk) (ob := G.hob) (M := 20000) (loose := G.hnames) (d := G.lawD) (kwd := [])
    G.hob_eq G.end_open G.end_fence G.hrun G.end_def G.end_the G.end_kw G.end_wr said G.end_top G.end_bare G.end_wit (G.law_walk G.ev_all G.end_dfl G.end_name)
