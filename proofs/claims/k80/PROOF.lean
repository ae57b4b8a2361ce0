import PyProof.Rows.All
import Wide.All
import OpenK.AllK
import Wide.FinOn
import HandS.ForMost
import HandS.Exc
import HandS.TryMany
import HandS.ExcOwn
import HandS.IsInst
import HandS.SortOrd
import HandS.Zip
import HandS.Walk
import HandS.DictComp
import HandS.CallSlots
import HandS.TupAny
import HandS.TupMul
import HandS.TupLe
import HandS.DeepEq
import HandS.Deep
import HandS.Conv
import HandS.Style
import HandS.SetKeys
import HandS.Defaults
import HandS.HeadHook2
import HandS.HeadEnd
import HandS.Head2
import HandS.Flow
import HandS.Star
import KE.GoesEnum
import HandS.Iter
import HandS.List
import HandS.Small
import HandS.ExcIs
import HandS.SortRule
import HandS.SortInts
import HandS.Strs
import HandS.SetFor
import HandS.TupSets
import KE.GoesMore
import KE.KItemsList
import KE.KDictZip
import HandS.ListItems
import PySem.Challenge.RW_fewanswers_k80_patterns_by_hand_and_refu
set_option linter.all false
namespace Few

inductive D where
  | non | bl (b : Bool) | int (i : Int) | str (s : List Nat) | tup (xs : List D) | lst (xs : List D)
  | dct (ks vs : List D) | set (xs : List D) | obj (n : Nat)
deriving Inhabited, Repr

inductive Slot where
  | un | fz (d : D) | ol (n : Nat) (r : List D) | od (ks vs : List D) | lk (d : D)

inductive RV where
  | v (d : D) | n (d : D) | p (i : Nat) | ls (ds : List D)

inductive Cell where
  | inst (c : Nat) (fs : List (Nat × D)) | lst (xs : List D) | dct (ks vs : List D)

abbrev ES := List Slot
abbrev IH := List Cell

structure XD where
  cls : Nat
  arg : Option D

inductive Out where
  | st | ok (σ : ES) (h : IH) (r : RV) | ex (σ : ES) (h : IH) (x : XD)
inductive OutC where
  | st | ok (h : IH) (r : RV) | ex (h : IH) (x : XD)
inductive OutS where
  | st | nx (σ : ES) (h : IH) | rt (h : IH) (r : RV) | bk (σ : ES) (h : IH) | ct (σ : ES) (h : IH) | ex (σ : ES) (h : IH) (x : XD)

abbrev Call := Nat → List D → IH → OutC
abbrev Ev := Call → ES → IH → Out
abbrev EvS := Call → ES → IH → OutS

/-! data -/
def beqNats : List Nat → List Nat → Bool
  | [], [] => true
  | x :: xs, y :: ys => bif Nat.beq x y then beqNats xs ys else false
  | _, _ => false
def ltNats : List Nat → List Nat → Bool
  | [], [] => false
  | [], _ :: _ => true
  | x :: xs, y :: ys => bif Nat.beq x y then ltNats xs ys else Nat.blt x y
  | _, _ => false

def ibeq : Int → Int → Bool
  | .ofNat a, .ofNat b => Nat.beq a b
  | .negSucc a, .negSucc b => Nat.beq a b
  | _, _ => false
def iblt : Int → Int → Bool
  | .ofNat a, .ofNat b => Nat.blt a b
  | .negSucc a, .negSucc b => Nat.blt b a
  | .negSucc _, .ofNat _ => true
  | .ofNat _, .negSucc _ => false

def eqs (f : D → D → Option Bool) : List D → List D → Option Bool
  | [], [] => some true
  | [], _ :: _ => some false
  | _ :: _, [] => some false
  | x :: xs, y :: ys => match f x y with
    | some true => eqs f xs ys
    | r => r
/-- of another kind -/
def other : D → Option Bool
  | .dct _ _ => none
  | .set _ => none
  | .obj _ => none
  | _ => some false
def b2n : Bool → Int
  | true => 1
  | false => 0
/-- one == other, down to a depth -/
def eqN : Nat → D → D → Option Bool
  | 0, _, _ => none
  | n + 1, a, b => match a with
    | .non => (match b with
      | .non => some true
      | b => other b)
    | .bl x => (match b with
      | .bl y => some (x == y)
      | .int j => some (ibeq (b2n x) j)
      | b => other b)
    | .int i => (match b with
      | .bl y => some (ibeq i (b2n y))
      | .int j => some (ibeq i j)
      | b => other b)
    | .str x => (match b with
      | .str y => some (beqNats x y)
      | b => other b)
    | .tup xs => (match b with
      | .tup ys => eqs (eqN n) xs ys
      | b => other b)
    | .lst xs => (match b with
      | .lst ys => eqs (eqN n) xs ys
      | b => other b)
    | _ => none
def eqD : D → D → Option Bool := eqN 100
def lts (e l : D → D → Option Bool) : List D → List D → Option Bool
  | [], [] => some false
  | [], _ :: _ => some true
  | _ :: _, [] => some false
  | x :: xs, y :: ys => match e x y with
    | some true => lts e l xs ys
    | some false => l x y
    | none => none
def ltN : Nat → D → D → Option Bool
  | 0, _, _ => none
  | n + 1, a, b => match a with
    | .int i => (match b with
      | .int j => some (iblt i j)
      | _ => none)
    | .str x => (match b with
      | .str y => some (ltNats x y)
      | _ => none)
    | .tup xs => (match b with
      | .tup ys => lts (eqN n) (ltN n) xs ys
      | _ => none)
    | _ => none
def ltD : D → D → Option Bool := ltN 100

def truth : D → Option Bool
  | .non => some false
  | .bl b => some b
  | .int i => some (!(ibeq i 0))
  | .str s => bif Nat.ble s.length 16777216 then some (!s.isEmpty) else none
  | .tup s => some (!s.isEmpty)
  | .lst s => some (!s.isEmpty)
  | _ => none

def memD (x : D) : List D → Option Bool
  | [] => some false
  | y :: ys => match eqD y x with
    | some a => (match memD x ys with
      | some b => some (a || b)
      | none => none)
    | none => none
/-- the ints of a list -/
def intsD : List D → Option (List Int)
  | [] => some []
  | .int i :: xs => (match intsD xs with
    | some r => some (i :: r)
    | none => none)
  | _ => none
def insU (x : Int) : List Int → List Int
  | [] => [x]
  | y :: ys => bif iblt x y then x :: y :: ys else bif ibeq x y then y :: ys else y :: insU x ys
/-- each once, from below -/
def sortU : List Int → List Int
  | [] => []
  | x :: xs => insU x (sortU xs)
/-- how many of them are below x -/
def rankD (x : D) : List D → Option Nat
  | [] => some 0
  | y :: ys => match ltD y x, rankD x ys with
    | some true, some n => some (n + 1)
    | some false, some n => some n
    | _, _ => none
def ranksD (all : List D) : List D → Option (List (Nat × D))
  | [] => some []
  | x :: xs => match rankD x all, ranksD all xs with
    | some n, some r => some ((n, x) :: r)
    | _, _ => none
/-- the ranks say the order -/
def agree1 (n : Nat) (x : D) : List (Nat × D) → Bool
  | [] => true
  | (k, y) :: r => match ltD x y with
    | some b => bif b == Nat.blt n k then agree1 n x r else false
    | none => false
def agreeD (all : List (Nat × D)) : List (Nat × D) → Bool
  | [] => true
  | (n, x) :: r => bif agree1 n x all then agreeD all r else false
def insK {α : Type} (n : Nat) (x : α) : List (Nat × α) → List (Nat × α)
  | [] => [(n, x)]
  | (k, y) :: r => bif Nat.blt k n then (k, y) :: insK n x r else (n, x) :: (k, y) :: r
def sortK {α : Type} : List (Nat × α) → List (Nat × α)
  | [] => []
  | (n, x) :: r => insK n x (sortK r)
/-- all ints, all texts, all tuples of an int ahead -/
def sortable : List D → Bool
  | [] => true
  | .int _ :: xs => xs.all fun d => match d with | .int _ => true | _ => false
  | .str _ :: xs => xs.all fun d => match d with | .str _ => true | _ => false
  | .tup (.int _ :: _) :: xs => xs.all fun d => match d with | .tup (.int _ :: _) => true | _ => false
  | .tup (.tup (.int _ :: _) :: _) :: xs => xs.all fun d => match d with | .tup (.tup (.int _ :: _) :: _) => true | _ => false
  | _ => false
def sortD (xs : List D) : Option (List D) := bif sortable xs then (match ranksD xs xs with
  | some r => bif agreeD r r then some ((sortK r).map Prod.snd) else none
  | none => none) else none
/-- what may be a key -/
def okKey : D → Bool
  | .int _ => true
  | .str _ => true
  | _ => false
def lookD (k : D) : List D → List D → Option (Option D)
  | a :: ks, v :: vs => match eqD a k with
    | some true => some (some v)
    | some false => lookD k ks vs
    | none => none
  | _, _ => some none
def replD (k v : D) : List D → List D → List D
  | a :: ks, u :: vs => (match eqD a k with
    | some true => v
    | _ => u) :: replD k v ks vs
  | _, _ => []
def putD (k v : D) (ks vs : List D) : Option (List D × List D) := match memD k ks with
  | some true => some (ks, replD k v ks vs)
  | some false => some (ks ++ [k], vs ++ [v])
  | none => none

def nth {α : Type} : List α → Nat → Option α
  | [], _ => none
  | x :: _, 0 => some x
  | _ :: xs, n + 1 => nth xs n
def setN {α : Type} : List α → Nat → α → List α
  | [], _, _ => []
  | _ :: xs, 0, a => a :: xs
  | x :: xs, n + 1, a => x :: setN xs n a

/-- Python index to a place -/
def ixOf (i : Int) (n : Nat) : Option Nat := match i with
  | .ofNat k => bif Nat.blt k n then some k else none
  | .negSucc k => bif Nat.blt k n then some (n - (k + 1)) else none
def clampI (i : Int) (n : Nat) : Nat := match i with
  | .ofNat k => bif Nat.blt k n then k else n
  | .negSucc k => n - (k + 1)
def bnd (n d : Nat) : Option Int → Nat
  | none => d
  | some i => clampI i n
def cutL {α : Type} (xs : List α) (lo hi : Option Int) : List α := (xs.drop (bnd xs.length 0 lo)).take (bnd xs.length xs.length hi - bnd xs.length 0 lo)

/-- the largest length -/
def line : Nat := 16777216
def fits {α : Type} (xs : List α) : Bool := Nat.ble xs.length line
def fitR (r : RV) : Option RV := match r with
  | .v (.tup xs) => bif fits xs then some r else none
  | .v (.str xs) => bif fits xs then some r else none
  | .n (.lst xs) => bif fits xs then some r else none
  | _ => some r
inductive Bop | add | sub | mul | fdiv | mod | pow deriving DecidableEq
def small64 (i : Int) : Bool := match i with
  | .ofNat k => Nat.blt k 18446744073709551616
  | .negSucc k => Nat.blt k 18446744073709551615
def binD : Bop → D → D → Option RV
  | .add, .int a, .int b => some (.v (.int (a + b)))
  | .add, .str a, .str b => some (.v (.str (a ++ b)))
  | .add, .tup a, .tup b => some (.v (.tup (a ++ b)))
  | .add, .lst a, .lst b => some (.n (.lst (a ++ b)))
  | .sub, .int a, .int b => some (.v (.int (a - b)))
  | .mul, .int a, .int b => bif small64 a || small64 b then some (.v (.int (a * b))) else none
  | .mul, .tup a, .int b => (match b with
    | .ofNat 0 => some (.v (.tup []))
    | .ofNat 1 => some (.v (.tup a))
    | .ofNat k => bif Nat.ble k 1000 && Nat.ble a.length 1000 then some (.v (.tup (List.flatten (List.replicate k a)))) else none
    | _ => none)
  | .mul, .lst a, .int b => (match b with
    | .ofNat k => bif Nat.ble k 1000000 then some (.n (.lst (List.flatten (List.replicate k a)))) else none
    | _ => none)
  | .fdiv, .int a, .int b => match b with
    | .ofNat k => bif Nat.blt 0 k && Nat.blt k 1073741824 then some (.v (.int (Int.fdiv a b))) else none
    | _ => none
  | .mod, .int a, .int b => match b with
    | .ofNat k => bif Nat.blt 0 k then some (.v (.int (Int.fmod a b))) else none
    | _ => none
  | .pow, .int a, .int b => match a, b with
    | .ofNat x, .ofNat y => bif Nat.blt x 1000 && Nat.blt y 100 then some (.v (.int (.ofNat (x ^ y)))) else none
    | _, _ => none
  | _, _, _ => none

inductive Cop | eq | ne | lt | le | gt | ge | isn | isnn | isin | notin deriving DecidableEq
def notO : Option Bool → Option Bool
  | some b => some (!b)
  | none => none
def inD (x : D) : D → Option Bool
  | .lst ys => memD x ys
  | .tup ys => memD x ys
  | .dct ks _ => bif okKey x then memD x ks else none
  | .str s => match x with
    | .str [c] => some (s.any (Nat.beq c))
    | _ => none
  | _ => none
def isNon : D → Bool
  | .non => true
  | _ => false
def cmpD : Cop → D → D → Option Bool
  | .eq, a, b => eqD a b
  | .ne, a, b => notO (eqD a b)
  | .lt, a, b => ltD a b
  | .gt, .int a, .int b => some (iblt b a)
  | .gt, .str a, .str b => some (ltNats b a)
  | .le, .int a, .int b => some (!(iblt b a))
  | .ge, .int a, .int b => some (!(iblt a b))
  | .isn, a, .non => some (isNon a)
  | .isnn, a, .non => some (!isNon a)
  | .isin, a, b => inD a b
  | .notin, a, b => notO (inD a b)
  | _, _, _ => none

inductive Ty | int | bool | str | tuple | list deriving DecidableEq
def tyD : D → Nat
  | .non => 0
  | .bl _ => 1
  | .int _ => 2
  | .str _ => 3
  | .tup _ => 4
  | .lst _ => 5
  | .dct _ _ => 6
  | _ => 7
/-- what a thing of the kind is -/
def isTy : Nat → Ty → Bool
  | 1, .int => true
  | 2, .int => true
  | 1, .bool => true
  | 3, .str => true
  | 4, .tuple => true
  | 5, .list => true
  | _, _ => false
def anyTy (n : Nat) : List Ty → Bool
  | [] => false
  | t :: ts => bif isTy n t then true else anyTy n ts

inductive B1 | len | list | tuple | sortset | sorted | all | any | sum | int | abs deriving DecidableEq
def seqD : D → Option (List D)
  | .lst xs => some xs
  | .tup xs => some xs
  | _ => none
def lstD : D → Option (List D)
  | .lst xs => some xs
  | _ => none
def boolsD : List D → Option (List Bool)
  | [] => some []
  | .bl b :: xs => (match boolsD xs with
    | some r => some (b :: r)
    | none => none)
  | _ => none
def isum : List Int → Int
  | [] => 0
  | i :: is => i + isum is
def ball : List Bool → Bool
  | [] => true
  | b :: bs => bif b then ball bs else false
def bany : List Bool → Bool
  | [] => false
  | b :: bs => bif b then true else bany bs
def maxD : D → List D → Option D
  | a, [] => some a
  | a, b :: xs => match ltD a b with
    | some true => maxD b xs
    | some false => maxD a xs
    | none => none

def frozen : RV → Option D
  | .v d => some d
  | .n d => some d
  | _ => none
def content : Slot → Option D
  | .un => none
  | .fz d => some d
  | .lk d => some d
  | .ol _ r => some (.lst r.reverse)
  | .od ks vs => some (.dct ks vs)
/-- the value of a result now -/
def val (σ : ES) : RV → Option D
  | .v d => some d
  | .n d => some d
  | .p i => match nth σ i with
    | some s => content s
    | none => none
  | .ls _ => none
/-- the content of a cell that holds a list -/
def deref (h : IH) : D → D
  | .obj n => match nth h n with
    | some (.lst xs) => .lst xs
    | some (.dct ks vs) => .dct ks vs
    | _ => .obj n
  | d => d
def valH (σ : ES) (h : IH) (r : RV) : Option D := match val σ r with
  | some d => some (deref h d)
  | none => none
def b1 (b : B1) (d : D) : Option RV :=
  match b with
  | .len => (match d with
    | .lst xs => some (.v (.int (.ofNat xs.length)))
    | .tup xs => some (.v (.int (.ofNat xs.length)))
    | .str xs => bif fits xs then some (.v (.int (.ofNat xs.length))) else none
    | .dct xs _ => some (.v (.int (.ofNat xs.length)))
    | _ => none)
  | .list => (match d with
    | .lst xs => some (.n (.lst xs))
    | .tup xs => some (.n (.lst xs))
    | _ => none)
  | .tuple => (match d with
    | .lst xs => some (.v (.tup xs))
    | .tup xs => some (.v (.tup xs))
    | _ => none)
  | .sortset => (match lstD d with
    | some xs => (match intsD xs with
      | some ns => bif Nat.blt ns.length 64 then some (.n (.lst ((sortU ns).map .int))) else none
      | none => none)
    | none => none)
  | .sorted => (match lstD d with
    | some xs => (match sortD xs with
      | some ys => some (.n (.lst ys))
      | none => none)
    | none => none)
  | .all => (match lstD d with
    | some xs => (match boolsD xs with
      | some b => some (.v (.bl (ball b)))
      | none => none)
    | none => none)
  | .any => (match lstD d with
    | some xs => (match boolsD xs with
      | some b => some (.v (.bl (bany b)))
      | none => none)
    | none => none)
  | .sum => (match lstD d with
    | some xs => (match intsD xs with
      | some b => some (.v (.int (isum b)))
      | none => none)
    | none => none)
  | .int => (match d with
    | .int i => some (.v (.int i))
    | .bl b => some (.v (.int (bif b then 1 else 0)))
    | _ => none)
  | .abs => (match d with
    | .int i => some (.v (.int (bif iblt i 0 then -i else i)))
    | _ => none)

def small62 (i : Int) : Bool := match i with
  | .ofNat k => Nat.blt k 4611686018427387904
  | .negSucc k => Nat.blt k 4611686018427387904
inductive B2 | min | max | zip | range | enum deriving DecidableEq
def zipD : List D → List D → List D
  | x :: xs, y :: ys => .tup [x, y] :: zipD xs ys
  | _, _ => []
def enumD : Nat → List D → List D
  | _, [] => []
  | n, x :: xs => .tup [.int (.ofNat n), x] :: enumD (n + 1) xs
def rangeD : Nat → Int → List D
  | 0, _ => []
  | n + 1, i => .int i :: rangeD n (i + 1)
def b2 (b : B2) (σ : ES) (h : IH) (r q : RV) : Option RV :=
  match b with
  | .min => match val σ r, val σ q with
    | some (.int i), some (.int j) => some (.v (.int (bif iblt j i then j else i)))
    | _, _ => none
  | .max => match val σ r, val σ q with
    | some (.int i), some (.int j) => some (.v (.int (bif iblt i j then j else i)))
    | _, _ => none
  | .zip => match frozen r, frozen q with
    | some (.lst xs), some (.lst ys) => some (.ls (zipD xs ys))
    | some (.tup xs), some (.tup ys) => some (.ls (zipD xs ys))
    | some (.lst xs), some (.tup ys) => some (.ls (zipD xs ys))
    | _, _ => none
  | .range => match frozen r, frozen q with
    | some (.int i), some (.int j) => bif small62 i && small62 j then some (.ls (rangeD (j - i).toNat i)) else none
    | _, _ => none
  | .enum => match frozen r with
    | some (.lst xs) => some (.ls (enumD 0 xs))
    | some (.tup xs) => some (.ls (enumD 0 xs))
    | _ => none

def subD : D → D → Option D
  | .lst xs, .int i => match ixOf i xs.length with
    | some k => nth xs k
    | none => none
  | .tup xs, .int i => match ixOf i xs.length with
    | some k => nth xs k
    | none => none
  | .dct ks vs, k => bif okKey k then (match lookD k ks vs with
    | some (some v) => some v
    | _ => none) else none
  | _, _ => none
def optI : D → Option (Option Int)
  | .non => some none
  | .int i => some (some i)
  | _ => none
def slcD (d : D) (a b : Option Int) : Option RV := match d with
  | .lst xs => some (.n (.lst (cutL xs a b)))
  | .tup xs => some (.v (.tup (cutL xs a b)))
  | .str xs => bif fits xs then some (.v (.str (cutL xs a b))) else none
  | _ => none

/-! targets -/
inductive T where
  | nm (i : Nat) | nil | cons (t ts : T)
/-- a slot for a result -/
def slotOf : RV → Option Slot
  | .v d => some (.fz d)
  | .n (.lst xs) => some (.ol xs.length xs.reverse)
  | .n (.dct ks vs) => some (.od ks vs)
  | .n d => some (.fz d)
  | _ => none
def asgD : T → D → ES → Option ES
  | .nm i, d, σ => some (setN σ i (.fz d))
  | .nil, .tup [], σ => some σ
  | .cons t ts, .tup (x :: xs), σ => match asgD t x σ with
    | some σ' => asgD ts (.tup xs) σ'
    | none => none
  | _, _, _ => none
def asg (t : T) (r : RV) (σ : ES) : Option ES :=
  match t with
  | .nm i => match slotOf r with
    | some s => some (setN σ i s)
    | none => none
  | t => match frozen r with
    | some d => asgD t d σ
    | none => none
/-! expressions -/
inductive E where
  | con (d : D) | var (i : Nat) | pk (i : Nat)
  | bin (op : Bop) (a b : E) | neg (a : E) | no (a : E)
  | cmp (op : Cop) (a b : E) | cmp2 (o1 o2 : Cop) (a b c : E)
  | band (a b : E) | bor (a b : E) | ite (t a b : E)
  | nil | cons (a r : E) | star (a r : E)
  | tup (es : E) | lst (es : E) | lstc (es : E)
  | dnil | dcons (k v r : E) | dstar (a r : E) | dct (es : E)
  | sub (a i : E) | slc (a lo hi : E) | rev (a : E)
  | call (f : Nat) (es : E) | callk (f : Nat) (es : E) (perm : List Nat)
  | isi (a : E) (ts : List Ty) | bi (b : B1) (a : E) | bi2 (b : B2) (a c : E)
  | lc (own : List Nat) (t : T) (it c g : E) | gfor (own : List Nat) (t : T) (it c g : E) | gelt (a : E) | gpair (k v : E) | dc (own : List Nat) (t : T) (it c g : E)
  | pop (i : Nat) | lsz (a : E)

section
variable (c : Call)
def Out.bind (o : Out) (k : ES → IH → RV → Out) : Out := match o with
  | .st => .st
  | .ok σ h r => k σ h r
  | .ex σ h x => .ex σ h x
def opt (σ : ES) (h : IH) (o : Option RV) : Out := match o with
  | some r => .ok σ h r
  | none => .st
def optB (σ : ES) (h : IH) (o : Option Bool) : Out := match o with
  | some b => .ok σ h (.v (.bl b))
  | none => .st
end
def dCon (d : D) : Ev := fun _ σ h => .ok σ h (.v d)
def dVar (i : Nat) : Ev := fun _ σ h => match nth σ i with
  | some (.fz d) => .ok σ h (.v d)
  | some (.ol _ r) => (fun d => .ok (setN σ i (.fz d)) h (.v d)) (.lst r.reverse)
  | some (.od ks vs) => .ok (setN σ i (.fz (.dct ks vs))) h (.v (.dct ks vs))
  | _ => .st
def dPk (i : Nat) : Ev := fun _ σ h => match nth σ i with
  | some .un => .st
  | some _ => .ok σ h (.p i)
  | none => .st
def d2 (a b : Ev) (k : ES → IH → RV → RV → Out) : Ev := fun c σ h => (a c σ h).bind fun σ h x => (b c σ h).bind fun σ h y => k σ h x y
def dBin (op : Bop) (a b : Ev) : Ev := d2 a b fun σ h x y => match val σ x, val σ y with
  | some x, some y => match binD op x y with
    | some r => opt σ h (fitR r)
    | none => .st
  | _, _ => .st
def dCmp (op : Cop) (a b : Ev) : Ev := d2 a b fun σ h x y => match val σ x, val σ y with
  | some x, some y => optB σ h (cmpD op x y)
  | _, _ => .st
def dCmp2 (o1 o2 : Cop) (a b e : Ev) : Ev := fun c => d2 a b (fun σ h x y => match frozen x, frozen y with
  | some x, some y => match cmpD o1 x y with
    | some true => (e c σ h).bind fun σ h z => match val σ z with
      | some z => optB σ h (cmpD o2 y z)
      | none => .st
    | some false => .ok σ h (.v (.bl false))
    | none => .st
  | _, _ => .st) c
def dNeg (a : Ev) : Ev := fun c σ h => (a c σ h).bind fun σ h x => match x with
  | .v (.int i) => .ok σ h (.v (.int (-i)))
  | _ => .st
def truthR (σ : ES) (r : RV) : Option Bool := match val σ r with
  | some d => truth d
  | none => none
def dNo (a : Ev) : Ev := fun c σ h => (a c σ h).bind fun σ h x => optB σ h (notO (truthR σ x))
def dAnd (a b : Ev) : Ev := fun c σ h => (a c σ h).bind fun σ h x => match truthR σ x with
  | some true => b c σ h
  | some false => .ok σ h x
  | none => .st
def dOr (a b : Ev) : Ev := fun c σ h => (a c σ h).bind fun σ h x => match truthR σ x with
  | some true => .ok σ h x
  | some false => b c σ h
  | none => .st
def dIte (t a b : Ev) : Ev := fun c σ h => (t c σ h).bind fun σ h x => match truthR σ x with
  | some true => a c σ h
  | some false => b c σ h
  | none => .st
def dNil : Ev := fun _ σ h => .ok σ h (.ls [])
/-- items ahead of the rest -/
def dAhead (pre : RV → Option (List D)) (a r : Ev) : Ev := fun c σ h => (a c σ h).bind fun σ h x => match pre x with
  | some ds => (r c σ h).bind fun σ h y => match y with
    | .ls es => .ok σ h (.ls (ds ++ es))
    | _ => .st
  | none => .st
def pre1 (r : RV) : Option (List D) := match frozen r with
  | some d => some [d]
  | none => none
def preS (r : RV) : Option (List D) := match frozen r with
  | some (.lst ds) => some ds
  | some (.tup ds) => some ds
  | _ => none
def dCons : Ev → Ev → Ev := dAhead pre1
def dStar : Ev → Ev → Ev := dAhead preS
def dTup (a : Ev) : Ev := fun c σ h => (a c σ h).bind fun σ h x => match x with
  | .ls ds => bif fits ds then .ok σ h (.v (.tup ds)) else .st
  | _ => .st
def dLst (a : Ev) : Ev := fun c σ h => (a c σ h).bind fun σ h x => match x with
  | .ls ds => bif fits ds then .ok σ h (.n (.lst ds)) else .st
  | _ => .st
def dLstc (a : Ev) : Ev := fun c σ h => (a c σ h).bind fun σ h x => match x with
  | .ls ds => bif fits ds then .ok σ (h ++ [.lst ds]) (.v (.obj h.length)) else .st
  | _ => .st
def dSub (a i : Ev) : Ev := d2 a i fun σ h x y => match valH σ h x, val σ y with
  | some x, some y => match subD x y with
    | some d => .ok σ h (.v d)
    | none => .st
  | _, _ => .st
def partO (r : RV) : Option (Option Int) := match frozen r with
  | some d => optI d
  | none => none
def dSlc (a lo hi : Ev) : Ev := fun c σ h => (a c σ h).bind fun σ h x => (lo c σ h).bind fun σ h y => match partO y with
  | some l => (hi c σ h).bind fun σ h z => match partO z with
    | some u => (match valH σ h x with
      | some d => opt σ h (slcD d l u)
      | none => .st)
    | none => .st
  | none => .st
def dRev (a : Ev) : Ev := fun c σ h => (a c σ h).bind fun σ h x => match valH σ h x with
  | some (.lst xs) => .ok σ h (.n (.lst xs.reverse))
  | _ => .st
def ofC (σ : ES) (o : OutC) : Out := match o with
  | .st => .st
  | .ok h r => .ok σ h r
  | .ex h x => .ex σ h x
def dCall (f : Nat) (a : Ev) : Ev := fun c σ h => (a c σ h).bind fun σ h x => match x with
  | .ls ds => ofC σ (c f ds h)
  | _ => .st
def permD (ds : List D) : List Nat → Option (List D)
  | [] => some []
  | i :: is => match nth ds i, permD ds is with
    | some d, some r => some (d :: r)
    | _, _ => none
def dCallk (f : Nat) (a : Ev) (perm : List Nat) : Ev := fun c σ h => (a c σ h).bind fun σ h x => match x with
  | .ls ds => bif Nat.beq ds.length perm.length then (match permD ds perm with
    | some ds => ofC σ (c f ds h)
    | none => .st) else .st
  | _ => .st
def dIsi (a : Ev) (ts : List Ty) : Ev := fun c σ h => (a c σ h).bind fun σ h x => match val σ x with
  | some d => bif Nat.blt (tyD d) 7 then .ok σ h (.v (.bl (anyTy (tyD d) ts))) else .st
  | none => .st
def dBi (b : B1) (a : Ev) : Ev := fun c σ h => (a c σ h).bind fun σ h x => match valH σ h x with
  | some d => opt σ h (b1 b d)
  | none => .st
/-- list(zip(..)) -/
def dLsz (a : Ev) : Ev := fun c σ h => (a c σ h).bind fun σ h x => match x with
  | .ls ds => bif fits ds then .ok σ h (.n (.lst ds)) else .st
  | _ => .st
def dBi2 (b : B2) (a e : Ev) : Ev := d2 a e fun σ h x y => opt σ h (b2 b σ h x y)
def wipe (σ : ES) : List Nat → ES
  | [] => σ
  | i :: is => setN (wipe σ is) i .un
def unwipe (σ0 σ : ES) : List Nat → ES
  | [] => σ
  | i :: is => match nth σ0 i with
    | some s => unwipe σ0 (setN σ i s) is
    | none => unwipe σ0 σ is
/-- the items of what stays -/
def itz : RV → Option (List D)
  | .ls xs => some xs
  | .v (.lst xs) => some xs
  | .v (.tup xs) => some xs
  | .n (.lst xs) => some xs
  | .v (.str s) => some (s.map fun c => .str [c])
  | _ => none
/-- the turns of a comprehension's clause: acc reversed -/
def gloop (own : List Nat) (t : T) (cd g : Ev) (c : Call) : List D → ES → IH → List D → Out
  | [], σ, h, acc => .ok σ h (.ls acc)
  | x :: xs, σ, h, acc => match asgD t x (wipe σ own) with
    | none => .st
    | some σ => (cd c σ h).bind fun σ h b => match truthR σ b with
      | some true => (g c σ h).bind fun σ h y => match y with
        | .ls ys => gloop own t cd g c xs σ h (ys.reverse ++ acc)
        | _ => .st
      | some false => gloop own t cd g c xs σ h acc
      | none => .st
def dGfor (own : List Nat) (t : T) (it cd g : Ev) : Ev := fun c σ h => (it c σ h).bind fun σ h r => match itz r with
  | some xs => (gloop own t cd g c xs σ h []).bind fun σ' h y => match y with
    | .ls acc => .ok σ' h (.ls acc.reverse)
    | _ => .st
  | none => .st
/-- what a block may hide -/
def hid (σ : ES) (own : List Nat) : Bool := own.all fun i => match nth σ i with
  | some .un => true
  | some (.fz _) => true
  | _ => false
/-- no exception leaves -/
def Out.calm (o : Out) : Out := match o with
  | .ex _ _ _ => .st
  | o => o
def dBlk (own : List Nat) (t : T) (it cd g : Ev) (fin : List D → Option RV) : Ev := fun c σ h => (it c σ h).bind fun σ h r => match itz r with
  | some xs => bif hid σ own then (gloop own t cd g c xs σ h []).calm.bind fun σ' h y => match y with
    | .ls acc => (match fin acc.reverse with
      | some v => .ok (unwipe σ (wipe σ' own) own) h v
      | none => .st)
    | _ => .st else .st
  | none => .st
def dGelt (a : Ev) : Ev := fun c σ h => (a c σ h).bind fun σ h x => match frozen x with
  | some d => .ok σ h (.ls [d])
  | none => .st
def dGpair (a b : Ev) : Ev := d2 a b fun σ h x y => match frozen x, frozen y with
  | some k, some v => .ok σ h (.ls [.tup [k, v]])
  | _, _ => .st
def finL (ys : List D) : Option RV := bif fits ys then some (.n (.lst ys)) else none
def put1 : D → List D → List D → Option (List D × List D)
  | .tup [k, v], ks, vs => bif okKey k && Nat.blt ks.length line then putD k v ks vs else none
  | _, _, _ => none
def putAll : List D → List D → List D → Option (List D × List D)
  | [], ks, vs => some (ks, vs)
  | x :: r, ks, vs => match put1 x ks vs with
    | some p => putAll r p.1 p.2
    | none => none
def finD (ys : List D) : Option RV := match putAll ys [] [] with
  | some (ks, vs) => some (.n (.dct ks vs))
  | none => none
def dPop (i : Nat) : Ev := fun _ σ h => match nth σ i with
  | some (.ol (n + 1) (d :: r)) => .ok (setN σ i (.ol n r)) h (.v d)
  | _ => .st
def dBad : Ev := fun _ _ _ => .st

def den : E → Ev
  | .con d => dCon d
  | .var i => dVar i
  | .pk i => dPk i
  | .bin op a b => dBin op (den a) (den b)
  | .neg a => dNeg (den a)
  | .no a => dNo (den a)
  | .cmp op a b => dCmp op (den a) (den b)
  | .cmp2 o1 o2 a b c => dCmp2 o1 o2 (den a) (den b) (den c)
  | .band a b => dAnd (den a) (den b)
  | .bor a b => dOr (den a) (den b)
  | .ite t a b => dIte (den t) (den a) (den b)
  | .nil => dNil
  | .cons a r => dCons (den a) (den r)
  | .star a r => dStar (den a) (den r)
  | .tup a => dTup (den a)
  | .lst a => dLst (den a)
  | .lstc a => dLstc (den a)
  | .dnil => dBad
  | .dcons _ _ _ => dBad
  | .dstar _ _ => dBad
  | .dct _ => dBad
  | .sub a i => dSub (den a) (den i)
  | .slc a b c => dSlc (den a) (den b) (den c)
  | .rev a => dRev (den a)
  | .call f a => dCall f (den a)
  | .callk f a p => dCallk f (den a) p
  | .isi a ts => dIsi (den a) ts
  | .bi b a => dBi b (den a)
  | .bi2 b a c => dBi2 b (den a) (den c)
  | .lc own t it c g => dBlk own t (den it) (den c) (den g) finL
  | .gfor own t it c g => dGfor own t (den it) (den c) (den g)
  | .gelt a => dGelt (den a)
  | .gpair a b => dGpair (den a) (den b)
  | .dc own t it c g => dBlk own t (den it) (den c) (den g) finD
  | .pop i => dPop i
  | .lsz a => dLsz (den a)

/-! statements -/
inductive S where
  | skip | seq (a b : S) | ex (e : E) | asg (t : T) (e : E) | par (i j : Nat) (a b : E)
  | app (i : Nat) (e : E) | appc (o e : E) | ext (i : Nat) (e : E) | seti (i : Nat) (k e : E) | setc (o k e : E)
  | ife (t : E) (a b : S) | whl (t : E) (b : S) | forr (t : T) (it : E) (b : S)
  | ret (e : E) | retp (i : Nat) | brk | cont
  | raise (cls : Nat) (es : E) | tri (b h : S) | hnil | hcons (cs : List Nat) (nm : Nat) (b r : S)

def fromE (o : Out) (k : ES → IH → RV → OutS) : OutS := match o with
  | .st => .st
  | .ok σ h r => k σ h r
  | .ex σ h x => .ex σ h x
abbrev Sv := Call → Option XD → ES → IH → OutS
def sSeq (a b : Sv) : Sv := fun c x σ h => match a c x σ h with
  | .nx σ h => b c x σ h
  | r => r
def sEx (e : Ev) : Sv := fun c _ σ h => fromE (e c σ h) fun σ h _ => .nx σ h
def sAsg (t : T) (e : Ev) : Sv := fun c _ σ h => fromE (e c σ h) fun σ h r => match asg t r σ with
  | some σ => .nx σ h
  | none => .st
def sPar (i j : Nat) (a b : Ev) : Sv := fun c _ σ h => fromE (a c σ h) fun σ h x => match slotOf x with
  | some s => fromE (b c σ h) fun σ h y => match slotOf y with
    | some u => .nx (setN (setN σ i s) j u) h
    | none => .st
  | none => .st
def isOl : Option Slot → Bool
  | some (.ol _ _) => true
  | _ => false
def sApp (i : Nat) (e : Ev) : Sv := fun c _ σ h => bif isOl (nth σ i) then fromE (e c σ h) fun σ h r => match frozen r, nth σ i with
  | some d, some (.ol n r) => bif Nat.blt n line then .nx (setN σ i (.ol (n + 1) (d :: r))) h else .st
  | _, _ => .st else .st
/-- the cell's list -/
def cellL (h : IH) (r : RV) : Option (Nat × List D) := match frozen r with
  | some (.obj n) => (match nth h n with
    | some (.lst xs) => some (n, xs)
    | _ => none)
  | _ => none
/-- o.append(e), o a cell -/
def sAppc (o e : Ev) : Sv := fun c _ σ h => fromE (o c σ h) fun σ h p => match cellL h p with
  | none => .st
  | some _ => fromE (e c σ h) fun σ h r => match frozen r, cellL h p with
    | some d, some (n, xs) => bif Nat.blt xs.length line then .nx σ (setN h n (.lst (xs ++ [d]))) else .st
    | _, _ => .st
def sExt (i : Nat) (e : Ev) : Sv := fun c _ σ h => bif isOl (nth σ i) then fromE (e c σ h) fun σ h r => match r, nth σ i with
  | .n (.lst ds), some (.ol n r) => bif Nat.ble (n + ds.length) line then .nx (setN σ i (.ol (n + ds.length) (ds.reverse ++ r))) h else .st
  | _, _ => .st else .st
def setAt (xs : List D) (k : D) (v : D) : Option (List D) := match k with
  | .int i => match ixOf i xs.length with
    | some n => some (setN xs n v)
    | none => none
  | _ => none
/-- x[k] = e: e first -/
def sSeti (i : Nat) (k e : Ev) : Sv := fun c _ σ h => bif isOl (nth σ i) then fromE (e c σ h) fun σ h r => fromE (k c σ h) fun σ h q => match frozen r, frozen q, nth σ i with
  | some d, some k, some (.ol n r) => match setAt r.reverse k d with
    | some xs => .nx (setN σ i (.ol n xs.reverse)) h
    | none => .st
  | _, _, _ => .st else .st
def sSetc (o k e : Ev) : Sv := fun c _ σ h => fromE (e c σ h) fun σ h r => fromE (o c σ h) fun σ h p => fromE (k c σ h) fun σ h q => match frozen r, cellL h p, frozen q with
  | some d, some (n, xs), some k => match setAt xs k d with
    | some xs => .nx σ (setN h n (.lst xs))
    | none => .st
  | _, _, _ => .st
def sIf (t : Ev) (a b : Sv) : Sv := fun c x σ h => fromE (t c σ h) fun σ h r => match truthR σ r with
  | some true => a c x σ h
  | some false => b c x σ h
  | none => .st
def whileN (t : Ev) (b : Sv) (c : Call) (x : Option XD) : Nat → ES → IH → OutS
  | 0, _, _ => .st
  | n + 1, σ, h => fromE (t c σ h) fun σ h r => match truthR σ r with
    | some true => match b c x σ h with
      | .nx σ h => whileN t b c x n σ h
      | .ct σ h => whileN t b c x n σ h
      | .bk σ h => .nx σ h
      | r => r
    | some false => .nx σ h
    | none => .st
def sWhile (t : Ev) (b : Sv) : Sv := fun c x σ h => whileN t b c x 1000000 σ h
def forL (t : T) (b : Sv) (c : Call) (x : Option XD) : List D → ES → IH → OutS
  | [], σ, h => .nx σ h
  | d :: xs, σ, h => match asgD t d σ with
    | none => .st
    | some σ => match b c x σ h with
      | .nx σ h => forL t b c x xs σ h
      | .ct σ h => forL t b c x xs σ h
      | .bk σ h => .nx σ h
      | r => r
def sFor (t : T) (it : Ev) (b : Sv) : Sv := fun c x σ h => fromE (it c σ h) fun σ h r => match itz r with
  | some xs => forL t b c x xs σ h
  | none => .st
def sRet (e : Ev) : Sv := fun c _ σ h => fromE (e c σ h) fun σ h r => match r with
  | .p _ => .st
  | .ls _ => .st
  | r => .rt h r
def sRetp (i : Nat) : Sv := fun _ _ σ h => match nth σ i with
  | some (.fz d) => .rt h (.v d)
  | some (.ol _ r) => .rt h (.n (.lst r.reverse))
  | some (.od ks vs) => .rt h (.n (.dct ks vs))
  | _ => .st
def sRaise (cls : Nat) (e : Ev) : Sv := fun c _ σ h => fromE (e c σ h) fun σ h r => match r with
  | .ls [] => .ex σ h ⟨cls, none⟩
  | .ls [d] => .ex σ h ⟨cls, some d⟩
  | _ => .st
/-- behind an exception: only what leaves the def -/
def onlyRt : OutS → OutS
  | .rt h r => .rt h r
  | .ex σ h x => .ex σ h x
  | _ => .st
def sTry (b hd : Sv) : Sv := fun c x σ h => match b c x σ h with
  | .ex σ h y => onlyRt (hd c (some y) σ h)
  | r => r
def sHnil : Sv := fun _ x σ h => match x with
  | some y => .ex σ h y
  | none => .st
/-- a suite ends: its name goes; nothing is raised in it -/
def endH (i : Nat) : OutS → OutS
  | .nx σ h => .nx (setN σ i .un) h
  | .bk σ h => .bk (setN σ i .un) h
  | .ct σ h => .ct (setN σ i .un) h
  | .rt h r => .rt h r
  | _ => .st
/-- cs: the classes of exceptions that the clause takes; i: its name -/
def sHcons (cs : List Nat) (i : Nat) (b r : Sv) : Sv := fun c x σ h => match x with
  | some y => bif cs.any (Nat.beq y.cls) then (match nth σ i with
    | some _ => endH i (b c none (setN σ i .un) h)
    | none => .st) else r c x σ h
  | none => .st
def denS : S → Sv
  | .skip => fun _ _ σ h => .nx σ h
  | .seq a b => sSeq (denS a) (denS b)
  | .ex e => sEx (den e)
  | .asg t e => sAsg t (den e)
  | .par i j a b => sPar i j (den a) (den b)
  | .app i e => sApp i (den e)
  | .appc o e => sAppc (den o) (den e)
  | .ext i e => sExt i (den e)
  | .seti i k e => sSeti i (den k) (den e)
  | .setc o k e => sSetc (den o) (den k) (den e)
  | .ife t a b => sIf (den t) (denS a) (denS b)
  | .whl t b => sWhile (den t) (denS b)
  | .forr t it b => sFor t (den it) (denS b)
  | .ret e => sRet (den e)
  | .retp i => sRetp i
  | .brk => fun _ _ σ h => .bk σ h
  | .cont => fun _ _ σ h => .ct σ h
  | .raise n e => sRaise n (den e)
  | .tri b h => sTry (denS b) (denS h)
  | .hnil => sHnil
  | .hcons cs i b r => sHcons cs i (denS b) (denS r)

structure Fn where
  ps : Nat
  ns : Nat
  body : S
def initS : List D → Nat → ES
  | [], n => List.replicate n .un
  | d :: ds, n => .fz d :: initS ds n
def endC (o : OutS) : OutC := match o with
  | .rt h r => .ok h r
  | .nx _ h => .ok h (.v .non)
  | .ex _ h x => .ex h x
  | _ => .st
def callK (tab : Nat → Option Fn) : Nat → Call
  | 0, _, _, _ => .st
  | k + 1, f, ds, h => match tab f with
    | some fn => bif Nat.beq ds.length fn.ps then endC (denS fn.body (callK tab k) none (initS ds fn.ns) h) else .st
    | none => .st
end Few
set_option Elab.async false
set_option linter.all false
set_option maxRecDepth 100000
set_option maxHeartbeats 2000000
namespace Few
open PySem PySem.Spec PyProof.Rows L2

abbrev txt (s : List Nat) : Str := ⟨s.toArray⟩
def keyOf : D → Option Key
  | .int i => some (.inl i)
  | .str s => some (.inr (txt s))
  | _ => none

mutual
/-- a value that stays: d is held by v -/
inductive Rep (K : PySem.W.Frag) (ρ : List Addr) (H : Hp) : D → V → Prop
  | non : Rep K ρ H .non .non
  | bl (b : Bool) : Rep K ρ H (.bl b) (.bl b)
  | int (i : Int) : Rep K ρ H (.int i) (.int i)
  | str (s : List Nat) : Rep K ρ H (.str s) (.str (txt s))
  | tup {a : Addr} {vs : List V} {ds : List D} : SqT K H a vs → Reps K ρ H ds vs → Rep K ρ H (.tup ds) (.ref a)
  | lst {a : Addr} {o : Obj} {vs : List V} {ds : List D} : H a = some (.frz o (.lst vs)) → Reps K ρ H ds vs → Rep K ρ H (.lst ds) (.ref a)
  | dct {a : Addr} {o : Obj} {ks ds : List D} {kvs : List (Key × V)} : H a = some (.frz o (.dK kvs)) → KReps K ρ H ks ds kvs → Rep K ρ H (.dct ks ds) (.ref a)
  | obj {n : Nat} {a : Addr} : ρ[n]? = some a → Rep K ρ H (.obj n) (.ref a)
inductive Reps (K : PySem.W.Frag) (ρ : List Addr) (H : Hp) : List D → List V → Prop
  | nil : Reps K ρ H [] []
  | cons {d : D} {v : V} {ds : List D} {vs : List V} : Rep K ρ H d v → Reps K ρ H ds vs → Reps K ρ H (d :: ds) (v :: vs)
inductive KReps (K : PySem.W.Frag) (ρ : List Addr) (H : Hp) : List D → List D → List (Key × V) → Prop
  | nil : KReps K ρ H [] [] []
  | cons {k d : D} {κ : Key} {v : V} {ks ds : List D} {kvs : List (Key × V)} : keyOf k = some κ → Rep K ρ H d v → KReps K ρ H ks ds kvs → KReps K ρ H (k :: ks) (d :: ds) ((κ, v) :: kvs)
end

/-- what never changes stands -/
structure Pers (H H' : Hp) : Prop where
  tup : ∀ a xs, H a = some (.tup xs) → H' a = some (.tup xs)
  frz : ∀ a o u, H a = some (.frz o u) → H' a = some (.frz o u)
theorem Pers.refl (H : Hp) : Pers H H := ⟨fun _ _ e => e, fun _ _ _ e => e⟩
theorem Pers.trans {H H1 H2 : Hp} (a : Pers H H1) (b : Pers H1 H2) : Pers H H2 := ⟨fun x y e => b.tup x y (a.tup x y e), fun x y z e => b.frz x y z (a.frz x y z e)⟩
theorem Pers.new {H : Hp} {p : Addr} {o : HO} (n : H p = none) : Pers H (upd H p o) :=
  ⟨fun a xs e => by rw [upd_ne (fun z => by rw [z, n] at e; cases e)]; exact e, fun a o u e => by rw [upd_ne (fun z => by rw [z, n] at e; cases e)]; exact e⟩
/-- a thing that may be written is changed -/
theorem Pers.mut {H : Hp} {p : Addr} {u o : HO} (n : H p = some u) (m : Mut (some u)) : Pers H (upd H p o) :=
  ⟨fun a xs e => by rw [upd_ne (fun z => by rw [z, n] at e; cases e; exact m)]; exact e, fun a o u e => by rw [upd_ne (fun z => by rw [z, n] at e; cases e; exact m)]; exact e⟩
theorem Pers.sqT {K : PySem.W.Frag} {H H' : Hp} {a : Addr} {xs : List V} (p : Pers H H') (h : SqT K H a xs) : SqT K H' a xs := by
  rcases h with (h | ⟨o, h⟩) | h
  · exact .inl (.inl (p.tup _ _ h))
  · exact .inl (.inr ⟨o, p.frz _ _ _ h⟩)
  · exact .inr h
def Ahead (ρ ρ' : List Addr) : Prop := ∃ l, ρ' = ρ ++ l
theorem Ahead.refl (ρ : List Addr) : Ahead ρ ρ := ⟨[], by simp⟩
theorem Ahead.trans {a b c : List Addr} (h : Ahead a b) (k : Ahead b c) : Ahead a c := by
  obtain ⟨l, rfl⟩ := h; obtain ⟨m, rfl⟩ := k; exact ⟨l ++ m, by simp⟩
theorem Ahead.get {ρ ρ' : List Addr} (h : Ahead ρ ρ') {n : Nat} {a : Addr} (e : ρ[n]? = some a) : ρ'[n]? = some a := by
  obtain ⟨l, rfl⟩ := h
  rw [List.getElem?_append_left (List.getElem?_eq_some_iff.mp e).1]; exact e
section
variable {K : PySem.W.Frag} {ρ ρ' : List Addr} {H H' : Hp}
mutual
theorem Rep.keep (p : Pers H H') (l : Ahead ρ ρ') : ∀ {d : D} {v : V}, Rep K ρ H d v → Rep K ρ' H' d v
  | _, _, .non => .non
  | _, _, .bl b => .bl b
  | _, _, .int i => .int i
  | _, _, .str s => .str s
  | _, _, .tup h r => .tup (p.sqT h) (Reps.keep p l r)
  | _, _, .lst h r => .lst (p.frz _ _ _ h) (Reps.keep p l r)
  | _, _, .dct h r => .dct (p.frz _ _ _ h) (KReps.keep p l r)
  | _, _, .obj e => .obj (l.get e)
theorem Reps.keep (p : Pers H H') (l : Ahead ρ ρ') : ∀ {d : List D} {v : List V}, Reps K ρ H d v → Reps K ρ' H' d v
  | _, _, .nil => .nil
  | _, _, .cons h r => .cons (Rep.keep p l h) (Reps.keep p l r)
theorem KReps.keep (p : Pers H H') (l : Ahead ρ ρ') : ∀ {k d : List D} {v : List (Key × V)}, KReps K ρ H k d v → KReps K ρ' H' k d v
  | _, _, _, .nil => .nil
  | _, _, _, .cons e h r => .cons e (Rep.keep p l h) (KReps.keep p l r)
end
theorem Reps.length : ∀ {ds : List D} {vs : List V}, Reps K ρ H ds vs → ds.length = vs.length
  | _, _, .nil => rfl
  | _, _, .cons _ r => by simp [Reps.length r]
theorem Reps.append : ∀ {ds es : List D} {vs ws : List V}, Reps K ρ H ds vs → Reps K ρ H es ws → Reps K ρ H (ds ++ es) (vs ++ ws)
  | _, _, _, _, .nil, r => r
  | _, _, _, _, .cons h r, q => .cons h (Reps.append r q)
theorem Reps.reverse : ∀ {ds : List D} {vs : List V}, Reps K ρ H ds vs → Reps K ρ H ds.reverse vs.reverse
  | _, _, .nil => .nil
  | _, _, .cons h r => by
    rw [List.reverse_cons, List.reverse_cons]
    exact Reps.append (Reps.reverse r) (.cons h .nil)
theorem Reps.get : ∀ {ds : List D} {vs : List V} {i : Nat} {d : D}, Reps K ρ H ds vs → nth ds i = some d → ∃ v, vs[i]? = some v ∧ Rep K ρ H d v
  | _, _, _, _, .nil, e => by simp [nth] at e
  | _, _, 0, _, .cons h _, e => by simp [nth] at e; subst e; exact ⟨_, rfl, h⟩
  | _, _, n + 1, _, .cons _ r, e => by
    simp only [nth] at e
    obtain ⟨v, h1, h2⟩ := Reps.get r e
    exact ⟨v, by simpa using h1, h2⟩
theorem Reps.take : ∀ {ds : List D} {vs : List V} (n : Nat), Reps K ρ H ds vs → Reps K ρ H (ds.take n) (vs.take n)
  | _, _, 0, _ => .nil
  | _, _, _ + 1, .nil => .nil
  | _, _, n + 1, .cons h r => .cons h (Reps.take n r)
theorem Reps.drop : ∀ {ds : List D} {vs : List V} (n : Nat), Reps K ρ H ds vs → Reps K ρ H (ds.drop n) (vs.drop n)
  | _, _, 0, r => r
  | _, _, _ + 1, .nil => .nil
  | _, _, n + 1, .cons h r => Reps.drop n r
theorem Reps.set : ∀ {ds : List D} {vs : List V} {d : D} {v : V} (i : Nat), Reps K ρ H ds vs → Rep K ρ H d v → Reps K ρ H (setN ds i d) (vs.set i v)
  | _, _, _, _, _, .nil, _ => .nil
  | _, _, _, _, 0, .cons _ r, h => .cons h r
  | _, _, _, _, i + 1, .cons q r, h => .cons q (Reps.set i r h)
theorem KReps.length : ∀ {ks ds : List D} {kvs : List (Key × V)}, KReps K ρ H ks ds kvs → ks.length = kvs.length ∧ ds.length = kvs.length
  | _, _, _, .nil => ⟨rfl, rfl⟩
  | _, _, _, .cons _ _ r => by have := KReps.length r; simp [this.1, this.2]
end

/-- what may be read now -/
inductive Val (K : PySem.W.Frag) (ρ : List Addr) (H : Hp) : D → V → Prop
  | rep {d : D} {v : V} : Rep K ρ H d v → Val K ρ H d v
  | lst {a : Addr} {vs : List V} {ds : List D} : H a = some (.lst vs) → Reps K ρ H ds vs → Val K ρ H (.lst ds) (.ref a)
  | dct {a : Addr} {ks ds : List D} {kvs : List (Key × V)} : H a = some (.dK kvs) → KReps K ρ H ks ds kvs → Val K ρ H (.dct ks ds) (.ref a)
theorem Val.list {K : PySem.W.Frag} {ρ : List Addr} {H : Hp} {ds : List D} {v : V} (h : Val K ρ H (.lst ds) v) : ∃ a vs, v = .ref a ∧ SqL K H a vs ∧ Reps K ρ H ds vs := by
  cases h with
  | rep r => cases r with
    | lst e r => exact ⟨_, _, rfl, .inl (.inr ⟨_, e⟩), r⟩
  | lst e r => exact ⟨_, _, rfl, .inl (.inl e), r⟩
theorem Val.tuple {K : PySem.W.Frag} {ρ : List Addr} {H : Hp} {ds : List D} {v : V} (h : Val K ρ H (.tup ds) v) : ∃ a vs, v = .ref a ∧ SqT K H a vs ∧ Reps K ρ H ds vs := by
  cases h with
  | rep r => cases r with
    | tup e r => exact ⟨_, _, rfl, e, r⟩
theorem Val.dict {K : PySem.W.Frag} {ρ : List Addr} {H : Hp} {ks ds : List D} {v : V} (h : Val K ρ H (.dct ks ds) v) : ∃ a kvs, v = .ref a ∧ Rd H a (.dK kvs) ∧ KReps K ρ H ks ds kvs := by
  cases h with
  | rep r => cases r with
    | dct e r => exact ⟨_, _, rfl, .inr ⟨_, e⟩, r⟩
  | dct e r => exact ⟨_, _, rfl, .inl e, r⟩

def Slot.own : Slot → Bool
  | .ol _ _ => true
  | .od _ _ => true
  | .lk _ => true
  | _ => false
def SlotOk (K : PySem.W.Frag) (ρ : List Addr) (H : Hp) : Slot → Option (Option V) → Prop
  | .un, _ => True
  | .fz d, o => ∃ v, o = some (some v) ∧ Rep K ρ H d v
  | .ol n r, o => n = r.length ∧ ∃ a vs, o = some (some (.ref a)) ∧ H a = some (.lst vs) ∧ Reps K ρ H r.reverse vs
  | .od ks ds, o => ∃ a kvs, o = some (some (.ref a)) ∧ H a = some (.dK kvs) ∧ KReps K ρ H ks ds kvs
  | .lk d, o => ∃ a, o = some (some (.ref a)) ∧ ((∃ ds vs, d = .lst ds ∧ H a = some (.lst vs) ∧ Reps K ρ H ds vs) ∨ ∃ ks ds kvs, d = .dct ks ds ∧ H a = some (.dK kvs) ∧ KReps K ρ H ks ds kvs)
def CellOk (K : PySem.W.Frag) (ρ : List Addr) (H : Hp) (a : Addr) : Cell → Prop
  | .lst xs => ∃ vs, H a = some (.lst vs) ∧ Reps K ρ H xs vs
  | .dct ks ds => ∃ kvs, H a = some (.dK kvs) ∧ KReps K ρ H ks ds kvs
  | .inst _ _ => False
structure Cells (K : PySem.W.Frag) (ρ : List Addr) (ih : IH) (H : Hp) : Prop where
  len : ih.length = ρ.length
  nd : ρ.Nodup
  cell : ∀ n c a, nth ih n = some c → ρ[n]? = some a → CellOk K ρ H a c
/-- what was there ahead, but the cells, is there as it was -/
structure Kept (ρ0 : List Addr) (H0 : Hp) (ρ : List Addr) (H : Hp) : Prop where
  ahead : Ahead ρ0 ρ
  keep : ∀ a o, H0 a = some o → a ∉ ρ0 → a ∉ ρ ∧ H a = some o
structure Mat (K : PySem.W.Frag) (H0 : Hp) (ρ0 ρ : List Addr) (σe : ES) (ih : IH) (σ : L2.St) (H : Hp) : Prop where
  len : σe.length = σ.length
  slot : ∀ i s, nth σe i = some s → SlotOk K ρ H s σ[i]?
  own : ∀ i s a, nth σe i = some s → s.own = true → σ[i]? = some (some (.ref a)) → a ∉ ρ ∧ H0 a = none
  sep : ∀ i j s t a, nth σe i = some s → nth σe j = some t → s.own = true → t.own = true → σ[i]? = some (some (.ref a)) → σ[j]? = some (some (.ref a)) → i = j
  cells : Cells K ρ ih H
  kept : Kept ρ0 H0 ρ H
/-- a is held by nothing -/
structure Lone (H0 : Hp) (ρ : List Addr) (σe : ES) (σ : L2.St) (a : Addr) : Prop where
  free : a ∉ ρ
  new : H0 a = none
  slot : ∀ i s, nth σe i = some s → s.own = true → σ[i]? ≠ some (some (.ref a))
/-- a result -/
def RepR (K : PySem.W.Frag) (H0 : Hp) (ρ : List Addr) (σe : ES) (σ : L2.St) (H : Hp) : RV → V → Prop
  | .v d, v => Rep K ρ H d v
  | .n (.lst ds), v => ∃ a vs, v = .ref a ∧ H a = some (.lst vs) ∧ Reps K ρ H ds vs ∧ Lone H0 ρ σe σ a
  | .n (.dct ks ds), v => ∃ a kvs, v = .ref a ∧ H a = some (.dK kvs) ∧ KReps K ρ H ks ds kvs ∧ Lone H0 ρ σe σ a
  | .n _, _ => False
  | .p i, v => σ[i]? = some (some v)
  | .ls _, _ => False
/-- a result that stays -/
def RepS (K : PySem.W.Frag) (ρ : List Addr) (σ : L2.St) (H : Hp) : RV → V → Prop
  | .v d, v => Rep K ρ H d v
  | .n d, v => Rep K ρ H d v
  | .p i, v => σ[i]? = some (some v)
  | .ls _, _ => False
theorem nth_get {α : Type} : ∀ (xs : List α) (i : Nat), nth xs i = xs[i]?
  | [], _ => by simp [nth]
  | _ :: _, 0 => by simp [nth]
  | _ :: xs, i + 1 => by simp [nth, nth_get xs i]
theorem setN_set {α : Type} : ∀ (xs : List α) (i : Nat) (a : α), setN xs i a = xs.set i a
  | [], _, _ => by simp [setN]
  | _ :: _, 0, _ => by simp [setN]
  | x :: xs, i + 1, a => by simp [setN, setN_set xs i a]
theorem content_val {K : PySem.W.Frag} {ρ : List Addr} {H : Hp} {s : Slot} {v : V} {d : D} (h : SlotOk K ρ H s (some (some v))) (e : content s = some d) : Val K ρ H d v := by
  cases s with
  | un => simp [content] at e
  | fz d' =>
    simp only [content, Option.some.injEq] at e; subst e
    obtain ⟨w, ew, r⟩ := h
    simp at ew; subst ew; exact .rep r
  | ol n r =>
    simp only [content, Option.some.injEq] at e; subst e
    obtain ⟨_, a, vs, ew, hl, r⟩ := h
    simp at ew; subst ew; exact .lst hl r
  | od ks ds =>
    simp only [content, Option.some.injEq] at e; subst e
    obtain ⟨a, kvs, ew, hl, r⟩ := h
    simp at ew; subst ew; exact .dct hl r
  | lk d' =>
    simp only [content, Option.some.injEq] at e; subst e
    obtain ⟨a, ew, h⟩ := h
    simp at ew; subst ew
    rcases h with ⟨ds, vs, rfl, hl, r⟩ | ⟨ks, ds, kvs, rfl, hl, r⟩
    · exact .lst hl r
    · exact .dct hl r
theorem Mat.reads {K : PySem.W.Frag} {H0 : Hp} {ρ0 ρ : List Addr} {σe : ES} {ih : IH} {σ : L2.St} {H : Hp} {r : RV} {v : V} {d : D} (m : Mat K H0 ρ0 ρ σe ih σ H) (h : RepS K ρ σ H r v) (e : Few.val σe r = some d) : Val K ρ H d v := by
  cases r with
  | v d' => simp only [val, Option.some.injEq] at e; subst e; exact .rep h
  | n d' => simp only [val, Option.some.injEq] at e; subst e; exact .rep h
  | p i =>
    simp only [val] at e
    split at e
    · rename_i s hs
      have := m.slot i s hs
      rw [show σ[i]? = some (some v) from h] at this
      exact content_val this e
    · cases e
  | ls ds => exact h.elim

/-! ### readings of codes -/
/-- an exception as it flies -/
structure Xs (K : PySem.W.Frag) (mg : Str → Option Value) (xn : Nat → Str) (ρ : List Addr) (H : Hp) (x : XD) (cls : Value) (d : Option Addr) : Prop where
  cls : mg (xn x.cls) = some cls
  noarg : x.arg = none → d = none
  arg : ∀ e, x.arg = some e → False

/-- the written part, the module's names, the names of the exceptions by number -/
structure Gd where
  P : Program
  w : World
  K : PySem.W.Frag
  mg : Str → Option Value
  base : Heap
  xn : Nat → Str
abbrev WXs := WX
/-- what a code's end asks -/
def PostE (G : Gd) (W : WX) (Rl : Hp → List Addr → ES → L2.St → Hp → RV → V → Prop) (H0 : Hp) (ρ0 ρ : List Addr) (σ : L2.St) (H : Hp) (Q : VK) : Out → Prop
  | .st => False
  | .ok σe ih r => ∀ ρ' H' v, Pers H H' → Ahead ρ ρ' → Mat G.K H0 ρ0 ρ' σe ih σ H' → Rl H0 ρ' σe σ H' r v → Q v H'
  | .ex σe ih x => ∀ ρ' H' cls d, Mat G.K H0 ρ0 ρ' σe ih σ H' → Xs G.K G.mg G.xn ρ' H' x cls d → W cls d σ H'
abbrev RlR (G : Gd) : Hp → List Addr → ES → L2.St → Hp → RV → V → Prop := fun H0 ρ σe σ H r v => RepR G.K H0 ρ σe σ H r v
abbrev RlS (G : Gd) : Hp → List Addr → ES → L2.St → Hp → RV → V → Prop := fun _ ρ _ σ H r v => RepS G.K ρ σ H r v
abbrev Cd := ES → IH → Out
/-- the reading of an expression's code -/
def rd (G : Gd) (W : WX) (c : Cd) : TE := fun σ H Q => ∃ H0 ρ0 ρ σe ih, Mat G.K H0 ρ0 ρ σe ih σ H ∧ PostE G W (RlR G) H0 ρ0 ρ σ H Q (c σe ih)
/-- .. whose result stays -/
def rs (G : Gd) (W : WX) (c : Cd) : TE := fun σ H Q => ∃ H0 ρ0 ρ σe ih, Mat G.K H0 ρ0 ρ σe ih σ H ∧ PostE G W (RlS G) H0 ρ0 ρ σ H Q (c σe ih)
/-- the reading of an argument list's code -/
def PostA (G : Gd) (W : WX) (H0 : Hp) (ρ0 ρ : List Addr) (σ : L2.St) (H : Hp) (Q : List V → Hp → Prop) : Out → Prop
  | .st => False
  | .ok σe ih (.ls ds) => ∀ ρ' H' vs, Pers H H' → Ahead ρ ρ' → Mat G.K H0 ρ0 ρ' σe ih σ H' → Reps G.K ρ' H' ds vs → Q vs H'
  | .ok _ _ _ => False
  | .ex σe ih x => ∀ ρ' H' cls d, Mat G.K H0 ρ0 ρ' σe ih σ H' → Xs G.K G.mg G.xn ρ' H' x cls d → W cls d σ H'
def ra (G : Gd) (W : WX) (c : Cd) : TA := fun σ H Q => ∃ H0 ρ0 ρ σe ih, Mat G.K H0 ρ0 ρ σe ih σ H ∧ PostA G W H0 ρ0 ρ σ H Q (c σe ih)

/-! ### things are locked on the way -/
inductive GQ (Q : VK) : V → Hp → Prop
  | now {v : V} {H : Hp} : Q v H → GQ Q v H
  | lock {v : V} {H : Hp} (a : Addr) (u : HO) : H a = some u → Mut (some u) → (∀ o, GQ Q v (upd H a (.frz o u))) → GQ Q v H
def tG (t : TE) : TE := fun σ H Q => t σ H (GQ Q)
theorem GQ.ep {X : Cx} {pins : List (Addr × Obj)} {σ : L2.St} {Q : VK} {v : V} {H : Hp} (g : GQ Q v H) : ∀ {s : Shared} {u : Value}, Inv X pins σ H s → RelV v u → EP X pins σ Q u s := by
  induction g with
  | now q => exact fun I r => ⟨_, _, I, r, q⟩
  | lock a u e m _ ih =>
    intro s u' I r
    obtain ⟨o, J⟩ := I.lock e m
    exact ih o J r
theorem peG {X : Cx} {e : Expr} {t : TE} (h : PE X e t) : PE X e (tG t) :=
  ⟨fun pins s σ H Q I q => thn (h.run pins s σ H _ I q) fun u s' ⟨v, H', I', r, g⟩ => g.ep I' r⟩
theorem peTo {X : Cx} {e : Expr} {t t' : TE} (h : PE X e t) (k : ∀ σ H Q, t' σ H Q → t σ H Q) : PE X e t' :=
  ⟨fun pins s σ H Q I q => h.run pins s σ H Q I (k σ H Q q)⟩
theorem paTo {X : Cx} {e : List Expr} {t t' : TA} (h : PA X e t) (k : ∀ σ H Q, t' σ H Q → t σ H Q) : PA X e t' :=
  ⟨fun pos pins s σ H Q I q => h.run pos pins s σ H Q I (k σ H Q q)⟩
theorem ptTo {X : Cx} {e : Expr} {t t' : TT} (h : PT X e t) (k : ∀ σ H Q, t' σ H Q → t σ H Q) : PT X e t' :=
  ⟨fun pins s σ H Q I q => h.run pins s σ H Q I (k σ H Q q)⟩
theorem psTo {X : Cx} {e : Stmt} {t t' : TS} (h : PS X e t) (k : ∀ D σ H, t' D σ H → t D σ H) : PS X e t' :=
  ⟨fun pins s σ H D I q => h.run pins s σ H D I (k D σ H q)⟩
theorem pssTo {X : Cx} {e : List Stmt} {t t' : TS} (h : PSs X e t) (k : ∀ D σ H, t' D σ H → t D σ H) : PSs X e t' :=
  ⟨fun pins s σ H D I q => h.run pins s σ H D I (k D σ H q)⟩

/-! ### Mat through changes of the heap -/
section
variable {K : PySem.W.Frag} {H0 H H' : Hp} {ρ0 ρ ρ' : List Addr} {σe : ES} {ih : IH} {σ : L2.St} {p : Addr} {o : HO}
theorem Rep.new (n : H p = none) {d : D} {v : V} (r : Rep K ρ H d v) : Rep K ρ (upd H p o) d v := r.keep (.new n) (.refl _)
theorem Reps.new (n : H p = none) {d : List D} {v : List V} (r : Reps K ρ H d v) : Reps K ρ (upd H p o) d v := r.keep (.new n) (.refl _)
/-- the objects of the slots and cells are kept, and what never changes -/
theorem SlotOk.keep {s : Slot} {x : Option (Option V)} (h : SlotOk K ρ H s x) (ps : Pers H H') (l : Ahead ρ ρ') (k : ∀ a u, s.own = true → x = some (some (.ref a)) → H a = some u → H' a = some u) : SlotOk K ρ' H' s x := by
  cases s with
  | un => trivial
  | fz d =>
    obtain ⟨v, e, r⟩ := h
    exact ⟨v, e, r.keep ps l⟩
  | ol n r =>
    obtain ⟨hn, a, vs, e, hl, r⟩ := h
    exact ⟨hn, a, vs, e, k a _ rfl e hl, r.keep ps l⟩
  | od ks ds =>
    obtain ⟨a, kvs, e, hl, r⟩ := h
    exact ⟨a, kvs, e, k a _ rfl e hl, r.keep ps l⟩
  | lk d =>
    obtain ⟨a, e, h⟩ := h
    refine ⟨a, e, ?_⟩
    rcases h with ⟨ds, vs, rfl, hl, r⟩ | ⟨ks, ds, kvs, rfl, hl, r⟩
    · exact .inl ⟨ds, vs, rfl, k a _ rfl e hl, r.keep ps l⟩
    · exact .inr ⟨ks, ds, kvs, rfl, k a _ rfl e hl, r.keep ps l⟩
theorem CellOk.keep {c : Cell} {a : Addr} (h : CellOk K ρ H a c) (ps : Pers H H') (l : Ahead ρ ρ') (k : ∀ u, H a = some u → H' a = some u) : CellOk K ρ' H' a c := by
  cases c with
  | lst xs =>
    obtain ⟨vs, hl, r⟩ := h
    exact ⟨vs, k _ hl, r.keep ps l⟩
  | dct ks ds =>
    obtain ⟨kvs, hl, r⟩ := h
    exact ⟨kvs, k _ hl, r.keep ps l⟩
  | inst c fs => exact h
/-- an object of the heap is not there in the heap of the entry if it is new -/
theorem Mat.new0 (m : Mat K H0 ρ0 ρ σe ih σ H) (n : H p = none) : H0 p = none ∧ p ∉ ρ := by
  have hr : p ∉ ρ := fun z => by
    obtain ⟨i, hi, e⟩ := List.mem_iff_getElem.mp z
    obtain ⟨c, hc⟩ : ∃ c, nth ih i = some c := by
      have hl : i < ih.length := by rw [m.cells.len]; exact hi
      exact ⟨ih[i], by rw [nth_get]; exact List.getElem?_eq_getElem hl⟩
    have := m.cells.cell i c p hc (by rw [List.getElem?_eq_getElem hi, e])
    cases c with
    | lst xs => obtain ⟨vs, h, _⟩ := this; rw [n] at h; cases h
    | dct ks ds => obtain ⟨vs, h, _⟩ := this; rw [n] at h; cases h
    | inst c fs => exact this
  refine ⟨?_, hr⟩
  cases q : H0 p with
  | none => rfl
  | some u =>
    by_cases z : p ∈ ρ0
    · obtain ⟨l, e⟩ := m.kept.ahead
      exact absurd (by rw [e]; exact List.mem_append_left _ z) hr
    · have := (m.kept.keep p u q z).2
      rw [n] at this; cases this
/-- a change at p alone, which no slot and no cell holds, and which was not there at the entry -/
theorem Mat.at (m : Mat K H0 ρ0 ρ σe ih σ H) (ps : Pers H (upd H p o)) (l : Lone H0 ρ σe σ p) : Mat K H0 ρ0 ρ σe ih σ (upd H p o) where
  len := m.len
  slot := fun i s e => (m.slot i s e).keep ps (.refl _) fun a u ow ex h => by
    rw [upd_ne (fun z => l.slot i s e ow (by rw [ex, z]))]; exact h
  own := m.own
  sep := m.sep
  cells := ⟨m.cells.len, m.cells.nd, fun n c a e1 e2 => (m.cells.cell n c a e1 e2).keep ps (.refl _) fun u h => by
    rw [upd_ne (fun z => l.free (by rw [← z]; exact List.mem_of_getElem? e2))]; exact h⟩
  kept := ⟨m.kept.ahead, fun a u e h => ⟨(m.kept.keep a u e h).1, by rw [upd_ne (fun z => by rw [z, l.new] at e; cases e)]; exact (m.kept.keep a u e h).2⟩⟩
/-- a new address is held by nothing -/
theorem Mat.lone (m : Mat K H0 ρ0 ρ σe ih σ H) (n : H p = none) : Lone H0 ρ σe σ p where
  free := (m.new0 n).2
  new := (m.new0 n).1
  slot := fun i s e ow z => by
    have := m.slot i s e
    rw [z] at this
    cases s with
    | un => cases ow
    | fz d => cases ow
    | ol k r => obtain ⟨_, a, vs, e, hl, _⟩ := this; simp at e; subst e; rw [n] at hl; cases hl
    | od ks ds => obtain ⟨a, kvs, e, hl, _⟩ := this; simp at e; subst e; rw [n] at hl; cases hl
    | lk d =>
      obtain ⟨a, e, h⟩ := this
      simp at e; subst e
      rcases h with ⟨_, _, _, hl, _⟩ | ⟨_, _, _, _, hl, _⟩ <;> (rw [n] at hl; cases hl)
theorem Mat.fresh (m : Mat K H0 ρ0 ρ σe ih σ H) (n : H p = none) : Mat K H0 ρ0 ρ σe ih σ (upd H p o) := m.at (.new n) (m.lone n)
end

/-- a result is made to stay -/
theorem settle {G : Gd} {W : WX} {c : Cd} {X : Cx} {e : Expr} (h : PE X e (rd G W c)) : PE X e (rs G W c) := by
  refine peTo (peG h) fun σ H Q q => ?_
  obtain ⟨H0, ρ0, ρ, σe, ih, m, q⟩ := q
  refine ⟨H0, ρ0, ρ, σe, ih, m, ?_⟩
  cases hc : c σe ih with
  | st => rw [hc] at q; exact q
  | ex σe' ih' x => rw [hc] at q; exact q
  | ok σe' ih' r =>
    rw [hc] at q
    intro ρ' H' v ps al m' r'
    cases r with
    | v d => exact .now (q ρ' H' v ps al m' r')
    | p i => exact .now (q ρ' H' v ps al m' r')
    | ls ds => exact r'.elim
    | n d =>
      cases d with
      | lst ds =>
        obtain ⟨a, vs, rfl, hl, rr, lo⟩ := r'
        refine .lock a _ hl trivial fun o => .now ?_
        have ps' : Pers H' (upd H' a (.frz o (.lst vs))) := .mut hl trivial
        exact q ρ' _ _ (ps.trans ps') al (m'.at ps' lo) (.lst upd_same (rr.keep ps' (.refl _)))
      | dct ks ds =>
        obtain ⟨a, kvs, rfl, hl, rr, lo⟩ := r'
        refine .lock a _ hl trivial fun o => .now ?_
        have ps' : Pers H' (upd H' a (.frz o (.dK kvs))) := .mut hl trivial
        exact q ρ' _ _ (ps.trans ps') al (m'.at ps' lo) (.dct upd_same (rr.keep ps' (.refl _)))
      | _ => exact r'.elim
end Few
set_option Elab.async false
set_option linter.all false
set_option maxRecDepth 100000
set_option maxHeartbeats 2000000
namespace Few
open PySem PySem.Spec PyProof.Rows L2

/-- where a code of a def of level k + 1 (or of a block in it) runs -/
structure Cok (G : Gd) (k : Nat) (N : List Str) (sc : Scope) (W : WX) (X : Cx) : Prop where
  ePr : X.prog = G.P
  eW : X.w = G.w
  eK : X.K = G.K
  eM : X.mg = G.mg
  eB : X.base = G.base
  eN : X.N = N
  eS : X.env.scope = sc
  nd : N.Nodup
  room : Room k X.A
  calm : X.calm = true
  takes : Takes X W
section
variable {G : Gd} {k : Nat} {N : List Str} {sc : Scope} {W : WX} {X : Cx} {c : Call}
variable {H0 H : Hp} {ρ0 ρ : List Addr} {σe : ES} {ih : IH} {σ : L2.St} {Q : VK}

/-- a result that is a plain value, the heap as it was -/
theorem post_v {d : D} {v : V} (m : Mat G.K H0 ρ0 ρ σe ih σ H) (r : Rep G.K ρ H d v) (q : PostE G W (RlR G) H0 ρ0 ρ σ H Q (.ok σe ih (.v d))) : Q v H := q ρ H v (.refl _) (.refl _) m r
/-- a new tuple -/
theorem post_tup {ds : List D} {vs : List V} {p : Addr} (m : Mat G.K H0 ρ0 ρ σe ih σ H) (r : Reps G.K ρ H ds vs) (n : H p = none) (q : PostE G W (RlR G) H0 ρ0 ρ σ H Q (.ok σe ih (.v (.tup ds)))) :
    Q (.ref p) (upd H p (.tup vs)) := q ρ _ _ (.new n) (.refl _) (m.fresh n) (.tup (.inl (.inl upd_same)) (r.new n))
/-- a new list -/
theorem post_lst {ds : List D} {vs : List V} {p : Addr} (m : Mat G.K H0 ρ0 ρ σe ih σ H) (r : Reps G.K ρ H ds vs) (n : H p = none) (q : PostE G W (RlR G) H0 ρ0 ρ σ H Q (.ok σe ih (.n (.lst ds)))) :
    Q (.ref p) (upd H p (.lst vs)) := q ρ _ _ (.new n) (.refl _) (m.fresh n) ⟨p, vs, rfl, upd_same, r.new n, m.lone n⟩

/-! ### constants and names -/
inductive Cst : Const → D → Prop
  | int (i : Int) : Cst (.int i) (.int i)
  | bl (b : Bool) : Cst (.bool b) (.bl b)
  | non : Cst .none .non
  | str (s : List Nat) : Cst (.str (txt s)) (.str s)
theorem r_con {d : D} {cn : Const} {j : Nat} {pos : Pos} (h : Cst cn d) : PE X (.Constant cn j pos) (rd G W (dCon d c)) := by
  cases h with
  | int i => exact peTo pe_int fun σ H Q ⟨H0, ρ0, ρ, σe, ih, m, q⟩ => post_v m (.int i) q
  | bl b => exact peTo pe_bl fun σ H Q ⟨H0, ρ0, ρ, σe, ih, m, q⟩ => post_v m (.bl b) q
  | non => exact peTo pe_non fun σ H Q ⟨H0, ρ0, ρ, σe, ih, m, q⟩ => post_v m .non q
  | str s => exact peTo pe_str fun σ H Q ⟨H0, ρ0, ρ, σe, ih, m, q⟩ => post_v m (.str s) q
theorem r_pk {i : Nat} {x : Str} {pos : Pos} (ok : Cok G k N sc W X) (hN : N[i]? = some x) (hv : Vis sc x) (hd : (x == ("__debug__" : Str)) = false) (hcd : (x == ("__classdict__" : Str)) = false) :
    PE X (.Name x pos) (rd G W (dPk i c)) := by
  refine peTo (pe_var (by rw [ok.eN]; exact hN) (by rw [ok.eS]; exact hv) hd hcd) fun σ H Q q => ?_
  obtain ⟨H0, ρ0, ρ, σe, ih, m, q⟩ := q
  unfold dPk at q
  cases hs : nth σe i with
  | none => rw [hs] at q; exact q.elim
  | some s =>
    have hsl := m.slot i s hs
    have fin : ∀ v, σ[i]? = some (some v) → PostE G W (RlR G) H0 ρ0 ρ σ H Q (.ok σe ih (.p i)) → ∃ v, σ[i]? = some (some v) ∧ Q v H := fun v ev q => ⟨v, ev, q ρ H v (.refl _) (.refl _) m ev⟩
    rw [hs] at q
    cases s with
    | un => exact q.elim
    | fz d => obtain ⟨v, e, _⟩ := hsl; exact fin v e q
    | ol n r => obtain ⟨_, a, vs, e, _⟩ := hsl; exact fin _ e q
    | od ks ds => obtain ⟨a, kvs, e, _⟩ := hsl; exact fin _ e q
    | lk d => obtain ⟨a, e, _⟩ := hsl; exact fin _ e q
/-- the slot's thing is locked -/
theorem Mat.lockSlot {i : Nat} {s : Slot} {d : D} {a : Addr} {o : Obj} {u : HO} (m : Mat G.K H0 ρ0 ρ σe ih σ H) (hs : nth σe i = some s) (ow : s.own = true) (ha : σ[i]? = some (some (.ref a)))
    (hu : H a = some u) (mu : Mut (some u)) (r : Rep G.K ρ (upd H a (.frz o u)) d (.ref a)) : Mat G.K H0 ρ0 ρ (setN σe i (.fz d)) ih σ (upd H a (.frz o u)) := by
  have ps : Pers H (upd H a (.frz o u)) := .mut hu mu
  have hfree := m.own i s a hs ow ha
  have other : ∀ j t, nth (setN σe i (.fz d)) j = some t → j ≠ i → nth σe j = some t := fun j t e ne => by
    rw [setN_set, nth_get, List.getElem?_set_ne (Ne.symm ne)] at e
    rw [nth_get]; exact e
  have here : ∀ t, nth (setN σe i (.fz d)) i = some t → t = .fz d := fun t e => by
    rw [setN_set, nth_get, List.getElem?_set_self (by rw [nth_get] at hs; exact (List.getElem?_eq_some_iff.mp hs).1)] at e
    exact (Option.some.inj e).symm
  refine ⟨by rw [setN_set, List.length_set]; exact m.len, fun j t e => ?_, fun j t b e ow' hb => ?_, fun j l t t' b e1 e2 o1 o2 h1 h2 => ?_, ⟨m.cells.len, m.cells.nd, fun n cc b e1 e2 => (m.cells.cell n cc b e1 e2).keep ps (.refl _) fun v h => ?_⟩, ⟨m.kept.ahead, fun b v e h => ⟨(m.kept.keep b v e h).1, ?_⟩⟩⟩
  · by_cases ne : j = i
    · subst ne
      rw [here t e]
      exact ⟨_, ha, r⟩
    · refine (m.slot j t (other j t e ne)).keep ps (.refl _) fun b v ow' hb h => ?_
      rw [upd_ne]; exact h
      intro z; subst z
      exact ne (m.sep j i t s b (other j t e ne) hs ow' ow hb ha)
  · have ne : j ≠ i := fun z => by subst z; rw [here t e] at ow'; cases ow'
    exact m.own j t b (other j t e ne) ow' hb
  · have ne1 : j ≠ i := fun z => by subst z; rw [here t e1] at o1; cases o1
    have ne2 : l ≠ i := fun z => by subst z; rw [here t' e2] at o2; cases o2
    exact m.sep j l t t' b (other j t e1 ne1) (other l t' e2 ne2) o1 o2 h1 h2
  · rw [upd_ne (fun z => hfree.1 (by rw [← z]; exact List.mem_of_getElem? e2))]; exact h
  · rw [upd_ne (fun z => by rw [z, hfree.2] at e; cases e)]; exact (m.kept.keep b v e h).2
theorem r_var {i : Nat} {x : Str} {pos : Pos} (ok : Cok G k N sc W X) (hN : N[i]? = some x) (hv : Vis sc x) (hd : (x == ("__debug__" : Str)) = false) (hcd : (x == ("__classdict__" : Str)) = false) :
    PE X (.Name x pos) (rd G W (dVar i c)) := by
  refine peTo (peG (pe_var (by rw [ok.eN]; exact hN) (by rw [ok.eS]; exact hv) hd hcd)) fun σ H Q q => ?_
  obtain ⟨H0, ρ0, ρ, σe, ih, m, q⟩ := q
  unfold dVar at q
  cases hs : nth σe i with
  | none => rw [hs] at q; exact q.elim
  | some s =>
    rw [hs] at q
    have hsl := m.slot i s hs
    cases s with
    | un => exact q.elim
    | lk d => exact q.elim
    | fz d =>
      obtain ⟨v, e, r⟩ := hsl
      exact ⟨v, e, .now (post_v m r q)⟩
    | ol n r =>
      obtain ⟨_, a, vs, e, hl, rr⟩ := hsl
      refine ⟨_, e, .lock a _ hl trivial fun o => .now ?_⟩
      have ps : Pers H (upd H a (.frz o (.lst vs))) := .mut hl trivial
      have R : Rep G.K ρ (upd H a (.frz o (.lst vs))) (.lst r.reverse) (.ref a) := .lst upd_same (rr.keep ps (.refl _))
      exact q ρ _ _ ps (.refl _) (m.lockSlot hs rfl e hl trivial R) R
    | od ks ds =>
      obtain ⟨a, kvs, e, hl, rr⟩ := hsl
      refine ⟨_, e, .lock a _ hl trivial fun o => .now ?_⟩
      have ps : Pers H (upd H a (.frz o (.dK kvs))) := .mut hl trivial
      have R : Rep G.K ρ (upd H a (.frz o (.dK kvs))) (.dct ks ds) (.ref a) := .dct upd_same (rr.keep ps (.refl _))
      exact q ρ _ _ ps (.refl _) (m.lockSlot hs rfl e hl trivial R) R

/-! ### two operands -/
/-- behind both operands -/
def Two (G : Gd) (W : WX) (Rl : Hp → List Addr → ES → L2.St → Hp → RV → V → Prop) (kk : ES → IH → RV → RV → Out) (σ : L2.St) (Q : VK) (x y : V) (H2 : Hp) : Prop :=
  ∃ H0 ρ0 ρ2 σe2 ih2 r1 r2, Mat G.K H0 ρ0 ρ2 σe2 ih2 σ H2 ∧ RepS G.K ρ2 σ H2 r1 x ∧ RepS G.K ρ2 σ H2 r2 y ∧ PostE G W Rl H0 ρ0 ρ2 σ H2 Q (kk σe2 ih2 r1 r2)
theorem RepS.keep {K : PySem.W.Frag} {ρ ρ' : List Addr} {σ : L2.St} {H H' : Hp} {r : RV} {v : V} (h : RepS K ρ σ H r v) (ps : Pers H H') (al : Ahead ρ ρ') : RepS K ρ' σ H' r v := by
  cases r with
  | v d => exact Rep.keep ps al h
  | n d => exact Rep.keep ps al h
  | p i => exact h
  | ls ds => exact h.elim
theorem PostE.weak {Rl : Hp → List Addr → ES → L2.St → Hp → RV → V → Prop} {H' : Hp} {ρ' : List Addr} {o : Out} (ps : Pers H H') (al : Ahead ρ ρ') (q : PostE G W Rl H0 ρ0 ρ σ H Q o) : PostE G W Rl H0 ρ0 ρ' σ H' Q o := by
  cases o with
  | st => exact q
  | ex σe ih x => exact q
  | ok σe ih r => exact fun ρ2 H2 v p2 a2 m2 r2 => q ρ2 H2 v (ps.trans p2) (al.trans a2) m2 r2
theorem two {a b : Ev} {kk : ES → IH → RV → RV → Out} {Rl : Hp → List Addr → ES → L2.St → Hp → RV → V → Prop} (m : Mat G.K H0 ρ0 ρ σe ih σ H) (q : PostE G W Rl H0 ρ0 ρ σ H Q (d2 a b kk c σe ih)) :
    rs G W (a c) σ H fun x H1 => rs G W (b c) σ H1 fun y H2 => Two G W Rl kk σ Q x y H2 := by
  refine ⟨H0, ρ0, ρ, σe, ih, m, ?_⟩
  unfold d2 Out.bind at q
  cases ha : a c σe ih with
  | st => rw [ha] at q; exact q
  | ex σ' h' x => rw [ha] at q; exact q
  | ok σ1 h1 r1 =>
    simp only [ha] at q
    intro ρ1 H1 x p1 a1 m1 s1
    refine ⟨H0, ρ0, ρ1, σ1, h1, m1, ?_⟩
    cases hb : b c σ1 h1 with
    | st => rw [hb] at q; exact q
    | ex σ' h' x => rw [hb] at q; exact q
    | ok σ2 h2 r2 =>
      rw [hb] at q
      intro ρ2 H2 y p2 a2 m2 s2
      exact ⟨H0, ρ0, ρ2, σ2, h2, r1, r2, m2, s1.keep p2 a2, s2, PostE.weak (p1.trans p2) (a1.trans a2) q⟩
/-- one operand -/
def One (G : Gd) (W : WX) (Rl : Hp → List Addr → ES → L2.St → Hp → RV → V → Prop) (kk : ES → IH → RV → Out) (σ : L2.St) (Q : VK) (x : V) (H2 : Hp) : Prop :=
  ∃ H0 ρ0 ρ2 σe2 ih2 r1, Mat G.K H0 ρ0 ρ2 σe2 ih2 σ H2 ∧ RepS G.K ρ2 σ H2 r1 x ∧ PostE G W Rl H0 ρ0 ρ2 σ H2 Q (kk σe2 ih2 r1)
theorem one {a : Ev} {kk : ES → IH → RV → Out} {Rl : Hp → List Addr → ES → L2.St → Hp → RV → V → Prop} (m : Mat G.K H0 ρ0 ρ σe ih σ H) (q : PostE G W Rl H0 ρ0 ρ σ H Q ((a c σe ih).bind kk)) :
    rs G W (a c) σ H fun x H1 => One G W Rl kk σ Q x H1 := by
  refine ⟨H0, ρ0, ρ, σe, ih, m, ?_⟩
  unfold Out.bind at q
  cases ha : a c σe ih with
  | st => rw [ha] at q; exact q
  | ex σ' h' x => rw [ha] at q; exact q
  | ok σ1 h1 r1 =>
    rw [ha] at q
    intro ρ1 H1 x p1 a1 m1 s1
    exact ⟨H0, ρ0, ρ1, σ1, h1, r1, m1, s1, PostE.weak p1 a1 q⟩
end
end Few
set_option Elab.async false
set_option linter.all false
set_option maxRecDepth 100000
set_option maxHeartbeats 4000000
namespace Few
open PySem PySem.SeqAt
open PySem.AutoSeq1 (wpAny_loadPart')
open PySem.MeetsSeq PySem.MeetsSeq2 PySem.MeetsSeq3
/-- the first pair that differs, or none -/
inductive Fd (A : Around) (s : Shared) : List (Value × Value) → Option (Value × Value) → Prop
  | nil : Fd A s [] none
  | eq {x y : Value} {r : List (Value × Value)} {o : Option (Value × Value)} : EqAt A s x y true → Fd A s r o → Fd A s ((x, y) :: r) o
  | ne {x y : Value} {r : List (Value × Value)} : EqAt A s x y false → Fd A s ((x, y) :: r) (some (x, y))

theorem tup_eq_fd (l b : Addr) (xs ys : Array Value) (n n2 : Nat) (dd dd2 : Option Addr) (sl sl2 : Array (Option Value)) (o : Option (Value × Value)) :
    Meets (Builtin.«tuple.__eq__» ⟨[.ref l, .ref b], []⟩)
      (fun A R s => s.heap.get? l = some { cls := .type "tuple", dict := dd, data := .seq xs n, slots := sl } ∧ s.heap.get? b = some { cls := .type "tuple", dict := dd2, data := .seq ys n2, slots := sl2 } ∧
        Fd A.in1 s (xs.toList.zip ys.toList) o ∧ R (.ok (.ret (.bool (o.isNone && xs.size == ys.size)))) s) :=
  .of_wp fun prog w A R s h => by
    obtain ⟨hp, g, d, tk, os⟩ := s; obtain ⟨hl, hb, hf, h⟩ := h
    have f2 := AutoSeq1.sub_tuple_tuple
    wp_walk using wpAny_loadPart' hl, wpAny_loadPart' hb, wpAny_forIn_list _ (fun rest q s' => q.1 = none ∧ s' = ⟨hp, g, d, tk, os⟩ ∧ Fd A.in1 ⟨hp, g, d, tk, os⟩ rest o) _
    case turn =>
      rintro ⟨y, x⟩ rest q s' ⟨hq, rfl, hf⟩
      cases hf with
      | eq e r =>
        refine wpAny_bind (e prog w _ _ ?_)
        wp_walk
        exact ⟨rfl, rfl, r⟩
      | ne e =>
        refine wpAny_bind (e prog w _ _ ?_)
        wp_walk
        exact ⟨_, rfl, h⟩
    case fin =>
      rintro ⟨q1, q2⟩ s' ⟨hq, rfl, hf⟩
      simp only at hq
      subst hq
      cases hf
      wp_walk
      exact ⟨_, rfl, by simpa [Builtin.Tuple.tupleCompareSizes] using h⟩
    case h => exact ⟨rfl, rfl, hf⟩
theorem tup_ne_fd (l b : Addr) (xs ys : Array Value) (n n2 : Nat) (dd dd2 : Option Addr) (sl sl2 : Array (Option Value)) (o : Option (Value × Value)) :
    Meets (Builtin.«tuple.__ne__» ⟨[.ref l, .ref b], []⟩)
      (fun A R s => s.heap.get? l = some { cls := .type "tuple", dict := dd, data := .seq xs n, slots := sl } ∧ s.heap.get? b = some { cls := .type "tuple", dict := dd2, data := .seq ys n2, slots := sl2 } ∧
        Fd A.in1 s (xs.toList.zip ys.toList) o ∧ R (.ok (.ret (.bool (!(o.isNone && xs.size == ys.size))))) s) :=
  .of_wp fun prog w A R s h => by
    obtain ⟨hp, g, d, tk, os⟩ := s; obtain ⟨hl, hb, hf, h⟩ := h
    have f2 := AutoSeq1.sub_tuple_tuple
    wp_walk using wpAny_loadPart' hl, wpAny_loadPart' hb, wpAny_forIn_list _ (fun rest q s' => q.1 = none ∧ s' = ⟨hp, g, d, tk, os⟩ ∧ Fd A.in1 ⟨hp, g, d, tk, os⟩ rest o) _
    case turn =>
      rintro ⟨y, x⟩ rest q s' ⟨hq, rfl, hf⟩
      cases hf with
      | eq e r =>
        refine wpAny_bind (e prog w _ _ ?_)
        wp_walk
        exact ⟨rfl, rfl, r⟩
      | ne e =>
        refine wpAny_bind (e prog w _ _ ?_)
        wp_walk
        exact ⟨_, rfl, h⟩
    case fin =>
      rintro ⟨q1, q2⟩ s' ⟨hq, rfl, hf⟩
      simp only at hq
      subst hq
      cases hf
      wp_walk
      exact ⟨_, rfl, by simpa [Builtin.Tuple.tupleCompareSizes, bne] using h⟩
    case h => exact ⟨rfl, rfl, hf⟩
/-- x < y, as richCompare tells it -/
def LtAt (A : Around) (s : Shared) (x y : Value) (b : Bool) : Prop :=
  ∀ (prog : Program) (w : World) (E : Value → Shared → Prop) (Q : Value → Shared → Prop), Q (.bool b) s → wpAny (model prog w) A (richCompare .Lt x y) Q E s
theorem tup_lt_fd (l b : Addr) (xs ys : Array Value) (n n2 : Nat) (dd dd2 : Option Addr) (sl sl2 : Array (Option Value)) (o : Option (Value × Value)) (k : Bool) :
    Meets (Builtin.«tuple.__lt__» ⟨[.ref l, .ref b], []⟩)
      (fun A R s => s.heap.get? l = some { cls := .type "tuple", dict := dd, data := .seq xs n, slots := sl } ∧ s.heap.get? b = some { cls := .type "tuple", dict := dd2, data := .seq ys n2, slots := sl2 } ∧
        Fd A.in1 s (xs.toList.zip ys.toList) o ∧ (o = none → k = decide (xs.size < ys.size)) ∧ (∀ x y, o = some (x, y) → LtAt A.in1 s x y k) ∧ R (.ok (.ret (.bool k))) s) :=
  .of_wp fun prog w A R s h => by
    obtain ⟨hp, g, d, tk, os⟩ := s; obtain ⟨hl, hb, hf, hk, hlt, h⟩ := h
    have f2 := AutoSeq1.sub_tuple_tuple
    wp_walk using wpAny_loadPart' hl, wpAny_loadPart' hb, wpAny_forIn_list _ (fun rest q s' => q.1 = none ∧ s' = ⟨hp, g, d, tk, os⟩ ∧ Fd A.in1 ⟨hp, g, d, tk, os⟩ rest o) _
    case turn =>
      rintro ⟨y, x⟩ rest q s' ⟨hq, rfl, hf⟩
      cases hf with
      | eq e r =>
        refine wpAny_bind (e prog w _ _ ?_)
        wp_walk
        exact ⟨rfl, rfl, r⟩
      | ne e =>
        refine wpAny_bind (e prog w _ _ ?_)
        have z := hlt _ _ rfl prog w
        wp_walk using z
        exact ⟨_, rfl, h⟩
    case fin =>
      rintro ⟨q1, q2⟩ s' ⟨hq, rfl, hf⟩
      simp only at hq
      subst hq
      cases hf
      have z := hk rfl
      subst z
      wp_walk
      exact ⟨_, rfl, by simpa [Builtin.Tuple.tupleCompareSizes] using h⟩
    case h => exact ⟨rfl, rfl, hf⟩
theorem lst_eq_loop (l b : Addr) (xs ys : Array Value) (n n2 : Nat) (dd dd2 : Option Addr) (sl sl2 : Array (Option Value)) (hz : xs.size = ys.size) (o : Option (Value × Value)) (k : Nat) :
    ∀ i : Nat, xs.size - i = k → Meets (Builtin.«list.__eq__.loop» ⟨[.ref l, .ref b, rawInt i, rawInt 2], []⟩)
      (fun A R s => s.heap.get? l = some { cls := .type "list", dict := dd, data := .seq xs n, slots := sl } ∧ s.heap.get? b = some { cls := .type "list", dict := dd2, data := .seq ys n2, slots := sl2 } ∧
        Fd A.in1 s ((xs.toList.zip ys.toList).drop i) o ∧ R (.ok (.ret (.bool o.isNone))) s) := by
  induction k with
  | zero =>
    intro i hk prog w A R s h
    obtain ⟨hp, g, d, tk, os⟩ := s; obtain ⟨hl, hb, hf, h⟩ := h
    wp_walk using wpAny_loadPart' hl, wpAny_loadPart' hb
    have g1 : xs[((i : Nat) : Int).toNat]? = none := by simp; omega
    have g2 : ys[((i : Nat) : Int).toNat]? = none := by simp; omega
    have gd : (xs.toList.zip ys.toList).drop i = [] := by simp; omega
    rw [gd] at hf
    cases hf
    rw [g1, g2]
    wp_walk using wpAny_loadPart' hl, wpAny_loadPart' hb
    show R (.ok (.ret (.bool (xs.size == ys.size)))) _
    rw [hz]
    simpa using h
  | succ k ih =>
    intro i hk prog w A R s h
    obtain ⟨hp, g, d, tk, os⟩ := s; obtain ⟨hl, hb, hf, h⟩ := h
    wp_walk using wpAny_loadPart' hl, wpAny_loadPart' hb
    have l1 : i < xs.size := by omega
    have l2 : i < ys.size := by omega
    have g1 : xs[((i : Nat) : Int).toNat]? = some xs[i] := by simp [l1]
    have g2 : ys[((i : Nat) : Int).toNat]? = some ys[i] := by simp [l2]
    have lz : i < (xs.toList.zip ys.toList).length := by simp; omega
    have gz : (xs.toList.zip ys.toList)[i] = (xs[i], ys[i]) := by simp
    rw [List.drop_eq_getElem_cons lz, gz] at hf
    have gc : ((i : Int) + 1) = ((i + 1 : Nat) : Int) := by push_cast; rfl
    rw [g1, g2]
    cases hf with
    | eq e r =>
      refine wpAny_bind (e prog w _ _ ?_)
      wp_walk
      rw [gc]
      exact ⟨plainId_quiet plain_eq_loop _, codeAny_builtin entry_eq_loop (by
        rw [Around.under_plainId plain_eq_loop _]
        exact ih (i + 1) (by omega) prog w A R _ ⟨hl, hb, r, h⟩)⟩
    | ne e =>
      refine wpAny_bind (e prog w _ _ ?_)
      wp_walk using wpAny_loadPart' hl, wpAny_loadPart' hb
      rw [g1, g2]
      wp_walk
      simpa using h
theorem lst_ne_loop (l b : Addr) (xs ys : Array Value) (n n2 : Nat) (dd dd2 : Option Addr) (sl sl2 : Array (Option Value)) (hz : xs.size = ys.size) (o : Option (Value × Value)) (k : Nat) :
    ∀ i : Nat, xs.size - i = k → Meets (Builtin.«list.__eq__.loop» ⟨[.ref l, .ref b, rawInt i, rawInt 3], []⟩)
      (fun A R s => s.heap.get? l = some { cls := .type "list", dict := dd, data := .seq xs n, slots := sl } ∧ s.heap.get? b = some { cls := .type "list", dict := dd2, data := .seq ys n2, slots := sl2 } ∧
        Fd A.in1 s ((xs.toList.zip ys.toList).drop i) o ∧ R (.ok (.ret (.bool (!o.isNone)))) s) := by
  induction k with
  | zero =>
    intro i hk prog w A R s h
    obtain ⟨hp, g, d, tk, os⟩ := s; obtain ⟨hl, hb, hf, h⟩ := h
    wp_walk using wpAny_loadPart' hl, wpAny_loadPart' hb
    have g1 : xs[((i : Nat) : Int).toNat]? = none := by simp; omega
    have g2 : ys[((i : Nat) : Int).toNat]? = none := by simp; omega
    have gd : (xs.toList.zip ys.toList).drop i = [] := by simp; omega
    rw [gd] at hf
    cases hf
    rw [g1, g2]
    wp_walk using wpAny_loadPart' hl, wpAny_loadPart' hb
    show R (.ok (.ret (.bool (xs.size != ys.size)))) _
    rw [hz]
    simpa using h
  | succ k ih =>
    intro i hk prog w A R s h
    obtain ⟨hp, g, d, tk, os⟩ := s; obtain ⟨hl, hb, hf, h⟩ := h
    wp_walk using wpAny_loadPart' hl, wpAny_loadPart' hb
    have l1 : i < xs.size := by omega
    have l2 : i < ys.size := by omega
    have g1 : xs[((i : Nat) : Int).toNat]? = some xs[i] := by simp [l1]
    have g2 : ys[((i : Nat) : Int).toNat]? = some ys[i] := by simp [l2]
    have lz : i < (xs.toList.zip ys.toList).length := by simp; omega
    have gz : (xs.toList.zip ys.toList)[i] = (xs[i], ys[i]) := by simp
    rw [List.drop_eq_getElem_cons lz, gz] at hf
    have gc : ((i : Int) + 1) = ((i + 1 : Nat) : Int) := by push_cast; rfl
    rw [g1, g2]
    cases hf with
    | eq e r =>
      refine wpAny_bind (e prog w _ _ ?_)
      wp_walk
      rw [gc]
      exact ⟨plainId_quiet plain_eq_loop _, codeAny_builtin entry_eq_loop (by
        rw [Around.under_plainId plain_eq_loop _]
        exact ih (i + 1) (by omega) prog w A R _ ⟨hl, hb, r, h⟩)⟩
    | ne e =>
      refine wpAny_bind (e prog w _ _ ?_)
      wp_walk using wpAny_loadPart' hl, wpAny_loadPart' hb
      rw [g1, g2]
      wp_walk
      simpa using h
theorem lst_eq_fd (l b : Addr) (xs ys : Array Value) (n n2 : Nat) (dd dd2 : Option Addr) (sl sl2 : Array (Option Value)) (hz : xs.size = ys.size) (o : Option (Value × Value)) :
    Meets (Builtin.«list.__eq__» ⟨[.ref l, .ref b], []⟩)
      (fun A R s => s.heap.get? l = some { cls := .type "list", dict := dd, data := .seq xs n, slots := sl } ∧ s.heap.get? b = some { cls := .type "list", dict := dd2, data := .seq ys n2, slots := sl2 } ∧
        Fd A.in1 s (xs.toList.zip ys.toList) o ∧ R (.ok (.ret (.bool o.isNone))) s) := by
  intro prog w A R s h
  obtain ⟨hp, g, d, tk, os⟩ := s; obtain ⟨hl, hb, hf, h⟩ := h
  have f3 := AutoSeq1.sub_list_list
  have nz : ¬ (xs.size != ys.size) = true := by simp [hz]
  wp_walk using wpAny_loadPart' hl, wpAny_loadPart' hb
  exact ⟨plainId_quiet plain_eq_loop _, codeAny_builtin entry_eq_loop (by
    rw [Around.under_plainId plain_eq_loop _]
    exact lst_eq_loop l b xs ys n n2 dd dd2 sl sl2 hz o _ 0 rfl prog w A R _ ⟨hl, hb, by simpa using hf, h⟩)⟩
theorem lst_ne_fd (l b : Addr) (xs ys : Array Value) (n n2 : Nat) (dd dd2 : Option Addr) (sl sl2 : Array (Option Value)) (hz : xs.size = ys.size) (o : Option (Value × Value)) :
    Meets (Builtin.«list.__ne__» ⟨[.ref l, .ref b], []⟩)
      (fun A R s => s.heap.get? l = some { cls := .type "list", dict := dd, data := .seq xs n, slots := sl } ∧ s.heap.get? b = some { cls := .type "list", dict := dd2, data := .seq ys n2, slots := sl2 } ∧
        Fd A.in1 s (xs.toList.zip ys.toList) o ∧ R (.ok (.ret (.bool (!o.isNone)))) s) := by
  intro prog w A R s h
  obtain ⟨hp, g, d, tk, os⟩ := s; obtain ⟨hl, hb, hf, h⟩ := h
  have f3 := AutoSeq1.sub_list_list
  have nz : ¬ (xs.size != ys.size) = true := by simp [hz]
  wp_walk using wpAny_loadPart' hl, wpAny_loadPart' hb
  exact ⟨plainId_quiet plain_eq_loop _, codeAny_builtin entry_eq_loop (by
    rw [Around.under_plainId plain_eq_loop _]
    exact lst_ne_loop l b xs ys n n2 dd dd2 sl sl2 hz o _ 0 rfl prog w A R _ ⟨hl, hb, by simpa using hf, h⟩)⟩
section
variable {A : Around} {s : Shared} {l b : Addr} {xs ys : Array Value} {o : Option (Value × Value)}
theorem rcTup (hl : s.heap.IsTuple l xs) (hb : s.heap.IsTuple b ys) (hu : A.units < cLine) (hf : Fd A.in1 s (xs.toList.zip ys.toList) o) : RcAt A s (.ref l) (.ref b) (o.isNone && xs.size == ys.size) := fun prog w E Q h => by
  obtain ⟨⟨c1, d1, e1, f1⟩, ho, hc, n, hd⟩ := id hl
  obtain ⟨⟨c2, d2, e2, f2⟩, ho2, hc2, n2, hd2⟩ := id hb
  simp only at hc hd hc2 hd2
  subst hc hd hc2 hd2
  exact richCompare_meets_room (op := .Eq) ⟨_, ho, rfl⟩ ⟨_, ho2, rfl⟩ F.slot_tuple_eq F.entry_tuple_eq (F.args_tuple_eq_2 _ _) (tup_eq_fd l b xs ys n n2 d1 d2 f1 f2 o) ⟨ho, ho2, hf, ⟨(fun x => nomatch x), h⟩⟩ hu
theorem rcNeTup (hl : s.heap.IsTuple l xs) (hb : s.heap.IsTuple b ys) (hu : A.units < cLine) (hf : Fd A.in1 s (xs.toList.zip ys.toList) o) : RcNeAt A s (.ref l) (.ref b) (!(o.isNone && xs.size == ys.size)) := fun prog w E Q h => by
  obtain ⟨⟨c1, d1, e1, f1⟩, ho, hc, n, hd⟩ := id hl
  obtain ⟨⟨c2, d2, e2, f2⟩, ho2, hc2, n2, hd2⟩ := id hb
  simp only at hc hd hc2 hd2
  subst hc hd hc2 hd2
  exact richCompare_meets_room (op := .NotEq) ⟨_, ho, rfl⟩ ⟨_, ho2, rfl⟩ F.slot_tuple_ne F.entry_tuple_ne (F.args_tuple_ne_2 _ _) (tup_ne_fd l b xs ys n n2 d1 d2 f1 f2 o) ⟨ho, ho2, hf, ⟨(fun x => nomatch x), h⟩⟩ hu
theorem ltTup {k : Bool} (hl : s.heap.IsTuple l xs) (hb : s.heap.IsTuple b ys) (hu : A.units < cLine) (hf : Fd A.in1 s (xs.toList.zip ys.toList) o) (hk : o = none → k = decide (xs.size < ys.size))
    (hlt : ∀ x y, o = some (x, y) → LtAt A.in1 s x y k) : LtAt A s (.ref l) (.ref b) k := fun prog w E Q h => by
  obtain ⟨⟨c1, d1, e1, f1⟩, ho, hc, n, hd⟩ := id hl
  obtain ⟨⟨c2, d2, e2, f2⟩, ho2, hc2, n2, hd2⟩ := id hb
  simp only at hc hd hc2 hd2
  subst hc hd hc2 hd2
  exact richCompare_meets_room (op := .Lt) ⟨_, ho, rfl⟩ ⟨_, ho2, rfl⟩ F.slot_tuple_lt F.entry_tuple_lt (F.args_tuple_lt_2 _ _) (tup_lt_fd l b xs ys n n2 d1 d2 f1 f2 o k) ⟨ho, ho2, hf, hk, hlt, ⟨(fun x => nomatch x), h⟩⟩ hu
theorem rcLst (hl : s.heap.IsList l xs) (hb : s.heap.IsList b ys) (hz : xs.size = ys.size) (hu : A.units < cLine) (hf : Fd A.in1 s (xs.toList.zip ys.toList) o) : RcAt A s (.ref l) (.ref b) o.isNone := fun prog w E Q h => by
  obtain ⟨⟨c1, d1, e1, f1⟩, ho, hc, n, hd⟩ := id hl
  obtain ⟨⟨c2, d2, e2, f2⟩, ho2, hc2, n2, hd2⟩ := id hb
  simp only at hc hd hc2 hd2
  subst hc hd hc2 hd2
  exact richCompare_meets_room (op := .Eq) ⟨_, ho, rfl⟩ ⟨_, ho2, rfl⟩ F.slot_list_eq F.entry_list_eq (F.args_list_eq_2 _ _) (lst_eq_fd l b xs ys n n2 d1 d2 f1 f2 hz o) ⟨ho, ho2, hf, ⟨(fun x => nomatch x), h⟩⟩ hu
theorem rcNeLst (hl : s.heap.IsList l xs) (hb : s.heap.IsList b ys) (hz : xs.size = ys.size) (hu : A.units < cLine) (hf : Fd A.in1 s (xs.toList.zip ys.toList) o) : RcNeAt A s (.ref l) (.ref b) (!o.isNone) := fun prog w E Q h => by
  obtain ⟨⟨c1, d1, e1, f1⟩, ho, hc, n, hd⟩ := id hl
  obtain ⟨⟨c2, d2, e2, f2⟩, ho2, hc2, n2, hd2⟩ := id hb
  simp only at hc hd hc2 hd2
  subst hc hd hc2 hd2
  exact richCompare_meets_room (op := .NotEq) ⟨_, ho, rfl⟩ ⟨_, ho2, rfl⟩ F.slot_list_ne F.entry_list_ne (F.args_list_ne_2 _ _) (lst_ne_fd l b xs ys n n2 d1 d2 f1 f2 hz o) ⟨ho, ho2, hf, ⟨(fun x => nomatch x), h⟩⟩ hu
end
end Few
set_option Elab.async false
set_option linter.all false
set_option maxRecDepth 100000
set_option maxHeartbeats 4000000
namespace Few
open PySem PySem.Spec PyProof.Rows L2 PySem.SeqAt
theorem beqNats_iff : ∀ a b : List Nat, beqNats a b = decide (a = b)
  | [], [] => by simp [beqNats]
  | [], _ :: _ => by simp [beqNats]
  | _ :: _, [] => by simp [beqNats]
  | x :: xs, y :: ys => by
    simp only [beqNats, beqNats_iff xs ys]
    cases h : Nat.beq x y with
    | true =>
      have : x = y := Nat.eq_of_beq_eq_true h
      subst this
      simp
    | false =>
      have : x ≠ y := Nat.ne_of_beq_eq_false h
      simp [this]
theorem txt_beq (a b : List Nat) : (txt a == txt b) = beqNats a b := by
  rw [beqNats_iff]
  by_cases h : a = b
  · subst h; simp
  · have : txt a ≠ txt b := fun e => h (by simpa [txt] using e)
    simp [h, this]
theorem ibeq_iff (a b : Int) : ibeq a b = (a == b) := by
  have key : ∀ {p : Bool} {P : Prop} [Decidable P], (p = true ↔ P) → ∀ {c d : Int}, (P ↔ c = d) → p = (c == d) := fun {p P _} h {c d} k => by
    cases p with
    | true => exact (beq_iff_eq.mpr (k.mp (h.mp rfl))).symm
    | false => exact (beq_eq_false_iff_ne.mpr fun e => by have := h.mpr (k.mpr e); cases this).symm
  cases a with
  | ofNat x =>
    cases b with
    | ofNat y => exact key (p := Nat.beq x y) (P := x = y) ⟨Nat.eq_of_beq_eq_true, fun e => by subst e; exact Nat.beq_refl x⟩ ⟨fun e => by rw [e], fun e => Int.ofNat.inj e⟩
    | negSucc y => exact key (p := false) (P := False) (by simp) (by simp)
  | negSucc x =>
    cases b with
    | ofNat y => exact key (p := false) (P := False) (by simp) (by simp)
    | negSucc y => exact key (p := Nat.beq x y) (P := x = y) ⟨Nat.eq_of_beq_eq_true, fun e => by subst e; exact Nat.beq_refl x⟩ (by simp)
theorem b2n_eq (x : Bool) : b2n x = if x then 1 else 0 := by cases x <;> rfl
section
variable {X : Cx} {pins : List (Addr × Obj)} {σ : L2.St} {H : Hp} {s : Shared} {ρ : List Addr}
theorem Val.isList (I : Inv X pins σ H s) {ds : List D} {x : V} {u : Value} (h : Val X.K ρ H (.lst ds) x) (r : RelV x u) : ∃ a vs its, x = .ref a ∧ u = .ref a ∧ Rd H a (.lst vs) ∧ Reps X.K ρ H ds vs ∧ Vals vs its ∧ s.heap.IsList a its.toArray := by
  have go : ∀ a vs, Rd H a (.lst vs) → Reps X.K ρ H ds vs → x = .ref a → ∃ a vs its, x = .ref a ∧ u = .ref a ∧ Rd H a (.lst vs) ∧ Reps X.K ρ H ds vs ∧ Vals vs its ∧ s.heap.IsList a its.toArray := fun a vs e q ex => by
    subst ex
    cases r
    obtain ⟨_, its, n, rv, hg⟩ := e.ok I.hok
    exact ⟨a, vs, its, rfl, rfl, e, q, rv, ⟨_, hg, rfl, n, rfl⟩⟩
  cases h with
  | rep h => cases h with
    | lst e q => exact go _ _ (.inr ⟨_, e⟩) q rfl
  | lst e q => exact go _ _ (.inl e) q rfl
theorem Val.isTuple (I : Inv X pins σ H s) {ds : List D} {x : V} {u : Value} (h : Val X.K ρ H (.tup ds) x) (r : RelV x u) : ∃ a vs its, x = .ref a ∧ u = .ref a ∧ SqT X.K H a vs ∧ Reps X.K ρ H ds vs ∧ Vals vs its ∧ s.heap.IsTuple a its.toArray := by
  cases h with
  | rep h => cases h with
    | tup e q =>
      cases r
      obtain ⟨its, rv, ⟨o, h1, h2, h3⟩, _⟩ := I.tuple e
      exact ⟨_, _, its, rfl, rfl, e, q, rv, ⟨o, h1, h2, h3⟩⟩
theorem noTwo (I : Inv X pins σ H s) {ds es : List D} {x : V} (h1 : Val X.K ρ H (.lst ds) x) (h2 : Val X.K ρ H (.tup es) x) : False := by
  have : ∃ u, RelV x u := by
    obtain ⟨a, vs, e, _⟩ := h1.list
    exact ⟨.ref a, by rw [e]; exact rfl⟩
  obtain ⟨u, r⟩ := this
  obtain ⟨a, _, its, e1, _, _, _, _, l⟩ := Val.isList I h1 r
  obtain ⟨b, _, its2, e2, _, _, _, _, t⟩ := Val.isTuple I h2 r
  rw [e1] at e2
  cases e2
  exact ne_of_list_tuple l t rfl
theorem eqs_self (I : Inv X pins σ H s) {f : D → D → Option Bool} (hf : ∀ d e v b, Rep X.K ρ H d v → Rep X.K ρ H e v → f d e = some b → b = true) :
    ∀ (ds es : List D) (vs : List V) (b : Bool), Reps X.K ρ H ds vs → Reps X.K ρ H es vs → eqs f ds es = some b → b = true
  | _, _, _, b, .nil, .nil, e => by simpa [eqs] using e.symm
  | _, _, _, b, .cons h1 r1, .cons h2 r2, e => by
    simp only [eqs] at e
    split at e
    · exact eqs_self I hf _ _ _ b r1 r2 e
    · rename_i r hr
      cases b with
      | true => rfl
      | false => exact absurd (hf _ _ _ _ h1 h2 e) (by simp)
theorem eq_self (I : Inv X pins σ H s) : ∀ (n : Nat) (d e : D) (v : V) (b : Bool), Val X.K ρ H d v → Val X.K ρ H e v → eqN n d e = some b → b = true
  | 0, _, _, _, _, _, _, e => by simp [eqN] at e
  | n + 1, d, e, v, b, h1, h2, q => by
    have ih := eqs_self (ρ := ρ) I (f := eqN n) fun d e v b a c h => eq_self I n d e v b (.rep a) (.rep c) h
    cases d with
    | non => cases h1 with | rep h1 => cases h1; cases h2 with | rep h2 => cases h2; simpa [eqN] using q.symm
    | bl x => cases h1 with | rep h1 => cases h1; cases h2 with | rep h2 => cases h2; simpa [eqN] using q.symm
    | int x => cases h1 with | rep h1 => cases h1; cases h2 with | rep h2 => cases h2; simp only [eqN, ibeq_iff] at q; simpa using q.symm
    | str x =>
      cases h1 with
      | rep h1 =>
        cases h1
        cases h2 with
        | rep h2 =>
          generalize hv : V.str (txt x) = v at h2
          cases h2 with
          | str y =>
            have : x = y := by simpa [txt] using hv
            subst this
            simp only [eqN, beqNats_iff] at q
            simpa using q.symm
          | _ => cases hv
    | tup ds =>
      cases e with
      | tup es =>
        obtain ⟨a, vs, e1, t1, r1⟩ := h1.tuple
        obtain ⟨b', ws, e2, t2, r2⟩ := h2.tuple
        rw [e1] at e2; cases e2
        have := I.tuple_inj t1 t2
        subst this
        exact ih _ _ _ _ r1 r2 q
      | lst es => exact (noTwo I h2 h1).elim
      | _ =>
        exfalso; obtain ⟨a, vs, e1, _⟩ := h1.tuple; subst e1
        first
          | (simp [eqN, other] at q; done)
          | (cases h2 with | rep h2 => cases h2)
    | lst ds =>
      cases e with
      | lst es =>
        obtain ⟨a, vs, e1, t1, r1⟩ := h1.list
        obtain ⟨b', ws, e2, t2, r2⟩ := h2.list
        rw [e1] at e2; cases e2
        have := I.list_inj t1 t2
        subst this
        exact ih _ _ _ _ r1 r2 q
      | tup es => exact (noTwo I h1 h2).elim
      | _ =>
        exfalso; obtain ⟨a, vs, e1, _⟩ := h1.list; subst e1
        first
          | (simp [eqN, other] at q; done)
          | (cases h2 with | rep h2 => cases h2)
    | dct ks ds => simp [eqN] at q
    | set xs => simp [eqN] at q
    | obj i => simp [eqN] at q
/-- what eqs tells: the first pair that differs -/
theorem eqs_fd {A : Around} {f : D → D → Option Bool} (hf : ∀ d e x y u v b, Rep X.K ρ H d x → Rep X.K ρ H e y → RelV x u → RelV y v → f d e = some b → EqAt A s u v b) :
    ∀ (ds es : List D) (vs ws : List V) (us ts : List Value) (b : Bool), Reps X.K ρ H ds vs → Reps X.K ρ H es ws → Vals vs us → Vals ws ts → eqs f ds es = some b →
      ∃ o, Fd A s (us.zip ts) o ∧ b = (o.isNone && us.length == ts.length)
  | _, _, _, _, _, _, b, .nil, .nil, .nil, .nil, e => ⟨none, .nil, by simpa [eqs] using e.symm⟩
  | _, _, _, _, _, _, b, .nil, .cons _ _, .nil, .cons _ _, e => ⟨none, .nil, by simpa [eqs] using e.symm⟩
  | _, _, _, _, _, _, b, .cons _ _, .nil, .cons _ _, .nil, e => ⟨none, .nil, by simpa [eqs] using e.symm⟩
  | _, _, _, _, _, _, b, .cons h1 r1, .cons h2 r2, .cons q1 t1, .cons q2 t2, e => by
    simp only [eqs] at e
    split at e
    · rename_i hr
      obtain ⟨o, hfd, hb⟩ := eqs_fd hf _ _ _ _ _ _ b r1 r2 t1 t2 e
      exact ⟨o, .eq (hf _ _ _ _ _ _ _ h1 h2 q1 q2 hr) hfd, by rw [hb]; simp⟩
    · rename_i r hr hne
      cases b with
      | true => exact absurd e hne
      | false => exact ⟨_, .ne (hf _ _ _ _ _ _ _ h1 h2 q1 q2 e), by simp⟩
theorem eqs_len {f : D → D → Option Bool} : ∀ {ds es : List D}, eqs f ds es = some true → ds.length = es.length
  | [], [], _ => rfl
  | [], _ :: _, e => by simp [eqs] at e
  | _ :: _, [], e => by simp [eqs] at e
  | x :: xs, y :: ys, e => by
    simp only [eqs] at e
    split at e
    · simp [eqs_len e]
    · exact absurd e (by assumption)
/-- what is neither tuple nor list -/
inductive Sc : D → Value → Prop
  | non : Sc .non .none
  | bl (k : Bool) : Sc (.bl k) (.bool k)
  | int (i : Int) (t : Tok) : Sc (.int i) (.int i t)
  | str (z : List Nat) (t : Tok) : Sc (.str z) (.str (txt z) t)
theorem sc_of {d : D} {x : V} {u : Value} (h : Val X.K ρ H d x) (r : RelV x u) (n1 : ∀ ds, d ≠ .tup ds) (n2 : ∀ ds, d ≠ .lst ds) (n3 : ∀ ks ds, d ≠ .dct ks ds) (n4 : ∀ i, d ≠ .obj i) : Sc d u := by
  cases h with
  | rep h => cases h with
    | non => cases r; exact .non
    | bl k => cases r; exact .bl k
    | int i => obtain ⟨t, rfl⟩ := r; exact .int i t
    | str z => obtain ⟨t, rfl⟩ := r; exact .str z t
    | tup _ _ => exact absurd rfl (n1 _)
    | lst _ _ => exact absurd rfl (n2 _)
    | dct _ _ => exact absurd rfl (n3 _ _)
    | obj _ => exact absurd rfl (n4 _)
  | lst _ _ => exact absurd rfl (n2 _)
  | dct _ _ => exact absurd rfl (n3 _ _)
theorem sc_eq {A : Around} {n : Nat} {d e : D} {u v : Value} {b : Bool} (h1 : Sc d u) (h2 : Sc e v) (q : eqN (n + 1) d e = some b) : EqAt A s u v b ∧ RcAt A s u v b ∧ RcNeAt A s u v (!b) := by
  cases h1 with
  | non =>
    cases h2 with
    | non => cases (Option.some.inj q); exact ⟨.same _, .none_none, .none_none⟩
    | bl k => cases (Option.some.inj q); exact ⟨.none_bool _, .none_bool _, .none_bool _⟩
    | int i t => cases (Option.some.inj q); exact ⟨.none_int _ _, .none_int _ _, .none_int _ _⟩
    | str z t => cases (Option.some.inj q); exact ⟨.none_str _ _, .none_str _ _, .none_str _ _⟩
  | bl a =>
    cases h2 with
    | non => cases (Option.some.inj q); exact ⟨.bool_none _, .bool_none _, .bool_none _⟩
    | bl k => cases (Option.some.inj q); exact ⟨.bool_bool _ _, .bool_bool _ _, .bool_bool _ _⟩
    | int i t =>
      have z : b = ((if a then 1 else 0) == i) := by rw [← b2n_eq, ← ibeq_iff]; exact (Option.some.inj q).symm
      subst z; exact ⟨.bool_int _ _ _, .bool_int _ _ _, .bool_int _ _ _⟩
    | str z t => cases (Option.some.inj q); exact ⟨.bool_str _ _ _, .bool_str _ _ _, .bool_str _ _ _⟩
  | int a ta =>
    cases h2 with
    | non => cases (Option.some.inj q); exact ⟨.int_none _ _, .int_none _ _, .int_none _ _⟩
    | bl k =>
      have z : b = (a == (if k then 1 else 0)) := by rw [← b2n_eq, ← ibeq_iff]; exact (Option.some.inj q).symm
      subst z; exact ⟨.int_bool _ _ _, .int_bool _ _ _, .int_bool _ _ _⟩
    | int i t =>
      have z : b = (a == i) := by rw [← ibeq_iff]; exact (Option.some.inj q).symm
      subst z; exact ⟨.int_int _ _ _ _, .int_int _ _ _ _, .int_int _ _ _ _⟩
    | str z t => cases (Option.some.inj q); exact ⟨.int_str _ _ _ _, .int_str _ _ _ _, .int_str _ _ _ _⟩
  | str a ta =>
    cases h2 with
    | non => cases (Option.some.inj q); exact ⟨.str_none _ _, .str_none _ _, .str_none _ _⟩
    | bl k => cases (Option.some.inj q); exact ⟨.str_bool _ _ _, .str_bool _ _ _, .str_bool _ _ _⟩
    | int i t => cases (Option.some.inj q); exact ⟨.str_int _ _ _ _, .str_int _ _ _ _, .str_int _ _ _ _⟩
    | str z t =>
      have e : b = (txt a == txt z) := by rw [txt_beq]; exact (Option.some.inj q).symm
      subst e; exact ⟨.str_str _ _ _ _, .str_str _ _ _ _, .str_str _ _ _ _⟩
theorem tup_sc {A : Around} {l : Addr} {xs : Array Value} {e : D} {v : Value} (l1 : s.heap.IsTuple l xs) (hu : A.units < cLine) (h2 : Sc e v) :
    (EqAt A s (.ref l) v false ∧ RcAt A s (.ref l) v false ∧ RcNeAt A s (.ref l) v true) ∧ (EqAt A s v (.ref l) false ∧ RcAt A s v (.ref l) false ∧ RcNeAt A s v (.ref l) true) := by
  cases h2 with
  | non => exact ⟨⟨.tuple_none l1 hu, .tuple_none l1 hu, .tuple_none l1 hu⟩, .none_tuple l1 hu, .none_tuple l1 hu, .none_tuple l1 hu⟩
  | bl k => exact ⟨⟨.tuple_bool k l1 hu, .tuple_bool k l1 hu, .tuple_bool k l1 hu⟩, .bool_tuple k l1 hu, .bool_tuple k l1 hu, .bool_tuple k l1 hu⟩
  | int i t => exact ⟨⟨.tuple_int i t l1 hu, .tuple_int i t l1 hu, .tuple_int i t l1 hu⟩, .int_tuple i t l1 hu, .int_tuple i t l1 hu, .int_tuple i t l1 hu⟩
  | str z t => exact ⟨⟨.tuple_str _ t l1 hu, .tuple_str _ t l1 hu, .tuple_str _ t l1 hu⟩, .str_tuple _ t l1 hu, .str_tuple _ t l1 hu, .str_tuple _ t l1 hu⟩
theorem lst_sc {A : Around} {l : Addr} {xs : Array Value} {e : D} {v : Value} (l1 : s.heap.IsList l xs) (hu : A.units < cLine) (h2 : Sc e v) :
    (EqAt A s (.ref l) v false ∧ RcAt A s (.ref l) v false ∧ RcNeAt A s (.ref l) v true) ∧ (EqAt A s v (.ref l) false ∧ RcAt A s v (.ref l) false ∧ RcNeAt A s v (.ref l) true) := by
  cases h2 with
  | non => exact ⟨⟨.list_none l1 hu, .list_none l1 hu, .list_none l1 hu⟩, .none_list l1 hu, .none_list l1 hu, .none_list l1 hu⟩
  | bl k => exact ⟨⟨.list_bool k l1 hu, .list_bool k l1 hu, .list_bool k l1 hu⟩, .bool_list k l1 hu, .bool_list k l1 hu, .bool_list k l1 hu⟩
  | int i t => exact ⟨⟨.list_int i t l1 hu, .list_int i t l1 hu, .list_int i t l1 hu⟩, .int_list i t l1 hu, .int_list i t l1 hu, .int_list i t l1 hu⟩
  | str z t => exact ⟨⟨.list_str _ t l1 hu, .list_str _ t l1 hu, .list_str _ t l1 hu⟩, .str_list _ t l1 hu, .str_list _ t l1 hu, .str_list _ t l1 hu⟩
/-- one == other, as the machine tells it: below, then at the top -/
theorem eq_at (I : Inv X pins σ H s) : ∀ (n : Nat) (A : Around) (d e : D) (x y : V) (u v : Value) (b : Bool), Val X.K ρ H d x → Val X.K ρ H e y → RelV x u → RelV y v → A.units + n < cLine → eqN n d e = some b →
    EqAt A s u v b ∧ RcAt A s u v b ∧ RcNeAt A s u v (!b)
  | 0, _, _, _, _, _, _, _, _, _, _, _, _, _, e => by simp [eqN] at e
  | n + 1, A, d, e, x, y, u, v, b, h1, h2, q1, q2, hu, q => by
    have hu0 : A.units < cLine := by omega
    have ih := fun (ds es : List D) (vs ws : List V) (us ts : List Value) (b : Bool) (r1 : Reps X.K ρ H ds vs) (r2 : Reps X.K ρ H es ws) (t1 : Vals vs us) (t2 : Vals ws ts) (h : eqs (eqN n) ds es = some b) =>
      eqs_fd (A := A.in1) (f := eqN n) (fun d e x y u v b a c p r h => (eq_at I n A.in1 d e x y u v b (.rep a) (.rep c) p r (by rw [Around.in1_units]; omega) h).1) ds es vs ws us ts b r1 r2 t1 t2 h
    -- a tuple or a list beside another kind
    have selfCase : u = v → x = y → b = true := fun _ e' => by subst e'; exact eq_self I (n + 1) d e x b h1 h2 q
    cases d with
    | dct ks ds => simp [eqN] at q
    | set xs => simp [eqN] at q
    | obj i => simp [eqN] at q
    | tup ds =>
      obtain ⟨a, vs, us, e1, e2, _, r1, t1, l1⟩ := Val.isTuple I h1 q1
      subst e1; subst e2
      cases e with
      | tup es =>
        obtain ⟨a', ws, ts, e1, e2, _, r2, t2, l2⟩ := Val.isTuple I h2 q2
        subst e1; subst e2
        obtain ⟨o, hfd, hb⟩ := ih _ _ _ _ _ _ b r1 r2 t1 t2 q
        have R := rcTup (o := o) l1 l2 hu0 (by simpa using hfd)
        have Rn := rcNeTup (o := o) l1 l2 hu0 (by simpa using hfd)
        rw [show (o.isNone && us.toArray.size == ts.toArray.size) = b from by rw [hb]; simp] at R Rn
        refine ⟨?_, R, Rn⟩
        by_cases hab : a = a'
        · subst hab; rw [selfCase rfl rfl]; exact .same _
        · exact .of_refs hab R
      | lst es =>
        obtain ⟨a', ws, ts, e1, e2, _, r2, t2, l2⟩ := Val.isList I h2 q2
        subst e1; subst e2
        have : b = false := by simpa [eqN, other] using q.symm
        subst this
        exact ⟨.tuple_list l1 l2 hu0, .tuple_list l1 l2 hu0, .tuple_list l1 l2 hu0⟩
      | dct ks es => simp [eqN, other] at q
      | set xs => simp [eqN, other] at q
      | obj i => simp [eqN, other] at q
      | _ =>
        have : b = false := by simpa [eqN, other] using q.symm
        subst this
        exact (tup_sc l1 hu0 (sc_of h2 q2 (by simp) (by simp) (by simp) (by simp))).1
    | lst ds =>
      obtain ⟨a, vs, us, e1, e2, _, r1, t1, l1⟩ := Val.isList I h1 q1
      subst e1; subst e2
      cases e with
      | lst es =>
        obtain ⟨a', ws, ts, e1, e2, _, r2, t2, l2⟩ := Val.isList I h2 q2
        subst e1; subst e2
        obtain ⟨o, hfd, hb⟩ := ih _ _ _ _ _ _ b r1 r2 t1 t2 q
        by_cases hz : us.length = ts.length
        · have hb' : b = o.isNone := by rw [hb]; simp [hz]
          have R := rcLst (o := o) l1 l2 (by simpa using hz) hu0 (by simpa using hfd)
          have Rn := rcNeLst (o := o) l1 l2 (by simpa using hz) hu0 (by simpa using hfd)
          rw [← hb'] at R Rn
          refine ⟨?_, R, Rn⟩
          by_cases hab : a = a'
          · subst hab; rw [selfCase rfl rfl]; exact .same _
          · exact .of_refs hab R
        · have hb' : b = false := by rw [hb]; simp [hz]
          subst hb'
          have R := RcAt.lists_lengths l1 l2 (by simpa using hz) hu0
          have Rn := RcNeAt.lists_lengths l1 l2 (by simpa using hz) hu0
          refine ⟨?_, R, Rn⟩
          by_cases hab : a = a'
          · subst hab; have := selfCase rfl rfl; cases this
          · exact .of_refs hab R
      | tup es =>
        obtain ⟨a', ws, ts, e1, e2, _, r2, t2, l2⟩ := Val.isTuple I h2 q2
        subst e1; subst e2
        have : b = false := by simpa [eqN, other] using q.symm
        subst this
        exact ⟨.list_tuple l1 l2 hu0, .list_tuple l1 l2 hu0, .list_tuple l1 l2 hu0⟩
      | dct ks es => simp [eqN, other] at q
      | set xs => simp [eqN, other] at q
      | obj i => simp [eqN, other] at q
      | _ =>
        have : b = false := by simpa [eqN, other] using q.symm
        subst this
        exact (lst_sc l1 hu0 (sc_of h2 q2 (by simp) (by simp) (by simp) (by simp))).1
    | _ =>
      have S1 := sc_of h1 q1 (by simp) (by simp) (by simp) (by simp)
      cases e with
      | tup es =>
        obtain ⟨a', ws, ts, e1, e2, _, r2, t2, l2⟩ := Val.isTuple I h2 q2
        subst e1; subst e2
        have : b = false := by simpa [eqN, other] using q.symm
        subst this
        exact (tup_sc l2 hu0 S1).2
      | lst es =>
        obtain ⟨a', ws, ts, e1, e2, _, r2, t2, l2⟩ := Val.isList I h2 q2
        subst e1; subst e2
        have : b = false := by simpa [eqN, other] using q.symm
        subst this
        exact (lst_sc l2 hu0 S1).2
      | dct ks es => simp [eqN, other] at q
      | set xs => simp [eqN, other] at q
      | obj i => simp [eqN, other] at q
      | _ => exact sc_eq S1 (sc_of h2 q2 (by simp) (by simp) (by simp) (by simp)) q
end
end Few
set_option Elab.async false
set_option linter.all false
set_option maxRecDepth 100000
set_option maxHeartbeats 4000000
namespace Few
open PySem PySem.Spec PyProof.Rows L2 PySem.SeqAt
theorem blt_dec (x y : Nat) : Nat.blt x y = decide (x < y) := by
  by_cases h : x < y
  · rw [decide_eq_true h, Nat.blt_eq]; exact h
  · rw [decide_eq_false h]
    cases hb : Nat.blt x y with
    | false => rfl
    | true => rw [Nat.blt_eq] at hb; exact absurd hb h
theorem ltNats_iff : ∀ a b : List Nat, ltNats a b = decide (a < b)
  | [], [] => by simp [ltNats]
  | [], _ :: _ => by simp [ltNats]
  | _ :: _, [] => by simp [ltNats]
  | x :: xs, y :: ys => by
    simp only [ltNats, ltNats_iff xs ys]
    cases h : Nat.beq x y with
    | true =>
      have : x = y := Nat.eq_of_beq_eq_true h
      subst this
      simp
    | false =>
      have : x ≠ y := Nat.ne_of_beq_eq_false h
      simp only [cond_false, blt_dec]
      exact decide_eq_decide.mpr ⟨fun z => List.cons_lt_cons_iff.mpr (.inl z), fun z => by rcases List.cons_lt_cons_iff.mp z with z | ⟨z, _⟩ <;> omega⟩
theorem iblt_iff (a b : Int) : iblt a b = decide (a < b) := by
  cases a with
  | ofNat x =>
    cases b with
    | ofNat y =>
      show Nat.blt x y = _
      rw [blt_dec]
      exact decide_eq_decide.mpr Int.ofNat_lt.symm
    | negSucc y =>
      have := Int.negSucc_eq y
      have : (0 : Int) ≤ Int.ofNat x := Int.natCast_nonneg x
      exact (decide_eq_false (by omega)).symm
  | negSucc x =>
    have hx := Int.negSucc_eq x
    cases b with
    | ofNat y =>
      have : (0 : Int) ≤ Int.ofNat y := Int.natCast_nonneg y
      exact (decide_eq_true (by omega)).symm
    | negSucc y =>
      have hy := Int.negSucc_eq y
      show Nat.blt y x = _
      rw [blt_dec]
      exact decide_eq_decide.mpr (by omega)
section
variable {X : Cx} {pins : List (Addr × Obj)} {σ : L2.St} {H : Hp} {s : Shared} {ρ : List Addr}
theorem lts_fd {A : Around} {e l : D → D → Option Bool} (he : ∀ d e' x y u v b, Rep X.K ρ H d x → Rep X.K ρ H e' y → RelV x u → RelV y v → e d e' = some b → EqAt A s u v b)
    (hl : ∀ d e' x y u v b, Rep X.K ρ H d x → Rep X.K ρ H e' y → RelV x u → RelV y v → l d e' = some b → LtAt A s u v b) :
    ∀ (ds es : List D) (vs ws : List V) (us ts : List Value) (b : Bool), Reps X.K ρ H ds vs → Reps X.K ρ H es ws → Vals vs us → Vals ws ts → lts e l ds es = some b →
      ∃ o, Fd A s (us.zip ts) o ∧ (o = none → b = decide (us.length < ts.length)) ∧ ∀ x y, o = some (x, y) → LtAt A s x y b
  | _, _, _, _, _, _, b, .nil, .nil, .nil, .nil, q => ⟨none, .nil, fun _ => by simpa [lts] using q.symm, fun _ _ z => nomatch z⟩
  | _, _, _, _, _, _, b, .nil, .cons _ _, .nil, .cons _ _, q => ⟨none, .nil, fun _ => by simpa [lts] using q.symm, fun _ _ z => nomatch z⟩
  | _, _, _, _, _, _, b, .cons _ _, .nil, .cons _ _, .nil, q => ⟨none, .nil, fun _ => by simpa [lts] using q.symm, fun _ _ z => nomatch z⟩
  | _, _, _, _, _, _, b, .cons h1 r1, .cons h2 r2, .cons q1 t1, .cons q2 t2, q => by
    simp only [lts] at q
    split at q
    · rename_i hr
      obtain ⟨o, hfd, h3, h4⟩ := lts_fd he hl _ _ _ _ _ _ b r1 r2 t1 t2 q
      exact ⟨o, .eq (he _ _ _ _ _ _ _ h1 h2 q1 q2 hr) hfd, fun z => by rw [h3 z]; simp, h4⟩
    · rename_i hr
      exact ⟨_, .ne (he _ _ _ _ _ _ _ h1 h2 q1 q2 hr), fun z => (nomatch z), fun x y z => by cases z; exact hl _ _ _ _ _ _ _ h1 h2 q1 q2 q⟩
    · cases q
theorem lt_at (I : Inv X pins σ H s) : ∀ (n : Nat) (A : Around) (d e : D) (x y : V) (u v : Value) (b : Bool), Val X.K ρ H d x → Val X.K ρ H e y → RelV x u → RelV y v → A.units + n < cLine → ltN n d e = some b → LtAt A s u v b
  | 0, _, _, _, _, _, _, _, _, _, _, _, _, _, q => by simp [ltN] at q
  | n + 1, A, d, e, x, y, u, v, b, h1, h2, q1, q2, hu, q => by
    cases d with
    | int i =>
      cases e with
      | int j =>
        cases h1 with
        | rep h1 =>
          cases h1
          cases h2 with
          | rep h2 =>
            cases h2
            obtain ⟨t, rfl⟩ := q1
            obtain ⟨t', rfl⟩ := q2
            have z : b = decide (i < j) := by rw [← iblt_iff]; exact (Option.some.inj q).symm
            subst z
            exact fun _ _ _ _ h => PyProof.Rows.lt_int h
      | _ => cases q
    | str a =>
      cases e with
      | str c =>
        cases h1 with
        | rep h1 =>
          cases h1
          cases h2 with
          | rep h2 =>
            cases h2
            obtain ⟨t, rfl⟩ := q1
            obtain ⟨t', rfl⟩ := q2
            have z : b = decide ((txt a).cps.toList < (txt c).cps.toList) := by rw [← ltNats_iff]; exact (Option.some.inj q).symm
            subst z
            exact fun _ _ _ _ h => PyProof.Rows.lt_str h
      | _ => cases q
    | tup ds =>
      cases e with
      | tup es =>
        obtain ⟨a, vs, us, e1, e2, _, r1, t1, l1⟩ := Val.isTuple I h1 q1
        subst e1; subst e2
        obtain ⟨a', ws, ts, e1, e2, _, r2, t2, l2⟩ := Val.isTuple I h2 q2
        subst e1; subst e2
        have hu1 : A.in1.units + n < cLine := by rw [Around.in1_units]; omega
        obtain ⟨o, hfd, h3, h4⟩ := lts_fd (A := A.in1) (s := s) (e := eqN n) (l := ltN n) (fun d e x y u v b a c p r h => (eq_at I n A.in1 d e x y u v b (.rep a) (.rep c) p r hu1 h).1)
          (fun d e x y u v b a c p r h => lt_at I n A.in1 d e x y u v b (.rep a) (.rep c) p r hu1 h) ds es vs ws us ts b r1 r2 t1 t2 q
        exact ltTup l1 l2 (by omega) (by simpa using hfd) (by simpa using h3) h4
      | _ => cases q
    | _ => cases q
end
end Few
set_option Elab.async false
set_option linter.all false
set_option maxRecDepth 100000
set_option maxHeartbeats 4000000
namespace Few
open PySem PySem.Spec PyProof.Rows L2
section
variable {X : Cx} {pins : List (Addr × Obj)} {σ : L2.St} {H : Hp} {s : Shared}
/-- a list that is read: tracked, locked -/
theorem rdList (I : Inv X pins σ H s) {a : Addr} {vs : List V} (h : Rd H a (.lst vs)) : vs.length ≤ sizeLine ∧ ∃ (its : List Value) (n : Nat), Vals vs its ∧ vs.length = its.length ∧ s.heap.get? a = some { cls := .type "list", data := .seq its.toArray n } := by
  obtain ⟨z, its, n, r, e⟩ := h.ok I.hok
  exact ⟨z, its, n, r, r.length, e⟩
def rCatL : R2 := fun x y H Q => ∃ a b xs zs, x = .ref a ∧ y = .ref b ∧ Rd H a (.lst xs) ∧ Rd H b (.lst zs) ∧ xs.length + zs.length ≤ sizeLine ∧ ∀ p, H p = none → Q (.ref p) (upd H p (.lst (xs ++ zs)))
theorem op_catL : OpR X (binaryOp .Add) rCatL := by
  rintro pins s σ H x y v u Q I rx ry ⟨a, b, xs, zs, rfl, rfl, hx, hy, size, q⟩
  cases rx; cases ry
  obtain ⟨_, i1, n1, v1, l1, g1⟩ := rdList I hx
  obtain ⟨_, i2, n2, v2, l2, g2⟩ := rdList I hy
  refine PySem.P.add_list g1 g2 ?_ (by rw [List.size_toArray, List.size_toArray, ← l1, ← l2]; exact size)
  rw [show i1.toArray ++ i2.toArray = (i1 ++ i2).toArray by simp]
  exact ⟨.ref _, _, I.lnew (t' := s.toks) (v1.append v2) (by rw [List.length_append]; exact size), rfl, q _ I.fresh⟩
/-- a list some times, 0 or more -/
def rRepL : R2 := fun x y H Q => ∃ a k xs, x = .ref a ∧ y = .int (Int.ofNat k) ∧ Rd H a (.lst xs) ∧ k ≤ 1000000 ∧ (List.replicate k xs).flatten.length ≤ sizeLine ∧ ∀ p, H p = none → Q (.ref p) (upd H p (.lst (List.replicate k xs).flatten))
theorem op_repL : OpR X (binaryOp .Mult) rRepL := by
  rintro pins s σ H x y v u Q I rx ry ⟨a, k, xs, rfl, rfl, hx, hk, size, q⟩
  cases rx
  obtain ⟨t, rfl⟩ := ry
  generalize hi : Int.ofNat k = i
  have hik : i.toNat = k := by rw [← hi]; rfl
  have hi0 : 0 ≤ i := by rw [← hi]; exact Int.natCast_nonneg k
  obtain ⟨_, its, n, vr, ln, g⟩ := rdList I hx
  have size' : k * xs.length ≤ sizeLine := by rw [← PyProof.Rows.lm_len_rep_flat]; exact size
  have hl : its.toArray.size * i.toNat ≤ sizeLine := by rw [List.size_toArray, ← ln, hik, Nat.mul_comm]; exact size'
  have c1 : ¬ its.toArray.size * i.toNat > (2 ^ 63 - 1) / 8 := by
    have : (sizeLine : Nat) ≤ (2 ^ 63 - 1) / 8 := by decide
    omega
  have b1 : -(2 ^ 63 : Int) ≤ i := by omega
  have b2 : i < (2 ^ 63 : Int) := by omega
  have c2 : ¬ (!Builtin.List.listFitsIndex (i)) = true := by rw [fitsIndex_both b1 b2]; exact Bool.false_ne_true
  have c3 : ¬ Builtin.List.listTooLong (its.toArray.size * i.toNat) = true := by rw [notLongL hl]; exact Bool.false_ne_true
  have all : List.foldl (fun p q => p ++ q) #[] (List.replicate (if its.toArray.isEmpty = true then 0 else i.toNat) its.toArray) = (List.replicate k its).flatten.toArray := by
    have f : ∀ m : Nat, List.foldl (fun p q => p ++ q) #[] (List.replicate m its.toArray) = (List.replicate m its).flatten.toArray := fun m => by
      have z := foldl_rep its m []
      rwa [List.nil_append] at z
    rw [f, hik]
    cases its with
    | nil => simp
    | cons y ys => simp
  refine wpAny_binaryOp_repeat_ref (T := "list") (U := "int") (by decide) ⟨_, g, rfl⟩ (fun z => typeIs_int z i t) noFill_list_mul F.fills_int_mul F.slot_int_rmul repeat_list F.slot_int_index.lookup
    (call_meets F.slot_int_rmul (typeIs_int s i t) F.entry_int_rmul (F.args_int_rmul_2 _ _) (int___rmul___int_list i t a its.toArray n)
      ⟨g, rfl, ⟨_, g, rfl⟩, call_meets F.slot_list_mul ⟨_, g, rfl⟩ F.entry_list_mul (F.args_list_mul_2 _ _) (AutoListH.list___mul___list_int_3 a its.toArray n i t c2 c1 c3) ⟨g, ?_⟩⟩)
  rw [all]
  exact ⟨.ref _, _, I.lnew (t' := s.toks) (vr.rep k) size, rfl, q _ I.fresh⟩
/-- a tuple no times -/
theorem tup_mul0 (l : Addr) (items : Array Value) (n : Nat) (dd : Option Addr) (sl : Array (Option Value)) (u : Tok) (hn : items.isEmpty = false) :
    Meets (Builtin.«tuple.__mul__» ⟨[.ref l, .int 0 u], []⟩) (fun _ R s => s.heap.get? l = some { cls := .type "tuple", dict := dd, data := .seq items n, slots := sl } ∧
      R (.ok (.ret (Value.ref s.heap.objs.size))) { s with heap := s.heap.push { cls := Value.type "tuple", data := Data.seq #[] }, toks := s.toks }) :=
  .of_wp fun prog w A R s h => by
    obtain ⟨hp, g, d, tk, os⟩ := s
    obtain ⟨hl, h⟩ := h
    have f1 := AutoSeq1.idx_int
    wp_walk using PySem.AutoSeq1.wpAny_loadPart' hl
    exact ⟨_, rfl, h⟩
/-- a tuple once, the empty tuple any times: itself -/
theorem tup_mul1 (l : Addr) (items : Array Value) (n : Nat) (dd : Option Addr) (sl : Array (Option Value)) (x : Int) (u : Tok) (c0 : (decide (x < -(2 ^ 63)) || decide (x ≥ 2 ^ 63)) = false) (c1 : (items.isEmpty || x == 1) = true) :
    Meets (Builtin.«tuple.__mul__» ⟨[.ref l, .int x u], []⟩) (fun _ R s => s.heap.get? l = some { cls := .type "tuple", dict := dd, data := .seq items n, slots := sl } ∧ R (.ok (.ret (Value.ref l))) s) :=
  .of_wp fun prog w A R s h => by
    obtain ⟨hp, g, d, tk, os⟩ := s
    obtain ⟨hl, h⟩ := h
    have f1 := AutoSeq1.idx_int
    wp_walk using PySem.AutoSeq1.wpAny_loadPart' hl
    repeat (first
      | (refine wpAny_ite_false (decide_eq_false (by rw [c0]; exact Bool.false_ne_true)) ?_; wp_walk using PySem.AutoSeq1.wpAny_loadPart' hl)
      | (refine wpAny_ite_true (decide_eq_true c1) ?_; wp_walk using PySem.AutoSeq1.wpAny_loadPart' hl))
    exact ⟨_, rfl, h⟩
/-- a tuple some times -/
def rMulT (K : PySem.W.Frag) : R2 := fun x y H Q => ∃ a k xs, x = .ref a ∧ y = .int (Int.ofNat k) ∧ SqT K H a xs ∧ k ≤ 1000 ∧ (2 ≤ k → xs.length ≤ 1000) ∧
  ((xs = [] ∨ k = 1) → Q (.ref a) H) ∧ (xs ≠ [] → k ≠ 1 → ∀ p, H p = none → Q (.ref p) (upd H p (.tup (List.replicate k xs).flatten)))
theorem op_mulT : OpR X (binaryOp .Mult) (rMulT X.K) := by
  rintro pins s σ H x y v u Q I rx ry ⟨a, k, xs, rfl, rfl, hx, hk, hz, q1, q2⟩
  by_cases h2 : 2 ≤ k ∧ xs ≠ []
  · have b2 : (2 : Int) ≤ Int.ofNat k := by
      have e : Int.ofNat k = (k : Int) := rfl
      omega
    have b3 : Int.ofNat k ≤ 1000 := by
      have e : Int.ofNat k = (k : Int) := rfl
      omega
    exact op_repT pins s σ H _ _ v u Q I rx ry ⟨a, _, xs, rfl, rfl, hx, h2.2, b2, b3, hz h2.1, q2 h2.2 (by omega)⟩
  · cases rx
    obtain ⟨t, rfl⟩ := ry
    obtain ⟨its, r, ⟨⟨c1, d1, e1, f1⟩, ho, hc, n, hd⟩, hs⟩ := I.tuple hx
    simp only at hc hd
    subst hc hd
    have go : ∀ (R : Value → Shared → Prop), (∀ A, wpAny (model X.prog X.w) A (call (.builtin "tuple.__mul__") [.ref a, .int (Int.ofNat k) t]) R X.xe s) → True := fun _ _ => trivial
    generalize hi : Int.ofNat k = i
    have hi0 : 0 ≤ i := by rw [← hi]; exact Int.natCast_nonneg k
    have hik : i = (k : Int) := hi.symm
    refine wpAny_binaryOp_repeat_ref (T := "tuple") (U := "int") (by decide) ⟨_, ho, rfl⟩ (fun z => typeIs_int z i t) noFill_tuple_mul F.fills_int_mul F.slot_int_rmul repeat_tuple F.slot_int_index.lookup
      (call_meets F.slot_int_rmul (typeIs_int s i t) F.entry_int_rmul (F.args_int_rmul_2 _ _) (int_rmul_tuple i t a its.toArray n d1 f1) ⟨ho, rfl, ⟨_, ho, rfl⟩, ?_⟩)
    by_cases h1 : xs = [] ∨ k = 1
    · refine call_meets F.slot_tuple_mul ⟨_, ho, rfl⟩ F.entry_tuple_mul (F.args_tuple_mul_2 _ _) (tup_mul1 a its.toArray n d1 f1 i t (by rw [decide_eq_false (by omega), decide_eq_false (by omega)]; rfl) ?_) ⟨ho, ⟨.ref a, H, I, rfl, q1 h1⟩⟩
      rcases h1 with h1 | h1
      · have : its = [] := by have := r.length; rw [h1] at this; exact List.eq_nil_of_length_eq_zero this.symm
        rw [this]; rfl
      · rw [show (i == 1) = true by rw [hik, h1]; rfl, Bool.or_true]
    · have hk0 : k = 0 := by
        by_cases he : xs = []
        · exact absurd (.inl he) h1
        · have : ¬ 2 ≤ k := fun z => h2 ⟨z, he⟩
          have : k ≠ 1 := fun z => h1 (.inr z)
          omega
      subst hk0
      have hxs : xs ≠ [] := fun z => h1 (.inl z)
      have hi' : i = 0 := hik
      subst hi'
      have hne : its.toArray.isEmpty = false := by
        cases its with
        | nil => exact absurd (List.eq_nil_of_length_eq_zero (by rw [r.length]; rfl)) hxs
        | cons z zs => rfl
      refine call_meets F.slot_tuple_mul ⟨_, ho, rfl⟩ F.entry_tuple_mul (F.args_tuple_mul_2 _ _) (tup_mul0 a its.toArray n d1 f1 t hne) ⟨ho, ?_⟩
      exact ⟨.ref s.heap.objs.size, _, I.laid (t' := s.toks) (o := .tup []) (fun b ob z => Heap.get?_push_of_some _ z) (Nat.le_refl _) ⟨Nat.zero_le _, [], .nil, IsTup.new _ _⟩, rfl, q2 hxs (by decide) _ (I.hok.fresh (Nat.le_refl _))⟩
end

/-! ### the operators by values -/
def rStr : R2 := fun x y H Q => ∃ i j, x = .str i ∧ y = .str j ∧ i.length + j.length ≤ sizeLine ∧ Q (.str (i ++ j)) H
def ROp (K : PySem.W.Frag) : Bop → R2
  | .add => fun x y H Q => (rI0 (fun i j => .int (i + j)) x y H Q ∨ rStr x y H Q) ∨ (rCatA K x y H Q ∨ rCatL x y H Q)
  | .sub => rI0 fun i j => .int (i - j)
  | .mul => fun x y H Q => rI CMul (fun i j => .int (i * j)) x y H Q ∨ (rMulT K x y H Q ∨ rRepL x y H Q)
  | .fdiv => rI CDivN fun i j => .int (i.fdiv j)
  | .mod => rI (fun _ j => j ≠ 0) fun i j => .int (i.fmod j)
  | .pow => rI CPow fun i j => .int (i ^ j.toNat)
def opOf : Bop → Operator
  | .add => .Add
  | .sub => .Sub
  | .mul => .Mult
  | .fdiv => .FloorDiv
  | .mod => .Mod
  | .pow => .Pow
theorem op_all {X : Cx} : ∀ op : Bop, OpR X (binaryOp (opOf op)) (ROp X.K op)
  | .add => .or (.or op_add op_add_str) (.or op_catA op_catL)
  | .sub => op_sub
  | .mul => .or op_mul (.or op_mulT op_repL)
  | .fdiv => op_fdivN
  | .mod => op_modN
  | .pow => op_pow
theorem line_eq : line = sizeLine := by rw [sizeLine_eq]; rfl
theorem fits_of {α : Type} {xs : List α} (h : fits xs = true) : xs.length ≤ sizeLine := by
  rw [← line_eq]; exact Nat.le_of_ble_eq_true h
theorem small64_of {i : Int} (h : small64 i = true) : -(2 ^ 64) < i ∧ i < 2 ^ 64 := by
  cases i with
  | ofNat k =>
    have : k < 18446744073709551616 := by simpa [small64, Nat.blt_eq] using h
    have e : Int.ofNat k = (k : Int) := rfl
    omega
  | negSucc k =>
    have : k < 18446744073709551615 := by simpa [small64, Nat.blt_eq] using h
    have e := Int.negSucc_eq k
    omega
section
variable {G : Gd} {W : WX} {H0 H : Hp} {ρ0 ρ : List Addr} {σe : ES} {ih : IH} {σ : L2.St} {Q : VK}
theorem Val.int {K : PySem.W.Frag} {i : Int} {x : V} (h : Val K ρ H (.int i) x) : x = .int i := by cases h with | rep h => cases h; rfl
theorem Val.str {K : PySem.W.Frag} {z : List Nat} {x : V} (h : Val K ρ H (.str z) x) : x = .str (txt z) := by cases h with | rep h => cases h; rfl
theorem Val.bl {K : PySem.W.Frag} {z : Bool} {x : V} (h : Val K ρ H (.bl z) x) : x = .bl z := by cases h with | rep h => cases h; rfl
theorem Val.non {K : PySem.W.Frag} {x : V} (h : Val K ρ H .non x) : x = .non := by cases h with | rep h => cases h; rfl
theorem Val.lst' {K : PySem.W.Frag} {ds : List D} {v : V} (h : Val K ρ H (.lst ds) v) : ∃ a vs, v = .ref a ∧ Rd H a (.lst vs) ∧ Reps K ρ H ds vs := by
  cases h with
  | rep r => cases r with
    | lst e r => exact ⟨_, _, rfl, .inr ⟨_, e⟩, r⟩
  | lst e r => exact ⟨_, _, rfl, .inl e, r⟩
theorem Reps.rep {K : PySem.W.Frag} {ds : List D} {vs : List V} (r : Reps K ρ H ds vs) : ∀ k : Nat, Reps K ρ H (List.replicate k ds).flatten (List.replicate k vs).flatten
  | 0 => .nil
  | k + 1 => by
    rw [List.replicate_succ, List.replicate_succ, List.flatten_cons, List.flatten_cons]
    exact r.append (Reps.rep r k)
theorem bin_ok {op : Bop} {dx dy : D} {x y : V} {r r' : RV} (m : Mat G.K H0 ρ0 ρ σe ih σ H) (hx : Val G.K ρ H dx x) (hy : Val G.K ρ H dy y) (e : binD op dx dy = some r) (f : fitR r = some r')
    (q : PostE G W (RlR G) H0 ρ0 ρ σ H Q (.ok σe ih r')) : ROp G.K op x y H Q := by
  have fr : r' = r := by
    unfold fitR at f
    split at f
    all_goals first
      | (cases hb : fits _ <;> rw [hb] at f <;> simp at f; exact f.symm)
      | exact (Option.some.inj f).symm
  subst fr
  have pint : ∀ {i j : Int}, dx = .int i → dy = .int j → x = .int i ∧ y = .int j := fun {i j} e1 e2 => by subst e1; subst e2; exact ⟨hx.int, hy.int⟩
  have fin : ∀ {i : Int}, r' = .v (.int i) → Q (.int i) H := fun {i} e => by subst e; exact post_v m (.int i) q
  unfold binD at e
  split at e
  · obtain ⟨rfl, rfl⟩ := pint rfl rfl
    exact .inl (.inl ⟨_, _, rfl, rfl, fin (Option.some.inj e).symm⟩)
  · rename_i a b
    have ex := hx.str
    have ey := hy.str
    subst ex; subst ey
    have : r' = .v (.str (a ++ b)) := (Option.some.inj e).symm
    subst this
    have hl : fits (a ++ b) = true := by
      unfold fitR at f
      cases hb : fits (a ++ b) with
      | true => rfl
      | false => simp [hb] at f
    have h2 := fits_of hl
    rw [List.length_append] at h2
    refine .inl (.inr ⟨_, _, rfl, rfl, by simpa [Str.length, txt] using h2, ?_⟩)
    have := post_v m (.str (a ++ b)) q
    rw [show (txt a ++ txt b : Str) = txt (a ++ b) by show (⟨a.toArray ++ b.toArray⟩ : Str) = ⟨(a ++ b).toArray⟩; simp]
    exact this
  · rename_i a b
    obtain ⟨p, vs, rfl, h1, r1⟩ := hx.tuple
    obtain ⟨p', ws, rfl, h2, r2⟩ := hy.tuple
    have : r' = .v (.tup (a ++ b)) := (Option.some.inj e).symm
    subst this
    have hl : fits (a ++ b) = true := by
      unfold fitR at f
      cases hb : fits (a ++ b) with
      | true => rfl
      | false => simp [hb] at f
    have hz := fits_of hl
    rw [List.length_append, r1.length, r2.length] at hz
    refine .inr (.inl ⟨_, _, vs, ws, rfl, rfl, h1, h2, hz, fun e1 => ?_, fun _ e2 => ?_, fun _ _ p np => post_tup m (r1.append r2) np q⟩)
    · subst e1; cases r1
      exact post_v m (.tup h2 r2) q
    · subst e2; cases r2
      rw [List.append_nil] at q
      exact post_v m (.tup h1 r1) q
  · rename_i a b
    obtain ⟨p, vs, rfl, h1, r1⟩ := hx.lst'
    obtain ⟨p', ws, rfl, h2, r2⟩ := hy.lst'
    have : r' = .n (.lst (a ++ b)) := (Option.some.inj e).symm
    subst this
    have hl : fits (a ++ b) = true := by
      unfold fitR at f
      cases hb : fits (a ++ b) with
      | true => rfl
      | false => simp [hb] at f
    have hz := fits_of hl
    rw [List.length_append, r1.length, r2.length] at hz
    exact .inr (.inr ⟨_, _, vs, ws, rfl, rfl, h1, h2, hz, fun p np => post_lst m (r1.append r2) np q⟩)
  · obtain ⟨rfl, rfl⟩ := pint rfl rfl
    exact ⟨_, _, rfl, rfl, fin (Option.some.inj e).symm⟩
  · rename_i a b
    obtain ⟨rfl, rfl⟩ := pint rfl rfl
    cases hs : (small64 a || small64 b) with
    | false => rw [hs] at e; cases e
    | true =>
      rw [hs] at e
      refine .inl ⟨_, _, rfl, rfl, ?_, fin (Option.some.inj e).symm⟩
      rcases Bool.or_eq_true_iff.mp hs with z | z
      · exact .inl (small64_of z)
      · exact .inr (small64_of z)
  · rename_i a b
    obtain ⟨p, vs, rfl, h1, r1⟩ := hx.tuple
    have ey := hy.int
    subst ey
    have one : ∀ k : Nat, b = Int.ofNat k → k ≤ 1000 → (2 ≤ k → a.length ≤ 1000) → r' = .v (.tup (List.replicate k a).flatten) → ROp G.K .mul (.ref p) (.int b) H Q := fun k eb h3 h4 er => by
      subst er
      refine .inr (.inl ⟨p, k, vs, rfl, by rw [eb], h1, h3, fun z => by rw [← r1.length]; exact h4 z, fun z => ?_, fun _ _ p' np => post_tup m (r1.rep k) np q⟩)
      rcases z with z | z
      · subst z
        cases r1
        have : ∀ n : Nat, (List.replicate n ([] : List D)).flatten = [] := fun n => by induction n with | zero => rfl | succ n ih => rw [List.replicate_succ, List.flatten_cons, ih]; rfl
        rw [this] at q
        exact post_v m (.tup h1 .nil) q
      · subst z
        rw [show (List.replicate 1 a).flatten = a by simp] at q
        exact post_v m (.tup h1 r1) q
    split at e
    · exact one 0 rfl (by omega) (fun z => by omega) (Option.some.inj e).symm
    · exact one 1 rfl (by omega) (fun z => by omega) (by rw [show (List.replicate 1 a).flatten = a by simp]; exact (Option.some.inj e).symm)
    · rename_i k _ _
      cases hs : (Nat.ble k 1000 && Nat.ble a.length 1000) with
      | false => rw [hs] at e; cases e
      | true =>
        rw [hs] at e
        have := Bool.and_eq_true_iff.mp hs
        exact one k rfl (Nat.le_of_ble_eq_true this.1) (fun _ => Nat.le_of_ble_eq_true this.2) (Option.some.inj e).symm
    · cases e
  · rename_i a b
    obtain ⟨p, vs, rfl, h1, r1⟩ := hx.lst'
    have ey := hy.int
    subst ey
    split at e
    · rename_i k
      cases hs : Nat.ble k 1000000 with
      | false => rw [hs] at e; cases e
      | true =>
        rw [hs] at e
        have : r' = .n (.lst (List.replicate k a).flatten) := (Option.some.inj e).symm
        subst this
        have hl : fits (List.replicate k a).flatten = true := by
          unfold fitR at f
          cases hb : fits (List.replicate k a).flatten with
          | true => rfl
          | false => simp [hb] at f
        have hz := fits_of hl
        rw [(r1.rep k).length] at hz
        exact .inr (.inr ⟨p, k, vs, rfl, rfl, h1, Nat.le_of_ble_eq_true hs, hz, fun p' np => post_lst m (r1.rep k) np q⟩)
    · cases e
  · rename_i a b
    obtain ⟨rfl, rfl⟩ := pint rfl rfl
    split at e
    · rename_i k
      cases hs : (Nat.blt 0 k && Nat.blt k 1073741824) with
      | false => rw [hs] at e; cases e
      | true =>
        rw [hs] at e
        have := Bool.and_eq_true_iff.mp hs
        have h1 : 0 < k := by simpa [Nat.blt_eq] using this.1
        have h2 : k < 1073741824 := by simpa [Nat.blt_eq] using this.2
        have ek : Int.ofNat k = (k : Int) := rfl
        exact ⟨_, _, rfl, rfl, ⟨by omega, h2⟩, fin (Option.some.inj e).symm⟩
    · cases e
  · rename_i a b
    obtain ⟨rfl, rfl⟩ := pint rfl rfl
    split at e
    · rename_i k
      cases hs : Nat.blt 0 k with
      | false => rw [hs] at e; cases e
      | true =>
        rw [hs] at e
        have h1 : 0 < k := by simpa [Nat.blt_eq] using hs
        have ek : Int.ofNat k = (k : Int) := rfl
        exact ⟨_, _, rfl, rfl, by omega, fin (Option.some.inj e).symm⟩
    · cases e
  · rename_i a b
    obtain ⟨rfl, rfl⟩ := pint rfl rfl
    split at e
    · rename_i x y
      cases hs : (Nat.blt x 1000 && Nat.blt y 100) with
      | false => rw [hs] at e; cases e
      | true =>
        rw [hs] at e
        have := Bool.and_eq_true_iff.mp hs
        have h1 : x < 1000 := by simpa [Nat.blt_eq] using this.1
        have h2 : y < 100 := by simpa [Nat.blt_eq] using this.2
        have ey : Int.ofNat y = (y : Int) := rfl
        refine ⟨_, _, rfl, rfl, ⟨by omega, by omega, show x < 2 ^ 64 by omega⟩, ?_⟩
        have := fin (Option.some.inj e).symm
        have e2 : (Int.ofNat x) ^ (Int.ofNat y).toNat = Int.ofNat (x ^ y) := (Int.natCast_pow x y).symm
        show Q (.int ((Int.ofNat x) ^ (Int.ofNat y).toNat)) H
        rw [e2]; exact this
    · cases e
  · cases e
end
end Few
set_option Elab.async false
set_option linter.all false
set_option maxRecDepth 100000
set_option maxHeartbeats 4000000
namespace Few
open PySem PySem.Spec PyProof.Rows L2
section
variable {G : Gd} {k : Nat} {N : List PySem.Str} {sc : Scope} {W : WX} {X : Cx} {c : Call}
variable {H0 H : Hp} {ρ0 ρ : List Addr} {σe : ES} {ih : IH} {σ : L2.St} {Q : VK}
/-! ### readings grow -/
theorem PostE.mono {Rl : Hp → List Addr → ES → L2.St → Hp → RV → V → Prop} {Q' : VK} (f : ∀ v H, Q v H → Q' v H) {o : Out} (q : PostE G W Rl H0 ρ0 ρ σ H Q o) : PostE G W Rl H0 ρ0 ρ σ H Q' o := by
  cases o with
  | st => exact q
  | ex σe ih x => exact q
  | ok σe ih r => exact fun ρ2 H2 v p2 a2 m2 r2 => f _ _ (q ρ2 H2 v p2 a2 m2 r2)
theorem rs_mono {cd : Cd} {Q' : VK} (f : ∀ v H, Q v H → Q' v H) (q : rs G W cd σ H Q) : rs G W cd σ H Q' := by
  obtain ⟨H0, ρ0, ρ, σe, ih, m, q⟩ := q
  exact ⟨H0, ρ0, ρ, σe, ih, m, q.mono f⟩
theorem rd_mono {cd : Cd} {Q' : VK} (f : ∀ v H, Q v H → Q' v H) (q : rd G W cd σ H Q) : rd G W cd σ H Q' := by
  obtain ⟨H0, ρ0, ρ, σe, ih, m, q⟩ := q
  exact ⟨H0, ρ0, ρ, σe, ih, m, q.mono f⟩
theorem two' {a b : Ev} {kk : ES → IH → RV → RV → Out} {Rl : Hp → List Addr → ES → L2.St → Hp → RV → V → Prop} {R : V → V → Hp → Prop} (m : Mat G.K H0 ρ0 ρ σe ih σ H) (q : PostE G W Rl H0 ρ0 ρ σ H Q (d2 a b kk c σe ih))
    (f : ∀ x y H2, Two G W Rl kk σ Q x y H2 → R x y H2) : rs G W (a c) σ H fun x H1 => rs G W (b c) σ H1 fun y H2 => R x y H2 :=
  rs_mono (fun x H1 q => rs_mono (fun y H2 q => f x y H2 q) q) (two m q)
theorem one' {a : Ev} {kk : ES → IH → RV → Out} {Rl : Hp → List Addr → ES → L2.St → Hp → RV → V → Prop} {R : V → Hp → Prop} (m : Mat G.K H0 ρ0 ρ σe ih σ H) (q : PostE G W Rl H0 ρ0 ρ σ H Q ((a c σe ih).bind kk))
    (f : ∀ x H2, One G W Rl kk σ Q x H2 → R x H2) : rs G W (a c) σ H fun x H1 => R x H1 := rs_mono (fun x H1 q => f x H1 q) (one m q)

/-! ### operators -/
theorem r_bin {op : Bop} {a b : Ev} {ea eb : Expr} {pos : Pos} (ok : Cok G k N sc W X) (ha : PE X ea (rd G W (a c))) (hb : PE X eb (rd G W (b c))) : PE X (.BinOp ea (opOf op) eb pos) (rd G W (dBin op a b c)) := by
  refine peTo (pe_op (op_all op) (settle ha) (settle hb)) fun σ H Q q => ?_
  obtain ⟨H0, ρ0, ρ, σe, ih, m, q⟩ := q
  refine two' m q fun x y H2 t => ?_
  obtain ⟨H0, ρ0, ρ2, σe2, ih2, r1, r2, m2, s1, s2, q⟩ := t
  rw [ok.eK]
  cases e1 : Few.val σe2 r1 with
  | none => simp only [e1] at q; exact q.elim
  | some d1 =>
    cases e2 : Few.val σe2 r2 with
    | none => simp only [e1, e2] at q; exact q.elim
    | some d2 =>
      simp only [e1, e2] at q
      cases e3 : binD op d1 d2 with
      | none => simp only [e3] at q; exact q.elim
      | some r =>
        simp only [e3] at q
        cases e4 : fitR r with
        | none => simp only [e4, opt] at q; exact q.elim
        | some r' =>
          simp only [e4, opt] at q
          exact bin_ok m2 (m2.reads s1 e1) (m2.reads s2 e2) e3 e4 q
theorem r_neg {a : Ev} {ea : Expr} {pos : Pos} (ok : Cok G k N sc W X) (ha : PE X ea (rd G W (a c))) : PE X (.UnaryOp .USub ea pos) (rd G W (dNeg a c)) := by
  refine peTo (pe_un un_neg (settle ha)) fun σ H Q q => ?_
  obtain ⟨H0, ρ0, ρ, σe, ih, m, q⟩ := q
  refine one' m q fun x H2 t => ?_
  obtain ⟨H0, ρ0, ρ2, σe2, ih2, r1, m2, s1, q⟩ := t
  dsimp only at q
  split at q
  · rename_i i
    have s1 : Rep G.K ρ2 H2 (.int i) x := s1
    cases s1
    exact ⟨i, rfl, post_v m2 (.int _) q⟩
  · exact q.elim
theorem oneP {a : Ev} {kk : ES → IH → RV → Out} {Rl : Hp → List Addr → ES → L2.St → Hp → RV → V → Prop} {R : V → Hp → Prop} (m : Mat G.K H0 ρ0 ρ σe ih σ H) (q : PostE G W Rl H0 ρ0 ρ σ H Q ((a c σe ih).bind kk))
    (f : ∀ x H2 ρ2 σe2 ih2 r1, Pers H H2 → Ahead ρ ρ2 → Mat G.K H0 ρ0 ρ2 σe2 ih2 σ H2 → RepS G.K ρ2 σ H2 r1 x → PostE G W Rl H0 ρ0 ρ2 σ H2 Q (kk σe2 ih2 r1) → R x H2) : rs G W (a c) σ H fun x H1 => R x H1 := by
  refine ⟨H0, ρ0, ρ, σe, ih, m, ?_⟩
  unfold Out.bind at q
  cases ha : a c σe ih with
  | st => rw [ha] at q; exact q
  | ex σ' h' x => rw [ha] at q; exact q
  | ok σ1 h1 r1 =>
    rw [ha] at q
    intro ρ1 H1 x p1 a1 m1 s1
    exact f _ _ _ _ _ _ p1 a1 m1 s1 (PostE.weak p1 a1 q)
end

/-! ### comparisons by values -/
section
variable {X : Cx}
/-- the items' answers, by a function of the values -/
theorem answers {A : Around} {s : Shared} {v : Value} {us : List Value} {bs : List Bool} (h : Paired (fun u b => SeqAt.EqAt A s u v b) us bs) : ∃ e : Value → Bool, (∀ u ∈ us, SeqAt.EqAt A s u v (e u)) ∧ us.any e = bs.any id := by
  classical
  let P : Value → Prop := fun u => ∃ i : Nat, us[i]? = some u ∧ bs[i]? = some true
  have get : ∀ {us : List Value} {bs : List Bool}, Paired (fun u b => SeqAt.EqAt A s u v b) us bs → ∀ (i : Nat) (u : Value), us[i]? = some u → ∃ b, bs[i]? = some b ∧ SeqAt.EqAt A s u v b := by
    intro us bs h
    induction h with
    | nil => intro i u e; simp at e
    | cons r t ih =>
      intro i u e
      cases i with
      | zero => simp at e; subst e; exact ⟨_, rfl, r⟩
      | succ i => simpa using ih i u (by simpa using e)
  have len : us.length = bs.length := Paired.length h
  refine ⟨fun u => decide (P u), fun u hu => ?_, ?_⟩
  · obtain ⟨i, hi⟩ := List.mem_iff_getElem?.mp hu
    obtain ⟨b, hb, q⟩ := get h i u hi
    cases b with
    | true =>
      show SeqAt.EqAt A s u v (decide (P u))
      rw [decide_eq_true (show P u from ⟨i, hi, hb⟩)]; exact q
    | false =>
      by_cases z : P u
      · obtain ⟨j, hj, hbj⟩ := z
        obtain ⟨b', hb', q'⟩ := get h j u hj
        rw [hbj] at hb'; cases hb'
        show SeqAt.EqAt A s u v (decide (P u))
        rw [decide_eq_true (show P u from ⟨j, hj, hbj⟩)]; exact q'
      · show SeqAt.EqAt A s u v (decide (P u))
        rw [decide_eq_false z]; exact q
  · rw [Bool.eq_iff_iff, List.any_eq_true, List.any_eq_true]
    constructor
    · rintro ⟨u, hu, hp⟩
      obtain ⟨i, hi, hb⟩ := of_decide_eq_true hp
      exact ⟨true, List.mem_of_getElem? hb, rfl⟩
    · rintro ⟨b, hb, hp⟩
      cases b with
      | false => cases hp
      | true =>
        obtain ⟨i, hi⟩ := List.mem_iff_getElem?.mp hb
        have : i < us.length := by rw [len]; exact (List.getElem?_eq_some_iff.mp hi).1
        exact ⟨us[i], List.getElem_mem this, decide_eq_true ⟨i, List.getElem?_eq_getElem this, hi⟩⟩
def rEqN (K : PySem.W.Frag) (neg : Bool) : R2 := fun x y H Q => ∃ ρ d e b, Val K ρ H d x ∧ Val K ρ H e y ∧ eqD d e = some b ∧ Q (.bl (if neg then !b else b)) H
theorem op_eqN (hu : X.A.units + 101 < cLine) : OpR X (compareOp .Eq) (rEqN X.K false) := by
  intro pins s σ H x y v u Q I rx ry h
  obtain ⟨ρ, d, e, b, h1, h2, h3, q⟩ := h
  exact (eq_at I 100 X.A d e x y v u b h1 h2 rx ry (by omega) h3).2.1 X.prog X.w X.xe _ ⟨.bl _, H, I, rfl, q⟩
theorem op_neN (hu : X.A.units + 101 < cLine) : OpR X (compareOp .NotEq) (rEqN X.K true) := by
  intro pins s σ H x y v u Q I rx ry h
  obtain ⟨ρ, d, e, b, h1, h2, h3, q⟩ := h
  exact (eq_at I 100 X.A d e x y v u b h1 h2 rx ry (by omega) h3).2.2 X.prog X.w X.xe _ ⟨.bl _, H, I, rfl, q⟩
def rLtN (K : PySem.W.Frag) : R2 := fun x y H Q => ∃ ρ d e b, Val K ρ H d x ∧ Val K ρ H e y ∧ ltD d e = some b ∧ Q (.bl b) H
theorem op_ltN (hu : X.A.units + 101 < cLine) : OpR X (compareOp .Lt) (rLtN X.K) := by
  intro pins s σ H x y v u Q I rx ry h
  obtain ⟨ρ, d, e, b, h1, h2, h3, q⟩ := h
  exact lt_at I 100 X.A d e x y v u b h1 h2 rx ry (by omega) h3 X.prog X.w X.xe _ ⟨.bl _, H, I, rfl, q⟩
def rGtS : R2 := fun x y H Q => ∃ i j, x = .str i ∧ y = .str j ∧ Q (.bl (decide (j.cps.toList < i.cps.toList))) H
theorem op_gtS : OpR X (compareOp .Gt) rGtS := by
  intro pins s σ H x y v u Q I rx ry h
  obtain ⟨i, j, rfl, rfl, q⟩ := h
  obtain ⟨t, rfl⟩ := rx
  obtain ⟨t', rfl⟩ := ry
  exact PySem.P.gt_str ⟨.bl _, H, I, rfl, q⟩
/-- the answers of an item's search -/
theorem mem_pairs {s : Shared} {pins : List (Addr × Obj)} {σ : L2.St} {H : Hp} {ρ : List Addr} (I : Inv X pins σ H s) {A : Around} {x : D} {v : V} {w : Value} (h : Val X.K ρ H x v) (r : RelV v w) (hu : A.units + 100 < cLine) :
    ∀ {ys : List D} {vs : List V} {us : List Value} {b : Bool}, Reps X.K ρ H ys vs → Vals vs us → memD x ys = some b → ∃ bs, Paired (fun u b => SeqAt.EqAt A s u w b) us bs ∧ bs.any id = b
  | _, _, _, b, .nil, .nil, e => ⟨[], .nil, by simpa [memD] using e⟩
  | _, _, _, b, .cons h1 r1, .cons q1 t1, e => by
    simp only [memD] at e
    split at e
    · rename_i a ha
      split at e
      · rename_i b' hb
        cases e
        obtain ⟨bs, p, e2⟩ := mem_pairs I h r hu r1 t1 hb
        exact ⟨a :: bs, .cons (eq_at I 100 A _ x _ v _ w a (.rep h1) h q1 r hu ha).1 p, by rw [List.any_cons, e2]; rfl⟩
      · cases e
    · cases e
def rInN (K : PySem.W.Frag) (neg : Bool) : R2 := fun x y H Q => ∃ ρ d ys a vs b, Val K ρ H d x ∧ y = .ref a ∧ (SqL K H a vs ∨ SqT K H a vs) ∧ Reps K ρ H ys vs ∧ memD d ys = some b ∧ Q (.bl (if neg then !b else b)) H
theorem op_inN (hu : X.A.units + 110 < cLine) : OpR X (compareOp .In) (rInN X.K false) := by
  intro pins s σ H x y v u Q I rx ry h
  obtain ⟨ρ, d, ys, a, vs, b, h1, rfl, h2, h3, h4, q⟩ := h
  cases ry
  rcases h2 with h2 | h2
  · obtain ⟨its, r, pl, hz⟩ := I.list h2
    obtain ⟨bs, p, e⟩ := mem_pairs I (A := X.A.in1) h1 rx (by rw [Around.in1_units]; omega) h3 r h4
    obtain ⟨f, f1, f2⟩ := answers p
    refine SeqAt.in_listAt f pl.isList (fun w hw => f1 w (by simpa using hw)) ⟨.bl _, H, I, rfl, ?_⟩
    rw [show its.toArray.any f = its.any f by simp, f2, e]; exact q
  · obtain ⟨its, r, pl, hz⟩ := I.tuple h2
    obtain ⟨bs, p, e⟩ := mem_pairs I (A := X.A.in1) h1 rx (by rw [Around.in1_units]; omega) h3 r h4
    obtain ⟨f, f1, f2⟩ := answers p
    refine SeqAt.in_tupleAt f pl (fun w hw => f1 w (by simpa using hw)) ⟨.bl _, H, I, rfl, ?_⟩
    rw [show its.toArray.any f = its.any f by simp, f2, e]; exact q
theorem op_notInN (hu : X.A.units + 110 < cLine) : OpR X (compareOp .NotIn) (rInN X.K true) := by
  intro pins s σ H x y v u Q I rx ry h
  obtain ⟨ρ, d, ys, a, vs, b, h1, rfl, h2, h3, h4, q⟩ := h
  cases ry
  rcases h2 with h2 | h2
  · obtain ⟨its, r, pl, hz⟩ := I.list h2
    obtain ⟨bs, p, e⟩ := mem_pairs I (A := X.A.in1) h1 rx (by rw [Around.in1_units]; omega) h3 r h4
    obtain ⟨f, f1, f2⟩ := answers p
    refine SeqAt.notIn_listAt f pl.isList (fun w hw => f1 w (by simpa using hw)) ⟨.bl _, H, I, rfl, ?_⟩
    rw [show its.toArray.any f = its.any f by simp, f2, e]; exact q
  · obtain ⟨its, r, pl, hz⟩ := I.tuple h2
    obtain ⟨bs, p, e⟩ := mem_pairs I (A := X.A.in1) h1 rx (by rw [Around.in1_units]; omega) h3 r h4
    obtain ⟨f, f1, f2⟩ := answers p
    refine SeqAt.notIn_tupleAt f pl (fun w hw => f1 w (by simpa using hw)) ⟨.bl _, H, I, rfl, ?_⟩
    rw [show its.toArray.any f = its.any f by simp, f2, e]; exact q
/-- one letter in a text -/
def rInC (neg : Bool) : R2 := fun x y H Q => ∃ (cc : Nat) (t : List Nat), x = .str (txt [cc]) ∧ y = .str (txt t) ∧ Q (.bl (if neg then !(t.any (Nat.beq cc)) else t.any (Nat.beq cc))) H
theorem any_mem (cc : Nat) (t : List Nat) : decide (cc ∈ t) = t.any (Nat.beq cc) := by
  rw [Bool.eq_iff_iff, decide_eq_true_iff, List.any_eq_true]
  exact ⟨fun h => ⟨cc, h, Nat.beq_refl cc⟩, fun ⟨x, hx, e⟩ => by rw [Nat.eq_of_beq_eq_true e]; exact hx⟩
theorem op_inC : OpR X (compareOp .In) (rInC false) := by
  intro pins s σ H x y v u Q I rx ry h
  obtain ⟨cc, t, rfl, rfl, q⟩ := h
  refine op_in_str pins s σ H _ _ v u Q I rx ry ⟨_, _, rfl, rfl, ?_⟩
  rw [show txt [cc] = ⟨#[cc]⟩ from rfl, PySem.StrLaws.found_one, show (txt t).cps.toList = t by simp [txt], any_mem]
  exact q
theorem op_notInC : OpR X (compareOp .NotIn) (rInC true) := by
  intro pins s σ H x y v u Q I rx ry h
  obtain ⟨cc, t, rfl, rfl, q⟩ := h
  refine op_notin_str pins s σ H _ _ v u Q I rx ry ⟨_, _, rfl, rfl, ?_⟩
  rw [show txt [cc] = ⟨#[cc]⟩ from rfl, PySem.StrLaws.found_one, show (txt t).cps.toList = t by simp [txt], any_mem]
  exact q
/-- in a dict -/
def rInD (neg : Bool) : R2 := fun x y H Q => ∃ a kvs κ, x = kV κ ∧ y = .ref a ∧ Rd H a (.dK kvs) ∧ Q (.bl (if neg then !(valV kvs κ).isSome else (valV kvs κ).isSome)) H
theorem op_inDk (hu : X.A.units + 1 < cLine) : OpR X (compareOp .In) (rInD false) := by
  intro pins s σ H x y v u Q I rx ry h
  obtain ⟨a, kvs, κ, rfl, rfl, h1, q⟩ := h
  cases ry
  exact d_in hu I (.inl ⟨kvs, κ, h1, rfl, rfl⟩) rx fun s' I' => ⟨.bl _, H, I', rfl, q⟩
theorem op_notInDk (hu : X.A.units + 1 < cLine) : OpR X (compareOp .NotIn) (rInD true) := by
  intro pins s σ H x y v u Q I rx ry h
  obtain ⟨a, kvs, κ, rfl, rfl, h1, q⟩ := h
  cases ry
  exact d_notIn hu I (.inl ⟨kvs, κ, h1, rfl, rfl⟩) rx fun s' I' => ⟨.bl _, H, I', rfl, q⟩
def RCop (K : PySem.W.Frag) : Cop → R2
  | .eq => rEqN K false
  | .ne => rEqN K true
  | .lt => rLtN K
  | .le => rI0 fun i j => .bl (decide (i ≤ j))
  | .gt => fun x y H Q => rI0 (fun i j => .bl (decide (j < i))) x y H Q ∨ rGtS x y H Q
  | .ge => rI0 fun i j => .bl (decide (j ≤ i))
  | .isn => fun x y H Q => y = .non ∧ Q (.bl (decide (x = .non))) H
  | .isnn => fun x y H Q => y = .non ∧ Q (.bl (!decide (x = .non))) H
  | .isin => fun x y H Q => rInN K false x y H Q ∨ (rInC false x y H Q ∨ rInD false x y H Q)
  | .notin => fun x y H Q => rInN K true x y H Q ∨ (rInC true x y H Q ∨ rInD true x y H Q)
def copOf : Cop → CmpOp
  | .eq => .Eq
  | .ne => .NotEq
  | .lt => .Lt
  | .le => .LtE
  | .gt => .Gt
  | .ge => .GtE
  | .isn => .Is
  | .isnn => .IsNot
  | .isin => .In
  | .notin => .NotIn
theorem cop_all (hu : X.A.units + 110 < cLine) : ∀ op : Cop, OpR X (compareOp (copOf op)) (RCop X.K op)
  | .eq => op_eqN (by omega)
  | .ne => op_neN (by omega)
  | .lt => op_ltN (by omega)
  | .le => op_le
  | .gt => .or op_gt op_gtS
  | .ge => op_ge
  | .isn => op_isN
  | .isnn => op_notN
  | .isin => .or (op_inN hu) (.or op_inC (op_inDk (by omega)))
  | .notin => .or (op_notInN hu) (.or op_notInC (op_notInDk (by omega)))
end
section
variable {G : Gd} {k : Nat} {N : List PySem.Str} {sc : Scope} {W : WX} {X : Cx} {c : Call}
variable {H0 H : Hp} {ρ0 ρ : List Addr} {σe : ES} {ih : IH} {σ : L2.St} {Q : VK}
theorem Cok.u110 (ok : Cok G k N sc W X) : X.A.units + 110 < cLine := by have := ok.room.un; omega
theorem isNon_iff {K : PySem.W.Frag} {d : D} {x : V} (h : Val K ρ H d x) : decide (x = .non) = isNon d := by
  cases h with
  | rep h => cases h <;> simp [isNon]
  | lst e r => simp [isNon]
  | dct e r => simp [isNon]
theorem txt_inj {a b : List Nat} : txt a = txt b ↔ a = b := ⟨fun h => by simpa [txt] using h, fun h => by rw [h]⟩
/-- equality of keys -/
theorem key_eq {a x : D} {κa κ : Key} (ha : keyOf a = some κa) (hx : keyOf x = some κ) : eqD a x = some (decide (κa = κ)) := by
  cases a with
  | int i =>
    cases ha
    cases x with
    | int j => cases hx; rw [key_ll]; show some (ibeq i j) = _; rw [ibeq_iff]
    | str t => cases hx; rw [key_lr]; rfl
    | _ => cases hx
  | str t =>
    cases ha
    cases x with
    | int j => cases hx; rw [key_rl]; rfl
    | str u =>
      cases hx; rw [key_rr]; show some (beqNats t u) = _
      congr 1
      rw [Bool.eq_iff_iff, decide_eq_true_iff, beqNats_iff, txt_inj]
      try simp
    | _ => cases hx
  | _ => cases ha
theorem okKey_of {x : D} (h : okKey x = true) : ∃ κ, keyOf x = some κ := by
  cases x with
  | int i => exact ⟨_, rfl⟩
  | str t => exact ⟨_, rfl⟩
  | _ => cases h
/-- the keys of a dict's list -/
theorem key_look {K : PySem.W.Frag} {x : D} {κ : Key} (hx : keyOf x = some κ) : ∀ {ks ds : List D} {kvs : List (Key × V)} {b : Bool}, KReps K ρ H ks ds kvs → memD x ks = some b → (valV kvs κ).isSome = b
  | _, _, _, b, .nil, e => by simpa [memD, valV] using e
  | _, _, _, b, .cons (κ := κa) (kvs := kvs) e1 h1 r1, e => by
    simp only [memD, key_eq e1 hx] at e
    split at e
    · rename_i b' hb
      have ih := key_look hx r1 hb
      cases e
      rw [valV, List.find?_cons]
      by_cases z : κa = κ
      · simp [z]
      · simp only [z, decide_false, Bool.false_or]
        exact ih
    · cases e
theorem key_val {K : PySem.W.Frag} {x : D} {κ : Key} {v : V} (hx : keyOf x = some κ) (h : Rep K ρ H x v) : v = kV κ := by
  cases h <;> cases hx <;> rfl
theorem key_val' {K : PySem.W.Frag} {x : D} {κ : Key} {v : V} (hx : keyOf x = some κ) (h : Val K ρ H x v) : v = kV κ := by
  cases h with
  | rep h => exact key_val hx h
  | _ => cases hx
theorem in_ok {dx dy : D} {x y : V} {b : Bool} (neg : Bool) (hx : Val G.K ρ H dx x) (hy : Val G.K ρ H dy y) (e : inD dx dy = some b) (q : Q (.bl (if neg then !b else b)) H) :
    rInN G.K neg x y H Q ∨ (rInC neg x y H Q ∨ rInD neg x y H Q) := by
  unfold inD at e
  split at e
  · obtain ⟨a, vs, rfl, h1, r1⟩ := hy.list
    exact .inl ⟨ρ, dx, _, a, vs, b, hx, rfl, .inl h1, r1, e, q⟩
  · obtain ⟨a, vs, rfl, h1, r1⟩ := hy.tuple
    exact .inl ⟨ρ, dx, _, a, vs, b, hx, rfl, .inr h1, r1, e, q⟩
  · obtain ⟨a, kvs, rfl, h1, r1⟩ := hy.dict
    cases hk : okKey dx with
    | false => rw [hk] at e; cases e
    | true =>
      rw [hk] at e
      obtain ⟨κ, hκ⟩ := okKey_of hk
      refine .inr (.inr ⟨a, kvs, κ, key_val' hκ hx, rfl, h1, ?_⟩)
      rw [key_look hκ r1 e]; exact q
  · split at e
    · rename_i t _ cc
      cases hx.str
      cases hy.str
      cases e
      exact .inr (.inl ⟨cc, t, rfl, rfl, q⟩)
    · cases e
  · cases e
theorem cmp_ok {op : Cop} {dx dy : D} {x y : V} {b : Bool} (hx : Val G.K ρ H dx x) (hy : Val G.K ρ H dy y) (e : cmpD op dx dy = some b) (q : Q (.bl b) H) : RCop G.K op x y H Q := by
  unfold cmpD at e
  split at e
  · exact ⟨ρ, _, _, b, hx, hy, e, q⟩
  · cases h : eqD dx dy with
    | none => rw [h] at e; cases e
    | some b' => rw [h] at e; cases e; exact ⟨ρ, _, _, b', hx, hy, h, q⟩
  · exact ⟨ρ, _, _, b, hx, hy, e, q⟩
  · cases hx.int; cases hy.int; cases e
    rw [iblt_iff] at q
    exact .inl ⟨_, _, rfl, rfl, q⟩
  · cases hx.str; cases hy.str; cases e
    rw [ltNats_iff] at q
    refine .inr ⟨_, _, rfl, rfl, ?_⟩
    simpa [txt] using q
  · cases hx.int; cases hy.int; cases e
    rename_i i j
    rw [iblt_iff] at q
    refine ⟨_, _, rfl, rfl, ?_⟩
    have : (decide (i ≤ j)) = !decide (j < i) := by
      rw [Bool.eq_iff_iff]; simp
    show Q (.bl (decide (i ≤ j))) H
    rw [this]; exact q
  · cases hx.int; cases hy.int; cases e
    rename_i i j
    rw [iblt_iff] at q
    refine ⟨_, _, rfl, rfl, ?_⟩
    have : (decide (j ≤ i)) = !decide (i < j) := by
      rw [Bool.eq_iff_iff]; simp
    show Q (.bl (decide (j ≤ i))) H
    rw [this]; exact q
  · cases hy.non; cases e
    refine ⟨rfl, ?_⟩
    rw [isNon_iff hx]; exact q
  · cases hy.non; cases e
    refine ⟨rfl, ?_⟩
    rw [isNon_iff hx]; exact q
  · exact in_ok false hx hy e q
  · cases h : inD dx dy with
    | none => rw [h] at e; cases e
    | some b' => rw [h] at e; cases e; exact in_ok true hx hy h q
  · cases e
theorem RCop.bool {K : PySem.W.Frag} {op : Cop} {x y : V} (q : RCop K op x y H Q) : RCop K op x y H fun v H' => (∃ b, v = .bl b) ∧ Q v H' := by
  cases op with
  | eq => obtain ⟨ρ, d, e, b, h1, h2, h3, q⟩ := q; exact ⟨ρ, d, e, b, h1, h2, h3, ⟨_, rfl⟩, q⟩
  | ne => obtain ⟨ρ, d, e, b, h1, h2, h3, q⟩ := q; exact ⟨ρ, d, e, b, h1, h2, h3, ⟨_, rfl⟩, q⟩
  | lt => obtain ⟨ρ, d, e, b, h1, h2, h3, q⟩ := q; exact ⟨ρ, d, e, b, h1, h2, h3, ⟨_, rfl⟩, q⟩
  | le => obtain ⟨i, j, h1, h2, q⟩ := q; exact ⟨i, j, h1, h2, ⟨_, rfl⟩, q⟩
  | gt =>
    rcases q with ⟨i, j, h1, h2, q⟩ | ⟨i, j, h1, h2, q⟩
    · exact .inl ⟨i, j, h1, h2, ⟨_, rfl⟩, q⟩
    · exact .inr ⟨i, j, h1, h2, ⟨_, rfl⟩, q⟩
  | ge => obtain ⟨i, j, h1, h2, q⟩ := q; exact ⟨i, j, h1, h2, ⟨_, rfl⟩, q⟩
  | isn => exact ⟨q.1, ⟨_, rfl⟩, q.2⟩
  | isnn => exact ⟨q.1, ⟨_, rfl⟩, q.2⟩
  | isin =>
    rcases q with ⟨ρ, d, e, a, vs, b, h1, h2, h3, h4, h5, q⟩ | ⟨cc, t, h1, h2, q⟩ | ⟨a, kvs, κ, h1, h2, h3, q⟩
    · exact .inl ⟨ρ, d, e, a, vs, b, h1, h2, h3, h4, h5, ⟨_, rfl⟩, q⟩
    · exact .inr (.inl ⟨cc, t, h1, h2, ⟨_, rfl⟩, q⟩)
    · exact .inr (.inr ⟨a, kvs, κ, h1, h2, h3, ⟨_, rfl⟩, q⟩)
  | notin =>
    rcases q with ⟨ρ, d, e, a, vs, b, h1, h2, h3, h4, h5, q⟩ | ⟨cc, t, h1, h2, q⟩ | ⟨a, kvs, κ, h1, h2, h3, q⟩
    · exact .inl ⟨ρ, d, e, a, vs, b, h1, h2, h3, h4, h5, ⟨_, rfl⟩, q⟩
    · exact .inr (.inl ⟨cc, t, h1, h2, ⟨_, rfl⟩, q⟩)
    · exact .inr (.inr ⟨a, kvs, κ, h1, h2, h3, ⟨_, rfl⟩, q⟩)

/-! ### tests -/
def PostT (G : Gd) (W : WX) (H0 : Hp) (ρ0 ρ : List Addr) (σ : L2.St) (H : Hp) (Q : Bool → Hp → Prop) : Out → Prop
  | .st => False
  | .ok σe ih r => ∃ b, truthR σe r = some b ∧ ∀ ρ' H', Pers H H' → Ahead ρ ρ' → Mat G.K H0 ρ0 ρ' σe ih σ H' → Q b H'
  | .ex σe ih x => ∀ ρ' H' cls d, Mat G.K H0 ρ0 ρ' σe ih σ H' → Xs G.K G.mg G.xn ρ' H' x cls d → W cls d σ H'
def rt (G : Gd) (W : WX) (c : Cd) : TT := fun σ H Q => ∃ H0 ρ0 ρ σe ih, Mat G.K H0 ρ0 ρ σe ih σ H ∧ PostT G W H0 ρ0 ρ σ H Q (c σe ih)
theorem RepR.val {K : PySem.W.Frag} {r : RV} {v : V} {d : D} (m : Mat K H0 ρ0 ρ σe ih σ H) (h : RepR K H0 ρ σe σ H r v) (e : Few.val σe r = some d) : Val K ρ H d v := by
  cases r with
  | v d' => simp only [Few.val, Option.some.injEq] at e; subst e; exact .rep h
  | n d' =>
    simp only [Few.val, Option.some.injEq] at e; subst e
    cases d' with
    | lst ds => obtain ⟨a, vs, rfl, h1, h2, _⟩ := h; exact .lst h1 h2
    | dct ks ds => obtain ⟨a, vs, rfl, h1, h2, _⟩ := h; exact .dct h1 h2
    | _ => exact h.elim
  | p i => exact m.reads (r := .p i) h e
  | ls ds => exact h.elim
theorem Reps.emp {K : PySem.W.Frag} {ds : List D} {vs : List V} (r : Reps K ρ H ds vs) : ds.isEmpty = vs.isEmpty := by cases r <;> rfl
theorem tru_of {K : PySem.W.Frag} {d : D} {x : V} {b : Bool} (h : Val K ρ H d x) (e : truth d = some b) : TruV K x H b := by
  cases d with
  | non => cases h.non; cases e; rfl
  | bl k => cases h.bl; cases e; rfl
  | int i => cases h.int; cases e; rw [ibeq_iff]; show _ = (i != 0); simp [bne]
  | str t =>
    cases h.str
    change (bif Nat.ble t.length 16777216 then some (!t.isEmpty) else none) = some b at e
    cases hb : Nat.ble t.length 16777216 with
    | false => rw [hb] at e; cases e
    | true =>
      rw [hb] at e
      cases e
      refine ⟨?_, ?_⟩
      · have := Nat.le_of_ble_eq_true hb
        rw [← line_eq]; simpa [PySem.Str.length, txt, line] using this
      · cases t with
        | nil => rfl
        | cons a as =>
          have : ((txt (a :: as)).length : Int) ≠ 0 := by
            have : (txt (a :: as)).length = as.length + 1 := by simp [PySem.Str.length, txt]
            omega
          show true = !((↑(txt (a :: as)).length : Int) == 0)
          rw [show ((↑(txt (a :: as)).length : Int) == 0) = false from beq_eq_false_iff_ne.mpr this]
          rfl
  | tup ds =>
    obtain ⟨a, vs, rfl, h1, r1⟩ := h.tuple
    cases e
    exact .inr (.inl ⟨vs, h1, by rw [r1.emp]⟩)
  | lst ds =>
    obtain ⟨a, vs, rfl, h1, r1⟩ := h.list
    cases e
    exact .inl ⟨vs, h1, by rw [r1.emp]⟩
  | _ => cases e
theorem tru_R {K : PySem.W.Frag} {r : RV} {x : V} {b : Bool} (m : Mat K H0 ρ0 ρ σe ih σ H) (h : RepR K H0 ρ σe σ H r x) (e : truthR σe r = some b) : TruV K x H b := by
  unfold truthR at e
  split at e
  · rename_i d hd
    exact tru_of (h.val m hd) e
  · cases e
theorem t_val {cd : Cd} {ea : Expr} (ok : Cok G k N sc W X) (h : PE X ea (rd G W cd)) (he : ∀ whole, isTrue ea X.env whole = (do let v ← whole; standAt ea.pos; holding [v] (truthy v))) : PT X ea (rt G W cd) := by
  refine ptTo (pt_truth h he) fun σ H Q q => ?_
  obtain ⟨H0, ρ0, ρ, σe, ih, m, q⟩ := q
  refine ⟨H0, ρ0, ρ, σe, ih, m, ?_⟩
  rw [ok.eK]
  cases hc : cd σe ih with
  | st => rw [hc] at q; exact q
  | ex σ' h' x => rw [hc] at q; exact q
  | ok σ' h' r =>
    rw [hc] at q
    obtain ⟨b, hb, q⟩ := q
    exact fun ρ' H' v p a m' r' => ⟨b, tru_R m' r' hb, q ρ' H' p a m'⟩
theorem PostT.mono {Q' : Bool → Hp → Prop} {Q : Bool → Hp → Prop} (f : ∀ v H, Q v H → Q' v H) {o : Out} (q : PostT G W H0 ρ0 ρ σ H Q o) : PostT G W H0 ρ0 ρ σ H Q' o := by
  cases o with
  | st => exact q
  | ex σe ih x => exact q
  | ok σe ih r => obtain ⟨b, hb, q⟩ := q; exact ⟨b, hb, fun ρ2 H2 p2 a2 m2 => f _ _ (q ρ2 H2 p2 a2 m2)⟩
theorem PostT.weak {H' : Hp} {ρ' : List Addr} {Q : Bool → Hp → Prop} {o : Out} (ps : Pers H H') (al : Ahead ρ ρ') (q : PostT G W H0 ρ0 ρ σ H Q o) : PostT G W H0 ρ0 ρ' σ H' Q o := by
  cases o with
  | st => exact q
  | ex σe ih x => exact q
  | ok σe ih r => obtain ⟨b, hb, q⟩ := q; exact ⟨b, hb, fun ρ2 H2 p2 a2 m2 => q ρ2 H2 (ps.trans p2) (al.trans a2) m2⟩
/-- a test, and what its answer leads to -/
theorem rt_bind {cd : Cd} {kk : ES → IH → RV → Out} {Q : Bool → Hp → Prop} {P : Out → Prop} (m : Mat G.K H0 ρ0 ρ σe ih σ H) (q : P ((cd σe ih).bind kk))
    (hst : P .st → False) (hex : ∀ σe ih x, P (.ex σe ih x) → ∀ ρ' H' cls d, Mat G.K H0 ρ0 ρ' σe ih σ H' → Xs G.K G.mg G.xn ρ' H' x cls d → W cls d σ H')
    (hok : ∀ σe' ih' r, P (kk σe' ih' r) → ∃ b, truthR σe' r = some b ∧ ∀ ρ' H', Pers H H' → Ahead ρ ρ' → Mat G.K H0 ρ0 ρ' σe' ih' σ H' → Q b H') : rt G W cd σ H Q := by
  refine ⟨H0, ρ0, ρ, σe, ih, m, ?_⟩
  cases hc : cd σe ih with
  | st => rw [hc] at q; exact hst q
  | ex σ' h' x => rw [hc] at q; exact hex σ' h' x q
  | ok σ' h' r => rw [hc] at q; exact hok σ' h' r q
theorem postE_st {Rl : Hp → List Addr → ES → L2.St → Hp → RV → V → Prop} (q : PostE G W Rl H0 ρ0 ρ σ H Q .st) : False := q
theorem t_not {a : Ev} {ea : Expr} {pos : Pos} (h : PT X ea (rt G W (a c))) : PT X (.UnaryOp .Not ea pos) (rt G W (dNo a c)) := by
  refine ptTo (pt_not h) fun σ H Q q => ?_
  obtain ⟨H0, ρ0, ρ, σe, ih, m, q⟩ := q
  refine rt_bind (P := PostT G W H0 ρ0 ρ σ H Q) m q (fun z => z) (fun _ _ _ z => z) fun σe' ih' r q => ?_
  cases hb : truthR σe' r with
  | none => rw [hb] at q; exact q.elim
  | some b =>
    rw [hb] at q
    obtain ⟨b', e, q⟩ := q
    cases e
    exact ⟨b, rfl, q⟩
theorem t_and1 {a : Cd} {ea : Expr} {pos : Pos} (h : PT X ea (rt G W a)) : PW X (.BoolOp .And [ea] pos) (rt G W a) := pw_and1 h
theorem t_or1 {a : Cd} {ea : Expr} {pos : Pos} (h : PT X ea (rt G W a)) : PW X (.BoolOp .Or [ea] pos) (rt G W a) := pw_or1 h
theorem pwTo {e : Expr} {t t' : TT} (h : PW X e t) (k : ∀ σ H Q, t' σ H Q → t σ H Q) : PW X e t' :=
  ⟨fun whole pins s σ H Q I q => h.run whole pins s σ H Q I (k σ H Q q)⟩
theorem t_and {a b : Ev} {ea eb : Expr} {es : List Expr} {pos : Pos} (ha : PT X ea (rt G W (a c))) (hb : PW X (.BoolOp .And (eb :: es) pos) (rt G W (b c))) : PW X (.BoolOp .And (ea :: eb :: es) pos) (rt G W (dAnd a b c)) := by
  refine pwTo (pw_and ha hb) fun σ H Q q => ?_
  obtain ⟨H0, ρ0, ρ, σe, ih, m, q⟩ := q
  refine rt_bind (P := PostT G W H0 ρ0 ρ σ H Q) m q (fun z => z) (fun _ _ _ z => z) fun σe' ih' r q => ?_
  cases hb : truthR σe' r with
  | none => rw [hb] at q; exact q.elim
  | some k =>
    rw [hb] at q
    refine ⟨k, rfl, fun ρ' H' p al m' => ?_⟩
    cases k with
    | true => exact ⟨H0, ρ0, ρ', σe', ih', m', PostT.weak p al q⟩
    | false =>
      obtain ⟨k, e, q⟩ := q
      rw [hb] at e; cases e
      exact q ρ' H' p al m'
theorem t_or {a b : Ev} {ea eb : Expr} {es : List Expr} {pos : Pos} (ha : PT X ea (rt G W (a c))) (hb : PW X (.BoolOp .Or (eb :: es) pos) (rt G W (b c))) : PW X (.BoolOp .Or (ea :: eb :: es) pos) (rt G W (dOr a b c)) := by
  refine pwTo (pw_or ha hb) fun σ H Q q => ?_
  obtain ⟨H0, ρ0, ρ, σe, ih, m, q⟩ := q
  refine rt_bind (P := PostT G W H0 ρ0 ρ σ H Q) m q (fun z => z) (fun _ _ _ z => z) fun σe' ih' r q => ?_
  cases hb : truthR σe' r with
  | none => rw [hb] at q; exact q.elim
  | some k =>
    rw [hb] at q
    refine ⟨k, rfl, fun ρ' H' p al m' => ?_⟩
    cases k with
    | false => exact ⟨H0, ρ0, ρ', σe', ih', m', PostT.weak p al q⟩
    | true =>
      obtain ⟨k, e, q⟩ := q
      rw [hb] at e; cases e
      exact q ρ' H' p al m'
/-! ### as values -/
/-- a value's truth, and what it leads to -/
theorem rd_bind {cd : Cd} {kk : ES → IH → RV → Out} {Q' : VK} (m : Mat G.K H0 ρ0 ρ σe ih σ H) (q : PostE G W (RlR G) H0 ρ0 ρ σ H Q ((cd σe ih).bind kk))
    (hok : ∀ σe' ih' r ρ' H' v, Pers H H' → Ahead ρ ρ' → Mat G.K H0 ρ0 ρ' σe' ih' σ H' → RepR G.K H0 ρ' σe' σ H' r v → PostE G W (RlR G) H0 ρ0 ρ' σ H' Q (kk σe' ih' r) → Q' v H') : rd G W cd σ H Q' := by
  refine ⟨H0, ρ0, ρ, σe, ih, m, ?_⟩
  cases hc : cd σe ih with
  | st => rw [hc] at q; exact q
  | ex σ' h' x => rw [hc] at q; exact q
  | ok σ' h' r => rw [hc] at q; exact fun ρ' H' v p a m' r' => hok σ' h' r ρ' H' v p a m' r' (PostE.weak p a q)
theorem r_one {op : BoolOp} {a : Cd} {ea : Expr} {pos : Pos} (h : PE X ea (rd G W a)) : PE X (.BoolOp op [ea] pos) (rd G W a) := pe_one h
theorem r_and {a b : Ev} {ea eb : Expr} {es : List Expr} {pos : Pos} (ok : Cok G k N sc W X) (ha : PE X ea (rd G W (a c))) (hb : PE X (.BoolOp .And (eb :: es) pos) (rd G W (b c))) : PE X (.BoolOp .And (ea :: eb :: es) pos) (rd G W (dAnd a b c)) := by
  refine peTo (pe_andT ha hb) fun σ H Q q => ?_
  obtain ⟨H0, ρ0, ρ, σe, ih, m, q⟩ := q
  refine rd_bind m q fun σe' ih' r ρ' H' v p al m' r' q => ?_
  rw [ok.eK]
  cases hb : truthR σe' r with
  | none => simp only [hb] at q; exact q.elim
  | some k =>
    simp only [hb] at q
    refine ⟨k, tru_R m' r' hb, ?_⟩
    cases k with
    | true => exact ⟨H0, ρ0, ρ', σe', ih', m', q⟩
    | false => exact q ρ' H' v (.refl _) (.refl _) m' r'
theorem r_or {a b : Ev} {ea eb : Expr} {es : List Expr} {pos : Pos} (ok : Cok G k N sc W X) (ha : PE X ea (rd G W (a c))) (hb : PE X (.BoolOp .Or (eb :: es) pos) (rd G W (b c))) : PE X (.BoolOp .Or (ea :: eb :: es) pos) (rd G W (dOr a b c)) := by
  refine peTo (pe_orT ha hb) fun σ H Q q => ?_
  obtain ⟨H0, ρ0, ρ, σe, ih, m, q⟩ := q
  refine rd_bind m q fun σe' ih' r ρ' H' v p al m' r' q => ?_
  rw [ok.eK]
  cases hb : truthR σe' r with
  | none => simp only [hb] at q; exact q.elim
  | some k =>
    simp only [hb] at q
    refine ⟨k, tru_R m' r' hb, ?_⟩
    cases k with
    | false => exact ⟨H0, ρ0, ρ', σe', ih', m', q⟩
    | true => exact q ρ' H' v (.refl _) (.refl _) m' r'
theorem r_not {a : Ev} {ea : Expr} {pos : Pos} (ok : Cok G k N sc W X) (ha : PE X ea (rd G W (a c))) : PE X (.UnaryOp .Not ea pos) (rd G W (dNo a c)) := by
  refine peTo (pe_notT ha) fun σ H Q q => ?_
  obtain ⟨H0, ρ0, ρ, σe, ih, m, q⟩ := q
  refine rd_bind m q fun σe' ih' r ρ' H' v p al m' r' q => ?_
  rw [ok.eK]
  cases hb : truthR σe' r with
  | none => simp only [hb] at q; exact q.elim
  | some k =>
    simp only [hb] at q
    exact ⟨k, tru_R m' r' hb, post_v m' (.bl _) q⟩
theorem r_ite {t a b : Ev} {et ea eb : Expr} {pos : Pos} (ht : PT X et (rt G W (t c))) (ha : PE X ea (rd G W (a c))) (hb : PE X eb (rd G W (b c))) : PE X (.IfExp et ea eb pos) (rd G W (dIte t a b c)) := by
  refine peTo (pe_ifExp ht ha hb) fun σ H Q q => ?_
  obtain ⟨H0, ρ0, ρ, σe, ih, m, q⟩ := q
  refine rt_bind (P := PostE G W (RlR G) H0 ρ0 ρ σ H Q) m q (fun z => z) (fun _ _ _ z => z) fun σe' ih' r q => ?_
  cases hb : truthR σe' r with
  | none => rw [hb] at q; exact q.elim
  | some k =>
    rw [hb] at q
    refine ⟨k, rfl, fun ρ' H' p al m' => ?_⟩
    cases k with
    | true => exact ⟨H0, ρ0, ρ', σe', ih', m', PostE.weak p al q⟩
    | false => exact ⟨H0, ρ0, ρ', σe', ih', m', PostE.weak p al q⟩
/-! ### comparisons -/
theorem r_cmp {op : Cop} {a b : Ev} {ea eb : Expr} {pos : Pos} (ok : Cok G k N sc W X) (ha : PE X ea (rd G W (a c))) (hb : PE X eb (rd G W (b c))) (hm : behindInMarks (copOf op) eb = false) : PE X (.Compare ea [copOf op] [eb] pos) (rd G W (dCmp op a b c)) := by
  refine peTo (pe_cmpR (cop_all ok.u110 op) (settle ha) (settle hb) hm) fun σ H Q q => ?_
  obtain ⟨H0, ρ0, ρ, σe, ih, m, q⟩ := q
  refine two' m q fun x y H2 t => ?_
  obtain ⟨H0, ρ0, ρ2, σe2, ih2, r1, r2, m2, s1, s2, q⟩ := t
  rw [ok.eK]
  cases e1 : Few.val σe2 r1 with
  | none => simp only [e1] at q; exact q.elim
  | some d1 =>
    cases e2 : Few.val σe2 r2 with
    | none => simp only [e1, e2] at q; exact q.elim
    | some d2 =>
      simp only [e1, e2] at q
      cases e3 : cmpD op d1 d2 with
      | none => simp only [e3, optB] at q; exact q.elim
      | some b =>
        simp only [e3, optB] at q
        exact cmp_ok (m2.reads s1 e1) (m2.reads s2 e2) e3 (post_v m2 (.bl b) q)
theorem t_cmp {op : Cop} {a b : Ev} {ea eb : Expr} {pos : Pos} (ok : Cok G k N sc W X) (ha : PE X ea (rd G W (a c))) (hb : PE X eb (rd G W (b c))) (hm : behindInMarks (copOf op) eb = false) : PT X (.Compare ea [copOf op] [eb] pos) (rt G W (dCmp op a b c)) := by
  refine ptTo (pt_cmpR (cop_all ok.u110 op) (settle ha) (settle hb) hm) fun σ H Q q => ?_
  obtain ⟨H0, ρ0, ρ, σe, ih, m, q⟩ := q
  have q' : PostE G W (RlR G) H0 ρ0 ρ σ H (fun x H' => ∃ k, x = .bl k ∧ Q k H') (dCmp op a b c σe ih) := by
    have hv : ∀ σ' h' r, dCmp op a b c σe ih = .ok σ' h' r → ∃ k, r = .v (.bl k) := by
      intro σ' h' r e
      unfold dCmp d2 at e
      cases h1 : a c σe ih with
      | st => rw [h1] at e; cases e
      | ex _ _ _ => rw [h1] at e; cases e
      | ok s1 i1 r1 =>
        simp only [h1, Out.bind] at e
        cases h2 : b c s1 i1 with
        | st => rw [h2] at e; cases e
        | ex _ _ _ => rw [h2] at e; cases e
        | ok s2 i2 r2 =>
          simp only [h2] at e
          split at e
          · unfold optB at e
            split at e
            · cases e; exact ⟨_, rfl⟩
            · cases e
          · cases e
    cases hc : dCmp op a b c σe ih with
    | st => rw [hc] at q; exact q
    | ex σ' h' x => rw [hc] at q; exact q
    | ok σ' h' r =>
      rw [hc] at q
      obtain ⟨k, rfl⟩ := hv _ _ _ hc
      obtain ⟨b, e, q⟩ := q
      cases e
      intro ρ' H' v p al m' r'
      have r' : Rep G.K ρ' H' (.bl k) v := r'
      cases r'
      exact ⟨k, rfl, q ρ' H' p al m'⟩
  refine two' m q' fun x y H2 t => ?_
  obtain ⟨H0, ρ0, ρ2, σe2, ih2, r1, r2, m2, s1, s2, q⟩ := t
  rw [ok.eK]
  cases e1 : Few.val σe2 r1 with
  | none => simp only [e1] at q; exact q.elim
  | some d1 =>
    cases e2 : Few.val σe2 r2 with
    | none => simp only [e1, e2] at q; exact q.elim
    | some d2 =>
      simp only [e1, e2] at q
      cases e3 : cmpD op d1 d2 with
      | none => simp only [e3, optB] at q; exact q.elim
      | some b =>
        simp only [e3, optB] at q
        exact cmp_ok (m2.reads s1 e1) (m2.reads s2 e2) e3 (post_v m2 (.bl b) q)
/-! ### a op b op c -/
theorem RepS.frz {K : PySem.W.Frag} {r : RV} {v : V} {d : D} (h : RepS K ρ σ H r v) (e : frozen r = some d) : Rep K ρ H d v := by
  cases r with
  | v d' => cases e; exact h
  | n d' => cases e; exact h
  | _ => cases e
theorem chain_ok {o1 o2 : Cop} {e : Ev} {x y : V} {H2 : Hp} (ok : Cok G k N sc W X)
    (t : Two G W (RlR G) (fun σ h x y => match frozen x, frozen y with
      | some x, some y => (match cmpD o1 x y with
        | some true => (e c σ h).bind fun σ h z => (match Few.val σ z with
          | some z => optB σ h (cmpD o2 y z)
          | none => .st)
        | some false => .ok σ h (.v (.bl false))
        | none => .st)
      | _, _ => .st) σ Q x y H2) :
    RCop X.K o1 x y H2 fun z H3 => ∃ k, z = .bl k ∧ (if k = true then rs G W (e c) σ H3 fun w' H4 => RCop X.K o2 y w' H4 Q else Q (.bl false) H3) := by
  obtain ⟨H0, ρ0, ρ2, σe2, ih2, r1, r2, m2, s1, s2, q⟩ := t
  rw [ok.eK]
  cases e1 : frozen r1 with
  | none => simp only [e1] at q; exact q.elim
  | some d1 =>
    cases e2 : frozen r2 with
    | none => simp only [e1, e2] at q; exact q.elim
    | some d2 =>
      simp only [e1, e2] at q
      cases e3 : cmpD o1 d1 d2 with
      | none => simp only [e3] at q; exact q.elim
      | some b =>
        refine cmp_ok (.rep (s1.frz e1)) (.rep (s2.frz e2)) e3 ⟨b, rfl, ?_⟩
        cases b with
        | false => simp only [e3] at q; exact post_v m2 (.bl false) q
        | true =>
          simp only [e3] at q
          refine oneP m2 q fun z H4 ρ3 σe3 ih3 r3 ps al m3 s3 q => ?_
          cases e4 : Few.val σe3 r3 with
          | none => simp only [e4] at q; exact q.elim
          | some d3 =>
            simp only [e4] at q
            cases e5 : cmpD o2 d2 d3 with
            | none => simp only [e5, optB] at q; exact q.elim
            | some b =>
              simp only [e5, optB] at q
              exact cmp_ok (.rep ((s2.frz e2).keep ps al)) (m3.reads s3 e4) e5 (post_v m3 (.bl b) q)
theorem r_cmp2 {o1 o2 : Cop} {a b e : Ev} {ea eb ec : Expr} {pos : Pos} (ok : Cok G k N sc W X) (ha : PE X ea (rd G W (a c))) (hb : PE X eb (rd G W (b c))) (hc : PE X ec (rd G W (e c)))
    (hm : lastMarks [copOf o1, copOf o2] [eb, ec] = false) : PE X (.Compare ea [copOf o1, copOf o2] [eb, ec] pos) (rd G W (dCmp2 o1 o2 a b e c)) := by
  refine peTo (pe_chain (cop_all ok.u110 o1) (cop_all ok.u110 o2) (settle ha) (settle hb) (settle hc) hm) fun σ H Q q => ?_
  obtain ⟨H0, ρ0, ρ, σe, ih, m, q⟩ := q
  exact two' m q fun x y H2 t => chain_ok ok t
theorem bool_cmp2 {o1 o2 : Cop} {a b e : Ev} {σ' : ES} {h' : IH} {r : RV} (h : dCmp2 o1 o2 a b e c σe ih = .ok σ' h' r) : ∃ k, r = .v (.bl k) := by
  unfold dCmp2 d2 at h
  cases h1 : a c σe ih with
  | st => rw [h1] at h; cases h
  | ex _ _ _ => rw [h1] at h; cases h
  | ok s1 i1 r1 =>
    simp only [h1, Out.bind] at h
    cases h2 : b c s1 i1 with
    | st => rw [h2] at h; cases h
    | ex _ _ _ => rw [h2] at h; cases h
    | ok s2 i2 r2 =>
      simp only [h2] at h
      split at h
      · split at h
        · cases h3 : e c s2 i2 with
          | st => rw [h3] at h; cases h
          | ex _ _ _ => rw [h3] at h; cases h
          | ok s3 i3 r3 =>
            simp only [h3] at h
            split at h
            · unfold optB at h
              split at h
              · cases h; exact ⟨_, rfl⟩
              · cases h
            · cases h
        · cases h; exact ⟨_, rfl⟩
        · cases h
      · cases h
/-- a bool's reading as a test -/
theorem bool_test {cd : Cd} {Q : Bool → Hp → Prop} (hv : ∀ σ' h' r, cd σe ih = .ok σ' h' r → ∃ k, r = .v (.bl k)) (q : PostT G W H0 ρ0 ρ σ H Q (cd σe ih)) :
    PostE G W (RlR G) H0 ρ0 ρ σ H (fun x H' => ∃ k, x = .bl k ∧ Q k H') (cd σe ih) := by
  cases hc : cd σe ih with
  | st => rw [hc] at q; exact q
  | ex σ' h' x => rw [hc] at q; exact q
  | ok σ' h' r =>
    rw [hc] at q
    obtain ⟨k, rfl⟩ := hv _ _ _ hc
    obtain ⟨b, e, q⟩ := q
    cases e
    intro ρ' H' v p al m' r'
    have r' : Rep G.K ρ' H' (.bl k) v := r'
    cases r'
    exact ⟨k, rfl, q ρ' H' p al m'⟩
theorem t_cmp2 {o1 o2 : Cop} {a b e : Ev} {ea eb ec : Expr} {pos : Pos} (ok : Cok G k N sc W X) (ha : PE X ea (rd G W (a c))) (hb : PE X eb (rd G W (b c))) (hc : PE X ec (rd G W (e c)))
    (hm : lastMarks [copOf o1, copOf o2] [eb, ec] = false) : PT X (.Compare ea [copOf o1, copOf o2] [eb, ec] pos) (rt G W (dCmp2 o1 o2 a b e c)) := by
  refine ptTo (pt_chain (cop_all ok.u110 o1) (cop_all ok.u110 o2) (settle ha) (settle hb) (settle hc) hm) fun σ H Q q => ?_
  obtain ⟨H0, ρ0, ρ, σe, ih, m, q⟩ := q
  exact two' m (bool_test (fun _ _ _ h => bool_cmp2 h) q) fun x y H2 t => chain_ok ok t
end
end Few
set_option Elab.async false
set_option linter.all false
set_option maxRecDepth 100000
set_option maxHeartbeats 4000000
namespace Few
open PySem PySem.Spec PyProof.Rows L2
section
variable {G : Gd} {k : Nat} {N : List PySem.Str} {sc : Scope} {W : WX} {X : Cx} {c : Call}
variable {H0 H : Hp} {ρ0 ρ : List Addr} {σe : ES} {ih : IH} {σ : L2.St} {Q : VK}
/-! ### lists of arguments -/
theorem PostA.weak {H' : Hp} {ρ' : List Addr} {Q : List V → Hp → Prop} {o : Out} (ps : Pers H H') (al : Ahead ρ ρ') (q : PostA G W H0 ρ0 ρ σ H Q o) : PostA G W H0 ρ0 ρ' σ H' Q o := by
  cases o with
  | st => exact q
  | ex σe ih x => exact q
  | ok σe ih r =>
    cases r with
    | ls ds => exact fun ρ2 H2 v p2 a2 m2 r2 => q ρ2 H2 v (ps.trans p2) (al.trans a2) m2 r2
    | _ => exact q
theorem a_nil : PA X [] (ra G W (dNil c)) := paTo pa_nil fun σ H Q ⟨H0, ρ0, ρ, σe, ih, m, q⟩ => q ρ H [] (.refl _) (.refl _) m .nil
/-- items ahead -/
theorem ra_ahead {a r : Ev} {pre : RV → Option (List D)} {Q : List V → Hp → Prop} {P : V → Hp → Prop} (m : Mat G.K H0 ρ0 ρ σe ih σ H) (q : PostA G W H0 ρ0 ρ σ H Q (dAhead pre a r c σe ih))
    (f : ∀ x H1 ρ1 σ1 h1 r1 ds, Mat G.K H0 ρ0 ρ1 σ1 h1 σ H1 → RepS G.K ρ1 σ H1 r1 x → pre r1 = some ds →
      (∀ vs : List V, Reps G.K ρ1 H1 ds vs → ra G W (r c) σ H1 fun ws H2 => Q (vs ++ ws) H2) → P x H1) : rs G W (a c) σ H P := by
  refine ⟨H0, ρ0, ρ, σe, ih, m, ?_⟩
  unfold dAhead Out.bind at q
  cases ha : a c σe ih with
  | st => rw [ha] at q; exact q
  | ex σ' h' x => rw [ha] at q; exact q
  | ok σ1 h1 r1 =>
    simp only [ha] at q
    intro ρ1 H1 x p1 a1 m1 s1
    cases e1 : pre r1 with
    | none => simp only [e1] at q; exact q.elim
    | some ds =>
      simp only [e1] at q
      refine f x H1 ρ1 σ1 h1 r1 ds m1 s1 e1 fun vs rr => ⟨H0, ρ0, ρ1, σ1, h1, m1, ?_⟩
      have q' := PostA.weak p1 a1 q
      cases hb : r c σ1 h1 with
      | st => rw [hb] at q'; exact q'
      | ex σ' h' x => rw [hb] at q'; exact q'
      | ok σ2 h2 r2 =>
        rw [hb] at q'
        cases r2 with
        | ls es => exact fun ρ2 H2 ws p2 a2 m2 r2 => q' ρ2 H2 (vs ++ ws) p2 a2 m2 ((rr.keep p2 a2).append r2)
        | _ => exact q'
theorem a_cons {a r : Ev} {e : Expr} {es : List Expr} (ha : PE X e (rd G W (a c))) (hr : PA X es (ra G W (r c))) (hs : starEach (e :: es) X.env = (false, eval e X.env) :: starEach es X.env) : PA X (e :: es) (ra G W (dCons a r c)) := by
  refine paTo (pa_cons (settle ha) hr hs) fun σ H Q q => ?_
  obtain ⟨H0, ρ0, ρ, σe, ih, m, q⟩ := q
  refine ra_ahead m q fun x H1 ρ1 σ1 h1 r1 ds m1 s1 e1 g => ?_
  unfold pre1 at e1
  split at e1
  · rename_i d hd
    cases e1
    exact g [x] (.cons (s1.frz hd) .nil)
  · cases e1
theorem a_star {a r : Ev} {e : Expr} {es : List Expr} {p : Pos} (ok : Cok G k N sc W X) (ha : PE X e (rd G W (a c))) (hr : PA X es (ra G W (r c))) (hs : starEach (.Starred e p :: es) X.env = (true, eval e X.env) :: starEach es X.env) : PA X (.Starred e p :: es) (ra G W (dStar a r c)) := by
  refine paTo (StX.pa_star (settle ha) hr hs) fun σ H Q q => ?_
  obtain ⟨H0, ρ0, ρ, σe, ih, m, q⟩ := q
  refine ra_ahead m q fun x H1 ρ1 σ1 h1 r1 ds m1 s1 e1 g => ?_
  rw [ok.eK]
  unfold preS at e1
  split at e1
  · rename_i d hd
    cases e1
    obtain ⟨a, vs, rfl, l, rr⟩ := (Val.rep (s1.frz hd)).list
    exact ⟨a, vs, rfl, .inr l, g vs rr⟩
  · rename_i d hd
    cases e1
    obtain ⟨a, vs, rfl, l, rr⟩ := (Val.rep (s1.frz hd)).tuple
    exact ⟨a, vs, rfl, .inl l, g vs rr⟩
  · cases e1
/-- a list of arguments, and what is made of it -/
theorem ra_bind {a : Ev} {kk : ES → IH → RV → Out} {Rl : Hp → List Addr → ES → L2.St → Hp → RV → V → Prop} {R : List V → Hp → Prop} (m : Mat G.K H0 ρ0 ρ σe ih σ H) (q : PostE G W Rl H0 ρ0 ρ σ H Q ((a c σe ih).bind kk))
    (hls : ∀ σ' h' r, PostE G W Rl H0 ρ0 ρ σ H Q (kk σ' h' r) → ∃ ds, r = .ls ds)
    (f : ∀ vs ds H1 ρ1 σ1 h1, Pers H H1 → Ahead ρ ρ1 → Mat G.K H0 ρ0 ρ1 σ1 h1 σ H1 → Reps G.K ρ1 H1 ds vs → PostE G W Rl H0 ρ0 ρ1 σ H1 Q (kk σ1 h1 (.ls ds)) → R vs H1) : ra G W (a c) σ H R := by
  refine ⟨H0, ρ0, ρ, σe, ih, m, ?_⟩
  unfold Out.bind at q
  cases ha : a c σe ih with
  | st => rw [ha] at q; exact q
  | ex σ' h' x => rw [ha] at q; exact q
  | ok σ1 h1 r1 =>
    rw [ha] at q
    obtain ⟨ds, rfl⟩ := hls _ _ _ q
    exact fun ρ1 H1 vs p1 a1 m1 rr => f vs ds H1 ρ1 σ1 h1 p1 a1 m1 rr (PostE.weak p1 a1 q)
theorem r_tup {a : Ev} {es : List Expr} {x1 : Nat} {pos : Pos} (h : PA X es (ra G W (a c))) : PE X (.Tuple es x1 pos) (rd G W (dTup a c)) := by
  refine peTo (pe_tup h) fun σ H Q q => ?_
  obtain ⟨H0, ρ0, ρ, σe, ih, m, q⟩ := q
  refine ra_bind m q (fun σ' h' r q => ?_) fun vs ds H1 ρ1 σ1 h1 p1 a1 m1 rr q => ?_
  · cases r with
    | ls ds => exact ⟨ds, rfl⟩
    | _ => exact q.elim
  · cases hf : fits ds with
    | false => simp only [hf] at q; exact q.elim
    | true =>
      simp only [hf] at q
      exact ⟨by rw [← rr.length]; exact fits_of hf, fun p np => post_tup m1 rr np q⟩
theorem r_lst {a : Ev} {es : List Expr} {pos : Pos} (h : PA X es (ra G W (a c))) : PE X (.List es pos) (rd G W (dLst a c)) := by
  refine peTo (pe_lst h) fun σ H Q q => ?_
  obtain ⟨H0, ρ0, ρ, σe, ih, m, q⟩ := q
  refine ra_bind m q (fun σ' h' r q => ?_) fun vs ds H1 ρ1 σ1 h1 p1 a1 m1 rr q => ?_
  · cases r with
    | ls ds => exact ⟨ds, rfl⟩
    | _ => exact q.elim
  · cases hf : fits ds with
    | false => simp only [hf] at q; exact q.elim
    | true =>
      simp only [hf] at q
      exact ⟨by rw [← rr.length]; exact fits_of hf, fun p np => post_lst m1 rr np q⟩

/-! ### subscripts -/
/-- a result, or the cell behind it -/
theorem Mat.readsH {K : PySem.W.Frag} {r : RV} {v : V} {d : D} (m : Mat K H0 ρ0 ρ σe ih σ H) (h : RepS K ρ σ H r v) (e : valH σe ih r = some d) : Val K ρ H d v := by
  unfold valH at e
  cases hv : Few.val σe r with
  | none => rw [hv] at e; cases e
  | some d' =>
    rw [hv] at e
    cases e
    have hd := m.reads h hv
    unfold deref
    split
    · rename_i n
      cases hd with
      | rep hr =>
        cases hr with
        | obj e1 =>
          split
          · rename_i xs hc
            obtain ⟨vs, h1, h2⟩ := m.cells.cell n _ _ hc e1
            exact .lst h1 h2
          · rename_i ks ds hc
            obtain ⟨vs, h1, h2⟩ := m.cells.cell n _ _ hc e1
            exact .dct h1 h2
          · exact .rep (.obj e1)
    · exact hd
theorem ix_of {α : Type} {vs : List α} {i : Int} {j n : Nat} (h : ixOf i n = some j) (hn : vs.length = n) {v : α} (e : vs[j]? = some v) : atI vs i = some v := by
  subst hn
  cases i with
  | ofNat q =>
    simp only [ixOf] at h
    cases hb : Nat.blt q vs.length with
    | false => rw [hb] at h; cases h
    | true =>
      rw [hb] at h
      cases h
      exact atI_nat e
  | negSucc q =>
    simp only [ixOf] at h
    cases hb : Nat.blt q vs.length with
    | false => rw [hb] at h; cases h
    | true =>
      rw [hb] at h
      cases h
      have hq : q < vs.length := by simpa [Nat.blt_eq] using hb
      unfold atI ixN
      have e1 := Int.negSucc_eq q
      rw [if_neg (by omega), if_pos (by omega), show (Int.negSucc q + (vs.length : Int)).toNat = vs.length - (q + 1) by omega]
      exact e
/-- a key's value -/
theorem key_get {K : PySem.W.Frag} {x : D} {κ : Key} (hx : keyOf x = some κ) : ∀ {ks ds : List D} {kvs : List (Key × V)} {d : D}, KReps K ρ H ks ds kvs → lookD x ks ds = some (some d) → ∃ v, valV kvs κ = some v ∧ Rep K ρ H d v
  | _, _, _, d, .nil, e => by simp [lookD] at e
  | _, _, _, d, .cons (κ := κa) (v := v) (kvs := kvs) e1 h1 r1, e => by
    simp only [lookD, key_eq e1 hx] at e
    by_cases z : κa = κ
    · simp only [z, decide_true] at e
      cases e
      exact ⟨v, by simp [valV, z], h1⟩
    · simp only [z, decide_false] at e
      obtain ⟨w, h2, h3⟩ := key_get hx r1 e
      exact ⟨w, by simp [valV, z] at h2 ⊢; exact h2, h3⟩
def rIxK : R2 := fun x y H Q => ∃ a kvs κ v, x = .ref a ∧ y = kV κ ∧ Rd H a (.dK kvs) ∧ valV kvs κ = some v ∧ Q v H
theorem ix_dk (hu : X.A.units + 1 < cLine) : IxR X rIxK := by
  intro value slice pins s σ H x y v u Q I rx ry h hs
  obtain ⟨a, kvs, κ, z, rfl, rfl, h1, l, q⟩ := h
  cases rx
  have g : DGet H a (kV κ) (some z) := .inl ⟨kvs, κ, h1, rfl, l.symm⟩
  have hT := dict_typeIs I g
  unfold subscriptTail
  refine wpAny_bind ?_
  rw [getitemInPython_of_ne hT.not_modules]
  refine wpAny_bind (wpAny_specialOf hT PySem.F.slot_dict_getitem.lookup ?_)
  have fin : wpAny (model X.prog X.w) X.A (subscripted slice false (.ref a) u) (fun r s₃ => wpAny (model X.prog X.w) X.A (letTemporaryGo value (.ref a) r >>= fun _ => pure r) (EP X pins σ Q) X.xe s₃) X.xe s := by
    rw [hs]
    exact wpAny_operating (d_getItem hu I g ry fun w' s3 I3 rw' => wpAny_bind (wpAny_letTemporaryGo (wpAny_pure ⟨z, H, I3, rw', q⟩)))
  first
    | exact wpAny_pure (wpAny_bind fin)
    | exact wpAny_bind (wpAny_pure (wpAny_bind fin))
    | exact wpAny_bind fin
theorem r_sub {a b : Ev} {ea eb : Expr} {pos : Pos} (ok : Cok G k N sc W X) (ha : PE X ea (rd G W (a c))) (hb : PE X eb (rd G W (b c))) (hs : PlainIx eb) : PE X (.Subscript ea eb pos) (rd G W (dSub a b c)) := by
  refine peTo (pe_ix (IxR.or ix_list (IxR.or ix_tup (ix_dk (by have := ok.u110; omega)))) (settle ha) (settle hb) hs) fun σ H Q q => ?_
  obtain ⟨H0, ρ0, ρ, σe, ih, m, q⟩ := q
  refine two' m q fun x y H2 t => ?_
  obtain ⟨H0, ρ0, ρ2, σe2, ih2, r1, r2, m2, s1, s2, q⟩ := t
  rw [ok.eK]
  cases e1 : valH σe2 ih2 r1 with
  | none => simp only [e1] at q; exact q.elim
  | some d1 =>
    cases e2 : Few.val σe2 r2 with
    | none => simp only [e1, e2] at q; exact q.elim
    | some d2 =>
      simp only [e1, e2] at q
      have v1 := m2.readsH s1 e1
      have v2 := m2.reads s2 e2
      cases e3 : subD d1 d2 with
      | none => simp only [e3] at q; exact q.elim
      | some d =>
        simp only [e3] at q
        unfold subD at e3
        split at e3
        · obtain ⟨p, vs, rfl, l, rr⟩ := v1.list
          cases v2.int
          split at e3
          · rename_i i j hj
            obtain ⟨v, h1, h2⟩ := rr.get e3
            exact .inl ⟨p, vs, _, v, rfl, rfl, l, ix_of hj rr.length.symm h1, post_v m2 h2 q⟩
          · cases e3
        · obtain ⟨p, vs, rfl, l, rr⟩ := v1.tuple
          cases v2.int
          split at e3
          · rename_i i j hj
            obtain ⟨v, h1, h2⟩ := rr.get e3
            exact .inr (.inl ⟨p, vs, _, v, rfl, rfl, l, ix_of hj rr.length.symm h1, post_v m2 h2 q⟩)
          · cases e3
        · obtain ⟨p, kvs, rfl, l, rr⟩ := v1.dict
          cases hk : okKey d2 with
          | false => rw [hk] at e3; cases e3
          | true =>
            rw [hk] at e3
            obtain ⟨κ, hκ⟩ := okKey_of hk
            split at e3
            · rename_i v' hl
              cases e3
              obtain ⟨v, h1, h2⟩ := key_get hκ rr (by assumption)
              exact .inr (.inr ⟨p, kvs, κ, v, rfl, key_val' hκ v2, l, h1, post_v m2 h2 q⟩)
            · cases e3
        · cases e3
/-! ### slices -/
/-- a slice's part -/
inductive Part (X : Cx) (G : Gd) (W : WX) (c : Call) : Option Expr → Ev → Prop
  | non : Part X G W c none (dCon .non)
  | som {e : Expr} {a : Ev} : PE X e (rd G W (a c)) → Part X G W c (some e) a
def ro (G : Gd) (W : WX) (c : Cd) : TO := fun σ H Q => rs G W c σ H fun x H1 => (x = .non ∧ Q none H1) ∨ ∃ i, x = .int i ∧ Q (some i) H1
theorem po_all {eo : Option Expr} {a : Ev} (h : Part X G W c eo a) : PO X eo (ro G W (a c)) := by
  cases h with
  | non =>
    refine ⟨fun pins s σ H Q I q => ?_⟩
    obtain ⟨H0, ρ0, ρ, σe, ih, m, q⟩ := q
    rw [evalPart_none]
    rcases q ρ H .non (.refl _) (.refl _) m .non with ⟨_, q⟩ | ⟨i, e, q⟩
    · exact wpAny_pure ⟨none, H, I, .none, q⟩
    · cases e
  | som h =>
    refine ⟨fun pins s σ H Q I q => ?_⟩
    rw [evalPart_some]
    refine thn ((settle h).run pins s σ H _ I q) fun u s1 ⟨x, H1, I1, r1, q1⟩ => ?_
    rcases q1 with ⟨rfl, q⟩ | ⟨i, rfl, q⟩
    · cases r1
      exact ⟨none, H1, I1, .none, q⟩
    · obtain ⟨t, rfl⟩ := r1
      exact ⟨some i, H1, I1, .int i t, q⟩
theorem clamp_ix (n : Nat) (o : Option Int) (d : Nat) : bnd n d o = HT.sIx n d o := by
  cases o with
  | none => rfl
  | some i =>
    show clampI i n = if i < 0 then (i + (n : Int)).toNat else min i.toNat n
    cases i with
    | ofNat q =>
      have e : Int.ofNat q = (q : Int) := rfl
      rw [if_neg (by omega)]
      simp only [clampI]
      show (bif Nat.blt q n then q else n) = min q n
      cases hb : Nat.blt q n with
      | true => have : q < n := by simpa [Nat.blt_eq] using hb
                simp only [cond_true]; omega
      | false => have : ¬ q < n := fun z => by rw [show Nat.blt q n = true by simpa [Nat.blt_eq] using z] at hb; cases hb
                 simp only [cond_false]; omega
    | negSucc q =>
      have e := Int.negSucc_eq q
      rw [if_pos (by omega)]
      simp only [clampI]
      omega
theorem cut_ok {K : PySem.W.Frag} {ds : List D} {vs : List V} {lo hi : Option Int} (r : Reps K ρ H ds vs) : Reps K ρ H (cutL ds lo hi) (cutV vs lo hi) := by
  unfold cutL cutV
  rw [clamp_ix, clamp_ix, ← r.length]
  exact (r.drop _).take _
theorem slc_ok {d : D} {x : V} {lo hi : Option Int} {r : RV} (m : Mat G.K H0 ρ0 ρ σe ih σ H) (hx : Val G.K ρ H d x) (e : slcD d lo hi = some r) (q : PostE G W (RlR G) H0 ρ0 ρ σ H Q (.ok σe ih r)) :
    rSlL G.K x lo hi H Q ∨ (rSlA G.K x lo hi H Q ∨ rSlS x lo hi H Q) := by
  unfold slcD at e
  split at e
  · obtain ⟨a, vs, rfl, l, rr⟩ := hx.list
    cases e
    exact .inl ⟨a, vs, rfl, l, fun p np => post_lst m (cut_ok rr) np q⟩
  · obtain ⟨a, vs, rfl, l, rr⟩ := hx.tuple
    cases e
    refine .inr (.inl ⟨a, vs, rfl, l, fun ⟨h1, h2⟩ => ?_, fun _ p np => post_tup m (cut_ok rr) np q⟩)
    have h3 := cut_ok (lo := lo) (hi := hi) rr
    have e1 : cutV vs lo hi = vs := by unfold cutV; rw [h1, h2]; simp
    rw [e1] at h3
    exact post_v m (.tup l h3) q
  · rename_i z
    cases hx.str
    cases hf : fits z with
    | false => rw [hf] at e; cases e
    | true =>
      rw [hf] at e
      cases e
      refine .inr (.inr ⟨txt z, rfl, ?_, ?_⟩)
      · have := fits_of hf
        simpa [PySem.Str.length, txt] using this
      · have := post_v m (.str (cutL z lo hi)) q
        rw [show cutS (txt z) lo hi = txt (cutL z lo hi) by
          unfold cutS cutL
          rw [clamp_ix, clamp_ix]
          simp [PySem.Str.length, txt]]
        exact this
  · cases e
theorem part_int {r : RV} {o : Option Int} {v : V} {K : PySem.W.Frag} (s : RepS K ρ σ H r v) (h : partO r = some o) : (v = .non ∧ o = none) ∨ ∃ i, v = .int i ∧ o = some i := by
  unfold partO at h
  split at h
  · rename_i d hd
    have v1 := s.frz hd
    cases d with
    | non => cases h; cases v1; exact .inl ⟨rfl, rfl⟩
    | int i => cases h; cases v1; exact .inr ⟨i, rfl, rfl⟩
    | _ => cases h
  · cases h
theorem r_slc {a lo hi : Ev} {ea : Expr} {el eh : Option Expr} {p2 pos : Pos} (ok : Cok G k N sc W X) (ha : PE X ea (rd G W (a c))) (hl : Part X G W c el lo) (hh : Part X G W c eh hi) :
    PE X (.Subscript ea (.Slice el eh none p2) pos) (rd G W (dSlc a lo hi c)) := by
  refine peTo (pe_slice (SlR.or sl_list (SlR.or sl_tupA sl_str)) (settle ha) (po_all hl) (po_all hh)) fun σ H Q q => ?_
  obtain ⟨H0, ρ0, ρ, σe, ih, m, q⟩ := q
  refine oneP m q fun x H1 ρ1 σ1 h1 r1 p1 a1 m1 s1 q => ?_
  show rs G W (lo c) σ H1 _
  refine oneP m1 q fun y H2 ρ2 σ2 h2 r2 p2 a2 m2 s2 q => ?_
  cases ho : partO r2 with
  | none => simp only [ho] at q; exact q.elim
  | some l =>
    simp only [ho] at q
    have go : ro G W (hi c) σ H2 fun u H3 => rSlL X.K x l u H3 Q ∨ (rSlA X.K x l u H3 Q ∨ rSlS x l u H3 Q) := by
      show rs G W (hi c) σ H2 _
      refine oneP m2 q fun z H3 ρ3 σ3 h3 r3 p3 a3 m3 s3 q => ?_
      rw [ok.eK]
      cases hu : partO r3 with
      | none => simp only [hu] at q; exact q.elim
      | some u =>
        simp only [hu] at q
        cases e1 : valH σ3 h3 r1 with
        | none => simp only [e1] at q; exact q.elim
        | some d =>
          simp only [e1] at q
          cases e4 : slcD d l u with
          | none => simp only [e4, opt] at q; exact q.elim
          | some r =>
            simp only [e4, opt] at q
            have z := slc_ok m3 (m3.readsH ((s1.keep p2 a2).keep p3 a3) e1) e4 q
            rcases part_int s3 hu with ⟨rfl, rfl⟩ | ⟨i, rfl, rfl⟩
            · exact .inl ⟨rfl, z⟩
            · exact .inr ⟨i, rfl, z⟩
    rcases part_int s2 ho with ⟨rfl, rfl⟩ | ⟨i, rfl, rfl⟩
    · exact .inl ⟨rfl, go⟩
    · exact .inr ⟨i, rfl, go⟩
theorem r_rev {a : Ev} {ea : Expr} {j : Nat} {p1 p2 p3 pos : Pos} (ok : Cok G k N sc W X) (ha : PE X ea (rd G W (a c))) : PE X (.Subscript ea (.Slice none none (some (.UnaryOp .USub (.Constant (.int 1) j p1) p2)) p3) pos) (rd G W (dRev a c)) := by
  refine peTo (pe_revL (settle ha)) fun σ H Q q => ?_
  obtain ⟨H0, ρ0, ρ, σe, ih, m, q⟩ := q
  refine oneP m q fun x H1 ρ1 σ1 h1 r1 p1 a1 m1 s1 q => ?_
  rw [ok.eK]
  cases e1 : valH σ1 h1 r1 with
  | none => simp only [e1] at q; exact q.elim
  | some d =>
    have v := m1.readsH s1 e1
    cases d with
    | lst ds =>
      simp only [e1] at q
      obtain ⟨a, vs, rfl, l, rr⟩ := v.list
      exact ⟨a, vs, rfl, l, fun p np => post_lst m1 rr.reverse np q⟩
    | _ => simp only [e1] at q; exact q.elim
end
end Few
set_option Elab.async false
set_option linter.all false
set_option maxRecDepth 100000
set_option maxHeartbeats 4000000
namespace Few
open PySem PySem.Spec PyProof.Rows L2
/-! ### what a def promises -/
/-- a result that leaves a def -/
def RepC (K : PySem.W.Frag) (H : Hp) (ρ' : List Addr) (H' : Hp) : RV → V → Prop
  | .v d, v => Rep K ρ' H' d v
  | .n (.lst ds), v => ∃ a vs, v = .ref a ∧ H' a = some (.lst vs) ∧ Reps K ρ' H' ds vs ∧ a ∉ ρ' ∧ H a = none
  | .n (.dct ks ds), v => ∃ a kvs, v = .ref a ∧ H' a = some (.dK kvs) ∧ KReps K ρ' H' ks ds kvs ∧ a ∉ ρ' ∧ H a = none
  | _, _ => False
def PostC (G : Gd) (ρ : List Addr) (H : Hp) (Q : VK) (E : XK) : OutC → Prop
  | .st => False
  | .ok ih r => ∀ ρ' H' v, Pers H H' → Kept ρ H ρ' H' → Cells G.K ρ' ih H' → RepC G.K H ρ' H' r v → Q v H'
  | .ex ih x => ∀ ρ' H' cls d, Pers H H' → Kept ρ H ρ' H' → Cells G.K ρ' ih H' → Xs G.K G.mg G.xn ρ' H' x cls d → E cls d H'
def spOf (G : Gd) (np : Nat) (cl : List D → IH → OutC) : Sp := fun vs H Q E => vs.length = np ∧ ∃ ρ ds ih, Cells G.K ρ ih H ∧ Reps G.K ρ H ds vs ∧ PostC G ρ H Q E (cl ds ih)
/-- a def of the table -/
structure Dsc where
  f : Addr
  fd : FuncData
  ps : List PySem.Str
structure AllF (G : Gd) (k : Nat) (c : Call) (dsc : Nat → Option Dsc) : Prop where
  fn : ∀ i d, dsc i = some d → FnOk G.P G.w G.K G.mg G.base (L2.CX G.P G.w) k d.f d.fd d.ps (spOf G d.ps.length (c i))
  len : ∀ i d ds ih, dsc i = some d → ds.length ≠ d.ps.length → c i ds ih = .st
section
variable {G : Gd} {k : Nat} {N : List PySem.Str} {sc : Scope} {W : WX} {X : Cx} {c : Call}
variable {H0 H H' : Hp} {ρ0 ρ ρ' : List Addr} {σe : ES} {ih ih' : IH} {σ : L2.St} {Q : VK}
/-- Mat behind a call -/
theorem Mat.after (m : Mat G.K H0 ρ0 ρ σe ih σ H) (ps : Pers H H') (kp : Kept ρ H ρ' H') (cl : Cells G.K ρ' ih' H') : Mat G.K H0 ρ0 ρ' σe ih' σ H' where
  len := m.len
  slot := fun i s e => (m.slot i s e).keep ps kp.ahead fun a u ow ex h => (kp.keep a u h (m.own i s a e ow ex).1).2
  own := fun i s a e ow ex => by
    have h1 := m.own i s a e ow ex
    obtain ⟨u, hu⟩ : ∃ u, H a = some u := by
      have := m.slot i s e
      rw [ex] at this
      cases s with
      | un => cases ow
      | fz d => cases ow
      | ol k r => obtain ⟨_, b, vs, e, hl, _⟩ := this; simp at e; subst e; exact ⟨_, hl⟩
      | od ks ds => obtain ⟨b, kvs, e, hl, _⟩ := this; simp at e; subst e; exact ⟨_, hl⟩
      | lk d =>
        obtain ⟨b, e, h⟩ := this
        simp at e; subst e
        rcases h with ⟨_, _, _, hl, _⟩ | ⟨_, _, _, _, hl, _⟩ <;> exact ⟨_, hl⟩
    exact ⟨(kp.keep a u hu h1.1).1, h1.2⟩
  sep := m.sep
  cells := cl
  kept := ⟨m.kept.ahead.trans kp.ahead, fun a o e n => by
    have h1 := m.kept.keep a o e n
    exact kp.keep a o h1.2 h1.1⟩
theorem RepC.toR {r : RV} {v : V} (m : Mat G.K H0 ρ0 ρ σe ih σ H) (h : RepC G.K H ρ' H' r v) : RepR G.K H0 ρ' σe σ H' r v := by
  have lone : ∀ a, H a = none → a ∉ ρ' → Lone H0 ρ' σe σ a := fun a n nr => ⟨nr, (m.new0 n).1, (m.lone n).slot⟩
  cases r with
  | v d => exact h
  | n d =>
    cases d with
    | lst ds => obtain ⟨a, vs, rfl, h1, h2, h3, h4⟩ := h; exact ⟨a, vs, rfl, h1, h2, lone a h4 h3⟩
    | dct ks ds => obtain ⟨a, vs, rfl, h1, h2, h3, h4⟩ := h; exact ⟨a, vs, rfl, h1, h2, lone a h4 h3⟩
    | _ => exact h.elim
  | _ => exact h.elim
/-- the promise at a call -/
theorem call_sp {fi : Nat} {ds : List D} {vs : List V} {np : Nat} (m : Mat G.K H0 ρ0 ρ σe ih σ H) (r : Reps G.K ρ H ds vs) (hl : ds.length ≠ np → c fi ds ih = .st) (q : PostE G W (RlR G) H0 ρ0 ρ σ H Q (ofC σe (c fi ds ih))) :
    spOf G np (c fi) vs H Q (WE W σ) := by
  have hn : ds.length = np := by
    by_cases z : ds.length = np
    · exact z
    · rw [hl z] at q; exact q.elim
  refine ⟨by rw [← r.length]; exact hn, ρ, ds, ih, m.cells, r, ?_⟩
  cases hc : c fi ds ih with
  | st => rw [hc] at q; exact q
  | ok ih' rr =>
    rw [hc] at q
    exact fun ρ' H' v ps kp cl rep => q ρ' H' v ps kp.ahead (m.after ps kp cl) (rep.toR m)
  | ex ih' x =>
    rw [hc] at q
    exact fun ρ' H' cls d ps kp cl xs => q ρ' H' cls d (m.after ps kp cl) xs
theorem ls_of {Rl : Hp → List Addr → ES → L2.St → Hp → RV → V → Prop} {f : List D → Out} {r : RV} (q : PostE G W Rl H0 ρ0 ρ σ H Q (match r with
    | .ls ds => f ds
    | _ => .st)) : ∃ ds, r = .ls ds := by
  cases r with
  | ls ds => exact ⟨ds, rfl⟩
  | _ => exact q.elim
variable {dsc : Nat → Option Dsc} {d : Dsc} {fi : Nat} {x : PySem.Str} {p pos : Pos}
theorem r_call {a : Ev} {e : Expr} {es : List Expr} (ok : Cok G k N sc W X) (F : AllF G k c dsc) (hd : dsc fi = some d) (hg : Gl X x) (hm : G.mg x = some (.ref d.f)) (hk : PySem.W.keepIn G.K (.ref d.f) = true) (hb : Binds G.K d.fd d.ps [])
    (ha : PA X (e :: es) (ra G W (a c))) (hdb : (x == ("__debug__" : PySem.Str)) = false) (he : starEach (e :: es) X.env = (false, eval e X.env) :: starEach es X.env) (hpl : (backTo pos (starEach es X.env)).any (·.1) = false) :
    PE X (.Call (.Name x p) (e :: es) [] pos) (rd G W (dCall fi a c)) := by
  obtain ⟨P, w, K, mg, base, xn⟩ := G
  have hx : ∀ σ, PassesAt (L2.CX X.prog X.w) X σ (WE W σ) := fun σ => passAt ok.takes σ
  have F' := F.fn fi d hd
  obtain ⟨e1, e2, e3, e4, e5, e6, e7, e8, room, calm, tk⟩ := ok
  simp only at e1 e2 e3 e4 e5
  subst e1 e2 e3 e4 e5
  refine peTo (pe_callSD (dvs := []) (ds := []) (E := WE W) F' room hg hm hk hb .nil hx ha hdb he hpl) fun σ H Q q => ?_
  obtain ⟨H0, ρ0, ρ, σe, ih, m, q⟩ := q
  refine ⟨H0, ρ0, ρ, σe, ih, m, ?_⟩
  unfold dCall Out.bind at q
  cases hc : a c σe ih with
  | st => rw [hc] at q; exact q
  | ex σ' h' x => rw [hc] at q; exact q
  | ok σ1 h1 r1 =>
    rw [hc] at q
    obtain ⟨ds, rfl⟩ := ls_of q
    intro ρ1 H1 vs p1 a1 m1 rr
    rw [List.append_nil]
    exact call_sp m1 rr (F.len fi d ds h1 hd) (PostE.weak p1 a1 q)
theorem r_call0 (ok : Cok G k N sc W X) (F : AllF G k c dsc) (hd : dsc fi = some d) (hg : Gl X x) (hm : G.mg x = some (.ref d.f)) (hk : PySem.W.keepIn G.K (.ref d.f) = true) (hb : Binds G.K d.fd d.ps [])
    (hdb : (x == ("__debug__" : PySem.Str)) = false) : PE X (.Call (.Name x p) [] [] pos) (rd G W (dCall fi dNil c)) := by
  obtain ⟨P, w, K, mg, base, xn⟩ := G
  have hx : ∀ σ, PassesAt (L2.CX X.prog X.w) X σ (WE W σ) := fun σ => passAt ok.takes σ
  have F' := F.fn fi d hd
  obtain ⟨e1, e2, e3, e4, e5, e6, e7, e8, room, calm, tk⟩ := ok
  simp only at e1 e2 e3 e4 e5
  subst e1 e2 e3 e4 e5
  refine ⟨fun pins s σ H Q I q => ?_⟩
  obtain ⟨H0, ρ0, ρ, σe, ih, m, q⟩ := q
  refine wpAny_Call_Name_kw (ld_glob I hg hm ?_ hdb)
  exact PySem.W.callWith_K0 I.kIn hk (run_fnSD (us := []) (vs := []) (dvs := []) (ds := []) (E := WE W) F' room hb .nil (hx σ) I .nil (call_sp m .nil (F.len fi d [] ih hd) q))
/-- the values of keywords -/
theorem pkTo {kws : List Keyword} {t t' : TA} (h : PK X kws t) (f : ∀ σ H Q, t' σ H Q → t σ H Q) : PK X kws t' := ⟨fun pos pins s σ H Q I q => h.run pos pins s σ H Q I (f σ H Q q)⟩
theorem k_nil : PK X [] (ra G W (dNil c)) := pkTo pk_nil fun σ H Q ⟨H0, ρ0, ρ, σe, ih, m, q⟩ => q ρ H [] (.refl _) (.refl _) m .nil
theorem k_cons {a r : Ev} {e : Expr} {nm : Option PySem.Str} {kp : Pos} {kws : List Keyword} (ha : PE X e (rd G W (a c))) (hr : PK X kws (ra G W (r c))) : PK X (⟨nm, e, kp⟩ :: kws) (ra G W (dCons a r c)) := by
  refine pkTo (pk_cons (settle ha) hr) fun σ H Q q => ?_
  obtain ⟨H0, ρ0, ρ, σe, ih, m, q⟩ := q
  refine ra_ahead m q fun x H1 ρ1 σ1 h1 r1 ds m1 s1 e1 g => ?_
  unfold pre1 at e1
  split at e1
  · rename_i d hd
    cases e1
    exact g [x] (.cons (s1.frz hd) .nil)
  · cases e1
/-- the values in the parameters' order -/
def permL {α : Type} (xs : List α) : List Nat → Option (List α)
  | [] => some []
  | i :: is => match nth xs i, permL xs is with
    | some d, some r => some (d :: r)
    | _, _ => none
theorem permD_eq (ds : List D) : ∀ l, permD ds l = permL ds l
  | [] => rfl
  | i :: is => by
    unfold permD permL; rw [permD_eq ds is]
    cases nth ds i <;> cases permL ds is <;> rfl
theorem perm_reps {K : PySem.W.Frag} {ds es : List D} {vs : List V} (r : Reps K ρ H ds vs) : ∀ {l : List Nat}, permL ds l = some es → ∃ ws, permL vs l = some ws ∧ Reps K ρ H es ws
  | [], e => by cases e; exact ⟨[], rfl, .nil⟩
  | i :: is, e => by
    unfold permL at e ⊢
    split at e
    · rename_i d r' h1 h2
      cases e
      obtain ⟨v, hv, hr⟩ := r.get h1
      obtain ⟨ws, hw, hrs⟩ := perm_reps r h2
      exact ⟨v :: ws, by rw [nth_get, hv, hw], .cons hr hrs⟩
    · cases e
theorem perm_vals {vs ws : List V} {us : List Value} (r : Vals vs us) : ∀ {l : List Nat}, permL vs l = some ws → ∃ ys, permL us l = some ys ∧ Vals ws ys
  | [], e => by cases e; exact ⟨[], rfl, .nil⟩
  | i :: is, e => by
    unfold permL at e ⊢
    split at e
    · rename_i d r' h1 h2
      cases e
      rw [nth_get] at h1
      obtain ⟨u, hu, hr⟩ := r.get h1
      obtain ⟨ys, hy, hrs⟩ := perm_vals r h2
      exact ⟨u :: ys, by rw [nth_get, hu, hy], .cons hr hrs⟩
    · cases e
/-- how keywords are bound: ks their names, perm their places -/
structure KPerm (K : PySem.W.Frag) (fd : FuncData) (ps ks : List PySem.Str) (perm : List Nat) : Prop where
  to : ∀ (s : Shared) (us ws : List Value), K.In s.heap → permL us perm = some ws → us.length = ks.length → ws.length = ps.length → BindsTo s fd ⟨[], ks.zip us⟩ (ps.zip ws)
theorem r_callk {a : Ev} {kws : List Keyword} {ks : List PySem.Str} {perm : List Nat} (ok : Cok G k N sc W X) (F : AllF G k c dsc) (hd : dsc fi = some d) (hg : Gl X x) (hm : G.mg x = some (.ref d.f)) (hk : PySem.W.keepIn G.K (.ref d.f) = true) (hb : KPerm G.K d.fd d.ps ks perm)
    (hkw : PK X kws (ra G W (a c))) (hall : (backToKw pos (keywordEach kws X.env)).all (·.1.isSome) = true) (hks : (backToKw pos (keywordEach kws X.env)).filterMap (·.1) = ks)
    (hpl : ((backTo pos (starEach [] X.env)).any (·.1) || (backToKw pos (keywordEach kws X.env)).any (·.1.isNone)) = false) (hlen : perm.length = ks.length)
    (hdb : (x == ("__debug__" : PySem.Str)) = false) : PE X (.Call (.Name x p) [] kws pos) (rd G W (dCallk fi a perm c)) := by
  obtain ⟨P, w, K, mg, base, xn⟩ := G
  have hx : ∀ σ, PassesAt (L2.CX X.prog X.w) X σ (WE W σ) := fun σ => passAt ok.takes σ
  have F' := F.fn fi d hd
  obtain ⟨e1, e2, e3, e4, e5, e6, e7, e8, room, calm, tk⟩ := ok
  simp only at e1 e2 e3 e4 e5
  subst e1 e2 e3 e4 e5
  refine ⟨fun pins s σ H Q I q => ?_⟩
  refine wpAny_Call_Name_kw (ld_glob I hg hm ?_ hdb)
  have q' : ra ⟨X.prog, X.w, X.K, X.mg, X.base, xn⟩ W (a c) σ H fun vs H1 => ∃ ws, vs.length = ks.length ∧ permL vs perm = some ws ∧ spOf ⟨X.prog, X.w, X.K, X.mg, X.base, xn⟩ d.ps.length (c fi) ws H1 Q (WE W σ) := by
    obtain ⟨H0, ρ0, ρ, σe, ih, m, q⟩ := q
    refine ⟨H0, ρ0, ρ, σe, ih, m, ?_⟩
    unfold dCallk Out.bind at q
    cases hc : a c σe ih with
    | st => rw [hc] at q; exact q
    | ex σ' h' x => rw [hc] at q; exact q
    | ok σ1 h1 r1 =>
      rw [hc] at q
      obtain ⟨ds, rfl⟩ := ls_of q
      have hn : ds.length = perm.length := by
        cases hbq : Nat.beq ds.length perm.length with
        | true => exact Nat.eq_of_beq_eq_true hbq
        | false => simp only [hbq, cond_false] at q; exact q.elim
      intro ρ1 H1 vs p1 a1 m1 rr
      have q := PostE.weak p1 a1 q
      dsimp only at q
      rw [permD_eq, show Nat.beq ds.length perm.length = true by rw [hn]; exact Nat.beq_refl _] at q
      cases hp : permL ds perm with
      | none => rw [hp] at q; exact q.elim
      | some es =>
        rw [hp] at q
        obtain ⟨ws, hw, hr⟩ := perm_reps rr hp
        exact ⟨ws, by rw [← rr.length, hn, hlen], hw, call_sp m1 hr (F.len fi d es h1 hd) q⟩
  refine PySem.W.callWith_KW0 (h₀ := X.base) I.ok.mod.kin hk hall (thn (hkw.run pos pins s σ H _ I q') fun us s1 ⟨vs, H1, I1, r, ws, hl, hw, q⟩ => ⟨I1.kIn, ?_⟩) hpl
  obtain ⟨ys, hy, ry⟩ := perm_vals r hw
  rw [hks]
  have hyl : ys.length = d.ps.length := by rw [← ry.length]; exact q.1
  refine wpAny_call (codeAny_mono (F'.run X.A X.stack s1 H1 ⟨[], ks.zip us⟩ ys ws Q (WE W σ) room I1.env0 (hb.to s1 us ys I1.kIn hy (r.length.symm.trans hl) hyl) ry q) fun rr s' hq => ?_)
  cases rr with
  | error e => exact hx σ pins H1 s1 e s' I1 hq
  | ok fl =>
    cases fl with
    | ret u => exact I1.after hq
    | next => exact hq.elim
    | brk => exact hq.elim
    | cont => exact hq.elim
end
end Few
set_option Elab.async false
set_option linter.all false
set_option maxRecDepth 100000
set_option maxHeartbeats 4000000
namespace PySem
open PySem.AutoSeq1 (wpAny_loadPart')
/-- enumerate(v), one argument, v of a known beginning -/
theorem meets_enu1 {v : Value} {o : Obj} {Hc : Heap → Prop} (B : Begins v o Hc) :
    Meets (Builtin.«enumerate.__new__» ⟨[.type "enumerate", v], []⟩) (fun _ R s => Hc s.heap ∧
      R (.ok (.ret (.ref (s.heap.push o).objs.size))) { s with heap := (s.heap.push o).push { cls := .type "enumerate", data := .fields #[.none, .bool false, .ref s.heap.objs.size, rawInt 0, .none, .none] } }) :=
  .of_wp fun prog w A R s h => by
    obtain ⟨hp, g, d, tk, os⟩ := s
    obtain ⟨h1, h⟩ := h
    have hsub := sub_enumerate
    have qi : ∀ {A' : Around} {E : Value → Shared → Prop} {Q : Value → Shared → Prop}, Q (.ref hp.objs.size) ⟨hp.push o, g, d, tk, os⟩ → wpAny (model prog w) A' (pyIter v) Q E ⟨hp, g, d, tk, os⟩ :=
      fun q => B.iter prog w _ _ ⟨hp, g, d, tk, os⟩ _ h1 q
    wp_walk using qi
    refine wpAny_stack_any fun st => wpAny_pure ?_
    split
    · rename_i cc _ _ _ _ _
      cases (cc == Value.type "enumerate")
      · wp_walk using qi
        exact ⟨_, rfl, h⟩
      · wp_walk using qi
        exact ⟨_, rfl, h⟩
    · wp_walk using qi
      exact ⟨_, rfl, h⟩
theorem call_enu1 {prog : Program} {w : World} {A : Around} {E : Value → Shared → Prop} {s : Shared} {v : Value} {o : Obj} {Hc : Heap → Prop} {Q : Value → Shared → Prop} (B : Begins v o Hc) (h1 : Hc s.heap)
    (h : ∀ h', IsEnum h' (s.heap.objs.size + 1) s.heap.objs.size 0 .none → h'.get? s.heap.objs.size = some o → h'.objs.size = s.heap.objs.size + 2 →
      (∀ b ob, s.heap.get? b = some ob → h'.get? b = some ob) → Q (.ref (s.heap.objs.size + 1)) { s with heap := h' }) :
    wpAny (model prog w) A (call (.type "enumerate") [v]) Q E s := by
  refine callType_new F.called_enumerate (by decide) (F.typeCall_enumerate_1 _) (F.newCall_enumerate_1 _) (fun obj => F.args_object_init_2 obj _) F.entry_enumerate_new (meets_enu1 B) ⟨h1, ?_⟩
  have hz : (s.heap.push o).objs.size = s.heap.objs.size + 1 := Heap.size_push ..
  show _ ∧ _
  rw [hz]
  have he : IsEnum ((s.heap.push o).push { cls := .type "enumerate", data := .fields #[.none, .bool false, .ref s.heap.objs.size, rawInt 0, .none, .none] }) (s.heap.objs.size + 1) s.heap.objs.size 0 .none := by
    have z := Heap.get?_push_size (s.heap.push o) (o := { cls := .type "enumerate", data := .fields #[.none, .bool false, .ref s.heap.objs.size, rawInt 0, .none, .none] }) rfl
    rw [hz] at z; exact z
  exact ⟨⟨_, he, rfl⟩, h _ he (Heap.get?_push_of_some _ (Heap.get?_push_size _ B.free)) (by rw [Heap.size_push, hz]) fun b ob x => Heap.get?_push_of_some _ (Heap.get?_push_of_some _ x)⟩
end PySem
namespace Few
open PySem PySem.Spec PyProof.Rows L2
/-- the tuple at a, each item in a new pair -/
def IteT (K : PySem.W.Frag) (a : Addr) : It :=
  ⟨fun i H => ∃ (xs : List V) (x : V), SqT K H a xs ∧ xs[i]? = some x, fun i H v H' => ∃ T x, v = .ref T ∧ H T = none ∧ H' = upd H T (.tup [.int (i : Nat), x]) ∧ ∀ xs, SqT K H a xs → xs[i]? = some x, fun i H => ∃ xs : List V, SqT K H a xs ∧ xs.length = i⟩
theorem turn_enuT {P : Program} {w : World} {K : PySem.W.Frag} {elts : List Expr} {kk : Nat} {tpos : Pos} (a e it : Addr) (hai : a ≠ it) (hae : a ≠ e) :
    Turn P w K (.Tuple elts kk tpos) (IteT K a) [e, it] e (fun i h => (∃ old, IsEnum h e it ((i : Nat) : Int) old) ∧ h.IsTupleIter it a i ∧ e ≠ it) where
  mem := by simp
  obj := fun i h st b hb => by
    obtain ⟨⟨old, he⟩, ⟨o, ho, hc, hd⟩, _⟩ := st
    rcases (show b = e ∨ b = it by simpa using hb) with z | z
    · rw [z]; exact ⟨_, he, fun v q => nomatch q⟩
    · rw [z]; exact ⟨o, ho, fun v q => by rw [hd] at q; cases q⟩
  keep := fun i h h' st kp => by
    obtain ⟨⟨old, he⟩, hi, hne⟩ := st
    exact ⟨⟨old, kp e (by simp) _ he⟩, hi.at fun o q => kp it (by simp) o q, hne⟩
  item := by
    intro X hP hw hK hc i pins s σ H E I hf st hg
    subst hP hw hK
    obtain ⟨⟨old, he⟩, hit, hne⟩ := st
    obtain ⟨xs, x, hq, hx⟩ := hg
    obtain ⟨its, rv, p, hz⟩ := I.tuple hq
    obtain ⟨u, hu, ru⟩ := rv.get hx
    have hel : e < s.heap.objs.size := Heap.lt_size he
    have hil : it < s.heap.objs.size := by obtain ⟨_, q, _⟩ := hit; exact Heap.lt_size q
    have hlt : i < its.toArray.size := by
      have z := (List.getElem?_eq_some_iff.mp hu).1
      simpa using z
    refine wpAny_pyNext_enum_itemC (c := (i : Int)) (Draws.tuple (by first | exact I.ok.hd hc | (show X.A.in1.handled = none; exact I.ok.hd hc)) it a hai its.toArray) he ⟨hit, p⟩ hlt hne (by simp [hne, Ne.symm hae]) fun y h' tk hy ho st' hT hsz hk => ?_
    have hy' : y = u := by
      have z : its.toArray[i]? = some u := by simpa using hu
      rw [z] at hy; exact (Option.some.inj hy).symm
    subst hy'
    refine ⟨_, rfl, wpAny_letOwnedTupleGo_enum (s := { s with heap := h', toks := tk + 1 }) ho fun h'' he' sb => ?_⟩
    have hT2 : h''.get? s.heap.objs.size = some { cls := .type "tuple", data := .seq #[.int i tk, y] } := (sb.2 _ (Nat.ne_of_gt hel)).trans hT
    have new : ObjOk X.prog X.w (upd H s.heap.objs.size (.tup [.int (i : Nat), x])) h'' s.heap.objs.size (.tup [.int (i : Nat), x]) :=
      ⟨by show 2 ≤ sizeLine; decide, [.int i tk, y], .cons ⟨_, rfl⟩ (.cons ru .nil), ⟨_, hT2, rfl, _, rfl⟩⟩
    have I1 : Inv X pins σ (upd H s.heap.objs.size (.tup [.int (i : Nat), x])) { s with heap := h'', toks := tk + 1 } :=
      I.turnedNew (ch := [e, it]) (fun b ob hb q => (sb.2 b (fun z => hb (by simp [z]))).trans (hk b ob (fun z => hb (by simp [z])) (fun z => hb (by simp [z])) q)) hf (Nat.le_refl _) new
    refine ⟨.ref s.heap.objs.size, _, I1, rfl, ⟨_, x, rfl, I.hok.fresh (Nat.le_refl _), rfl, fun ys hy => by rw [I.tuple_inj hy hq]; exact hx⟩, ⟨⟨y, ?_⟩, st'.1.at fun o q => (sb.2 it (Ne.symm hne)).trans q, hne⟩, fun b hb => ?_⟩
    · rw [show ((i + 1 : Nat) : Int) = (i : Int) + 1 by omega]; exact he'
    · have hb' : b < s.heap.objs.size := by
        rcases (show b = e ∨ b = it by simpa using hb) with z | z
        · rw [z]; exact hel
        · rw [z]; exact hil
      rw [upd_ne (Nat.ne_of_lt hb')]
      exact (hf b hb).1
  done := by
    intro X hP hw hK hc i pins s σ H E I hf st hg
    subst hP hw hK
    obtain ⟨⟨old, he⟩, hit, hne⟩ := st
    obtain ⟨xs, hq, hx⟩ := hg
    obtain ⟨its, rv, p, hz⟩ := I.tuple hq
    obtain ⟨f0, f1, f2, f3, f4, f5⟩ := hf it (by simp)
    have hl : i = its.toArray.size := by rw [← hx, rv.length]; simp
    subst hl
    exact wpAny_pyNext_enum_endD (Draws.tuple (by show X.A.in1.handled = none; exact I.ok.hd hc) it a hai its.toArray) he ⟨hit, p⟩ fun h' eb => ⟨rfl, I.turned (t' := s.toks) (fun b o hb q => eb b o hb q) f0 f1 f3 f4 f5⟩
  self := fun A i s Q E st h => let ⟨⟨_, he⟩, _⟩ := st; wpAny_pyIter_enum he h
theorem PI.or {X : Cx} {tg e : Expr} {w1 w2 : TI} (h1 : PI X tg e w1) (h2 : PI X tg e w2) : PI X tg e (fun σ H R => w1 σ H R ∨ w2 σ H R) :=
  ⟨fun pins s σ H R I q => by
    rcases q with q | q
    · exact h1.run pins s σ H R I q
    · exact h2.run pins s σ H R I q⟩
theorem piTo {X : Cx} {tg e : Expr} {t t' : TI} (h : PI X tg e t) (f : ∀ σ H R, t' σ H R → t σ H R) : PI X tg e t' := ⟨fun pins s σ H R I q => h.run pins s σ H R I (f σ H R q)⟩
def iEnuT (K : PySem.W.Frag) (ta : TA) : TI := fun σ H R => ta σ H fun vs H1 => ∃ a xs, vs = [.ref a] ∧ ((SqL K H1 a xs ∧ R (Ite K a) H1) ∨ (SqT K H1 a xs ∧ R (IteT K a) H1))
theorem pi_enuA {X : Cx} {e : Expr} {ta : TA} {p pos tpos : Pos} {elts : List Expr} {kk : Nat} (hg : Gl X "enumerate") (hm : X.mg "enumerate" = none) (ha : PA X [e] ta) (hs : starEach [e] X.env = [(false, eval e X.env)]) :
    PI X (.Tuple elts kk tpos) (.Call (.Name "enumerate" p) [e] [] pos) (iEnuT X.K ta) := by
  refine ⟨fun pins s σ H R I h => ?_⟩
  refine Call_ (ld_blt I hg hm boot_enumerate (PyProof.Rows.callWith_type1 (thn (ha.run pos pins s σ H _ I h) fun us s1 ⟨vs, H1, I1, r1, q1⟩ => ?_) hs rfl))
  obtain ⟨a, xs, ex, q⟩ := q1
  subst ex
  cases r1 with
  | cons r rr =>
    cases rr
    cases r
    have fr2 : ∀ b ∈ [s1.heap.objs.size + 1, s1.heap.objs.size], FpOk X pins H1 b := fun b hb => by
      have hle : s1.heap.objs.size ≤ b := by
        rcases (show b = s1.heap.objs.size + 1 ∨ b = s1.heap.objs.size by simpa using hb) with z | z
        · rw [z]; exact Nat.le_add_right _ _
        · rw [z]; exact Nat.le_refl _
      exact I1.fpOk hle (I1.hok.fresh hle)
    rcases q with ⟨hq, q⟩ | ⟨hq, q⟩
    · obtain ⟨its, rv, p', hz⟩ := I1.list hq
      refine call_enumerate_list p'.isList fun h' he hit hsz hk => wpAny_pyIter_enum he ?_
      have I2 : Inv X pins σ H1 { s1 with heap := h' } := I1.kept (t' := s1.toks) hk
      exact ⟨s1.heap.objs.size + 1, [s1.heap.objs.size + 1, s1.heap.objs.size], _, _, H1, rfl, I2, turn_enum a (s1.heap.objs.size + 1) s1.heap.objs.size, ⟨⟨.none, he⟩, hit, Nat.succ_ne_self _⟩, fr2, q⟩
    · obtain ⟨its, rv, p', hz⟩ := I1.tuple hq
      have hal : a < s1.heap.objs.size := by obtain ⟨_, z, _⟩ := id p'; exact Heap.lt_size z
      refine call_enu1 (begins_tuple a its.toArray) p' fun h' he hit hsz hk => wpAny_pyIter_enum he ?_
      have I2 : Inv X pins σ H1 { s1 with heap := h' } := I1.kept (t' := s1.toks) hk
      exact ⟨s1.heap.objs.size + 1, [s1.heap.objs.size + 1, s1.heap.objs.size], _, _, H1, rfl, I2, turn_enuT a (s1.heap.objs.size + 1) s1.heap.objs.size (Nat.ne_of_lt hal) (Nat.ne_of_lt (Nat.lt_succ_of_lt hal)), ⟨⟨.none, he⟩, ⟨_, hit, rfl, rfl⟩, Nat.succ_ne_self _⟩, fr2, q⟩

/-! ### what a loop walks -/
def Grow (H H' : Hp) : Prop := H' = H ∨ ∃ T u, H T = none ∧ H' = upd H T (.tup u)
structure WalkD (K : PySem.W.Frag) (ρ : List Addr) (H : Hp) (J : It) (xs : List D) : Prop where
  go : ∀ H' i, Pers H H' → i < xs.length → J.go i H'
  stop : ∀ H', Pers H H' → J.stop xs.length H'
  yld : ∀ H' ρ' i x H3 d, Pers H H' → Ahead ρ ρ' → J.yld i H' x H3 → nth xs i = some d → Grow H' H3 ∧ Rep K ρ' H3 d x
def PostI (G : Gd) (W : WX) (H0 : Hp) (ρ0 ρ : List Addr) (σ : L2.St) (H : Hp) (R : It → Hp → Prop) : Out → Prop
  | .st => False
  | .ok σe ih r => ∃ xs, itz r = some xs ∧ ∀ ρ' H' J, Pers H H' → Ahead ρ ρ' → Mat G.K H0 ρ0 ρ' σe ih σ H' → WalkD G.K ρ' H' J xs → R J H'
  | .ex σe ih x => ∀ ρ' H' cls d, Mat G.K H0 ρ0 ρ' σe ih σ H' → Xs G.K G.mg G.xn ρ' H' x cls d → W cls d σ H'
def ri (G : Gd) (W : WX) (c : Cd) : TI := fun σ H R => ∃ H0 ρ0 ρ σe ih, Mat G.K H0 ρ0 ρ σe ih σ H ∧ PostI G W H0 ρ0 ρ σ H R (c σe ih)
section
variable {G : Gd} {k : Nat} {N : List PySem.Str} {sc : Scope} {W : WX} {X : Cx} {c : Call}
variable {H0 H H' : Hp} {ρ0 ρ ρ' : List Addr} {σe : ES} {ih ih' : IH} {σ : L2.St} {Q : VK}
theorem SqL.pers {K : PySem.W.Frag} {a : Addr} {o : Obj} {vs : List V} (h : H a = some (.frz o (.lst vs))) (p : Pers H H') : SqL K H' a vs := .inl (.inr ⟨o, p.frz _ _ _ h⟩)
/-- frozen lists are what they are -/
theorem frzL_inj {K : PySem.W.Frag} {a : Addr} {o : Obj} {vs ws : List V} (h : H a = some (.frz o (.lst vs))) (kn : K.lookup a = none) (q : SqL K H a ws) : ws = vs := by
  rcases q with (q | ⟨o', q⟩) | ⟨o', its, n, q, _⟩
  · rw [h] at q; cases q
  · rw [h] at q; cases q; rfl
  · rw [kn] at q; cases q
end
end Few
set_option Elab.async false
set_option linter.all false
set_option maxRecDepth 100000
set_option maxHeartbeats 4000000
namespace Few
open PySem PySem.Spec PyProof.Rows L2
theorem sub4 {z TI TO i1 i2 m : Addr} (h : m ∈ [z, TO, i1, i2]) : m ∈ [z, TI, TO, i1, i2] := by
  simp only [List.mem_cons, List.not_mem_nil, or_false] at h ⊢
  rcases h with h | h | h | h <;> simp [h]
/-- the list at a and the tuple at b, in pairs -/
def ItzLT (K : PySem.W.Frag) (a b : Addr) : It :=
  ⟨fun i H => ∃ (xs ys : List V) (x y : V), SqL K H a xs ∧ SqT K H b ys ∧ xs[i]? = some x ∧ ys[i]? = some y,
    fun i H v H' => ∃ T x y, v = .ref T ∧ H T = none ∧ H' = upd H T (.tup [x, y]) ∧ (∀ xs, SqL K H a xs → xs[i]? = some x) ∧ ∀ ys, SqT K H b ys → ys[i]? = some y,
    fun i H => ∃ xs ys : List V, SqL K H a xs ∧ SqT K H b ys ∧ min xs.length ys.length = i⟩
theorem turn_zipLT {P : Program} {w : World} {K : PySem.W.Frag} {elts : List Expr} {kk : Nat} {tpos : Pos} {a b z TI TO i1 i2 : Addr} (S : ZipSep2 z TI TO i1 i2 [i1, a] [i2, b]) (ha : a ≠ i1) (hb : b ≠ i2) :
    Turn P w K (.Tuple elts kk tpos) (ItzLT K a b) [z, TI, TO, i1, i2] z (fun i h => IsZip h z TI TO .none ∧ IsTupOf2 h TI (.ref i1) (.ref i2) ∧ (∃ x y, IsTupOf2 h TO x y) ∧ h.IsListIter i1 a i ∧ h.IsTupleIter i2 b i) where
  mem := by simp
  obj := fun i h st cc hc => by
    obtain ⟨hz, hTI, ⟨x, y, hTO⟩, ⟨o1, e1, _, d1⟩, ⟨o2, e2, _, d2⟩⟩ := st
    rcases (show cc = z ∨ cc = TI ∨ cc = TO ∨ cc = i1 ∨ cc = i2 by simpa using hc) with q | q | q | q | q
    · rw [q]; exact ⟨_, hz, fun v q => nomatch q⟩
    · rw [q]; exact ⟨_, hTI, fun v q => nomatch q⟩
    · rw [q]; exact ⟨_, hTO, fun v q => nomatch q⟩
    · rw [q]; exact ⟨o1, e1, fun v q => by rw [d1] at q; cases q⟩
    · rw [q]; exact ⟨o2, e2, fun v q => by rw [d2] at q; cases q⟩
  keep := fun i h h' st kp => by
    obtain ⟨hz, hTI, ⟨x, y, hTO⟩, h1, h2⟩ := st
    exact ⟨kp z (by simp) _ hz, kp TI (by simp) _ hTI, ⟨x, y, kp TO (by simp) _ hTO⟩, h1.at fun o q => kp i1 (by simp) o q, h2.at fun o q => kp i2 (by simp) o q⟩
  item := by
    intro X hP hw hK hc i pins s σ H E I hf st hg
    subst hP hw hK
    obtain ⟨hz, hTI, hTO, h1, h2⟩ := st
    obtain ⟨xs, ys, x, y, hqx, hqy, hx, hy⟩ := hg
    obtain ⟨its, rv, p, _⟩ := I.list hqx
    obtain ⟨its2, rv2, p2, _⟩ := I.tuple hqy
    obtain ⟨u, hu, ru⟩ := rv.get hx
    obtain ⟨u2, hu2, ru2⟩ := rv2.get hy
    have hd : X.A.in1.handled = none := I.ok.hd hc
    have Wk := WalksT.zipD2 (prog := X.prog) (w := X.w) (A := X.A) S (Draws.list hd i1 a ha its.toArray) (Draws.tuple hd i2 b hb its2.toArray)
    have l1 : i < its.toArray.size := by have := (List.getElem?_eq_some_iff.mp hu).1; simpa using this
    have l2 : i < its2.toArray.size := by have := (List.getElem?_eq_some_iff.mp hu2).1; simpa using this
    refine Wk.item i s _ E (by omega) ⟨hz, hTI, hTO, ⟨h1, p.isList⟩, ⟨h2, p2⟩⟩ fun T vals h' tk hp hT hTup mid kp => ?_
    obtain ⟨x1, x2, e1, e2, rfl⟩ := hp
    have e1' : x1 = u := by
      have q : its.toArray[i]? = some u := by simpa using hu
      rw [q] at e1; exact (Option.some.inj e1).symm
    have e2' : x2 = u2 := by
      have q : its2.toArray[i]? = some u2 := by simpa using hu2
      rw [q] at e2; exact (Option.some.inj e2).symm
    subst e1' e2'
    refine ⟨_, rfl, Wk.go elts kk tpos i T { s with heap := h', toks := tk } _ E mid fun h'' st'' kp2 => ?_⟩
    have hTw : T ∉ [z, TO, i1, i2] := Wk.apart i T h' mid
    have new : ObjOk X.prog X.w (upd H T (.tup [x, y])) h'' T (.tup [x, y]) := by
      obtain ⟨o, ho, hcl, n, hdt⟩ := hTup
      exact ⟨by show 2 ≤ sizeLine; decide, [x1, x2], .cons ru (.cons ru2 .nil), ⟨o, kp2 T o hTw ho, hcl, n, hdt⟩⟩
    have nT : H T = none := I.hok.fresh hT
    have I1 : Inv X pins σ (upd H T (.tup [x, y])) { s with heap := h'', toks := tk } :=
      I.turnedNew (ch := [z, TI, TO, i1, i2]) (fun cc o hb q => kp2 cc o (fun m => hb (sub4 m)) (show h'.get? cc = some o from kp cc o (fun m => hb (sub4 m)) q)) hf hT new
    refine ⟨.ref T, _, I1, rfl, ⟨T, x, y, rfl, nT, rfl, fun l hl => by rw [I.list_inj hl hqx]; exact hx, fun l hl => by rw [I.tuple_inj hl hqy]; exact hy⟩, ⟨st''.1, st''.2.1, st''.2.2.1, st''.2.2.2.1.1, st''.2.2.2.2.1⟩, fun cc hcm => ?_⟩
    have ne : cc ≠ T := fun q => by
      have := (hf cc hcm).1
      have lt : cc < s.heap.objs.size := by
        obtain ⟨⟨x0, y0, hTO⟩, ⟨o1, f1, _⟩, ⟨o2, f2, _⟩⟩ := (⟨hTO, h1, h2⟩ : _ ∧ _ ∧ _)
        rcases (show cc = z ∨ cc = TI ∨ cc = TO ∨ cc = i1 ∨ cc = i2 by simpa using hcm) with q | q | q | q | q
        · rw [q]; exact Heap.lt_size hz
        · rw [q]; exact Heap.lt_size hTI
        · rw [q]; exact Heap.lt_size hTO
        · rw [q]; exact Heap.lt_size f1
        · rw [q]; exact Heap.lt_size f2
      rw [q] at lt
      exact absurd (Nat.lt_of_lt_of_le lt hT) (Nat.lt_irrefl _)
    rw [upd_ne ne]
    exact (hf cc hcm).1
  done := by
    intro X hP hw hK hc i pins s σ H E I hf st hg
    subst hP hw hK
    obtain ⟨hz, hTI, hTO, h1, h2⟩ := st
    obtain ⟨xs, ys, hqx, hqy, hend⟩ := hg
    obtain ⟨its, rv, p, _⟩ := I.list hqx
    obtain ⟨its2, rv2, p2, _⟩ := I.tuple hqy
    have hd : X.A.in1.handled = none := I.ok.hd hc
    have Wk := WalksT.zipD2 (prog := X.prog) (w := X.w) (A := X.A) S (Draws.list hd i1 a ha its.toArray) (Draws.tuple hd i2 b hb its2.toArray)
    have hi : i = min its.toArray.size its2.toArray.size := by
      rw [← hend, rv.length, rv2.length]; simp
    rw [hi] at h1 h2
    exact Wk.done s _ E ⟨hz, hTI, hTO, ⟨h1, p.isList⟩, ⟨h2, p2⟩⟩ fun h' tk kp => ⟨rfl, I.turnedL (t' := tk) (ch := [z, TI, TO, i1, i2]) (fun cc o hb q => kp cc o (fun m => hb (sub4 m)) q) hf⟩
  self := fun A i s Q E st h => wpAny_pyIter_zip st.1 h
def iZipG (K : PySem.W.Frag) (ta : TA) : TI := fun σ H R => ta σ H fun vs H1 => ∃ a b xs ys, vs = [.ref a, .ref b] ∧ SqL K H1 a xs ∧ SqT K H1 b ys ∧ R (ItzLT K a b) H1
theorem pi_zipLT {X : Cx} {e e2 : Expr} {ta : TA} {p pos tpos : Pos} {elts : List Expr} {kk : Nat} (hg : Gl X "zip") (hm : X.mg "zip" = none) (ha : PA X [e, e2] ta)
    (hs : starEach [e, e2] X.env = (false, eval e X.env) :: starEach [e2] X.env) (hpl : (backTo pos (starEach [e2] X.env)).any (·.1) = false) :
    PI X (.Tuple elts kk tpos) (.Call (.Name "zip" p) [e, e2] [] pos) (iZipG X.K ta) := by
  refine ⟨fun pins s σ H R I h => ?_⟩
  refine Call_ (ld_blt I hg hm PyProof.Rows.boot_zip (PyProof.Rows.callWith_type1 (thn (ha.run pos pins s σ H _ I h) fun us s1 ⟨vs, H1, I1, r1, q1⟩ => ?_) hs hpl))
  obtain ⟨a, b, xs, ys, ex, hqx, hqy, q⟩ := q1
  subst ex
  cases r1 with
  | cons r rr =>
    cases rr with
    | cons r' rr =>
      cases rr
      cases r
      cases r'
      obtain ⟨its, rv, p1, _⟩ := I1.list hqx
      obtain ⟨its2, rv2, p2, _⟩ := I1.tuple hqy
      have al : a < s1.heap.objs.size := p1.lt
      have bl : b < s1.heap.objs.size := by obtain ⟨_, z, _⟩ := id p2; exact Heap.lt_size z
      refine zip_begins2 (begins_list a its.toArray) (begins_tuple b its2.toArray) p1.isList p2 fun h' hz hTI hTO h1 h2 hsz hk => wpAny_pyIter_zip hz ?_
      have I2 : Inv X pins σ H1 { s1 with heap := h' } := I1.kept (t' := s1.toks) hk
      have S := zip_sep2 (N := s1.heap.objs.size) (fp1 := [a]) (fp2 := [b]) (fun c hc => by rw [List.mem_singleton.mp hc]; exact al) (fun c hc => by rw [List.mem_singleton.mp hc]; exact bl)
      refine ⟨s1.heap.objs.size + 4, [s1.heap.objs.size + 4, s1.heap.objs.size + 2, s1.heap.objs.size + 3, s1.heap.objs.size, s1.heap.objs.size + 1], _, _, H1, rfl, I2, turn_zipLT S (Nat.ne_of_lt al) (Nat.ne_of_lt (Nat.lt_succ_of_lt bl)),
        ⟨hz, hTI, ⟨_, _, hTO⟩, ⟨_, h1, rfl, rfl⟩, ⟨_, h2, rfl, rfl⟩⟩, fun c hcm => ?_, q⟩
      have hle : s1.heap.objs.size ≤ c := by
        rcases (show c = s1.heap.objs.size + 4 ∨ c = s1.heap.objs.size + 2 ∨ c = s1.heap.objs.size + 3 ∨ c = s1.heap.objs.size ∨ c = s1.heap.objs.size + 1 by simpa using hcm) with z | z | z | z | z
        · rw [z]; exact Nat.le_add_right _ _
        · rw [z]; exact Nat.le_add_right _ _
        · rw [z]; exact Nat.le_add_right _ _
        · rw [z]; exact Nat.le_refl _
        · rw [z]; exact Nat.le_add_right _ _
      exact I1.fpOk hle (I1.hok.fresh hle)
end Few
set_option Elab.async false
set_option linter.all false
set_option maxRecDepth 100000
set_option maxHeartbeats 4000000
namespace Few
open PySem PySem.Spec PyProof.Rows L2
section
variable {G : Gd} {k : Nat} {N : List PySem.Str} {sc : Scope} {W : WX} {X : Cx} {c : Call}
variable {H0 H H' : Hp} {ρ0 ρ ρ' : List Addr} {σe : ES} {ih ih' : IH} {σ : L2.St} {Q : VK}
/-- a kind of end -/
structure Pst (G : Gd) (W : WX) (H0 : Hp) (ρ0 : List Addr) (σ : L2.St) (P : List Addr → Hp → Out → Prop) : Prop where
  st : ∀ ρ H, P ρ H .st → False
  ex : ∀ ρ H σe ih x, P ρ H (.ex σe ih x) → ∀ ρ' H' cls d, Mat G.K H0 ρ0 ρ' σe ih σ H' → Xs G.K G.mg G.xn ρ' H' x cls d → W cls d σ H'
  weak : ∀ ρ H ρ' H' o, Pers H H' → Ahead ρ ρ' → P ρ H o → P ρ' H' o
theorem pstE {Rl : Hp → List Addr → ES → L2.St → Hp → RV → V → Prop} : Pst G W H0 ρ0 σ fun ρ H o => PostE G W Rl H0 ρ0 ρ σ H Q o := ⟨fun _ _ z => z, fun _ _ _ _ _ z => z, fun _ _ _ _ _ p a q => PostE.weak p a q⟩
theorem PostI.weak {H' : Hp} {ρ' : List Addr} {R : It → Hp → Prop} {o : Out} (ps : Pers H H') (al : Ahead ρ ρ') (q : PostI G W H0 ρ0 ρ σ H R o) : PostI G W H0 ρ0 ρ' σ H' R o := by
  cases o with
  | st => exact q
  | ex σe ih x => exact q
  | ok σe ih r => obtain ⟨xs, e, q⟩ := q; exact ⟨xs, e, fun ρ2 H2 J p2 a2 m2 r2 => q ρ2 H2 J (ps.trans p2) (al.trans a2) m2 r2⟩
theorem pstI {R : It → Hp → Prop} : Pst G W H0 ρ0 σ fun ρ H o => PostI G W H0 ρ0 ρ σ H R o := ⟨fun _ _ z => z, fun _ _ _ _ _ z => z, fun _ _ _ _ _ p a q => PostI.weak p a q⟩
theorem pstT {Q : Bool → Hp → Prop} : Pst G W H0 ρ0 σ fun ρ H o => PostT G W H0 ρ0 ρ σ H Q o := ⟨fun _ _ z => z, fun _ _ _ _ _ z => z, fun _ _ _ _ _ p a q => PostT.weak p a q⟩
theorem bindP {P : List Addr → Hp → Out → Prop} {cd : Cd} {kk : ES → IH → RV → Out} {R : V → Hp → Prop} (pp : Pst G W H0 ρ0 σ P) (m : Mat G.K H0 ρ0 ρ σe ih σ H) (q : P ρ H ((cd σe ih).bind kk))
    (f : ∀ x H2 ρ2 σe2 ih2 r1, Pers H H2 → Ahead ρ ρ2 → Mat G.K H0 ρ0 ρ2 σe2 ih2 σ H2 → RepS G.K ρ2 σ H2 r1 x → P ρ2 H2 (kk σe2 ih2 r1) → R x H2) : rs G W cd σ H R := by
  refine ⟨H0, ρ0, ρ, σe, ih, m, ?_⟩
  unfold Out.bind at q
  cases ha : cd σe ih with
  | st => rw [ha] at q; exact pp.st _ _ q
  | ex σ' h' x => rw [ha] at q; exact pp.ex _ _ _ _ _ q
  | ok σ1 h1 r1 =>
    rw [ha] at q
    exact fun ρ1 H1 x p1 a1 m1 s1 => f _ _ _ _ _ _ p1 a1 m1 s1 (pp.weak _ _ _ _ _ p1 a1 q)
theorem bindQ {P : List Addr → Hp → Out → Prop} {cd : Cd} {kk : ES → IH → RV → Out} {R : V → Hp → Prop} (pp : Pst G W H0 ρ0 σ P) (m : Mat G.K H0 ρ0 ρ σe ih σ H) (q : P ρ H ((cd σe ih).bind kk))
    (f : ∀ x H2 ρ2 σe2 ih2 r1, cd σe ih = .ok σe2 ih2 r1 → Pers H H2 → Ahead ρ ρ2 → Mat G.K H0 ρ0 ρ2 σe2 ih2 σ H2 → RepS G.K ρ2 σ H2 r1 x → P ρ2 H2 (kk σe2 ih2 r1) → R x H2) : rs G W cd σ H R := by
  refine ⟨H0, ρ0, ρ, σe, ih, m, ?_⟩
  unfold Out.bind at q
  cases ha : cd σe ih with
  | st => rw [ha] at q; exact pp.st _ _ q
  | ex σ' h' x => rw [ha] at q; exact pp.ex _ _ _ _ _ q
  | ok σ1 h1 r1 =>
    rw [ha] at q
    exact fun ρ1 H1 x p1 a1 m1 s1 => f _ _ _ _ _ _ ha p1 a1 m1 s1 (pp.weak _ _ _ _ _ p1 a1 q)
/-! ### iterables -/
theorem walkL {K : PySem.W.Frag} {a : Addr} {o : Obj} {vs : List V} {ds : List D} (h : H a = some (.frz o (.lst vs))) (r : Reps K ρ H ds vs) : WalkD K ρ H (Itl K a) ds where
  go := fun H' i p hi => by
    rw [r.length] at hi
    exact ⟨vs, vs[i], SqL.pers h p, List.getElem?_eq_getElem hi⟩
  stop := fun H' p => ⟨vs, SqL.pers h p, by rw [r.length]; exact Nat.le_refl _⟩
  yld := fun H' ρ' i x H3 d p al y e => by
    obtain ⟨rfl, y⟩ := y
    obtain ⟨v, h1, h2⟩ := r.get e
    have := y vs (SqL.pers h p)
    rw [h1] at this; cases this
    exact ⟨.inl rfl, h2.keep p al⟩
theorem walkT {K : PySem.W.Frag} {a : Addr} {vs : List V} {ds : List D} (h : SqT K H a vs) (r : Reps K ρ H ds vs) : WalkD K ρ H (Itt K a) ds where
  go := fun H' i p hi => by
    rw [r.length] at hi
    exact ⟨vs, vs[i], p.sqT h, List.getElem?_eq_getElem hi⟩
  stop := fun H' p => ⟨vs, p.sqT h, by rw [r.length]; exact Nat.le_refl _⟩
  yld := fun H' ρ' i x H3 d p al y e => by
    obtain ⟨rfl, y⟩ := y
    obtain ⟨v, h1, h2⟩ := r.get e
    have := y vs (p.sqT h)
    rw [h1] at this; cases this
    exact ⟨.inl rfl, h2.keep p al⟩
theorem nth_map {α β : Type} (f : α → β) : ∀ (xs : List α) (i : Nat), nth (xs.map f) i = (nth xs i).map f := fun xs i => by rw [nth_get, nth_get, List.getElem?_map]
theorem walkS {K : PySem.W.Frag} {s : List Nat} : WalkD K ρ H (Its (txt s)) (s.map fun cc => .str [cc]) where
  go := fun H' i p hi => by show i < (txt s).cps.size; simpa [txt] using hi
  stop := fun H' p => by show (txt s).cps.size ≤ _; simp [txt]
  yld := fun H' ρ' i x H3 d p al y e => by
    obtain ⟨rfl, cc, hc, rfl⟩ := y
    rw [nth_map] at e
    have hc : s[i]? = some cc := by simpa [txt] using hc
    rw [nth_get, hc] at e
    cases e
    exact ⟨.inl rfl, .str [cc]⟩
theorem i_val {cd : Cd} {e tg : Expr} (ok : Cok G k N sc W X) (h : PE X e (rd G W cd)) : PI X tg e (ri G W cd) := by
  refine piTo (PI.or (pi_list (settle h)) (PI.or (pi_tup (settle h)) (pi_str (settle h)))) fun σ H R q => ?_
  obtain ⟨H0, ρ0, ρ, σe, ih, m, q⟩ := q
  rw [ok.eK]
  cases hc : cd σe ih with
  | st => rw [hc] at q; exact q.elim
  | ex σ' h' x => rw [hc] at q; exact .inl ⟨H0, ρ0, ρ, σe, ih, m, by rw [hc]; exact q⟩
  | ok σ1 h1 r1 =>
    rw [hc] at q
    obtain ⟨xs, hx, q⟩ := q
    have hl : ∀ ds, (r1 = .v (.lst ds) ∨ r1 = .n (.lst ds)) → xs = ds → iList G.K (rs G W cd) σ H R := fun ds hr e => by
      subst e
      refine ⟨H0, ρ0, ρ, σe, ih, m, ?_⟩
      rw [hc]
      intro ρ' H' v ps al m' s'
      have s' : Rep G.K ρ' H' (.lst xs) v := by rcases hr with rfl | rfl <;> exact s'
      cases s' with
      | lst e r => exact ⟨_, rfl, ⟨_, SqL.pers e (.refl _)⟩, q ρ' H' _ ps al m' (walkL e r)⟩
    unfold itz at hx
    split at hx
    · refine .inl ⟨H0, ρ0, ρ, σe, ih, m, ?_⟩
      rw [hc]
      exact fun _ _ _ _ _ _ z => z.elim
    · exact .inl (hl _ (.inl rfl) (Option.some.inj hx).symm)
    · rename_i ds
      cases hx
      refine .inr (.inl ⟨H0, ρ0, ρ, σe, ih, m, ?_⟩)
      rw [hc]
      intro ρ' H' v ps al m' s'
      have s' : Rep G.K ρ' H' (.tup xs) v := s'
      cases s' with
      | tup e r => exact ⟨_, rfl, ⟨_, e⟩, q ρ' H' _ ps al m' (walkT e r)⟩
    · exact .inl (hl _ (.inr rfl) (Option.some.inj hx).symm)
    · rename_i ss
      cases hx
      refine .inr (.inr ⟨H0, ρ0, ρ, σe, ih, m, ?_⟩)
      rw [hc]
      intro ρ' H' v ps al m' s'
      have s' : Rep G.K ρ' H' (.str ss) v := s'
      cases s'
      exact ⟨_, rfl, q ρ' H' _ ps al m' walkS⟩
    · cases hx
theorem small62_of {i : Int} (h : small62 i = true) : -(2 ^ 62) ≤ i ∧ i < 2 ^ 62 := by
  cases i with
  | ofNat q =>
    have : q < 4611686018427387904 := by simpa [small62, Nat.blt_eq] using h
    have e : Int.ofNat q = (q : Int) := rfl
    omega
  | negSucc q =>
    have : q < 4611686018427387904 := by simpa [small62, Nat.blt_eq] using h
    have e := Int.negSucc_eq q
    omega
theorem rangeD_len : ∀ (n : Nat) (i : Int), (rangeD n i).length = n
  | 0, _ => rfl
  | n + 1, i => by simp [rangeD, rangeD_len n]
theorem rangeD_nth : ∀ (n : Nat) (lo : Int) (i : Nat) (d : D), nth (rangeD n lo) i = some d → d = .int (lo + i)
  | 0, _, _, _, e => by simp [rangeD, nth] at e
  | n + 1, lo, 0, d, e => by simp [rangeD, nth] at e; rw [← e]; simp
  | n + 1, lo, i + 1, d, e => by
    simp only [rangeD, nth] at e
    rw [rangeD_nth n _ i d e]
    congr 1
    omega
theorem walkR {K : PySem.W.Frag} {lo : Int} {n : Nat} : WalkD K ρ H (Itr lo n) (rangeD n lo) where
  go := fun H' i p hi => by rw [rangeD_len] at hi; exact hi
  stop := fun H' p => by rw [rangeD_len]; exact Nat.le_refl _
  yld := fun H' ρ' i x H3 d p al y e => by
    obtain ⟨rfl, rfl⟩ := y
    rw [rangeD_nth _ _ _ _ e]
    exact ⟨.inl rfl, .int _⟩
theorem frz_int {K : PySem.W.Frag} {r : RV} {v : V} {i : Int} (s : RepS K ρ σ H r v) (e : frozen r = some (.int i)) : v = .int i := by
  have := s.frz e
  cases this
  rfl
theorem i_range1 {a : Ev} {e tg : Expr} {p pos : Pos} (ok : Cok G k N sc W X) (hg : Gl X "range") (hm : G.mg "range" = none) (ha : PE X e (rd G W (a c))) (hs : starEach [e] X.env = (false, eval e X.env) :: starEach [] X.env) :
    PI X tg (.Call (.Name "range" p) [e] [] pos) (ri G W (dBi2 .range (dCon (.int 0)) a c)) := by
  refine piTo (pi_range1 hg (by rw [ok.eM]; exact hm) (pa_cons (settle ha) pa_nil hs) hs) fun σ H R q => ?_
  obtain ⟨H0, ρ0, ρ, σe, ih, m, q⟩ := q
  show rs G W (a c) σ H _
  refine bindP pstI m (show PostI G W H0 ρ0 ρ σ H R ((a c σe ih).bind fun σ h y => opt σ h (b2 .range σ h (.v (.int 0)) y)) from q) fun x H1 ρ1 σ1 h1 r1 p1 a1 m1 s1 q => ?_
  have hz : frozen (.v (.int 0)) = some (.int 0) := rfl
  cases hf : frozen r1 with
  | none => simp only [b2, hf, hz, opt] at q; exact q.elim
  | some d =>
    cases d with
    | int j =>
      simp only [b2, hf, hz] at q
      cases hb : (small62 0 && small62 j) with
      | false => simp only [hb, cond_false, opt] at q; exact q.elim
      | true =>
        simp only [hb, cond_true, opt] at q
        obtain ⟨xs, hx, q⟩ := q
        cases hx
        cases frz_int s1 hf
        have := small62_of (Bool.and_eq_true_iff.mp hb).2
        refine ⟨j, rfl, this.1, this.2, q ρ1 H1 _ (.refl _) (.refl _) m1 ?_⟩
        rw [show j - 0 = j by omega]
        exact walkR
    | _ => simp only [b2, hf, hz, opt] at q; exact q.elim
theorem i_range2 {a b : Ev} {e e2 tg : Expr} {p pos : Pos} (ok : Cok G k N sc W X) (hg : Gl X "range") (hm : G.mg "range" = none) (ha : PE X e (rd G W (a c))) (hb : PE X e2 (rd G W (b c)))
    (hs : starEach [e, e2] X.env = (false, eval e X.env) :: starEach [e2] X.env) (hs2 : starEach [e2] X.env = (false, eval e2 X.env) :: starEach [] X.env) :
    PI X tg (.Call (.Name "range" p) [e, e2] [] pos) (ri G W (dBi2 .range a b c)) := by
  refine piTo (pi_range2 hg (by rw [ok.eM]; exact hm) (pa_cons (settle ha) (pa_cons (settle hb) pa_nil hs2) hs) (by rw [hs, hs2]; rfl) hs2) fun σ H R q => ?_
  obtain ⟨H0, ρ0, ρ, σe, ih, m, q⟩ := q
  show rs G W (a c) σ H _
  refine bindP pstI m q fun x H1 ρ1 σ1 h1 r1 p1 a1 m1 s1 q => ?_
  show rs G W (b c) σ H1 _
  refine bindP pstI m1 q fun y H2 ρ2 σ2 h2 r2 p2 a2 m2 s2 q => ?_
  cases hf : frozen r1 with
  | none => simp only [b2, hf, opt] at q; exact q.elim
  | some d =>
    cases hf2 : frozen r2 with
    | none => simp only [b2, hf, hf2, opt] at q; exact q.elim
    | some d2 =>
      cases d with
      | int i =>
        cases d2 with
        | int j =>
          simp only [b2, hf, hf2] at q
          cases hb : (small62 i && small62 j) with
          | false => simp only [hb, cond_false, opt] at q; exact q.elim
          | true =>
            simp only [hb, cond_true, opt] at q
            obtain ⟨xs, hx, q⟩ := q
            cases hx
            cases frz_int s1 hf
            cases frz_int s2 hf2
            have z := Bool.and_eq_true_iff.mp hb
            have z1 := small62_of z.1
            have z2 := small62_of z.2
            exact ⟨i, j, rfl, ⟨z1.1, z1.2, z2.1, z2.2⟩, q ρ2 H2 _ (.refl _) (.refl _) m2 walkR⟩
        | _ => simp only [b2, hf, hf2, opt] at q; exact q.elim
      | _ => simp only [b2, hf, hf2, opt] at q; exact q.elim
theorem enumD_len : ∀ (xs : List D) (n : Nat), (enumD n xs).length = xs.length
  | [], _ => rfl
  | x :: xs, n => by simp [enumD, enumD_len xs]
theorem enumD_nth : ∀ (xs : List D) (n i : Nat) (d : D), nth (enumD n xs) i = some d → ∃ x, nth xs i = some x ∧ d = .tup [.int (.ofNat (n + i)), x]
  | [], _, _, _, e => by simp [enumD, nth] at e
  | x :: xs, n, 0, d, e => by simp [enumD, nth] at e; exact ⟨x, rfl, by rw [← e]; rfl⟩
  | x :: xs, n, i + 1, d, e => by
    simp only [enumD, nth] at e ⊢
    obtain ⟨y, h1, h2⟩ := enumD_nth xs _ i d e
    exact ⟨y, h1, by rw [h2, show n + 1 + i = n + (i + 1) by omega]⟩
theorem pair_rep {K : PySem.W.Frag} {H2 : Hp} {T : Addr} {a b : D} {x y : V} (ha : Rep K ρ H2 a x) (hb : Rep K ρ H2 b y) (n : H2 T = none) : Rep K ρ (upd H2 T (.tup [x, y])) (.tup [a, b]) (.ref T) :=
  .tup (.inl (.inl upd_same)) (.cons (ha.new n) (.cons (hb.new n) .nil))
theorem walkEL {K : PySem.W.Frag} {a : Addr} {o : Obj} {vs : List V} {ds : List D} (h : H a = some (.frz o (.lst vs))) (r : Reps K ρ H ds vs) : WalkD K ρ H (Ite K a) (enumD 0 ds) where
  go := fun H' i p hi => by
    rw [enumD_len, r.length] at hi
    exact ⟨vs, vs[i], SqL.pers h p, List.getElem?_eq_getElem hi⟩
  stop := fun H' p => ⟨vs, SqL.pers h p, by rw [enumD_len, r.length]; exact Nat.le_refl _⟩
  yld := fun H' ρ' i x H3 d p al y e => by
    obtain ⟨T, x', rfl, nT, rfl, y⟩ := y
    obtain ⟨z, hz, rfl⟩ := enumD_nth _ _ _ _ e
    obtain ⟨v, h1, h2⟩ := r.get hz
    have := y vs (SqL.pers h p)
    rw [h1] at this; cases this
    refine ⟨.inr ⟨T, _, nT, rfl⟩, ?_⟩
    rw [Nat.zero_add]
    exact pair_rep (.int _) (h2.keep p al) nT
theorem walkET {K : PySem.W.Frag} {a : Addr} {vs : List V} {ds : List D} (h : SqT K H a vs) (r : Reps K ρ H ds vs) : WalkD K ρ H (IteT K a) (enumD 0 ds) where
  go := fun H' i p hi => by
    rw [enumD_len, r.length] at hi
    exact ⟨vs, vs[i], p.sqT h, List.getElem?_eq_getElem hi⟩
  stop := fun H' p => ⟨vs, p.sqT h, by rw [enumD_len, r.length]⟩
  yld := fun H' ρ' i x H3 d p al y e => by
    obtain ⟨T, x', rfl, nT, rfl, y⟩ := y
    obtain ⟨z, hz, rfl⟩ := enumD_nth _ _ _ _ e
    obtain ⟨v, h1, h2⟩ := r.get hz
    have := y vs (p.sqT h)
    rw [h1] at this; cases this
    refine ⟨.inr ⟨T, _, nT, rfl⟩, ?_⟩
    rw [Nat.zero_add]
    exact pair_rep (.int _) (h2.keep p al) nT
theorem i_enum {a : Ev} {e : Expr} {p pos tpos : Pos} {elts : List Expr} {kk : Nat} (ok : Cok G k N sc W X) (hg : Gl X "enumerate") (hm : G.mg "enumerate" = none) (ha : PE X e (rd G W (a c))) (hs : starEach [e] X.env = (false, eval e X.env) :: starEach [] X.env) :
    PI X (.Tuple elts kk tpos) (.Call (.Name "enumerate" p) [e] [] pos) (ri G W (dBi2 .enum a (dCon (.int 0)) c)) := by
  refine piTo (pi_enuA hg (by rw [ok.eM]; exact hm) (pa_cons (settle ha) pa_nil hs) hs) fun σ H R q => ?_
  obtain ⟨H0, ρ0, ρ, σe, ih, m, q⟩ := q
  show rs G W (a c) σ H _
  refine bindP pstI m (show PostI G W H0 ρ0 ρ σ H R ((a c σe ih).bind fun σ h x => opt σ h (b2 .enum σ h x (.v (.int 0)))) from q) fun x H1 ρ1 σ1 h1 r1 p1 a1 m1 s1 q => ?_
  rw [ok.eK]
  cases hf : frozen r1 with
  | none => simp only [b2, hf, opt] at q; exact q.elim
  | some d =>
    have v := s1.frz hf
    cases d with
    | lst ds =>
      simp only [b2, hf, opt] at q
      obtain ⟨xs, hx, q⟩ := q
      cases hx
      cases v with
      | lst e r => exact ⟨_, _, rfl, .inl ⟨SqL.pers e (.refl _), q ρ1 H1 _ (.refl _) (.refl _) m1 (walkEL e r)⟩⟩
    | tup ds =>
      simp only [b2, hf, opt] at q
      obtain ⟨xs, hx, q⟩ := q
      cases hx
      cases v with
      | tup e r => exact ⟨_, _, rfl, .inr ⟨e, q ρ1 H1 _ (.refl _) (.refl _) m1 (walkET e r)⟩⟩
    | _ => simp only [b2, hf, opt] at q; exact q.elim
theorem zipD_len : ∀ (xs ys : List D), (zipD xs ys).length = min xs.length ys.length
  | [], _ => by simp [zipD]
  | _ :: _, [] => by simp [zipD]
  | x :: xs, y :: ys => by
    simp only [zipD, List.length_cons, zipD_len xs ys]
    omega
theorem zipD_nth : ∀ (xs ys : List D) (i : Nat) (d : D), nth (zipD xs ys) i = some d → ∃ x y, nth xs i = some x ∧ nth ys i = some y ∧ d = .tup [x, y]
  | [], _, _, _, e => by simp [zipD, nth] at e
  | _ :: _, [], _, _, e => by simp [zipD, nth] at e
  | x :: xs, y :: ys, 0, d, e => by simp [zipD, nth] at e; exact ⟨x, y, rfl, rfl, e.symm⟩
  | x :: xs, y :: ys, i + 1, d, e => by
    simp only [zipD, nth] at e ⊢
    exact zipD_nth xs ys i d e
theorem walkZL {K : PySem.W.Frag} {a b : Addr} {o o' : Obj} {vs ws : List V} {ds es : List D} (h : H a = some (.frz o (.lst vs))) (r : Reps K ρ H ds vs) (h' : H b = some (.frz o' (.lst ws))) (r' : Reps K ρ H es ws) : WalkD K ρ H (Itz K a b) (zipD ds es) where
  go := fun H' i p hi => by
    rw [zipD_len, r.length, r'.length] at hi
    have h1 : i < vs.length := by omega
    have h2 : i < ws.length := by omega
    exact ⟨vs, ws, vs[i], ws[i], SqL.pers h p, SqL.pers h' p, List.getElem?_eq_getElem h1, List.getElem?_eq_getElem h2⟩
  stop := fun H' p => ⟨vs, ws, SqL.pers h p, SqL.pers h' p, by rw [zipD_len, r.length, r'.length]; omega⟩
  yld := fun H' ρ' i x H3 d p al y e => by
    obtain ⟨T, x', y', rfl, nT, rfl, hx, hy⟩ := y
    obtain ⟨z, u, hz, hu, rfl⟩ := zipD_nth _ _ _ _ e
    obtain ⟨v, h1, h2⟩ := r.get hz
    obtain ⟨v', h3, h4⟩ := r'.get hu
    have e1 := hx vs (SqL.pers h p)
    rw [h1] at e1; cases e1
    have e2 := hy ws (SqL.pers h' p)
    rw [h3] at e2; cases e2
    exact ⟨.inr ⟨T, _, nT, rfl⟩, pair_rep (h2.keep p al) (h4.keep p al) nT⟩
theorem walkZT {K : PySem.W.Frag} {a b : Addr} {vs ws : List V} {ds es : List D} (h : SqT K H a vs) (r : Reps K ρ H ds vs) (h' : SqT K H b ws) (r' : Reps K ρ H es ws) : WalkD K ρ H (RZ.ItzT K a b) (zipD ds es) where
  go := fun H' i p hi => by
    rw [zipD_len, r.length, r'.length] at hi
    have h1 : i < vs.length := by omega
    have h2 : i < ws.length := by omega
    exact ⟨vs, ws, vs[i], ws[i], p.sqT h, p.sqT h', List.getElem?_eq_getElem h1, List.getElem?_eq_getElem h2⟩
  stop := fun H' p => ⟨vs, ws, p.sqT h, p.sqT h', by rw [zipD_len, r.length, r'.length]; omega⟩
  yld := fun H' ρ' i x H3 d p al y e => by
    obtain ⟨T, x', y', rfl, nT, rfl, hx, hy⟩ := y
    obtain ⟨z, u, hz, hu, rfl⟩ := zipD_nth _ _ _ _ e
    obtain ⟨v, h1, h2⟩ := r.get hz
    obtain ⟨v', h3, h4⟩ := r'.get hu
    have e1 := hx vs (p.sqT h)
    rw [h1] at e1; cases e1
    have e2 := hy ws (p.sqT h')
    rw [h3] at e2; cases e2
    exact ⟨.inr ⟨T, _, nT, rfl⟩, pair_rep (h2.keep p al) (h4.keep p al) nT⟩
theorem walkZLT {K : PySem.W.Frag} {a b : Addr} {o : Obj} {vs ws : List V} {ds es : List D} (h : H a = some (.frz o (.lst vs))) (r : Reps K ρ H ds vs) (h' : SqT K H b ws) (r' : Reps K ρ H es ws) : WalkD K ρ H (ItzLT K a b) (zipD ds es) where
  go := fun H' i p hi => by
    rw [zipD_len, r.length, r'.length] at hi
    have h1 : i < vs.length := by omega
    have h2 : i < ws.length := by omega
    exact ⟨vs, ws, vs[i], ws[i], SqL.pers h p, p.sqT h', List.getElem?_eq_getElem h1, List.getElem?_eq_getElem h2⟩
  stop := fun H' p => ⟨vs, ws, SqL.pers h p, p.sqT h', by rw [zipD_len, r.length, r'.length]⟩
  yld := fun H' ρ' i x H3 d p al y e => by
    obtain ⟨T, x', y', rfl, nT, rfl, hx, hy⟩ := y
    obtain ⟨z, u, hz, hu, rfl⟩ := zipD_nth _ _ _ _ e
    obtain ⟨v, h1, h2⟩ := r.get hz
    obtain ⟨v', h3, h4⟩ := r'.get hu
    have e1 := hx vs (SqL.pers h p)
    rw [h1] at e1; cases e1
    have e2 := hy ws (p.sqT h')
    rw [h3] at e2; cases e2
    exact ⟨.inr ⟨T, _, nT, rfl⟩, pair_rep (h2.keep p al) (h4.keep p al) nT⟩
theorem i_zip {a b : Ev} {e e2 : Expr} {p pos tpos : Pos} {elts : List Expr} {kk : Nat} (ok : Cok G k N sc W X) (hg : Gl X "zip") (hm : G.mg "zip" = none) (ha : PE X e (rd G W (a c))) (hb : PE X e2 (rd G W (b c)))
    (hs : starEach [e, e2] X.env = (false, eval e X.env) :: starEach [e2] X.env) (hs2 : starEach [e2] X.env = (false, eval e2 X.env) :: starEach [] X.env) (hpl : (backTo pos (starEach [e2] X.env)).any (·.1) = false) :
    PI X (.Tuple elts kk tpos) (.Call (.Name "zip" p) [e, e2] [] pos) (ri G W (dBi2 .zip a b c)) := by
  have two : PA X [e, e2] (tCons (rs G W (a c)) (tCons (rs G W (b c)) tNil)) := pa_cons (settle ha) (pa_cons (settle hb) pa_nil hs2) hs
  refine piTo (PI.or (RZ.pi_zipA hg (by rw [ok.eM]; exact hm) two hs hpl) (pi_zipLT hg (by rw [ok.eM]; exact hm) two hs hpl)) fun σ H R q => ?_
  obtain ⟨H0, ρ0, ρ, σe, ih, m, q⟩ := q
  let LT : Prop := ∃ σ1 h1 r1 σ2 h2 r2 xs ys, a c σe ih = .ok σ1 h1 r1 ∧ b c σ1 h1 = .ok σ2 h2 r2 ∧ frozen r1 = some (.lst xs) ∧ frozen r2 = some (.tup ys)
  have go : ∀ {R' : V → V → Hp → Prop}, (∀ x y H2 ρ2 σ1 h1 σ2 h2 r1 r2, a c σe ih = .ok σ1 h1 r1 → b c σ1 h1 = .ok σ2 h2 r2 → Mat G.K H0 ρ0 ρ2 σ2 h2 σ H2 → RepS G.K ρ2 σ H2 r1 x → RepS G.K ρ2 σ H2 r2 y → PostI G W H0 ρ0 ρ2 σ H2 R (opt σ2 h2 (b2 .zip σ2 h2 r1 r2)) → R' x y H2) → rs G W (a c) σ H fun x H1 => rs G W (b c) σ H1 fun y H2 => R' x y H2 := fun {R'} f => by
    refine bindQ pstI m q fun x H1 ρ1 σ1 h1 r1 e1 p1 a1 m1 s1 q => ?_
    refine bindQ pstI m1 q fun y H2 ρ2 σ2 h2 r2 e2 p2 a2 m2 s2 q => ?_
    exact f x y H2 ρ2 σ1 h1 σ2 h2 r1 r2 e1 e2 m2 (s1.keep p2 a2) s2 q
  rw [ok.eK]
  by_cases hk : LT
  · obtain ⟨σ1, h1, r1, σ2, h2, r2, xs, ys, e1, e2, f1, f2⟩ := hk
    refine .inr (go (R' := fun x y H2 => ∃ a b xs ys, [x, y] = [.ref a, .ref b] ∧ SqL G.K H2 a xs ∧ SqT G.K H2 b ys ∧ R (ItzLT G.K a b) H2) fun x y H2 ρ2 σ1' h1' σ2' h2' r1' r2' e1' e2' m2 s1 s2 q => ?_)
    rw [e1] at e1'; cases e1'
    rw [e2] at e2'; cases e2'
    have v1 := s1.frz f1
    have v2 := s2.frz f2
    simp only [b2, f1, f2, opt] at q
    obtain ⟨zs, hz, q⟩ := q
    cases hz
    cases v1 with
    | lst e r =>
      cases v2 with
      | tup e' r' => exact ⟨_, _, _, _, rfl, SqL.pers e (.refl _), e', q ρ2 H2 _ (.refl _) (.refl _) m2 (walkZLT e r e' r')⟩
  · refine .inl (go (R' := fun x y H2 => ∃ a b xs ys, [x, y] = [.ref a, .ref b] ∧ ((SqL G.K H2 a xs ∧ SqL G.K H2 b ys ∧ R (Itz G.K a b) H2) ∨ (SqT G.K H2 a xs ∧ SqT G.K H2 b ys ∧ R (RZ.ItzT G.K a b) H2))) fun x y H2 ρ2 σ1 h1 σ2 h2 r1 r2 e1 e2 m2 s1 s2 q => ?_)
    cases hf : frozen r1 with
    | none => simp only [b2, hf, opt] at q; exact q.elim
    | some d =>
      cases hf2 : frozen r2 with
      | none => simp only [b2, hf, hf2, opt] at q; exact q.elim
      | some d2 =>
        have v1 := s1.frz hf
        have v2 := s2.frz hf2
        cases d with
        | lst ds =>
          cases d2 with
          | lst es =>
            simp only [b2, hf, hf2, opt] at q
            obtain ⟨xs, hx, q⟩ := q
            cases hx
            cases v1 with
            | lst e r =>
              cases v2 with
              | lst e' r' => exact ⟨_, _, _, _, rfl, .inl ⟨SqL.pers e (.refl _), SqL.pers e' (.refl _), q ρ2 H2 _ (.refl _) (.refl _) m2 (walkZL e r e' r')⟩⟩
          | tup es => exact absurd ⟨σ1, h1, r1, σ2, h2, r2, ds, es, e1, e2, hf, hf2⟩ hk
          | _ => simp only [b2, hf, hf2, opt] at q; exact q.elim
        | tup ds =>
          cases d2 with
          | tup es =>
            simp only [b2, hf, hf2, opt] at q
            obtain ⟨xs, hx, q⟩ := q
            cases hx
            cases v1 with
            | tup e r =>
              cases v2 with
              | tup e' r' => exact ⟨_, _, _, _, rfl, .inr ⟨e, e', q ρ2 H2 _ (.refl _) (.refl _) m2 (walkZT e r e' r')⟩⟩
          | _ => simp only [b2, hf, hf2, opt] at q; exact q.elim
        | _ => simp only [b2, hf, hf2, opt] at q; exact q.elim
end
end Few
set_option Elab.async false
set_option linter.all false
set_option maxRecDepth 100000
set_option maxHeartbeats 4000000
namespace Few
open PySem PySem.Spec PyProof.Rows L2
section
variable {K : PySem.W.Frag} {H0 H H' : Hp} {ρ0 ρ ρ' : List Addr} {σe σe' : ES} {ih ih' : IH} {σ σ' : L2.St}
theorem nth_setN {α : Type} {xs : List α} {i j : Nat} {a b : α} (e : nth (setN xs i a) j = some b) : (j = i ∧ b = a ∧ i < xs.length) ∨ (j ≠ i ∧ nth xs j = some b) := by
  rw [nth_get, setN_set, List.getElem?_set] at e
  by_cases z : i = j
  · rw [if_pos z] at e
    split at e
    · rename_i hl
      exact .inl ⟨z.symm, (Option.some.inj e).symm, hl⟩
    · cases e
  · rw [if_neg z] at e
    exact .inr ⟨fun q => z q.symm, by rw [nth_get]; exact e⟩
theorem lt_of_nth {α : Type} {xs : List α} {i : Nat} {a : α} (e : nth xs i = some a) : i < xs.length := by
  rw [nth_get] at e; exact (List.getElem?_eq_some_iff.mp e).1
/-- a slot is written -/
theorem Mat.put {i : Nat} {s : Slot} {v : V} (m : Mat K H0 ρ0 ρ σe ih σ H) (hs : SlotOk K ρ H s (some (some v))) (lo : s.own = true → ∀ a, v = .ref a → Lone H0 ρ σe σ a) : Mat K H0 ρ0 ρ (setN σe i s) ih (σ.set i (some v)) H := by
  have at' : ∀ j t, nth (setN σe i s) j = some t → (j = i ∧ t = s ∧ (σ.set i (some v))[j]? = some (some v)) ∨ (j ≠ i ∧ nth σe j = some t ∧ (σ.set i (some v))[j]? = σ[j]?) := fun j t e => by
    rcases nth_setN e with ⟨rfl, rfl, hl⟩ | ⟨ne, e⟩
    · exact .inl ⟨rfl, rfl, List.getElem?_set_self (by rw [← m.len]; exact hl)⟩
    · exact .inr ⟨ne, e, List.getElem?_set_ne (Ne.symm ne)⟩
  refine ⟨by rw [setN_set, List.length_set, List.length_set]; exact m.len, fun j t e => ?_, fun j t a e ow ex => ?_, fun j l t u a e1 e2 o1 o2 h1 h2 => ?_, m.cells, m.kept⟩
  · rcases at' j t e with ⟨rfl, rfl, q⟩ | ⟨ne, e, q⟩
    · rw [q]; exact hs
    · rw [q]; exact m.slot j t e
  · rcases at' j t e with ⟨rfl, rfl, q⟩ | ⟨ne, e, q⟩
    · rw [q] at ex
      have := lo ow a (by simpa using ex)
      exact ⟨this.free, this.new⟩
    · rw [q] at ex; exact m.own j t a e ow ex
  · rcases at' j t e1 with ⟨rfl, rfl, q1⟩ | ⟨n1, e1, q1⟩
    · rcases at' l u e2 with ⟨rfl, rfl, q2⟩ | ⟨n2, e2, q2⟩
      · rfl
      · rw [q1] at h1; rw [q2] at h2
        exact absurd h2 ((lo o1 a (by simpa using h1)).slot l u e2 o2)
    · rcases at' l u e2 with ⟨z1, z2, q2⟩ | ⟨n2, e2, q2⟩
      · rw [q1] at h1; rw [q2] at h2
        rw [z2] at o2
        exact absurd h1 ((lo o2 a (by simpa using h2)).slot j t e1 o1)
      · rw [q1] at h1; rw [q2] at h2
        exact m.sep j l t u a e1 e2 o1 o2 h1 h2
theorem Mat.putF {i : Nat} {d : D} {v : V} (m : Mat K H0 ρ0 ρ σe ih σ H) (r : Rep K ρ H d v) : Mat K H0 ρ0 ρ (setN σe i (.fz d)) ih (σ.set i (some v)) H := m.put (s := .fz d) ⟨v, rfl, r⟩ fun z => nomatch z
/-- a slot is forgotten -/
theorem Mat.unset {i : Nat} {x : Option V} (m : Mat K H0 ρ0 ρ σe ih σ H) : Mat K H0 ρ0 ρ (setN σe i .un) ih (σ.set i x) H := by
  have at' : ∀ j t, nth (setN σe i .un) j = some t → t = .un ∨ (nth σe j = some t ∧ (σ.set i x)[j]? = σ[j]?) := fun j t e => by
    rcases nth_setN e with ⟨rfl, rfl, hl⟩ | ⟨ne, e⟩
    · exact .inl rfl
    · exact .inr ⟨e, List.getElem?_set_ne (Ne.symm ne)⟩
  refine ⟨by rw [setN_set, List.length_set, List.length_set]; exact m.len, fun j t e => ?_, fun j t a e ow ex => ?_, fun j l t u a e1 e2 o1 o2 h1 h2 => ?_, m.cells, m.kept⟩
  · rcases at' j t e with rfl | ⟨e, q⟩
    · trivial
    · rw [q]; exact m.slot j t e
  · rcases at' j t e with rfl | ⟨e, q⟩
    · cases ow
    · rw [q] at ex; exact m.own j t a e ow ex
  · rcases at' j t e1 with rfl | ⟨e1, q1⟩
    · cases o1
    · rcases at' l u e2 with rfl | ⟨e2, q2⟩
      · cases o2
      · rw [q1] at h1; rw [q2] at h2
        exact m.sep j l t u a e1 e2 o1 o2 h1 h2
theorem Mat.wiped (m : Mat K H0 ρ0 ρ σe ih σ H) : ∀ own : List Nat, Mat K H0 ρ0 ρ (Few.wipe σe own) ih (L2.wipe σ own) H
  | [] => m
  | i :: is => (Mat.wiped m is).unset
/-- a thing held by nothing is watched -/
theorem Mat.hold {p : Addr} {u : HO} (m : Mat K H0 ρ0 ρ σe ih σ H) (hp : H p = some u) (lo : Lone H0 ρ σe σ p) : Mat K (upd H0 p u) ρ0 ρ σe ih σ H where
  len := m.len
  slot := m.slot
  own := fun i s a e ow ex => by
    have h := m.own i s a e ow ex
    exact ⟨h.1, by rw [upd_ne (fun z => lo.slot i s e ow (by rw [ex, z]))]; exact h.2⟩
  sep := m.sep
  cells := m.cells
  kept := ⟨m.kept.ahead, fun a o e n => by
    by_cases z : a = p
    · subst z
      rw [upd_same] at e; cases e
      exact ⟨lo.free, hp⟩
    · rw [upd_ne z] at e; exact m.kept.keep a o e n⟩
theorem Mat.drop {p : Addr} {u : HO} (m : Mat K (upd H0 p u) ρ0 ρ σe ih σ H) (n0 : H0 p = none) (nr : p ∉ ρ0) : Mat K H0 ρ0 ρ σe ih σ H ∧ H p = some u ∧ Lone H0 ρ σe σ p := by
  have kp := m.kept.keep p u upd_same nr
  refine ⟨⟨m.len, m.slot, fun i s a e ow ex => ?_, m.sep, m.cells, ⟨m.kept.ahead, fun a o e n => ?_⟩⟩, kp.2, ⟨kp.1, n0, fun i s e ow ex => ?_⟩⟩
  · have h := m.own i s a e ow ex
    refine ⟨h.1, ?_⟩
    have h2 := h.2
    unfold upd at h2
    split at h2
    · cases h2
    · exact h2
  · have ne : a ≠ p := fun z => by rw [z, n0] at e; cases e
    exact m.kept.keep a o (by rw [upd_ne ne]; exact e) n
  · have h := (m.own i s p e ow ex).2
    rw [upd_same] at h; cases h
theorem Lone.nr0 {p : Addr} (lo : Lone H0 ρ σe σ p) (kp : Kept ρ0 H0 ρ H) : p ∉ ρ0 := fun z => lo.free (by obtain ⟨l, rfl⟩ := kp.ahead; exact List.mem_append_left _ z)
/-- a list that nothing holds is written -/
theorem Mat.write {p : Addr} {u o : HO} (m : Mat K H0 ρ0 ρ σe ih σ H) (hp : H p = some u) (mu : Mut (some u)) (lo : Lone H0 ρ σe σ p) : Mat K H0 ρ0 ρ σe ih σ (upd H p o) ∧ Pers H (upd H p o) := ⟨m.at (.mut hp mu) lo, .mut hp mu⟩
theorem Mat.grow (m : Mat K H0 ρ0 ρ σe ih σ H) (g : Grow H H') : Mat K H0 ρ0 ρ σe ih σ H' ∧ Pers H H' := by
  rcases g with rfl | ⟨T, u, n, rfl⟩
  · exact ⟨m, .refl _⟩
  · exact ⟨m.fresh n, .new n⟩
theorem Grow.keep {p : Addr} {u : HO} (g : Grow H H') (e : H p = some u) : H' p = some u := by
  rcases g with rfl | ⟨T, v, n, rfl⟩
  · exact e
  · rw [upd_ne (fun z => by rw [z, n] at e; cases e)]; exact e
end

/-! ### targets -/
def tix : T → List Nat
  | .nm i => [i]
  | .nil => []
  | .cons t ts => tix t ++ tix ts
/-- what a target's store does -/
def gOk (K : PySem.W.Frag) (t : T) (g : TG) : Prop := ∀ (H0 : Hp) (ρ0 ρ : List Addr) (σe : ES) (ih : IH) (σ : L2.St) (H : Hp) (d : D) (x : V) (σe' : ES) (Q : L2.St → Hp → Prop), Mat K H0 ρ0 ρ σe ih σ H → Rep K ρ H d x → asgD t d σe = some σe' →
  (∀ σ', σ'.length = σ.length → (∀ i, i ∉ tix t → σ'[i]? = σ[i]?) → (∀ p, Lone H0 ρ σe σ p → Lone H0 ρ σe' σ' p) → Mat K H0 ρ0 ρ σe' ih σ' H → Q σ' H) → g x σ H Q
def gOks (K : PySem.W.Frag) (t : T) (g : TGs) : Prop := ∀ (H0 : Hp) (ρ0 ρ : List Addr) (σe : ES) (ih : IH) (σ : L2.St) (H : Hp) (ds : List D) (xs : List V) (σe' : ES) (Q : L2.St → Hp → Prop), Mat K H0 ρ0 ρ σe ih σ H → Reps K ρ H ds xs → asgD t (.tup ds) σe = some σe' →
  (∀ σ', σ'.length = σ.length → (∀ i, i ∉ tix t → σ'[i]? = σ[i]?) → (∀ p, Lone H0 ρ σe σ p → Lone H0 ρ σe' σ' p) → Mat K H0 ρ0 ρ σe' ih σ' H → Q σ' H) → g xs σ H Q
section
variable {X : Cx} {K : PySem.W.Frag}
theorem Lone.putF {H0 : Hp} {ρ : List Addr} {σe : ES} {σ : L2.St} {p : Addr} {i : Nat} {d : D} {x : Option V} (lo : Lone H0 ρ σe σ p) : Lone H0 ρ (setN σe i (.fz d)) (σ.set i x) p where
  free := lo.free
  new := lo.new
  slot := fun j s e ow => by
    rcases nth_setN e with ⟨rfl, rfl, _⟩ | ⟨ne, e⟩
    · cases ow
    · rw [List.getElem?_set_ne (Ne.symm ne)]; exact lo.slot j s e ow
theorem g_nm {i : Nat} : gOk K (.nm i) (gName i) := fun H0 ρ0 ρ σe ih σ H d x σe' Q m r e f => by
  simp only [asgD, Option.some.injEq] at e
  subst e
  exact f _ (by rw [List.length_set]) (fun j hj => List.getElem?_set_ne (by simp [tix] at hj; exact fun z => hj z.symm)) (fun p lo => lo.putF) (m.putF r)
theorem g_nil : gOks K .nil gNil := fun H0 ρ0 ρ σe ih σ H ds xs σe' Q m r e f => by
  cases ds with
  | nil =>
    simp only [asgD, Option.some.injEq] at e
    subst e
    cases r
    exact ⟨rfl, f σ rfl (fun _ _ => rfl) (fun _ lo => lo) m⟩
  | cons _ _ => simp [asgD] at e
theorem g_cons {t ts : T} {g : TG} {gs : TGs} (h : gOk K t g) (hs : gOks K ts gs) : gOks K (.cons t ts) (gCons g gs) := fun H0 ρ0 ρ σe ih σ H ds xs σe' Q m r e f => by
  cases r with
  | nil => simp [asgD] at e
  | cons r1 rr =>
    rename_i d v ds vs
    simp only [asgD] at e
    split at e
    · rename_i σ1 e1
      refine ⟨v, vs, rfl, h H0 ρ0 ρ σe ih σ H d v σ1 _ m r1 e1 fun σ' l1 k1 lo1 m1 => ?_⟩
      refine hs H0 ρ0 ρ σ1 ih σ' H ds vs σe' Q m1 rr e fun σ2 l2 k2 lo2 m2 => f σ2 (l2.trans l1) (fun i hi => ?_) (fun p lo => lo2 p (lo1 p lo)) m2
      simp only [tix, List.mem_append, not_or] at hi
      rw [k2 i hi.2, k1 i hi.1]
    · cases e
def tlen : T → Option Nat
  | .nil => some 0
  | .cons _ ts => (tlen ts).map (· + 1)
  | .nm _ => none
theorem asgD_len : ∀ (t : T) (n : Nat) (ds : List D) (σ σ' : ES), tlen t = some n → asgD t (.tup ds) σ = some σ' → ds.length = n
  | .nm _, _, _, _, _, h, _ => by simp [tlen] at h
  | .nil, n, ds, _, _, h, e => by
    simp only [tlen, Option.some.injEq] at h
    subst h
    cases ds with
    | nil => rfl
    | cons _ _ => simp [asgD] at e
  | .cons t ts, n, ds, σ, σ', h, e => by
    simp only [tlen, Option.map_eq_some_iff] at h
    obtain ⟨q, h1, h2⟩ := h
    cases ds with
    | nil => simp [asgD] at e
    | cons d ds =>
      simp only [asgD] at e
      split at e
      · rename_i σ1 e1
        have := asgD_len ts q ds _ _ h1 e
        simp only [List.length_cons]; omega
      · cases e
theorem g_tup {t : T} {gs : TGs} {n : Nat} (h : gOks K t gs) (hn : tlen t = some n) : gOk K t (gTup K n gs) := fun H0 ρ0 ρ σe ih σ H d x σe' Q m r e f => by
  cases d with
  | tup ds =>
    cases r with
    | tup hq rr => exact ⟨_, _, rfl, hq, by rw [← rr.length]; exact asgD_len t n ds _ _ hn e, h H0 ρ0 ρ σe ih σ H ds _ σe' Q m rr e f⟩
  | _ => cases t <;> simp [asgD, tlen] at e hn
end
/-! ### comprehensions -/
abbrev WF : WX := fun _ _ _ _ => False
section
variable {G : Gd} {k : Nat} {N : List PySem.Str} {sc : Scope} {W : WX} {X : Cx} {c : Call}
variable {H0 H H1 : Hp} {ρ0 ρ ρ1 : List Addr} {σe σ1e : ES} {ih : IH} {σ : L2.St} {Q : VK}
theorem gloop_len {own : List Nat} {t : T} {cd g : Ev} : ∀ (xs : List D) (σ : ES) (h : IH) (acc : List D) (σ' : ES) (h' : IH) (r : RV), gloop own t cd g c xs σ h acc = .ok σ' h' r → ∃ ys, r = .ls ys ∧ acc.length ≤ ys.length
  | [], σ, h, acc, σ', h', r, e => by
    simp only [gloop, Out.ok.injEq] at e
    exact ⟨acc, e.2.2.symm, Nat.le_refl _⟩
  | x :: xs, σ, h, acc, σ', h', r, e => by
    simp only [gloop] at e
    split at e
    · cases e
    · rename_i σ1 _
      cases h1 : cd c σ1 h with
      | st => rw [h1] at e; cases e
      | ex _ _ _ => rw [h1] at e; cases e
      | ok s2 i2 r2 =>
        simp only [h1, Out.bind] at e
        split at e
        · cases h2 : g c s2 i2 with
          | st => rw [h2] at e; cases e
          | ex _ _ _ => rw [h2] at e; cases e
          | ok s3 i3 r3 =>
            simp only [h2] at e
            split at e
            · obtain ⟨ys, h3, h4⟩ := gloop_len xs _ _ _ _ _ _ e
              refine ⟨ys, h3, ?_⟩
              rw [List.length_append] at h4
              omega
            · cases e
        · exact gloop_len xs _ _ _ _ _ _ e
        · cases e
/-- a turn's test -/
theorem pts_of {cd : Cd} {ifs : List Expr} (h : (ifs = [] ∧ cd = dCon (.bl true) c) ∨ ∃ e, ifs = [e] ∧ PT X e (rt G W cd)) : PTs X ifs (rt G W cd) := by
  rcases h with ⟨rfl, rfl⟩ | ⟨e, rfl, h⟩
  · refine ⟨fun pins s σ H Q I q => ?_⟩
    obtain ⟨H0, ρ0, ρ, σe, ih, m, b, e, q⟩ := q
    cases e
    exact pts_nil.run pins s σ H Q I (q ρ H (.refl _) (.refl _) m)
  · exact pts_one h
/-- what hides: the slots are there or free -/
theorem hid_slot {own : List Nat} {i : Nat} (h : hid σe own = true) (hi : i ∈ own) : nth σe i = some .un ∨ ∃ d, nth σe i = some (.fz d) := by
  have := List.all_eq_true.mp h i hi
  split at this
  · left; assumption
  · right; exact ⟨_, by assumption⟩
  · cases this
theorem unwipe_at {σ0 : ES} : ∀ (own : List Nat) (σ : ES) (j : Nat) (t : Slot), σ.length = σ0.length → nth (Few.unwipe σ0 σ own) j = some t → (j ∈ own ∧ nth σ0 j = some t) ∨ (j ∉ own ∧ nth σ j = some t)
  | [], σ, j, t, hl, e => .inr ⟨by simp, e⟩
  | i :: is, σ, j, t, hl, e => by
    simp only [Few.unwipe] at e
    split at e
    · rename_i s hs
      rcases unwipe_at is _ j t (by rw [setN_set, List.length_set]; exact hl) e with ⟨h1, h2⟩ | ⟨h1, h2⟩
      · exact .inl ⟨List.mem_cons_of_mem _ h1, h2⟩
      · rcases nth_setN h2 with ⟨rfl, rfl, _⟩ | ⟨ne, h2⟩
        · exact .inl ⟨List.mem_cons_self, hs⟩
        · exact .inr ⟨by simp [ne, h1], h2⟩
    · rename_i hs
      rcases unwipe_at is _ j t hl e with ⟨h1, h2⟩ | ⟨h1, h2⟩
      · exact .inl ⟨List.mem_cons_of_mem _ h1, h2⟩
      · by_cases z : j = i
        · subst z
          have := lt_of_nth h2
          rw [hl] at this
          rw [nth_get, List.getElem?_eq_getElem this] at hs
          cases hs
        · exact .inr ⟨by simp [z, h1], h2⟩
theorem unwipe_len {σ0 : ES} : ∀ (own : List Nat) (σ : ES), (Few.unwipe σ0 σ own).length = σ.length
  | [], _ => rfl
  | i :: is, σ => by
    simp only [Few.unwipe]
    split
    · rw [unwipe_len, setN_set, List.length_set]
    · exact unwipe_len is σ
theorem Mat.unwipe {σ2 : L2.St} {σe2 : ES} {H2 : Hp} {ρ2 : List Addr} {ih2 : IH} {own : List Nat} (m : Mat G.K H0 ρ0 ρ σe ih σ H) (h : hid σe own = true) (ps : Pers H H2) (al : Ahead ρ ρ2) (m2 : Mat G.K H0 ρ0 ρ2 σe2 ih2 σ2 H2)
    (hl : σ2.length = σ.length) (hk : ∀ i, i ∉ own → σ2[i]? = σ[i]?) : Mat G.K H0 ρ0 ρ2 (Few.unwipe σe σe2 own) ih2 σ H2 := by
  have hle : σe2.length = σe.length := by rw [m2.len, hl, m.len]
  have at' : ∀ j t, nth (Few.unwipe σe σe2 own) j = some t → (t.own = false ∧ nth σe j = some t) ∨ (nth σe2 j = some t ∧ σ2[j]? = σ[j]?) := fun j t e => by
    rcases unwipe_at own σe2 j t hle e with ⟨h1, h2⟩ | ⟨h1, h2⟩
    · rcases hid_slot h h1 with z | ⟨d, z⟩
      · rw [z] at h2; cases h2; exact .inl ⟨rfl, z⟩
      · rw [z] at h2; cases h2; exact .inl ⟨rfl, z⟩
    · exact .inr ⟨h2, hk j h1⟩
  refine ⟨by rw [unwipe_len, m2.len, hl], fun j t e => ?_, fun j t a e ow ex => ?_, fun j l t u a e1 e2 o1 o2 h1 h2 => ?_, m2.cells, m2.kept⟩
  · rcases at' j t e with ⟨nw, e⟩ | ⟨e, q⟩
    · exact (m.slot j t e).keep ps al fun a u ow _ _ => by rw [nw] at ow; cases ow
    · rw [← q]; exact m2.slot j t e
  · rcases at' j t e with ⟨nw, e⟩ | ⟨e, q⟩
    · rw [nw] at ow; cases ow
    · exact m2.own j t a e ow (by rw [q]; exact ex)
  · rcases at' j t e1 with ⟨nw, e1⟩ | ⟨e1, q1⟩
    · rw [nw] at o1; cases o1
    · rcases at' l u e2 with ⟨nw, e2⟩ | ⟨e2, q2⟩
      · rw [nw] at o2; cases o2
      · exact m2.sep j l t u a e1 e2 o1 o2 (by rw [q1]; exact h1) (by rw [q2]; exact h2)
theorem Lone.unwipe {σ2 : L2.St} {σe2 : ES} {ρ2 : List Addr} {own : List Nat} {p : Addr} (hle : σe2.length = σe.length) (h : hid σe own = true) (lo : Lone H0 ρ2 σe2 σ2 p) (hk : ∀ i, i ∉ own → σ2[i]? = σ[i]?) : Lone H0 ρ2 (Few.unwipe σe σe2 own) σ p where
  free := lo.free
  new := lo.new
  slot := fun j t e ow => by
    rcases unwipe_at own σe2 j t hle e with ⟨h1, h2⟩ | ⟨h1, h2⟩
    · rcases hid_slot h h1 with z | ⟨d, z⟩
      · rw [z] at h2; cases h2; cases ow
      · rw [z] at h2; cases h2; cases ow
    · rw [← hk j h1]; exact lo.slot j t h2 ow
theorem wipe_out' {σ : L2.St} {i : Nat} {vs : List Nat} (h : i ∉ vs) : (L2.wipe σ vs)[i]? = σ[i]? := wipe_out h
theorem wipe_in {σ : L2.St} {i : Nat} : ∀ {vs : List Nat}, i ∈ vs → i < σ.length → (L2.wipe σ vs)[i]? = some none
  | v :: vs, h, hl => by
    rw [show (L2.wipe σ (v :: vs))[i]? = ((L2.wipe σ vs).set v none)[i]? from rfl]
    by_cases z : v = i
    · subst z
      rw [List.getElem?_set_self (by rw [wipe_length]; exact hl)]
    · rw [List.getElem?_set_ne z]
      rcases List.mem_cons.mp h with e | h
      · exact absurd e.symm z
      · exact wipe_in h hl
theorem wipe_eq {σ2 σ : L2.St} {vs : List Nat} (hl : σ2.length = σ.length) (h : ∀ i, i ∉ vs → σ2[i]? = (L2.wipe σ vs)[i]?) : L2.wipe σ2 vs = L2.wipe σ vs := by
  apply List.ext_getElem?
  intro i
  by_cases hi : i ∈ vs
  · by_cases hb : i < σ.length
    · rw [wipe_in hi hb, wipe_in hi (by rw [hl]; exact hb)]
    · rw [List.getElem?_eq_none (by rw [wipe_length]; omega), List.getElem?_eq_none (by rw [wipe_length]; omega)]
  · rw [wipe_out hi, h i hi]
theorem Lone.wiped {p : Addr} (lo : Lone H0 ρ σe σ p) : ∀ own : List Nat, Lone H0 ρ (Few.wipe σe own) (L2.wipe σ own) p
  | [] => lo
  | i :: is => by
    have h := Lone.wiped lo is
    refine ⟨h.free, h.new, fun j s e ow => ?_⟩
    rcases nth_setN (xs := Few.wipe σe is) e with ⟨rfl, rfl, _⟩ | ⟨ne, e⟩
    · cases ow
    · rw [show (L2.wipe σ (i :: is))[j]? = ((L2.wipe σ is).set i none)[j]? from rfl, List.getElem?_set_ne (Ne.symm ne)]
      exact h.slot j s e ow
/-- the loop of a comprehension: acc so far (reversed) is in the list at D -/
structure LoopI (G : Gd) (H0 : Hp) (ρ0 ρ1 : List Addr) (H1 : Hp) (σ : L2.St) (own : List Nat) (D : Addr) (σe : ES) (ih : IH) (acc : List Few.D) (H : Hp) : Prop where
  to : ∃ ρ accV, Pers H1 H ∧ Ahead ρ1 ρ ∧ Mat G.K H0 ρ0 ρ (Few.wipe σe own) ih (L2.wipe σ own) H ∧ H D = some (.lst accV) ∧ Lone H0 ρ (Few.wipe σe own) (L2.wipe σ own) D ∧ Reps G.K ρ H acc.reverse accV
theorem lc_read {vs : List Nat} {t : T} {it cd a : Ev} {g : TG} (hgo : gOk G.K t g) (htx : ∀ i ∈ tix t, i ∈ vs) {σ : L2.St} {H : Hp} {Q : VK} (q : rd G W (dBlk vs t it cd (dGelt a) finL c) σ H Q) :
    tLc (ri G W (it c)) g (rt G WF (cd c)) (rs G WF (a c)) vs σ H Q := by
  obtain ⟨H0, ρ0, ρ, σe, ih, m, q⟩ := q
  refine ⟨H0, ρ0, ρ, σe, ih, m, ?_⟩
  unfold dBlk Out.bind at q
  cases hit : it c σe ih with
  | st => rw [hit] at q; exact q
  | ex σ' h' x => rw [hit] at q; exact q
  | ok σ1e ih1 r1 =>
    rw [hit] at q
    cases hz : itz r1 with
    | none => simp only [hz] at q; exact q.elim
    | some xs =>
      simp only [hz] at q
      cases hh : hid σ1e (vs) with
      | false => simp only [hh, cond_false] at q; exact q.elim
      | true =>
        simp only [hh, cond_true] at q
        refine ⟨xs, hz, fun ρ1 H1 J p1 al1 m1 w D nD => ?_⟩
        replace q := PostE.weak p1 al1 q
        let kf : Out → Out := fun o => o.calm.bind fun σ' h y => match y with
          | .ls acc => (match finL acc.reverse with
            | some v => .ok (Few.unwipe σ1e (Few.wipe σ' vs) vs) h v
            | none => .st)
          | _ => .st
        have q0 : PostE G W (RlR G) H0 ρ0 ρ1 σ H1 Q (kf (gloop vs t cd (dGelt a) c xs σ1e ih1 [])) := q
        clear q
        let WW : Nat → Nat → Hp → Prop := fun i mm H => mm = xs.length - i ∧ i ≤ xs.length ∧ ∃ σe2 ih2 acc, LoopI G H0 ρ0 ρ1 H1 σ vs D σe2 ih2 acc H ∧ PostE G W (RlR G) H0 ρ0 ρ1 σ H1 Q (kf (gloop vs t cd (dGelt a) c (xs.drop i) σe2 ih2 acc))
        refine ⟨WW, ⟨xs.length, rfl, Nat.zero_le _, σ1e, ih1, [], ⟨ρ1, [], .new nD, .refl _, (m1.fresh nD).wiped vs, upd_same, (m1.lone nD).wiped vs, .nil⟩, q0⟩, fun i mm H hW => ?_⟩
        obtain ⟨hmm, hi', σe2, ih2, acc, ⟨ρ, accV, ps, al, mt, hD, lo, racc⟩, q⟩ := hW
        by_cases hend : i = xs.length
        · subst hend
          refine .inl ⟨w.stop H ps, ?_⟩
          rw [List.drop_length] at q
          change PostE G W (RlR G) H0 ρ0 ρ1 σ H1 Q (match finL acc.reverse with
            | some v => .ok (Few.unwipe σ1e (Few.wipe σe2 vs) vs) ih2 v
            | none => .st) at q
          unfold finL at q
          cases hf : fits acc.reverse with
          | false => simp only [hf, cond_false] at q; exact q.elim
          | true =>
            simp only [hf, cond_true] at q
            refine q ρ H (.ref D) ps al (m1.unwipe hh ps al mt (wipe_length _ _) fun i hi => wipe_out hi) ⟨D, accV, rfl, hD, racc, lo.unwipe ?_ hh fun i hi => wipe_out hi⟩
            rw [mt.len, wipe_length, m1.len]
        · refine .inr ⟨w.go H i ps (by omega), fun H' => ∃ m', m' < mm ∧ WW (i + 1) m' H', fun H' h => h, fun x H' hy => ?_⟩
          have hlt : i < xs.length := by omega
          have hdr : xs.drop i = xs[i] :: xs.drop (i + 1) := List.drop_eq_getElem_cons hlt
          rw [hdr] at q
          obtain ⟨gr, rx⟩ := w.yld H ρ i x H' xs[i] ps al hy (by rw [nth_get]; exact List.getElem?_eq_getElem hlt)
          have mg := mt.grow gr
          have hD' := gr.keep hD
          have racc := racc.keep mg.2 (.refl _)
          have ps := ps.trans mg.2
          simp only [gloop] at q
          cases ha : asgD t xs[i] (Few.wipe σe2 vs) with
          | none => simp only [ha] at q; exact q.elim
          | some σe3 =>
            simp only [ha] at q
            refine hgo H0 ρ0 ρ _ ih2 _ H' xs[i] x σe3 _ mg.1 rx ha fun σ2 l2 k2 lo2 m3 => ?_
            have hw2 : L2.wipe σ2 vs = L2.wipe σ vs := wipe_eq (l2.trans (wipe_length _ _)) fun j hj => k2 j fun z => hj (htx j z)
            refine ⟨hw2, ?_⟩
            have lo3 := lo2 D lo
            have n0 : H0 D = none := lo.new
            have nr : D ∉ ρ0 := lo.nr0 mt.kept
            -- the state at the next turn
            have next : ∀ (σe5 : ES) (ih5 : IH) (acc5 : List Few.D) (accV5 : List V) (ρ5 : List Addr) (H5 : Hp), Pers H' H5 → Ahead ρ ρ5 → Mat G.K H0 ρ0 ρ5 σe5 ih5 σ2 H5 → H5 D = some (.lst accV5) → Lone H0 ρ5 σe5 σ2 D → Reps G.K ρ5 H5 acc5.reverse accV5 →
                PostE G W (RlR G) H0 ρ0 ρ1 σ H1 Q (kf (gloop vs t cd (dGelt a) c (xs.drop (i + 1)) σe5 ih5 acc5)) → ∃ m', m' < mm ∧ WW (i + 1) m' H5 := fun σe5 ih5 acc5 accV5 ρ5 H5 p5 a5 m5 d5 l5 r5 q5 => by
              refine ⟨xs.length - (i + 1), by omega, rfl, by omega, σe5, ih5, acc5, ⟨ρ5, accV5, ps.trans p5, al.trans a5, ?_, d5, ?_, r5⟩, q5⟩
              · rw [← hw2]; exact m5.wiped vs
              · rw [← hw2]; exact l5.wiped vs
            refine ⟨upd H0 D (.lst accV), ρ0, ρ, σe3, ih2, m3.hold hD' lo3, ?_⟩
            cases hc : cd c σe3 ih2 with
            | st => simp only [hc, Out.bind] at q; exact q.elim
            | ex _ _ _ => simp only [hc, Out.bind] at q; exact q.elim
            | ok σe4 ih4 rb =>
              simp only [hc, Out.bind] at q
              cases hb : truthR σe4 rb with
              | none => simp only [hb] at q; exact q.elim
              | some b =>
                simp only [hb] at q
                refine ⟨b, hb, fun ρ4 H3 p4 a4 m4 => ?_⟩
                obtain ⟨m4, d4, l4⟩ := m4.drop n0 nr
                cases b with
                | false => exact next σe4 ih4 acc accV ρ4 H3 p4 a4 m4 d4 l4 (racc.keep p4 a4) q
                | true =>
                  simp only at q
                  refine ⟨upd H0 D (.lst accV), ρ0, ρ4, σe4, ih4, m4.hold d4 l4, ?_⟩
                  simp only [dGelt] at q
                  cases hel : a c σe4 ih4 with
                  | st => simp only [hel, Out.bind] at q; exact q.elim
                  | ex _ _ _ => simp only [hel, Out.bind] at q; exact q.elim
                  | ok σe5 ih5 re =>
                    simp only [hel, Out.bind] at q
                    intro ρ5 H4 y p5 a5 m5 s5
                    obtain ⟨m5, d5, l5⟩ := m5.drop n0 nr
                    cases hfr : frozen re with
                    | none => simp only [hfr] at q; exact q.elim
                    | some d =>
                      simp only [hfr] at q
                      have ry := s5.frz hfr
                      have hsz : acc.length < sizeLine := by
                        cases hg' : gloop vs t cd (dGelt a) c (xs.drop (i + 1)) σe5 ih5 ([d].reverse ++ acc) with
                        | st => rw [hg'] at q; exact q.elim
                        | ex _ _ _ => rw [hg'] at q; exact q.elim
                        | ok _ _ rr =>
                          obtain ⟨ys, rfl, hle⟩ := gloop_len _ _ _ _ _ _ _ hg'
                          rw [hg'] at q
                          change PostE G W (RlR G) H0 ρ0 ρ1 σ H1 Q (match finL ys.reverse with
                            | some v => .ok _ _ v
                            | none => .st) at q
                          unfold finL at q
                          cases hf : fits ys.reverse with
                          | false => simp only [hf, cond_false] at q; exact q.elim
                          | true =>
                            have := fits_of hf
                            rw [List.length_reverse] at this
                            simp at hle
                            omega
                      have rl : accV.length = acc.length := by rw [← racc.length, List.length_reverse]
                      refine ⟨accV, d5, by rw [rl]; exact hsz, ?_⟩
                      have mw := m5.write (o := .lst (accV ++ [y])) d5 trivial l5
                      refine next σe5 ih5 ([d].reverse ++ acc) (accV ++ [y]) ρ5 _ ((p4.trans p5).trans mw.2) (a4.trans a5) mw.1 upd_same l5 ?_ q
                      have r6 := (racc.keep ((p4.trans p5).trans mw.2) (a4.trans a5)).append (.cons (ry.keep mw.2 (.refl _)) .nil)
                      rw [show ([d].reverse ++ acc).reverse = acc.reverse ++ [d] by simp]
                      exact r6
theorem r_lc {own : List (PySem.Str × Nat)} {t : T} {it cd a : Ev} {elt tg iter : Expr} {ifs : List Expr} {scope : Scope} {pos : Pos} {g : TG} (ok : Cok G k N sc W X) (hi : PI X tg iter (ri G W (it c))) (bk : BlkOk X.N X.env.scope scope own)
    (hg : ∀ (s : Shared) (H : Hp) (C : Addr) (cl : List (PySem.Str × Addr)) (fp : List Addr), PG (X.blk s H scope (compEnvC scope cl C X.env) fp) tg g) (hgo : gOk G.K t g) (htx : ∀ i ∈ tix t, i ∈ own.map (·.2))
    (ht : ∀ (s : Shared) (H : Hp) (C : Addr) (cl : List (PySem.Str × Addr)) (fp : List Addr), PTs (X.blk s H scope (compEnvC scope cl C X.env) fp) ifs (rt G WF (cd c)))
    (he : ∀ (s : Shared) (H : Hp) (C : Addr) (cl : List (PySem.Str × Addr)) (fp : List Addr), PE (X.blk s H scope (compEnvC scope cl C X.env) fp) elt (rd G WF (a c)))
    (hs : ∀ x, foldedSetIterable iter X.env x = pure x) : PE X (.ListComp elt [⟨tg, iter, ifs, 0⟩] scope pos) (rd G W (dBlk (own.map (·.2)) t it cd (dGelt a) finL c)) := by
  exact peTo (pe_lc ok.calm (by rw [ok.eN]; exact ok.nd) hi bk hg ht (fun s H C cl fp => settle (he s H C cl fp)) hs) fun σ H Q q => lc_read hgo htx q
end
end Few
set_option Elab.async false
set_option linter.all false
set_option maxRecDepth 100000
set_option maxHeartbeats 4000000
namespace Few
open PySem PySem.Spec PyProof.Rows L2
section
variable {G : Gd} {k : Nat} {N : List PySem.Str} {sc : Scope} {W : WX} {X : Cx} {c : Call}
variable {H0 H : Hp} {ρ0 ρ : List Addr} {σe : ES} {ih : IH} {σ : L2.St} {Q : VK}
theorem CallR.or {f : Value} {r r' : List V → Hp → VK → Prop} (h : CallR X f r) (h' : CallR X f r') : CallR X f (fun x H Q => r x H Q ∨ r' x H Q) := by
  intro pins s σ H xs us Q I rx q
  rcases q with q | q
  · exact h pins s σ H xs us Q I rx q
  · exact h' pins s σ H xs us Q I rx q
/-- a built-in of one argument -/
theorem bi_gen {rr : List V → Hp → VK → Prop} {b : B1} {a : Ev} {e : Expr} (rule : PE X e (tCB rr (tCons (rs G W (a c)) tNil)))
    (f : ∀ (H0 : Hp) (ρ0 ρ : List Addr) (σe : ES) (ih : IH) (σ : L2.St) (H : Hp) (d : D) (r' : RV) (x : V) (Q : VK), Mat G.K H0 ρ0 ρ σe ih σ H → Val G.K ρ H d x → b1 b d = some r' → PostE G W (RlR G) H0 ρ0 ρ σ H Q (.ok σe ih r') → rr [x] H Q) : PE X e (rd G W (dBi b a c)) := by
  refine peTo rule fun σ H Q q => ?_
  obtain ⟨H0, ρ0, ρ, σe, ih, m, q⟩ := q
  refine oneP m q fun x H1 ρ1 σ1 h1 r1 p1 a1 m1 s1 q => ?_
  cases hv : valH σ1 h1 r1 with
  | none => simp only [hv] at q; exact q.elim
  | some d =>
    simp only [hv] at q
    cases hb : b1 b d with
    | none => simp only [hb, opt] at q; exact q.elim
    | some r' =>
      simp only [hb, opt] at q
      exact f H0 ρ0 ρ1 σ1 h1 σ H1 d r' x Q m1 (m1.readsH s1 hv) hb q
theorem arg1 {a : Ev} {e : Expr} (ha : PE X e (rd G W (a c))) (hs : starEach [e] X.env = (false, eval e X.env) :: starEach [] X.env) : PA X [e] (tCons (rs G W (a c)) tNil) := pa_cons (settle ha) pa_nil hs
section
variable {a : Ev} {e : Expr} {p pos : Pos}
theorem call_lenDk : CallR X (.builtin "len") (fun xs H Q => ∃ a kvs, xs = [V.ref a] ∧ Rd H a (.dK kvs) ∧ Q (.int kvs.length) H) := by
  intro pins s σ H xs us Q I r h
  obtain ⟨a, kvs, rfl, h1, q⟩ := h
  obtain ⟨u, rfl, ru⟩ := vals1 r
  cases ru
  exact d_len I h1 fun t s' I' => ⟨.int kvs.length, H, I', ⟨t, rfl⟩, q⟩
theorem r_len (ok : Cok G k N sc W X) (hg : Gl X "len") (hm : G.mg "len" = none) (ha : PE X e (rd G W (a c))) (hs : starEach [e] X.env = (false, eval e X.env) :: starEach [] X.env) (hpl : (backTo pos (starEach [] X.env)).any (·.1) = false) :
    PE X (.Call (.Name "len" p) [e] [] pos) (rd G W (dBi .len a c)) := by
  refine bi_gen (pe_callB (CallR.or call_len call_lenDk) hg (by rw [ok.eM]; exact hm) boot_len (arg1 ha hs) (by decide) (by decide) hs hpl) fun H0 ρ0 ρ σe ih σ H d r' x Q m v e q => ?_
  rw [ok.eK]
  unfold b1 at e
  dsimp only at e
  split at e
  · obtain ⟨a, vs, rfl, l, rr⟩ := v.list
    cases e
    rw [rr.length] at q
    exact .inl ⟨_, _, rfl, .inl ⟨vs, l, rfl⟩, post_v m (.int _) q⟩
  · obtain ⟨a, vs, rfl, l, rr⟩ := v.tuple
    cases e
    rw [rr.length] at q
    exact .inl ⟨_, _, rfl, .inr ⟨vs, l, rfl⟩, post_v m (.int _) q⟩
  · rename_i z
    cases v.str
    cases hf : fits z with
    | false => rw [hf] at e; cases e
    | true =>
      rw [hf] at e
      cases e
      have hz := fits_of hf
      have hl : (txt z).length = z.length := by simp [PySem.Str.length, txt]
      refine .inl ⟨_, z.length, rfl, ⟨by rw [hl]; exact hz, hl.symm⟩, post_v m (.int _) q⟩
  · obtain ⟨a, kvs, rfl, l, rr⟩ := v.dict
    cases e
    rw [rr.length.1] at q
    exact .inr ⟨_, kvs, rfl, l, post_v m (.int _) q⟩
  · cases e
theorem r_list (ok : Cok G k N sc W X) (hg : Gl X "list") (hm : G.mg "list" = none) (ha : PE X e (rd G W (a c))) (hs : starEach [e] X.env = (false, eval e X.env) :: starEach [] X.env) (hpl : (backTo pos (starEach [] X.env)).any (·.1) = false) :
    PE X (.Call (.Name "list" p) [e] [] pos) (rd G W (dBi .list a c)) := by
  refine bi_gen (pe_callTy call_list_of hg (by rw [ok.eM]; exact hm) boot_list (arg1 ha hs) (by decide) (by decide) hs hpl) fun H0 ρ0 ρ σe ih σ H d r' x Q m v e q => ?_
  rw [ok.eK]
  unfold b1 at e
  dsimp only at e
  split at e
  · obtain ⟨a, vs, rfl, l, rr⟩ := v.list
    cases e
    exact ⟨_, _, rfl, .inl l, fun p np => post_lst m rr np q⟩
  · obtain ⟨a, vs, rfl, l, rr⟩ := v.tuple
    cases e
    exact ⟨_, _, rfl, .inr l, fun p np => post_lst m rr np q⟩
  · cases e
theorem r_tuple (ok : Cok G k N sc W X) (hg : Gl X "tuple") (hm : G.mg "tuple" = none) (ha : PE X e (rd G W (a c))) (hs : starEach [e] X.env = (false, eval e X.env) :: starEach [] X.env) (hpl : (backTo pos (starEach [] X.env)).any (·.1) = false) :
    PE X (.Call (.Name "tuple" p) [e] [] pos) (rd G W (dBi .tuple a c)) := by
  refine bi_gen (pe_callTy call_tuple_of hg (by rw [ok.eM]; exact hm) boot_tuple (arg1 ha hs) (by decide) (by decide) hs hpl) fun H0 ρ0 ρ σe ih σ H d r' x Q m v e q => ?_
  rw [ok.eK]
  unfold b1 at e
  dsimp only at e
  split at e
  · obtain ⟨a, vs, rfl, l, rr⟩ := v.list
    cases e
    exact ⟨_, _, rfl, .inl ⟨l, fun p np => post_tup m rr np q⟩⟩
  · obtain ⟨a, vs, rfl, l, rr⟩ := v.tuple
    cases e
    exact ⟨_, _, rfl, .inr ⟨l, post_v m (.tup l rr) q⟩⟩
  · cases e
theorem ints_ok {K : PySem.W.Frag} : ∀ {ds : List D} {vs : List V} {ns : List Int}, Reps K ρ H ds vs → intsD ds = some ns → vs = ns.map V.int
  | _, _, ns, .nil, e => by cases e; rfl
  | _, _, ns, .cons (d := d) h r, e => by
    cases d with
    | int i =>
      simp only [intsD] at e
      split at e
      · rename_i r' hr
        cases e
        cases h
        rw [ints_ok r hr]; rfl
      · cases e
    | _ => cases e
theorem bools_ok {K : PySem.W.Frag} : ∀ {ds : List D} {vs : List V} {ns : List Bool}, Reps K ρ H ds vs → boolsD ds = some ns → vs = ns.map V.bl
  | _, _, ns, .nil, e => by cases e; rfl
  | _, _, ns, .cons (d := d) h r, e => by
    cases d with
    | bl i =>
      simp only [boolsD] at e
      split at e
      · rename_i r' hr
        cases e
        cases h
        rw [bools_ok r hr]; rfl
      · cases e
    | _ => cases e
theorem isum_eq : ∀ ns : List Int, isum ns = ns.sum
  | [] => rfl
  | n :: ns => by simp [isum, isum_eq ns]
theorem ball_eq : ∀ bs : List Bool, ball bs = bs.all id
  | [] => rfl
  | b :: bs => by cases b <;> simp [ball, ball_eq bs]
theorem bany_eq : ∀ bs : List Bool, bany bs = bs.any id
  | [] => rfl
  | b :: bs => by cases b <;> simp [bany, bany_eq bs]
theorem r_sum (ok : Cok G k N sc W X) (hg : Gl X "sum") (hm : G.mg "sum" = none) (hv : bootBuiltins "sum" = some (.builtin "sum")) (ha : PE X e (rd G W (a c))) (hs : starEach [e] X.env = (false, eval e X.env) :: starEach [] X.env) (hpl : (backTo pos (starEach [] X.env)).any (·.1) = false) :
    PE X (.Call (.Name "sum" p) [e] [] pos) (rd G W (dBi .sum a c)) := by
  refine bi_gen (pe_callB (cr_sum ok.calm) hg (by rw [ok.eM]; exact hm) hv (arg1 ha hs) (by decide) (by decide) hs hpl) fun H0 ρ0 ρ σe ih σ H d r' x Q m v e q => ?_
  rw [ok.eK]
  unfold b1 at e
  cases d with
  | lst ds =>
    obtain ⟨a, vs, rfl, l, rr⟩ := v.list
    simp only [lstD] at e
    cases hi : intsD ds with
    | none => rw [hi] at e; cases e
    | some ns =>
      rw [hi] at e
      cases e
      rw [ints_ok rr hi] at l
      refine ⟨a, ns, rfl, l, ?_⟩
      rw [← isum_eq]
      exact post_v m (.int _) q
  | _ => cases e
theorem r_all (ok : Cok G k N sc W X) (hg : Gl X "all") (hm : G.mg "all" = none) (hv : bootBuiltins "all" = some (.builtin "all")) (ha : PE X e (rd G W (a c))) (hs : starEach [e] X.env = (false, eval e X.env) :: starEach [] X.env) (hpl : (backTo pos (starEach [] X.env)).any (·.1) = false) :
    PE X (.Call (.Name "all" p) [e] [] pos) (rd G W (dBi .all a c)) := by
  refine bi_gen (pe_callB (cr_all ok.calm) hg (by rw [ok.eM]; exact hm) hv (arg1 ha hs) (by decide) (by decide) hs hpl) fun H0 ρ0 ρ σe ih σ H d r' x Q m v e q => ?_
  rw [ok.eK]
  unfold b1 at e
  cases d with
  | lst ds =>
    obtain ⟨a, vs, rfl, l, rr⟩ := v.list
    simp only [lstD] at e
    cases hi : boolsD ds with
    | none => rw [hi] at e; cases e
    | some ns =>
      rw [hi] at e
      cases e
      rw [bools_ok rr hi] at l
      refine ⟨a, ns, rfl, l, ?_⟩
      rw [← ball_eq]
      exact post_v m (.bl _) q
  | _ => cases e
theorem r_any (ok : Cok G k N sc W X) (hg : Gl X "any") (hm : G.mg "any" = none) (hv : bootBuiltins "any" = some (.builtin "any")) (ha : PE X e (rd G W (a c))) (hs : starEach [e] X.env = (false, eval e X.env) :: starEach [] X.env) (hpl : (backTo pos (starEach [] X.env)).any (·.1) = false) :
    PE X (.Call (.Name "any" p) [e] [] pos) (rd G W (dBi .any a c)) := by
  refine bi_gen (pe_callB (cr_any ok.calm) hg (by rw [ok.eM]; exact hm) hv (arg1 ha hs) (by decide) (by decide) hs hpl) fun H0 ρ0 ρ σe ih σ H d r' x Q m v e q => ?_
  rw [ok.eK]
  unfold b1 at e
  cases d with
  | lst ds =>
    obtain ⟨a, vs, rfl, l, rr⟩ := v.list
    simp only [lstD] at e
    cases hi : boolsD ds with
    | none => rw [hi] at e; cases e
    | some ns =>
      rw [hi] at e
      cases e
      rw [bools_ok rr hi] at l
      refine ⟨a, ns, rfl, l, ?_⟩
      rw [← bany_eq]
      exact post_v m (.bl _) q
  | _ => cases e
theorem r_int (ok : Cok G k N sc W X) (hg : Gl X "int") (hm : G.mg "int" = none) (ha : PE X e (rd G W (a c))) (hs : starEach [e] X.env = (false, eval e X.env) :: starEach [] X.env) (hpl : (backTo pos (starEach [] X.env)).any (·.1) = false) :
    PE X (.Call (.Name "int" p) [e] [] pos) (rd G W (dBi .int a c)) := by
  refine bi_gen (pe_callTy call_int1 hg (by rw [ok.eM]; exact hm) boot_int (arg1 ha hs) (by decide) (by decide) hs hpl) fun H0 ρ0 ρ σe ih σ H d r' x Q m v e q => ?_
  unfold b1 at e
  dsimp only at e
  split at e
  · cases e; cases v.int; exact .inl ⟨_, rfl, post_v m (.int _) q⟩
  · rename_i b
    cases e; cases v.bl
    refine .inr ⟨b, rfl, ?_⟩
    cases b
    · exact post_v m (.int _) q
    · exact post_v m (.int _) q
  · cases e
theorem r_abs (ok : Cok G k N sc W X) (hg : Gl X "abs") (hm : G.mg "abs" = none) (hv : bootBuiltins "abs" = some (.builtin "abs")) (ha : PE X e (rd G W (a c))) (hs : starEach [e] X.env = (false, eval e X.env) :: starEach [] X.env) (hpl : (backTo pos (starEach [] X.env)).any (·.1) = false) :
    PE X (.Call (.Name "abs" p) [e] [] pos) (rd G W (dBi .abs a c)) := by
  refine bi_gen (pe_callB call_abs hg (by rw [ok.eM]; exact hm) hv (arg1 ha hs) (by decide) (by decide) hs hpl) fun H0 ρ0 ρ σe ih σ H d r' x Q m v e q => ?_
  unfold b1 at e
  cases d with
  | int i =>
    simp only [] at e
    cases e; cases v.int
    refine ⟨i, rfl, ?_⟩
    rw [iblt_iff] at q
    by_cases z : i < 0
    · rw [if_pos z]; rw [decide_eq_true z] at q; exact post_v m (.int _) q
    · rw [if_neg z]; rw [decide_eq_false z] at q; exact post_v m (.int _) q
  | _ => cases e
theorem r_min {b : Ev} {e2 : Expr} (ok : Cok G k N sc W X) (hg : Gl X "min") (hm : G.mg "min" = none) (hv : bootBuiltins "min" = some (.builtin "min")) (ha : PE X e (rd G W (a c))) (hb : PE X e2 (rd G W (b c)))
    (hs : starEach [e, e2] X.env = (false, eval e X.env) :: starEach [e2] X.env) (hs2 : starEach [e2] X.env = (false, eval e2 X.env) :: starEach [] X.env) (hpl : (backTo pos (starEach [e2] X.env)).any (·.1) = false) :
    PE X (.Call (.Name "min" p) [e, e2] [] pos) (rd G W (dBi2 .min a b c)) := by
  refine peTo (pe_callB (call_min2 ok.calm) hg (by rw [ok.eM]; exact hm) hv (pa_cons (settle ha) (pa_cons (settle hb) pa_nil hs2) hs) (by decide) (by decide) hs hpl) fun σ H Q q => ?_
  obtain ⟨H0, ρ0, ρ, σe, ih, m, q⟩ := q
  refine two' m q fun x y H2 t => ?_
  obtain ⟨H0, ρ0, ρ2, σe2, ih2, r1, r2, m2, s1, s2, q⟩ := t
  cases e1 : Few.val σe2 r1 with
  | none => simp only [b2, e1, opt] at q; exact q.elim
  | some d1 =>
    cases e2 : Few.val σe2 r2 with
    | none => simp only [b2, e1, e2, opt] at q; exact q.elim
    | some d2 =>
      have v1 := m2.reads s1 e1
      have v2 := m2.reads s2 e2
      cases d1 with
      | int i =>
        cases d2 with
        | int j =>
          simp only [b2, e1, e2, opt] at q
          cases v1.int; cases v2.int
          refine ⟨i, j, rfl, ?_⟩
          rw [iblt_iff] at q
          by_cases z : j < i
          · rw [if_pos z]; rw [decide_eq_true z] at q; exact post_v m2 (.int _) q
          · rw [if_neg z]; rw [decide_eq_false z] at q; exact post_v m2 (.int _) q
        | _ => simp only [b2, e1, e2, opt] at q; exact q.elim
      | _ => simp only [b2, e1, e2, opt] at q; exact q.elim
end
/-! ### isinstance -/
def tyN : Ty → String
  | .int => "int"
  | .bool => "bool"
  | .str => "str"
  | .tuple => "tuple"
  | .list => "list"
def kindN : Nat → String
  | 0 => "NoneType"
  | 1 => "bool"
  | 2 => "int"
  | 3 => "str"
  | 4 => "tuple"
  | 5 => "list"
  | _ => "dict"
theorem kit_all : ∀ (n : Nat) (t : Ty), n < 7 → kitB (kindN n) (tyN t) = some (isTy n t) := by
  have h : (([0, 1, 2, 3, 4, 5, 6] : List Nat).all fun n => ([.int, .bool, .str, .tuple, .list] : List Ty).all fun t => kitB (kindN n) (tyN t) == some (isTy n t)) = true := by decide +kernel
  intro n t hn
  have h1 := List.all_eq_true.mp h n (by
    have : n = 0 ∨ n = 1 ∨ n = 2 ∨ n = 3 ∨ n = 4 ∨ n = 5 ∨ n = 6 := by omega
    rcases this with rfl | rfl | rfl | rfl | rfl | rfl | rfl <;> simp)
  have h2 := List.all_eq_true.mp h1 t (by cases t <;> simp)
  exact eq_of_beq h2
theorem kit_any {K : PySem.W.Frag} {n : Nat} (hn : n < 7) : ∀ ts : List Ty, PySem.W.kitAny K (.type (kindN n)) (ts.map fun t => .type (tyN t)) = some (anyTy n ts)
  | [] => kitAny_nil
  | t :: ts => by
    refine kitAny_cons (kit_ty (kit_all n t hn)) (fun h => ?_) fun h => ?_
    · rw [kit_any hn ts]; simp only [anyTy, h, cond_false]
    · simp only [anyTy, h, cond_true]
theorem ty_of {K : PySem.W.Frag} {d : D} {x : V} (h : Val K ρ H d x) (ht : tyD d < 7) : TyX K H x (.type (kindN (tyD d))) := by
  cases h with
  | rep r =>
    cases r with
    | non => exact .base .non
    | bl b => exact .base (.bl b)
    | int i => exact .base (.int i)
    | str s => exact .base (.str _)
    | tup e r =>
      rcases e with (e | ⟨o, e⟩) | ⟨o, its, n, e, hc, _⟩
      · exact .base (.tup e)
      · exact .fTuple e
      · exact .kTuple e hc
    | lst e r => exact .base (.frz e)
    | dct e r => exact .fDict e
    | obj e => exact absurd ht (by simp [tyD])
  | lst e r => exact .base (.lst e)
  | dct e r => exact .base (.dK e)
section
variable {a : Ev} {e : Expr} {p p2 pos : Pos}
theorem r_isi {t : Ty} {x : PySem.Str} (ok : Cok G k N sc W X) (hg : Gl X "isinstance") (hm : G.mg "isinstance" = none) (hv : bootBuiltins "isinstance" = some (.builtin "isinstance")) (hg2 : Gl X x) (hm2 : G.mg x = none) (hv2 : bootBuiltins x = some (.type (tyN t))) (hn : x ≠ "__name__") (hdb : (x == ("__debug__" : PySem.Str)) = false)
    (ha : PE X e (rd G W (a c))) (hs : starEach [e, .Name x p2] X.env = (false, eval e X.env) :: starEach [.Name x p2] X.env) (hs2 : starEach [.Name x p2] X.env = (false, eval (.Name x p2) X.env) :: starEach [] X.env) (hpl : (backTo pos (starEach [.Name x p2] X.env)).any (·.1) = false) :
    PE X (.Call (.Name "isinstance" p) [e, .Name x p2] [] pos) (rd G W (dIsi a [t] c)) := by
  refine peTo (pe_callB call_isi hg (by rw [ok.eM]; exact hm) hv (pa_cons (settle ha) (pa_cons (pe_bltn (v := .ty (tyN t)) hg2 (by rw [ok.eM]; exact hm2) hv2 rfl hn hdb) pa_nil hs2) hs) (by decide) (by decide) hs hpl) fun σ H Q q => ?_
  obtain ⟨H0, ρ0, ρ, σe, ih, m, q⟩ := q
  refine oneP m q fun x' H1 ρ1 σ1 h1 r1 p1 a1 m1 s1 q => ?_
  rw [ok.eK]
  cases hv : Few.val σ1 r1 with
  | none => simp only [hv] at q; exact q.elim
  | some d =>
    simp only [hv] at q
    cases hb : Nat.blt (tyD d) 7 with
    | false => simp only [hb, cond_false] at q; exact q.elim
    | true =>
      simp only [hb, cond_true] at q
      have hlt : tyD d < 7 := by simpa [Nat.blt_eq] using hb
      refine ⟨x', .ty (tyN t), _, _, isTy (tyD d) t, rfl, .ty _, ty_of (m1.reads s1 hv) hlt, kit_ty (kit_all _ t hlt), ?_⟩
      have : anyTy (tyD d) [t] = isTy (tyD d) t := by simp only [anyTy]; cases isTy (tyD d) t <;> rfl
      rw [this] at q
      exact post_v m1 (.bl _) q
theorem r_isi2 {t u : Ty} {x y : PySem.Str} {p3 p4 : Pos} {kk : Nat} (ok : Cok G k N sc W X) (hg : Gl X "isinstance") (hm : G.mg "isinstance" = none) (hv : bootBuiltins "isinstance" = some (.builtin "isinstance"))
    (hg2 : Gl X x) (hm2 : G.mg x = none) (hv2 : bootBuiltins x = some (.type (tyN t))) (hn : x ≠ "__name__") (hdb : (x == ("__debug__" : PySem.Str)) = false) (hg3 : Gl X y) (hm3 : G.mg y = none) (hv3 : bootBuiltins y = some (.type (tyN u))) (hn3 : y ≠ "__name__") (hdb3 : (y == ("__debug__" : PySem.Str)) = false)
    (ha : PE X e (rd G W (a c))) (hs : starEach [e, .Tuple [.Name x p2, .Name y p3] kk p4] X.env = (false, eval e X.env) :: starEach [.Tuple [.Name x p2, .Name y p3] kk p4] X.env)
    (hs2 : starEach [.Tuple [.Name x p2, .Name y p3] kk p4] X.env = (false, eval (.Tuple [.Name x p2, .Name y p3] kk p4) X.env) :: starEach [] X.env) (hs3 : starEach [.Name x p2, .Name y p3] X.env = (false, eval (.Name x p2) X.env) :: starEach [.Name y p3] X.env) (hs4 : starEach [.Name y p3] X.env = (false, eval (.Name y p3) X.env) :: starEach [] X.env)
    (hpl : (backTo pos (starEach [.Tuple [.Name x p2, .Name y p3] kk p4] X.env)).any (·.1) = false) :
    PE X (.Call (.Name "isinstance" p) [e, .Tuple [.Name x p2, .Name y p3] kk p4] [] pos) (rd G W (dIsi a [t, u] c)) := by
  have hT : PE X (.Tuple [.Name x p2, .Name y p3] kk p4) (tTup (tCons (tC (.ty (tyN t))) (tCons (tC (.ty (tyN u))) tNil))) :=
    pe_tup (pa_cons (pe_bltn (v := .ty (tyN t)) hg2 (by rw [ok.eM]; exact hm2) hv2 rfl hn hdb) (pa_cons (pe_bltn (v := .ty (tyN u)) hg3 (by rw [ok.eM]; exact hm3) hv3 rfl hn3 hdb3) pa_nil hs4) hs3)
  refine peTo (pe_callB call_isiT hg (by rw [ok.eM]; exact hm) hv (pa_cons (settle ha) (pa_cons hT pa_nil hs2) hs) (by decide) (by decide) hs hpl) fun σ H Q q => ?_
  obtain ⟨H0, ρ0, ρ, σe, ih, m, q⟩ := q
  refine oneP m q fun x' H1 ρ1 σ1 h1 r1 p1 a1 m1 s1 q => ?_
  rw [ok.eK]
  cases hv : Few.val σ1 r1 with
  | none => simp only [hv] at q; exact q.elim
  | some d =>
    simp only [hv] at q
    cases hb : Nat.blt (tyD d) 7 with
    | false => simp only [hb, cond_false] at q; exact q.elim
    | true =>
      simp only [hb, cond_true] at q
      have hlt : tyD d < 7 := by simpa [Nat.blt_eq] using hb
      refine ⟨by show 2 ≤ sizeLine; rw [sizeLine_eq]; omega, fun p np => ?_⟩
      have m2 := m1.fresh (o := .tup [.ty (tyN t), .ty (tyN u)]) np
      have ps : Pers H1 (upd H1 p (.tup [.ty (tyN t), .ty (tyN u)])) := .new np
      refine ⟨x', p, _, _, [.type (tyN t), .type (tyN u)], anyTy (tyD d) [t, u], rfl, upd_same, .cons (.ty _) (.cons (.ty _) .nil), ty_of (m2.reads (s1.keep ps (.refl _)) hv) hlt, kit_any hlt [t, u], ?_⟩
      exact q ρ1 _ _ ps (.refl _) m2 (.bl _)
end
end
end Few
set_option Elab.async false
set_option linter.all false
set_option maxRecDepth 100000
set_option maxHeartbeats 4000000
namespace Few
open PySem PySem.Spec PyProof.Rows L2
abbrev Scd := ES → IH → OutS
/-- what a statement's end asks -/
def PostS (G : Gd) (W : WX) (H0 : Hp) (ρ0 ρ : List Addr) (H : Hp) (D : Ends) : OutS → Prop
  | .st => False
  | .nx σe ih => ∀ ρ' H' σ', Pers H H' → Ahead ρ ρ' → Mat G.K H0 ρ0 ρ' σe ih σ' H' → D.nx σ' H'
  | .bk σe ih => ∀ ρ' H' σ', Pers H H' → Ahead ρ ρ' → Mat G.K H0 ρ0 ρ' σe ih σ' H' → D.bk σ' H'
  | .ct σe ih => ∀ ρ' H' σ', Pers H H' → Ahead ρ ρ' → Mat G.K H0 ρ0 ρ' σe ih σ' H' → D.ct σ' H'
  | .rt ih r => ∀ ρ' H' v, Kept ρ0 H0 ρ' H' → Cells G.K ρ' ih H' → RepC G.K H0 ρ' H' r v → D.rt v H'
  | .ex σe ih x => ∀ ρ' H' σ' cls d, Mat G.K H0 ρ0 ρ' σe ih σ' H' → Xs G.K G.mg G.xn ρ' H' x cls d → W cls d σ' H'
def rS (G : Gd) (W : WX) (cd : Scd) : TS := fun D σ H => ∃ H0 ρ0 ρ σe ih, Mat G.K H0 ρ0 ρ σe ih σ H ∧ PostS G W H0 ρ0 ρ H D (cd σe ih)
section
variable {G : Gd} {k : Nat} {N : List PySem.Str} {sc : Scope} {W : WX} {X : Cx} {c : Call} {xo : Option XD}
variable {H0 H : Hp} {ρ0 ρ : List Addr} {σe : ES} {ih : IH} {σ : L2.St} {D : Ends}
theorem PostS.weak {H' : Hp} {ρ' : List Addr} {o : OutS} (ps : Pers H H') (al : Ahead ρ ρ') (q : PostS G W H0 ρ0 ρ H D o) : PostS G W H0 ρ0 ρ' H' D o := by
  cases o with
  | st => exact q
  | ex σe ih x => exact q
  | rt ih r => exact q
  | nx σe ih => exact fun ρ2 H2 v p2 a2 m2 => q ρ2 H2 v (ps.trans p2) (al.trans a2) m2
  | bk σe ih => exact fun ρ2 H2 v p2 a2 m2 => q ρ2 H2 v (ps.trans p2) (al.trans a2) m2
  | ct σe ih => exact fun ρ2 H2 v p2 a2 m2 => q ρ2 H2 v (ps.trans p2) (al.trans a2) m2
/-- an expression, then what its result leads to -/
theorem sE {cd : Cd} {kk : ES → IH → RV → OutS} {R : VK} (m : Mat G.K H0 ρ0 ρ σe ih σ H) (q : PostS G W H0 ρ0 ρ H D (fromE (cd σe ih) kk))
    (f : ∀ x H2 ρ2 σe2 ih2 r1, Pers H H2 → Ahead ρ ρ2 → Mat G.K H0 ρ0 ρ2 σe2 ih2 σ H2 → RepR G.K H0 ρ2 σe2 σ H2 r1 x → PostS G W H0 ρ0 ρ2 H2 D (kk σe2 ih2 r1) → R x H2) : rd G W cd σ H R := by
  refine ⟨H0, ρ0, ρ, σe, ih, m, ?_⟩
  unfold fromE at q
  cases ha : cd σe ih with
  | st => rw [ha] at q; exact q
  | ex σ' h' x => rw [ha] at q; exact fun ρ' H' cls d => q ρ' H' σ cls d
  | ok σ1 h1 r1 => rw [ha] at q; exact fun ρ1 H1 x p1 a1 m1 s1 => f _ _ _ _ _ _ p1 a1 m1 s1 (PostS.weak p1 a1 q)
theorem sEs {cd : Cd} {kk : ES → IH → RV → OutS} {R : VK} (m : Mat G.K H0 ρ0 ρ σe ih σ H) (q : PostS G W H0 ρ0 ρ H D (fromE (cd σe ih) kk))
    (f : ∀ x H2 ρ2 σe2 ih2 r1, Pers H H2 → Ahead ρ ρ2 → Mat G.K H0 ρ0 ρ2 σe2 ih2 σ H2 → RepS G.K ρ2 σ H2 r1 x → PostS G W H0 ρ0 ρ2 H2 D (kk σe2 ih2 r1) → R x H2) : rs G W cd σ H R := by
  refine ⟨H0, ρ0, ρ, σe, ih, m, ?_⟩
  unfold fromE at q
  cases ha : cd σe ih with
  | st => rw [ha] at q; exact q
  | ex σ' h' x => rw [ha] at q; exact fun ρ' H' cls d => q ρ' H' σ cls d
  | ok σ1 h1 r1 => rw [ha] at q; exact fun ρ1 H1 x p1 a1 m1 s1 => f _ _ _ _ _ _ p1 a1 m1 s1 (PostS.weak p1 a1 q)
theorem sT {cd : Cd} {kk : ES → IH → RV → OutS} {R : Bool → Hp → Prop} (m : Mat G.K H0 ρ0 ρ σe ih σ H) (q : PostS G W H0 ρ0 ρ H D (fromE (cd σe ih) kk))
    (f : ∀ σe2 ih2 r1, PostS G W H0 ρ0 ρ H D (kk σe2 ih2 r1) → ∃ b, truthR σe2 r1 = some b ∧ ∀ H2 ρ2, Pers H H2 → Ahead ρ ρ2 → Mat G.K H0 ρ0 ρ2 σe2 ih2 σ H2 → R b H2) : rt G W cd σ H R := by
  refine ⟨H0, ρ0, ρ, σe, ih, m, ?_⟩
  unfold fromE at q
  cases ha : cd σe ih with
  | st => rw [ha] at q; exact q
  | ex σ' h' x => rw [ha] at q; exact fun ρ' H' cls d => q ρ' H' σ cls d
  | ok σ1 h1 r1 =>
    rw [ha] at q
    obtain ⟨b, hb, f⟩ := f _ _ _ q
    exact ⟨b, hb, fun ρ1 H1 p1 a1 m1 => f H1 ρ1 p1 a1 m1⟩
theorem sI {cd : Cd} {kk : ES → IH → RV → OutS} {R : It → Hp → Prop} (m : Mat G.K H0 ρ0 ρ σe ih σ H) (q : PostS G W H0 ρ0 ρ H D (fromE (cd σe ih) kk))
    (f : ∀ σe2 ih2 r1, PostS G W H0 ρ0 ρ H D (kk σe2 ih2 r1) → ∃ xs, itz r1 = some xs ∧ ∀ H2 ρ2 J, Pers H H2 → Ahead ρ ρ2 → Mat G.K H0 ρ0 ρ2 σe2 ih2 σ H2 → WalkD G.K ρ2 H2 J xs → R J H2) : ri G W cd σ H R := by
  refine ⟨H0, ρ0, ρ, σe, ih, m, ?_⟩
  unfold fromE at q
  cases ha : cd σe ih with
  | st => rw [ha] at q; exact q
  | ex σ' h' x => rw [ha] at q; exact fun ρ' H' cls d => q ρ' H' σ cls d
  | ok σ1 h1 r1 =>
    rw [ha] at q
    obtain ⟨xs, hx, f⟩ := f _ _ _ q
    exact ⟨xs, hx, fun ρ1 H1 J p1 a1 m1 w => f H1 ρ1 J p1 a1 m1 w⟩
/-! ### blocks -/
theorem ss_nil : PSs X [] (rS G W fun σ h => .nx σ h) := pssTo pss_nil fun D σ H ⟨H0, ρ0, ρ, σe, ih, m, q⟩ => q ρ H σ (.refl _) (.refl _) m
theorem ss_one {cd : Scd} {s : Stmt} (h : PS X s (rS G W cd)) : PSs X [s] (rS G W cd) := pss_one h
theorem ss_cons {a b : Sv} {s : Stmt} {r : List Stmt} (ha : PS X s (rS G W (a c xo))) (hb : PSs X r (rS G W (b c xo))) : PSs X (s :: r) (rS G W (sSeq a b c xo)) := by
  refine pssTo (pss_cons ha hb) fun D σ H q => ?_
  obtain ⟨H0, ρ0, ρ, σe, ih, m, q⟩ := q
  refine ⟨H0, ρ0, ρ, σe, ih, m, ?_⟩
  unfold sSeq at q
  cases hc : a c xo σe ih with
  | st => simp only [hc] at q; exact q
  | nx σ1 h1 => simp only [hc] at q; exact fun ρ' H' σ' p a m' => ⟨H0, ρ0, ρ', σ1, h1, m', q.weak p a⟩
  | rt h1 r => simp only [hc] at q; exact q
  | bk σ1 h1 => simp only [hc] at q; exact q
  | ct σ1 h1 => simp only [hc] at q; exact q
  | ex σ1 h1 x => simp only [hc] at q; exact q
theorem s_skip {pos : Pos} : PS X (.Pass pos) (rS G W fun σ h => .nx σ h) := psTo ps_pass fun D σ H ⟨H0, ρ0, ρ, σe, ih, m, q⟩ => q ρ H σ (.refl _) (.refl _) m
theorem s_brk {pos : Pos} : PS X (.Break pos) (rS G W fun σ h => .bk σ h) := psTo ps_break fun D σ H ⟨H0, ρ0, ρ, σe, ih, m, q⟩ => q ρ H σ (.refl _) (.refl _) m
theorem s_cont {pos : Pos} : PS X (.Continue pos) (rS G W fun σ h => .ct σ h) := psTo ps_continue fun D σ H ⟨H0, ρ0, ρ, σe, ih, m, q⟩ => q ρ H σ (.refl _) (.refl _) m
theorem s_ex {a : Ev} {e : Expr} {pos : Pos} (h : PE X e (rd G W (a c))) (hs : swapsWith e none pos.line X.env = pure false) : PS X (.Expr e pos) (rS G W (sEx a c xo)) := by
  refine psTo (ps_expr h hs) fun D σ H q => ?_
  obtain ⟨H0, ρ0, ρ, σe, ih, m, q⟩ := q
  exact sE m q fun x H2 ρ2 σe2 ih2 r1 p1 a1 m1 s1 q => q ρ2 H2 σ (.refl _) (.refl _) m1
theorem s_if {t : Ev} {a b : Sv} {e : Expr} {ss us : List Stmt} {pos : Pos} (ht : PT X e (rt G W (t c))) (ha : PSs X ss (rS G W (a c xo))) (hb : PSs X us (rS G W (b c xo))) : PS X (.If e ss us pos) (rS G W (sIf t a b c xo)) := by
  refine psTo (ps_if ht ha hb) fun D σ H q => ?_
  obtain ⟨H0, ρ0, ρ, σe, ih, m, q⟩ := q
  refine sT m q fun σe2 ih2 r1 q => ?_
  cases hb : truthR σe2 r1 with
  | none => simp only [hb] at q; exact q.elim
  | some b =>
    simp only [hb] at q
    refine ⟨b, rfl, fun H2 ρ2 p1 a1 m1 => ?_⟩
    cases b with
    | true => exact ⟨H0, ρ0, ρ2, σe2, ih2, m1, q.weak p1 a1⟩
    | false => exact ⟨H0, ρ0, ρ2, σe2, ih2, m1, q.weak p1 a1⟩
/-! ### assignments -/
theorem slot_of {r : RV} {x : V} {s : Slot} (h : RepR G.K H0 ρ σe σ H r x) (e : slotOf r = some s) : SlotOk G.K ρ H s (some (some x)) ∧ (s.own = true → ∀ a, x = .ref a → Lone H0 ρ σe σ a) := by
  cases r with
  | v d => cases e; exact ⟨⟨x, rfl, h⟩, fun z => nomatch z⟩
  | n d =>
    cases d with
    | lst ds =>
      cases e
      obtain ⟨a, vs, rfl, h1, h2, lo⟩ := h
      exact ⟨⟨by simp, a, vs, rfl, h1, by rw [List.reverse_reverse]; exact h2⟩, fun _ b e => by cases e; exact lo⟩
    | dct ks ds =>
      cases e
      obtain ⟨a, vs, rfl, h1, h2, lo⟩ := h
      exact ⟨⟨a, vs, rfl, h1, h2⟩, fun _ b e => by cases e; exact lo⟩
    | _ => exact h.elim
  | _ => cases e
theorem asg_read {a : Ev} {i : Nat} (q : rS G W (sAsg (.nm i) a c xo) D σ H) : tAsg (rd G W (a c)) (gName i) D σ H := by
  obtain ⟨H0, ρ0, ρ, σe, ih, m, q⟩ := q
  refine sE m q fun x H2 ρ2 σe2 ih2 r1 p1 a1 m1 s1 q => ?_
  unfold asg at q
  dsimp only at q
  cases hs : slotOf r1 with
  | none => simp only [hs] at q; exact q.elim
  | some s =>
    simp only [hs] at q
    have z := slot_of s1 hs
    exact q ρ2 H2 _ (.refl _) (.refl _) (m1.put z.1 z.2)
theorem s_set {a : Ev} {i : Nat} {x : PySem.Str} {e : Expr} {pos pos' : Pos} (ok : Cok G k N sc W X) (hi : N[i]? = some x) (hx : Loc sc x) (h : PE X e (rd G W (a c))) (hs : swapsWith e (some (.Name x pos')) pos.line X.env = pure false)
    (hf : X.fn x = true ∨ sc.names.lookup x = some .local) : PS X (.Assign [.Name x pos'] e pos) (rS G W (sAsg (.nm i) a c xo)) := by
  refine psTo (ps_set (i := i) (by rw [ok.eN]; exact ok.nd) (by rw [ok.eN]; exact hi) (by rw [ok.eS]; exact hx) h hs (by rw [ok.eS]; exact hf)) fun D σ H q => asg_read q
theorem s_asgT {a : Ev} {t ts : T} {tg e : Expr} {g : TG} {pos : Pos} (h : PE X e (rd G W (a c))) (hg : PG X tg g) (hgo : gOk G.K (.cons t ts) g) (hs : swapsWithSole [tg] e pos.line X.env = pure false) (hw : swappedStores [tg] e X.env = pure none) (h1 : (assignEach [tg] X.env).map (·.2) = [assign tg X.env]) :
    PS X (.Assign [tg] e pos) (rS G W (sAsg (.cons t ts) a c xo)) := by
  refine psTo (ps_asg (settle h) hg hs hw h1) fun D σ H q => ?_
  obtain ⟨H0, ρ0, ρ, σe, ih, m, q⟩ := q
  refine sEs m q fun x H2 ρ2 σe2 ih2 r1 p1 a1 m1 s1 q => ?_
  unfold asg at q
  dsimp only at q
  cases hf : frozen r1 with
  | none => simp only [hf] at q; exact q.elim
  | some d =>
    simp only [hf] at q
    cases ha : asgD (.cons t ts) d σe2 with
    | none => simp only [ha] at q; exact q.elim
    | some σ3 =>
      simp only [ha] at q
      exact hgo H0 ρ0 ρ2 σe2 ih2 σ H2 d x σ3 _ m1 (s1.frz hf) ha fun σ' l1 k1 lo1 m2 => q ρ2 H2 σ' (.refl _) (.refl _) m2
/-! ### return -/
theorem RepR.toC {r : RV} {v : V} (h : RepR G.K H0 ρ σe σ H r v) (hp : ∀ i, r ≠ .p i) : RepC G.K H0 ρ H r v := by
  cases r with
  | v d => exact h
  | n d =>
    cases d with
    | lst ds => obtain ⟨a, vs, rfl, h1, h2, lo⟩ := h; exact ⟨a, vs, rfl, h1, h2, lo.free, lo.new⟩
    | dct ks ds => obtain ⟨a, vs, rfl, h1, h2, lo⟩ := h; exact ⟨a, vs, rfl, h1, h2, lo.free, lo.new⟩
    | _ => exact h.elim
  | p i => exact absurd rfl (hp i)
  | ls ds => exact h.elim
theorem s_ret {a : Ev} {e : Expr} {pos : Pos} (h : PE X e (rd G W (a c))) : PS X (.Return (some e) pos) (rS G W (sRet a c xo)) := by
  refine psTo (ps_ret h) fun D σ H q => ?_
  obtain ⟨H0, ρ0, ρ, σe, ih, m, q⟩ := q
  refine sE m q fun x H2 ρ2 σe2 ih2 r1 p1 a1 m1 s1 q => ?_
  cases r1 with
  | v d => exact q ρ2 H2 x m1.kept m1.cells (s1.toC fun i => by simp)
  | n d => exact q ρ2 H2 x m1.kept m1.cells (s1.toC fun i => by simp)
  | p i => exact q.elim
  | ls ds => exact q.elim
theorem s_retN {pos : Pos} : PS X (.Return none pos) (rS G W (sRet (dCon .non) c xo)) := by
  refine psTo ps_retN fun D σ H q => ?_
  obtain ⟨H0, ρ0, ρ, σe, ih, m, q⟩ := q
  exact q ρ H .non m.kept m.cells .non
theorem s_retp {i : Nat} {x : PySem.Str} {pos p2 : Pos} (ok : Cok G k N sc W X) (hN : N[i]? = some x) (hv : Vis sc x) (hd : (x == ("__debug__" : PySem.Str)) = false) (hcd : (x == ("__classdict__" : PySem.Str)) = false) :
    PS X (.Return (some (.Name x p2)) pos) (rS G W (sRetp i c xo)) := by
  refine psTo (ps_ret (pe_var (by rw [ok.eN]; exact hN) (by rw [ok.eS]; exact hv) hd hcd)) fun D σ H q => ?_
  obtain ⟨H0, ρ0, ρ, σe, ih, m, q⟩ := q
  unfold sRetp at q
  cases hs : nth σe i with
  | none => simp only [hs] at q; exact q.elim
  | some s =>
    have z := m.slot i s hs
    cases s with
    | un => simp only [hs] at q; exact q.elim
    | lk d => simp only [hs] at q; exact q.elim
    | fz d =>
      simp only [hs] at q
      obtain ⟨v, e, r⟩ := z
      exact ⟨v, e, q ρ H v m.kept m.cells r⟩
    | ol n r =>
      simp only [hs] at q
      obtain ⟨_, a, vs, e, h1, h2⟩ := z
      have o := m.own i _ a hs rfl e
      exact ⟨_, e, q ρ H _ m.kept m.cells ⟨a, vs, rfl, h1, h2, o.1, o.2⟩⟩
    | od ks ds =>
      simp only [hs] at q
      obtain ⟨a, vs, e, h1, h2⟩ := z
      have o := m.own i _ a hs rfl e
      exact ⟨_, e, q ρ H _ m.kept m.cells ⟨a, vs, rfl, h1, h2, o.1, o.2⟩⟩
end
end Few
set_option Elab.async false
set_option linter.all false
set_option maxRecDepth 100000
set_option maxHeartbeats 4000000
namespace Few
open PySem PySem.Spec PyProof.Rows L2
section
variable {G : Gd} {k : Nat} {N : List PySem.Str} {sc : Scope} {W : WX} {X : Cx} {c : Call} {xo : Option XD}
variable {H0 H : Hp} {ρ0 ρ : List Addr} {σe : ES} {ih : IH} {σ : L2.St} {D : Ends}
/-- the body of a loop -/
theorem body_read {b : Sv} {kk : OutS → OutS} {Nx : L2.St → Hp → Prop} {ρ1 : List Addr} {H1 : Hp} (m : Mat G.K H0 ρ0 ρ σe ih σ H) (p1 : Pers H1 H) (a1 : Ahead ρ1 ρ) (q : PostS G W H0 ρ0 ρ1 H1 D (kk (b c xo σe ih)))
    (hst : kk .st = .st) (hex : ∀ σ h x, kk (.ex σ h x) = .ex σ h x) (hrt : ∀ h r, kk (.rt h r) = .rt h r) (hbk : ∀ σ h, kk (.bk σ h) = .nx σ h) (hct : ∀ σ h, kk (.ct σ h) = kk (.nx σ h))
    (hnx : ∀ σe' ih' ρ' H' σ', Pers H1 H' → Ahead ρ1 ρ' → Mat G.K H0 ρ0 ρ' σe' ih' σ' H' → PostS G W H0 ρ0 ρ1 H1 D (kk (.nx σe' ih')) → Nx σ' H') :
    rS G W (b c xo) { D with nx := Nx, ct := Nx, bk := D.nx } σ H := by
  refine ⟨H0, ρ0, ρ, σe, ih, m, ?_⟩
  cases hb : b c xo σe ih with
  | st => rw [hb, hst] at q; exact q
  | ex σ' h' x => rw [hb, hex] at q; exact q
  | rt h' r => rw [hb, hrt] at q; exact q
  | bk σ' h' => rw [hb, hbk] at q; exact fun ρ' H' s' p a m' => q ρ' H' s' (p1.trans p) (a1.trans a) m'
  | nx σ' h' => rw [hb] at q; exact fun ρ' H' s' p a m' => hnx σ' h' ρ' H' s' (p1.trans p) (a1.trans a) m' q
  | ct σ' h' => rw [hb, hct] at q; exact fun ρ' H' s' p a m' => hnx σ' h' ρ' H' s' (p1.trans p) (a1.trans a) m' q
theorem s_while {t : Ev} {b : Sv} {e : Expr} {ss : List Stmt} {pos : Pos} (hp : PassesOwn (model X.prog X.w) X.A X.env X.xe) (ht : PT X e (rt G W (t c))) (hb : PSs X ss (rS G W (b c xo))) : PS X (.While e ss [] pos) (rS G W (sWhile t b c xo)) := by
  refine psTo (ps_while hp ht hb) fun D σ H q => ?_
  obtain ⟨H0, ρ0, ρ1, σe, ih, m, q⟩ := q
  let WW : Nat → L2.St → Hp → Prop := fun n σ' H' => ∃ ρ' σe' ih', Mat G.K H0 ρ0 ρ' σe' ih' σ' H' ∧ PostS G W H0 ρ0 ρ' H' D (whileN t b c xo n σe' ih')
  refine ⟨WW, ⟨1000000, ρ1, σe, ih, m, q⟩, fun n σ' H' w => ?_⟩
  obtain ⟨ρ', σe', ih', m1, q⟩ := w
  cases n with
  | zero => exact q.elim
  | succ n =>
    simp only [whileN] at q
    refine sT m1 q fun σe2 ih2 r1 q2 => ?_
    cases hb : truthR σe2 r1 with
    | none => simp only [hb] at q2; exact q2.elim
    | some bb =>
      refine ⟨bb, rfl, fun H2 ρ2 p2 a2 m2 => ?_⟩
      simp only [hb] at q2
      cases bb with
      | false => exact q2 ρ2 H2 σ' p2 a2 m2
      | true =>
        refine ⟨fun s h => ∃ m', m' < n + 1 ∧ WW m' s h, fun s h z => z, ?_⟩
        let kk : OutS → OutS := fun o => match o with
          | .nx σ h => whileN t b c xo n σ h
          | .ct σ h => whileN t b c xo n σ h
          | .bk σ h => .nx σ h
          | r => r
        exact body_read (kk := kk) (Nx := fun s h => ∃ m', m' < n + 1 ∧ WW m' s h) m2 (.refl _) (.refl _) (q2.weak p2 a2) rfl (fun _ _ _ => rfl) (fun _ _ => rfl) (fun _ _ => rfl) (fun _ _ => rfl)
          fun σe3 ih3 ρ3 H3 σ3 p3 a3 m3 q3 => ⟨n, Nat.lt_succ_self n, ρ3, σe3, ih3, m3, PostS.weak p3 a3 q3⟩
theorem s_for {t : T} {it : Ev} {b : Sv} {tg iter : Expr} {g : TG} {ss : List Stmt} {pos : Pos} (ok : Cok G k N sc W X) (hp : PassesOwn (model X.prog X.w) X.A X.env X.xe) (hi : PI X tg iter (ri G W (it c))) (hg : PG X tg g) (hgo : gOk G.K t g) (hb : PSs X ss (rS G W (b c xo)))
    (hs : ∀ x, foldedSetIterable iter X.env x = pure x) : PS X (.For tg iter ss [] pos) (rS G W (sFor t it b c xo)) := by
  refine psTo (ps_for hp ok.calm hi hg hb hs) fun D σ H q => ?_
  obtain ⟨H0, ρ0, ρ1, σe, ih, m, q⟩ := q
  refine sI m q fun σe1 ih1 r1 q => ?_
  cases hz : itz r1 with
  | none => simp only [hz] at q; exact q.elim
  | some xs =>
    simp only [hz] at q
    refine ⟨xs, rfl, fun H1 ρ2 J p1 a1 m1 w => ?_⟩
    let WW : Nat → Nat → L2.St → Hp → Prop := fun i mm σ' H' => mm = xs.length - i ∧ i ≤ xs.length ∧ ∃ ρ' σe' ih', Pers H1 H' ∧ Ahead ρ2 ρ' ∧ Mat G.K H0 ρ0 ρ' σe' ih' σ' H' ∧ PostS G W H0 ρ0 ρ' H' D (forL t b c xo (xs.drop i) σe' ih')
    refine ⟨WW, ⟨xs.length, rfl, Nat.zero_le _, ρ2, σe1, ih1, .refl _, .refl _, m1, q.weak p1 a1⟩, fun i mm σ' H' hW => ?_⟩
    obtain ⟨hmm, hi', ρ', σe', ih', ps, al, mt, q⟩ := hW
    by_cases hend : i = xs.length
    · subst hend
      rw [List.drop_length] at q
      exact .inl ⟨w.stop H' ps, q ρ' H' σ' (.refl _) (.refl _) mt⟩
    · have hlt : i < xs.length := by omega
      refine .inr ⟨w.go H' i ps hlt, fun s h => ∃ m', m' < mm ∧ WW (i + 1) m' s h, fun s h z => z, fun x H3 hy => ?_⟩
      rw [List.drop_eq_getElem_cons hlt] at q
      obtain ⟨gr, rx⟩ := w.yld H' ρ' i x H3 xs[i] ps al hy (by rw [nth_get]; exact List.getElem?_eq_getElem hlt)
      have mg := mt.grow gr
      simp only [forL] at q
      cases ha : asgD t xs[i] σe' with
      | none => simp only [ha] at q; exact q.elim
      | some σe3 =>
        simp only [ha] at q
        refine hgo H0 ρ0 ρ' σe' ih' σ' H3 xs[i] x σe3 _ mg.1 rx ha fun σ2 l2 k2 lo2 m3 => ?_
        let kk : OutS → OutS := fun o => match o with
          | .nx σ h => forL t b c xo (xs.drop (i + 1)) σ h
          | .ct σ h => forL t b c xo (xs.drop (i + 1)) σ h
          | .bk σ h => .nx σ h
          | r => r
        exact body_read (kk := kk) (Nx := fun s h => ∃ m', m' < mm ∧ WW (i + 1) m' s h) m3 (.refl _) (.refl _) (PostS.weak mg.2 (.refl _) q) rfl (fun _ _ _ => rfl) (fun _ _ => rfl) (fun _ _ => rfl) (fun _ _ => rfl)
          fun σe4 ih4 ρ4 H4 σ4 p4 a4 m4 q4 => ⟨xs.length - (i + 1), by omega, rfl, by omega, ρ4, σe4, ih4, (ps.trans mg.2).trans p4, al.trans a4, m4, PostS.weak p4 a4 q4⟩
/-! ### lists in slots -/
theorem own_at {i n : Nat} {r : List Few.D} (m : Mat G.K H0 ρ0 ρ σe ih σ H) (hs : nth σe i = some (.ol n r)) : n = r.length ∧ ∃ a vs, σ[i]? = some (some (.ref a)) ∧ H a = some (.lst vs) ∧ Reps G.K ρ H r.reverse vs := m.slot i _ hs
/-- the slot's list is written -/
theorem Mat.rewrite {i n n' : Nat} {r r' : List Few.D} {a : Addr} {vs vs' : List V} (m : Mat G.K H0 ρ0 ρ σe ih σ H) (hs : nth σe i = some (.ol n r)) (ha : σ[i]? = some (some (.ref a))) (hu : H a = some (.lst vs)) (hn : n' = r'.length)
    (rr : Reps G.K ρ H r'.reverse vs') : Mat G.K H0 ρ0 ρ (setN σe i (.ol n' r')) ih σ (upd H a (.lst vs')) ∧ Pers H (upd H a (.lst vs')) := by
  have ps : Pers H (upd H a (.lst vs')) := .mut hu trivial
  have hfree := m.own i _ a hs rfl ha
  have lone : ∀ j t, nth σe j = some t → j ≠ i → t.own = true → σ[j]? ≠ some (some (.ref a)) := fun j t e ne ow hb => ne (m.sep j i t _ a e hs ow rfl hb ha)
  have at' : ∀ j t, nth (setN σe i (.ol n' r')) j = some t → (j = i ∧ t = .ol n' r') ∨ (j ≠ i ∧ nth σe j = some t) := fun j t e => by
    rcases nth_setN e with ⟨z1, z2, _⟩ | ⟨ne, e⟩
    · exact .inl ⟨z1, z2⟩
    · exact .inr ⟨ne, e⟩
  refine ⟨⟨by rw [setN_set, List.length_set]; exact m.len, fun j t e => ?_, fun j t b e ow hb => ?_, fun j l t u b e1 e2 o1 o2 h1 h2 => ?_, ⟨m.cells.len, m.cells.nd, fun q cc b e1 e2 => (m.cells.cell q cc b e1 e2).keep ps (.refl _) fun v h => ?_⟩, ⟨m.kept.ahead, fun b v e h => ⟨(m.kept.keep b v e h).1, ?_⟩⟩⟩, ps⟩
  · rcases at' j t e with ⟨rfl, rfl⟩ | ⟨ne, e⟩
    · exact ⟨hn, a, vs', ha, upd_same, rr.keep ps (.refl _)⟩
    · refine (m.slot j t e).keep ps (.refl _) fun b v ow hb h => ?_
      rw [upd_ne (fun z => lone j t e ne ow (by rw [hb, z]))]; exact h
  · rcases at' j t e with ⟨rfl, rfl⟩ | ⟨ne, e⟩
    · rw [ha] at hb; cases hb; exact hfree
    · exact m.own j t b e ow hb
  · rcases at' j t e1 with ⟨rfl, rfl⟩ | ⟨n1, e1⟩
    · rcases at' l u e2 with ⟨rfl, rfl⟩ | ⟨n2, e2⟩
      · rfl
      · rw [ha] at h1; cases h1
        exact absurd h2 (lone l u e2 n2 o2)
    · rcases at' l u e2 with ⟨z1, z2⟩ | ⟨n2, e2⟩
      · rw [z1, ha] at h2; cases h2
        exact absurd h1 (lone j t e1 n1 o1)
      · exact m.sep j l t u b e1 e2 o1 o2 h1 h2
  · rw [upd_ne (fun z => hfree.1 (by rw [← z]; exact List.mem_of_getElem? e2))]; exact h
  · rw [upd_ne (fun z => by rw [z, hfree.2] at e; cases e)]; exact (m.kept.keep b v e h).2
theorem s_app {a : Ev} {i : Nat} {x : PySem.Str} {e : Expr} {px apos cpos pos : Pos} (ok : Cok G k N sc W X) (hN : N[i]? = some x) (hv : Vis sc x) (hd : (x == ("__debug__" : PySem.Str)) = false) (hcd : (x == ("__classdict__" : PySem.Str)) = false) (ha : PE X e (rd G W (a c)))
    (hs : starEach [e] X.env = (false, eval e X.env) :: starEach [] X.env) (hbase : attributeBase (.Name x px) "append" X.env (eval (.Name x px) X.env) = eval (.Name x px) X.env)
    (hfew : ((backTo cpos (starEach [e] X.env)).all (fun x => !x.1) && (backToKw cpos (keywordEach [] X.env)).all (fun x => x.1.isSome) && decide ([e].length + ([] : List Keyword).length + (if ([] : List Keyword).isEmpty then 0 else 1) < 30)) = true)
    (hline : (apos.endLine == cpos.line) = true) (hpl : (backTo cpos (starEach [] X.env)).any (·.1) = false) (hsw : swapsWith (.Call (.Attribute (.Name x px) "append" apos) [e] [] cpos) none pos.line X.env = pure false) :
    PS X (.Expr (.Call (.Attribute (.Name x px) "append" apos) [e] [] cpos) pos) (rS G W (sApp i a c xo)) := by
  refine psTo (ps_expr (pe_bm PySem.F.plainAttrs_list PySem.F.slot_list_append PySem.F.type_list_append mt_append (pe_var (i := i) (by rw [ok.eN]; exact hN) (by rw [ok.eS]; exact hv) hd hcd) (pa_cons (settle ha) pa_nil hs) hbase hfew hline hs hpl) hsw) fun D σ H q => ?_
  obtain ⟨H0, ρ0, ρ, σe, ih, m, q⟩ := q
  unfold sApp at q
  cases hol : isOl (nth σe i) with
  | false => simp only [hol, cond_false] at q; exact q.elim
  | true =>
    simp only [hol, cond_true] at q
    unfold isOl at hol
    split at hol
    · rename_i n r hsl
      obtain ⟨_, l, vs, hl, hH, rr⟩ := own_at m hsl
      refine ⟨_, hl, .inl ⟨rfl, vs, .of hH⟩, ?_⟩
      refine sEs m q fun y H2 ρ2 σe2 ih2 r1 p1 a1 m1 s1 q => ?_
      cases hf : frozen r1 with
      | none => simp only [hf] at q; exact q.elim
      | some d =>
        cases hs2 : nth σe2 i with
        | none => simp only [hf, hs2] at q; exact q.elim
        | some s2 =>
          cases s2 with
          | ol n2 r2 =>
            simp only [hf, hs2] at q
            cases hb : Nat.blt n2 line with
            | false => simp only [hb, cond_false] at q; exact q.elim
            | true =>
              simp only [hb, cond_true] at q
              obtain ⟨hn, l2, vs2, hl2, hH2, rr2⟩ := own_at m1 hs2
              rw [hl] at hl2; cases hl2
              have hlt : n2 < line := by simpa [Nat.blt_eq] using hb
              have hv2 : vs2.length = n2 := by rw [← rr2.length, List.length_reverse, hn]
              have z := m1.rewrite (n' := n2 + 1) (r' := d :: r2) (vs' := vs2 ++ [y]) hs2 hl hH2 (by simp [hn]) (by rw [List.reverse_cons]; exact rr2.append (.cons (s1.frz hf) .nil))
              exact ⟨l, vs2, y, rfl, rfl, hH2, by rw [hv2, ← line_eq]; exact hlt, q ρ2 _ σ z.2 (.refl _) z.1⟩
          | _ => simp only [hf, hs2] at q; exact q.elim
    · cases hol
theorem s_ext {a : Ev} {i : Nat} {x : PySem.Str} {e : Expr} {px apos cpos pos : Pos} (ok : Cok G k N sc W X) (hN : N[i]? = some x) (hv : Vis sc x) (hd : (x == ("__debug__" : PySem.Str)) = false) (hcd : (x == ("__classdict__" : PySem.Str)) = false) (ha : PE X e (rd G W (a c)))
    (hs : starEach [e] X.env = (false, eval e X.env) :: starEach [] X.env) (hbase : attributeBase (.Name x px) "extend" X.env (eval (.Name x px) X.env) = eval (.Name x px) X.env)
    (hfew : ((backTo cpos (starEach [e] X.env)).all (fun x => !x.1) && (backToKw cpos (keywordEach [] X.env)).all (fun x => x.1.isSome) && decide ([e].length + ([] : List Keyword).length + (if ([] : List Keyword).isEmpty then 0 else 1) < 30)) = true)
    (hline : (apos.endLine == cpos.line) = true) (hpl : (backTo cpos (starEach [] X.env)).any (·.1) = false) (hsw : swapsWith (.Call (.Attribute (.Name x px) "extend" apos) [e] [] cpos) none pos.line X.env = pure false) :
    PS X (.Expr (.Call (.Attribute (.Name x px) "extend" apos) [e] [] cpos) pos) (rS G W (sExt i a c xo)) := by
  refine psTo (ps_expr (pe_bm PySem.F.plainAttrs_list PySem.F.slot_list_extend PySem.F.type_list_extend mt_extend (pe_var (i := i) (by rw [ok.eN]; exact hN) (by rw [ok.eS]; exact hv) hd hcd) (pa_cons ha pa_nil hs) hbase hfew hline hs hpl) hsw) fun D σ H q => ?_
  obtain ⟨H0, ρ0, ρ, σe, ih, m, q⟩ := q
  unfold sExt at q
  cases hol : isOl (nth σe i) with
  | false => simp only [hol, cond_false] at q; exact q.elim
  | true =>
    simp only [hol, cond_true] at q
    unfold isOl at hol
    split at hol
    · rename_i n r hsl
      obtain ⟨_, l, vs, hl, hH, rr⟩ := own_at m hsl
      refine ⟨_, hl, .inl ⟨rfl, vs, .of hH⟩, ?_⟩
      refine sE m q fun y H2 ρ2 σe2 ih2 r1 p1 a1 m1 s1 q => ?_
      cases r1 with
      | n d =>
        cases d with
        | lst ds =>
          cases hs2 : nth σe2 i with
          | none => simp only [hs2] at q; exact q.elim
          | some s2 =>
            cases s2 with
            | ol n2 r2 =>
              simp only [hs2] at q
              cases hb : Nat.ble (n2 + ds.length) line with
              | false => simp only [hb, cond_false] at q; exact q.elim
              | true =>
                simp only [hb, cond_true] at q
                obtain ⟨hn, l2, vs2, hl2, hH2, rr2⟩ := own_at m1 hs2
                rw [hl] at hl2; cases hl2
                obtain ⟨b, zs, rfl, hb2, rz, lo⟩ := s1
                have hle : n2 + ds.length ≤ line := Nat.le_of_ble_eq_true hb
                have hv2 : vs2.length = n2 := by rw [← rr2.length, List.length_reverse, hn]
                have z := m1.rewrite (n' := n2 + ds.length) (r' := ds.reverse ++ r2) (vs' := vs2 ++ zs) hs2 hl hH2 (by simp [hn]; omega) (by rw [List.reverse_append, List.reverse_reverse]; exact rr2.append rz)
                exact ⟨l, b, vs2, zs, rfl, rfl, hH2, hb2, by rw [hv2, ← rz.length, ← line_eq]; exact hle, q ρ2 _ σ z.2 (.refl _) z.1⟩
            | _ => simp only [hs2] at q; exact q.elim
        | _ => exact q.elim
      | _ => exact q.elim
    · cases hol
end
end Few
set_option Elab.async false
set_option linter.all false
set_option maxRecDepth 100000
set_option maxHeartbeats 4000000
namespace Few
open PySem PySem.Spec PyProof.Rows L2
section
variable {G : Gd} {H H' : Hp} {ρ ρ' : List Addr} {ih : IH}
/-- the cells are lists and dicts -/
theorem Cells.pers (cl : Cells G.K ρ ih H) (kp : Kept ρ H ρ' H') : Pers H H' := by
  have no : ∀ a o, H a = some o → a ∈ ρ → (∃ vs, o = .lst vs) ∨ ∃ kvs, o = .dK kvs := fun a o e hm => by
    obtain ⟨i, hi, e2⟩ := List.mem_iff_getElem.mp hm
    have hl : i < ih.length := by rw [cl.len]; exact hi
    have := cl.cell i ih[i] a (by rw [nth_get]; exact List.getElem?_eq_getElem hl) (by rw [List.getElem?_eq_getElem hi, e2])
    cases hc : ih[i] with
    | lst xs => rw [hc] at this; obtain ⟨vs, h, _⟩ := this; rw [e] at h; cases h; exact .inl ⟨_, rfl⟩
    | dct ks ds => rw [hc] at this; obtain ⟨vs, h, _⟩ := this; rw [e] at h; cases h; exact .inr ⟨_, rfl⟩
    | inst q fs => rw [hc] at this; exact this.elim
  refine ⟨fun a xs e => ?_, fun a o u e => ?_⟩
  · by_cases hm : a ∈ ρ
    · rcases no a _ e hm with ⟨_, z⟩ | ⟨_, z⟩ <;> cases z
    · exact (kp.keep a _ e hm).2
  · by_cases hm : a ∈ ρ
    · rcases no a _ e hm with ⟨_, z⟩ | ⟨_, z⟩ <;> cases z
    · exact (kp.keep a _ e hm).2
theorem initS_at : ∀ (ds : List D) (n i : Nat) (s : Slot), nth (initS ds n) i = some s → (∃ d, nth ds i = some d ∧ s = .fz d) ∨ s = .un
  | [], n, i, s, e => by
    simp only [initS] at e
    rw [nth_get, List.getElem?_replicate] at e
    split at e
    · exact .inr (Option.some.inj e).symm
    · cases e
  | d :: ds, n, 0, s, e => .inl ⟨d, rfl, by simpa [initS, nth] using e.symm⟩
  | d :: ds, n, i + 1, s, e => by
    simp only [initS, nth] at e ⊢
    exact initS_at ds n i s e
theorem initS_len : ∀ (ds : List D) (n : Nat), (initS ds n).length = ds.length + n
  | [], n => by simp [initS]
  | d :: ds, n => by simp [initS, initS_len ds n]; omega
/-- the state at a def's entry -/
theorem mat_start {N : List PySem.Str} {ds : List D} {vs : List V} {n : Nat} (cl : Cells G.K ρ ih H) (r : Reps G.K ρ H ds vs) (hN : N.length = ds.length + n) : Mat G.K H ρ ρ (initS ds n) ih (L2.start N vs) H := by
  have hl := r.length
  refine ⟨by rw [initS_len]; unfold L2.start; rw [List.length_append, List.length_map, List.length_replicate]; omega, fun i s e => ?_, fun i s a e ow => ?_, fun i j s t a e1 e2 o1 => ?_, cl, ⟨.refl _, fun a o e n => ⟨n, e⟩⟩⟩
  · rcases initS_at ds n i s e with ⟨d, hd, rfl⟩ | rfl
    · obtain ⟨v, hv, hr⟩ := r.get hd
      refine ⟨v, ?_, hr⟩
      unfold L2.start
      have hi : i < vs.length := (List.getElem?_eq_some_iff.mp hv).1
      rw [List.getElem?_append_left (by simpa using hi), List.getElem?_map, hv]; rfl
    · trivial
  · rcases initS_at ds n i s e with ⟨d, hd, rfl⟩ | rfl <;> cases ow
  · rcases initS_at ds n i s e1 with ⟨d, hd, rfl⟩ | rfl <;> cases o1
/-- the promise's end from the body's -/
theorem ends {fn : Fn} {N : List PySem.Str} {ds : List D} {vs : List V} {n : Nat} {Q : VK} {E : XK} {c : Call} {o : OutS} (cl : Cells G.K ρ ih H) (q : PostC G ρ H Q E (endC o)) :
    PostS G (fun cls d _ H => E cls d H) H ρ ρ H { nx := fun _ H' => Q .non H', rt := Q } o := by
  cases o with
  | st => exact q
  | nx σe ih' => exact fun ρ' H' σ' p a m => q ρ' H' .non p m.kept m.cells .non
  | rt ih' r => exact fun ρ' H' v kp cl' rp => q ρ' H' v (cl.pers kp) kp cl' rp
  | bk σe ih' => exact q.elim
  | ct σe ih' => exact q.elim
  | ex σe ih' x => exact fun ρ' H' σ' cls d m xs => q ρ' H' cls d (cl.pers m.kept) m.kept m.cells xs
end
/-- a body is read as its code says -/
def BodyOk (G : Gd) (N : List PySem.Str) (sc : Scope) (body : List Stmt) (s : S) (dsc : Nat → Option Dsc) : Prop :=
  ∀ (k : Nat) (W : WX) (X : Cx) (c : Call), Cok G k N sc W X → PassesOwn (model X.prog X.w) X.A X.env X.xe → X.stack = X.env :: X.outer → X.env.frame = some X.env.locals → (∀ x, X.fn x = true) → AllF G k c dsc → PSs X body (rS G W (denS s c none))
theorem def_ok {G : Gd} {k : Nat} {tab : Nat → Option Fn} {dsc : Nat → Option Dsc} {i : Nat} {fn : Fn} {x qual : PySem.Str} {params : Arguments} {body : List Stmt} {scope : Scope} {dvs : List V} {kws : List (PySem.Str × V)} {f : Addr} {fd : FuncData} {N ps : List PySem.Str}
    (F : FunD G.K x qual params body scope dvs kws f fd) (S : FnScope N ps scope) (hfn : tab i = some fn) (hps : ps.length = fn.ps) (hN : N.length = fn.ps + fn.ns) (hb : BodyOk G N scope body fn.body dsc) (A : AllF G k (callK tab k) dsc) :
    FnOk G.P G.w G.K G.mg G.base (L2.CX G.P G.w) (k + 1) f fd ps (spOf G ps.length (callK tab (k + 1) i)) := by
  refine F.ok S (fun vs H Q E h => h.1) fun cdv Ar outer s H vs Q E hr h => ?_
  obtain ⟨hl, ρ, ds, ih, cl, rr, q⟩ := h
  have hd : ds.length = fn.ps := by rw [rr.length, hl, hps]
  refine ⟨rS G (fun cls d _ H => E cls d H) (denS fn.body (callK tab k) none), ?_, ?_⟩
  · refine hb k _ _ _ ⟨rfl, rfl, rfl, rfl, rfl, rfl, rfl, S.nd, hr, rfl, takes_of rfl rfl rfl rfl⟩ (passes_of rfl) rfl rfl (fun _ => rfl) A
  · refine ⟨H, ρ, ρ, initS ds fn.ns, ih, mat_start cl rr (by rw [hN, hd]), ?_⟩
    have e : callK tab (k + 1) i ds ih = endC (denS fn.body (callK tab k) none (initS ds fn.ns) ih) := by
      simp only [callK, hfn, hd, Nat.beq_refl, cond_true]
    rw [e] at q
    exact ends (fn := fn) (N := N) (ds := ds) (vs := vs) (n := 0) (c := callK tab k) cl q
/-- what is known of each def -/
structure DefOk (G : Gd) (tab : Nat → Option Fn) (dsc : Nat → Option Dsc) (i : Nat) (d : Dsc) : Prop where
  ex : ∃ (fn : Fn) (x qual : PySem.Str) (params : Arguments) (body : List Stmt) (scope : Scope) (dvs : List V) (kws : List (PySem.Str × V)) (N : List PySem.Str),
    FunD G.K x qual params body scope dvs kws d.f d.fd ∧ FnScope N d.ps scope ∧ tab i = some fn ∧ d.ps.length = fn.ps ∧ N.length = fn.ps + fn.ns ∧ BodyOk G N scope body fn.body dsc
theorem all_ok {G : Gd} {tab : Nat → Option Fn} {dsc : Nat → Option Dsc} (h : ∀ i d, dsc i = some d → DefOk G tab dsc i d) : ∀ k, AllF G k (callK tab k) dsc
  | 0 => ⟨fun i d hd => ⟨fun vs H Q E z => z.1, fun A outer s H args us vs Q E _ _ _ _ z => by obtain ⟨_, _, _, _, _, _, q⟩ := z; exact q.elim⟩, fun i d ds ih _ _ => rfl⟩
  | k + 1 => by
    have A := all_ok h k
    refine ⟨fun i d hd => ?_, fun i d ds ih hd hne => ?_⟩
    · obtain ⟨fn, x, qual, params, body, scope, dvs, kws, N, F, S, hfn, hps, hN, hb⟩ := (h i d hd).ex
      exact def_ok F S hfn hps hN hb A
    · obtain ⟨fn, x, qual, params, body, scope, dvs, kws, N, F, S, hfn, hps, hN, hb⟩ := (h i d hd).ex
      have : Nat.beq ds.length fn.ps = false := by
        cases z : Nat.beq ds.length fn.ps with
        | false => rfl
        | true => exact absurd ((Nat.eq_of_beq_eq_true z).trans hps.symm) hne
      simp only [callK, hfn, this, cond_false]
end Few
set_option Elab.async false
set_option linter.all false
set_option maxRecDepth 100000
set_option maxHeartbeats 4000000
namespace Few
open PySem PySem.Spec PyProof.Rows L2
section
variable {G : Gd} {k : Nat} {N : List PySem.Str} {sc : Scope} {W : WX} {X : Cx} {c : Call} {xo : Option XD}
variable {H0 H : Hp} {ρ0 ρ : List Addr} {σe : ES} {ih : IH} {σ : L2.St} {D : Ends} {Q : VK}
/-! ### cells -/
/-- a new cell -/
theorem Mat.cellNew {p : Addr} {ds : List Few.D} {vs : List V} (m : Mat G.K H0 ρ0 ρ σe ih σ H) (n : H p = none) (r : Reps G.K ρ H ds vs) :
    Mat G.K H0 ρ0 (ρ ++ [p]) σe (ih ++ [.lst ds]) σ (upd H p (.lst vs)) ∧ Pers H (upd H p (.lst vs)) ∧ Ahead ρ (ρ ++ [p]) ∧ Rep G.K (ρ ++ [p]) (upd H p (.lst vs)) (.obj ih.length) (.ref p) := by
  have lo := m.lone n
  have ps : Pers H (upd H p (.lst vs)) := .new n
  have al : Ahead ρ (ρ ++ [p]) := ⟨[p], rfl⟩
  have m2 := m.fresh (o := .lst vs) n
  refine ⟨⟨m.len, fun i s e => (m2.slot i s e).keep (.refl _) al fun a u _ _ h => h, fun i s a e ow ex => ?_, m.sep, ⟨?_, ?_, fun j cc a e1 e2 => ?_⟩, ⟨m.kept.ahead.trans al, fun a o e h => ?_⟩⟩, ps, al, ?_⟩
  · have h := m.own i s a e ow ex
    refine ⟨fun z => ?_, h.2⟩
    rcases List.mem_append.mp z with z | z
    · exact h.1 z
    · rw [List.mem_singleton] at z
      subst z
      exact lo.slot i s e ow ex
  · simp [m.cells.len]
  · exact List.nodup_append.mpr ⟨m.cells.nd, by simp, fun x hx y hy => by rw [List.mem_singleton] at hy; subst hy; exact fun z => lo.free (z ▸ hx)⟩
  · rw [nth_get, List.getElem?_append] at e1
    split at e1
    · rename_i hj
      have hj' : j < ρ.length := by rw [← m.cells.len]; exact hj
      rw [List.getElem?_append_left hj'] at e2
      exact (m2.cells.cell j cc a (by rw [nth_get]; exact e1) e2).keep (.refl _) al fun u h => h
    · rename_i hj
      have hj' : ρ.length ≤ j := by rw [← m.cells.len]; omega
      rw [List.getElem?_append_right hj'] at e2
      rw [m.cells.len] at e1
      have z : j - ρ.length = 0 := by
        have := (List.getElem?_eq_some_iff.mp e2).1
        simp at this; omega
      rw [z] at e1 e2
      simp at e1 e2
      subst e1; subst e2
      exact ⟨vs, upd_same, r.keep ps al⟩
  · have h1 := m2.kept.keep a o e h
    refine ⟨fun z => ?_, h1.2⟩
    rcases List.mem_append.mp z with z | z
    · exact h1.1 z
    · rw [List.mem_singleton] at z
      rw [z, (m.new0 n).1] at e; cases e
  · refine .obj ?_
    rw [m.cells.len, List.getElem?_append_right (Nat.le_refl _), Nat.sub_self]; rfl
theorem r_lstc {a : Ev} {es : List Expr} {pos : Pos} (h : PA X es (ra G W (a c))) : PE X (.List es pos) (rd G W (dLstc a c)) := by
  refine peTo (pe_lst h) fun σ H Q q => ?_
  obtain ⟨H0, ρ0, ρ, σe, ih, m, q⟩ := q
  refine ra_bind m q (fun σ' h' r q => ?_) fun vs ds H1 ρ1 σ1 h1 p1 a1 m1 rr q => ?_
  · cases r with
    | ls ds => exact ⟨ds, rfl⟩
    | _ => exact q.elim
  · cases hf : fits ds with
    | false => simp only [hf] at q; exact q.elim
    | true =>
      simp only [hf] at q
      refine ⟨by rw [← rr.length]; exact fits_of hf, fun p np => ?_⟩
      obtain ⟨z1, z2, z3, z4⟩ := m1.cellNew np rr
      exact q _ _ _ z2 z3 z1 z4
theorem cell_at {r : RV} {v : V} {n : Nat} {xs : List Few.D} (m : Mat G.K H0 ρ0 ρ σe ih σ H) (s : RepS G.K ρ σ H r v) (e : cellL ih r = some (n, xs)) : ∃ a vs, v = .ref a ∧ ρ[n]? = some a ∧ nth ih n = some (.lst xs) ∧ H a = some (.lst vs) ∧ Reps G.K ρ H xs vs := by
  unfold cellL at e
  split at e
  · rename_i n' hf
    split at e
    · rename_i xs' hc
      cases e
      have v1 := s.frz hf
      cases v1 with
      | obj e1 =>
        obtain ⟨vs, h1, h2⟩ := m.cells.cell n _ _ hc e1
        exact ⟨_, vs, rfl, e1, hc, h1, h2⟩
    · cases e
  · cases e
/-- a cell is written -/
theorem Mat.cellSet {n : Nat} {a : Addr} {vs vs' : List V} {xs' : List Few.D} (m : Mat G.K H0 ρ0 ρ σe ih σ H) (hn : ρ[n]? = some a) (hu : H a = some (.lst vs)) (r : Reps G.K ρ H xs' vs') :
    Mat G.K H0 ρ0 ρ σe (setN ih n (.lst xs')) σ (upd H a (.lst vs')) ∧ Pers H (upd H a (.lst vs')) := by
  have ps : Pers H (upd H a (.lst vs')) := .mut hu trivial
  have hm : a ∈ ρ := List.mem_of_getElem? hn
  refine ⟨⟨m.len, fun i s e => (m.slot i s e).keep ps (.refl _) fun b u ow ex h => ?_, m.own, m.sep, ⟨by rw [setN_set, List.length_set]; exact m.cells.len, m.cells.nd, fun j cc b e1 e2 => ?_⟩, ⟨m.kept.ahead, fun b o e h => ?_⟩⟩, ps⟩
  · rw [upd_ne (fun z => (m.own i s b e ow ex).1 (by rw [z]; exact hm))]; exact h
  · rcases nth_setN e1 with ⟨rfl, rfl, _⟩ | ⟨ne, e1⟩
    · rw [hn] at e2; cases e2
      exact ⟨vs', upd_same, r.keep ps (.refl _)⟩
    · have hab : b ≠ a := fun z => by
        subst z
        exact ne ((List.getElem?_inj (List.getElem?_eq_some_iff.mp e2).1 m.cells.nd).mp (e2.trans hn.symm))
      exact (m.cells.cell j cc b e1 e2).keep ps (.refl _) fun u h => by rw [upd_ne hab]; exact h
  · have h1 := m.kept.keep b o e h
    refine ⟨h1.1, ?_⟩
    rw [upd_ne (fun z => h1.1 (by rw [z]; exact hm))]; exact h1.2
theorem s_appc {o a : Ev} {eo e : Expr} {apos cpos pos : Pos} (ok : Cok G k N sc W X) (ho : PE X eo (rd G W (o c))) (ha : PE X e (rd G W (a c)))
    (hs : starEach [e] X.env = (false, eval e X.env) :: starEach [] X.env) (hbase : attributeBase eo "append" X.env (eval eo X.env) = eval eo X.env)
    (hfew : ((backTo cpos (starEach [e] X.env)).all (fun x => !x.1) && (backToKw cpos (keywordEach [] X.env)).all (fun x => x.1.isSome) && decide ([e].length + ([] : List Keyword).length + (if ([] : List Keyword).isEmpty then 0 else 1) < 30)) = true)
    (hline : (apos.endLine == cpos.line) = true) (hpl : (backTo cpos (starEach [] X.env)).any (·.1) = false) (hsw : swapsWith (.Call (.Attribute eo "append" apos) [e] [] cpos) none pos.line X.env = pure false) :
    PS X (.Expr (.Call (.Attribute eo "append" apos) [e] [] cpos) pos) (rS G W (sAppc o a c xo)) := by
  refine psTo (ps_expr (pe_bm PySem.F.plainAttrs_list PySem.F.slot_list_append PySem.F.type_list_append mt_append (settle ho) (pa_cons (settle ha) pa_nil hs) hbase hfew hline hs hpl) hsw) fun D σ H q => ?_
  obtain ⟨H0, ρ0, ρ, σe, ih, m, q⟩ := q
  refine sEs m q fun x H1 ρ1 σe1 ih1 rp p1 a1 m1 s1 q => ?_
  cases hc : cellL ih1 rp with
  | none => simp only [hc] at q; exact q.elim
  | some nx =>
    obtain ⟨n1, xs1⟩ := nx
    simp only [hc] at q
    obtain ⟨l, vs, rfl, e1, e2, hH, rr⟩ := cell_at m1 s1 hc
    refine ⟨.inl ⟨rfl, vs, .of hH⟩, ?_⟩
    refine sEs m1 q fun y H2 ρ2 σe2 ih2 r2 p2 a2 m2 s2 q => ?_
    cases hf : frozen r2 with
    | none => simp only [hf] at q; exact q.elim
    | some d =>
      cases hc2 : cellL ih2 rp with
      | none => simp only [hf, hc2] at q; exact q.elim
      | some nx =>
        obtain ⟨n2, xs2⟩ := nx
        simp only [hf, hc2] at q
        obtain ⟨l2, vs2, e0, e3, e4, hH2, rr2⟩ := cell_at m2 (s1.keep p2 a2) hc2
        cases e0
        cases hb : Nat.blt xs2.length line with
        | false => simp only [hb, cond_false] at q; exact q.elim
        | true =>
          simp only [hb, cond_true] at q
          have hlt : xs2.length < line := by simpa [Nat.blt_eq] using hb
          have z := m2.cellSet (xs' := xs2 ++ [d]) (vs' := vs2 ++ [y]) e3 hH2 (rr2.append (.cons (s2.frz hf) .nil))
          exact ⟨l, vs2, y, rfl, rfl, hH2, by rw [← rr2.length, ← line_eq]; exact hlt, q ρ2 _ σ z.2 (.refl _) z.1⟩
/-! ### x[k] = e -/
theorem ixOf_N {i : Int} {n j : Nat} (h : ixOf i n = some j) : ixN n i = some j := by
  unfold ixN
  cases i with
  | ofNat q =>
    have e : Int.ofNat q = (q : Int) := rfl
    simp only [ixOf] at h
    cases hb : Nat.blt q n with
    | false => rw [hb] at h; cases h
    | true =>
      rw [hb] at h
      have h := Option.some.inj h
      have hq : q < n := by simpa [Nat.blt_eq] using hb
      rw [if_pos (by omega), if_pos (by omega)]
      congr 1
  | negSucc q =>
    have e1 := Int.negSucc_eq q
    simp only [ixOf] at h
    cases hb : Nat.blt q n with
    | false => rw [hb] at h; cases h
    | true =>
      rw [hb] at h
      have h := Option.some.inj h
      have hq : q < n := by simpa [Nat.blt_eq] using hb
      rw [if_neg (by omega), if_pos (by omega)]
      congr 1
      omega
theorem setAt_ok {K : PySem.W.Frag} {ds ds' : List Few.D} {vs : List V} {kd d : Few.D} {y v : V} (r : Reps K ρ H ds vs) (hk : Rep K ρ H kd y) (hd : Rep K ρ H d v) (e : setAt ds kd d = some ds') :
    ∃ i j, y = .int i ∧ ixN vs.length i = some j ∧ Reps K ρ H ds' (vs.set j v) ∧ ds'.length = ds.length := by
  unfold setAt at e
  split at e
  · rename_i i
    split at e
    · rename_i j hj
      cases e
      cases hk
      refine ⟨i, j, rfl, by rw [← r.length]; exact ixOf_N hj, r.set j hd, by rw [setN_set, List.length_set]⟩
    · cases e
  · cases e
theorem s_seti {a b : Ev} {i : Nat} {x : PySem.Str} {e ek : Expr} {px tpos pos : Pos} (ok : Cok G k N sc W X) (hN : N[i]? = some x) (hv : Vis sc x) (hd : (x == ("__debug__" : PySem.Str)) = false) (hcd : (x == ("__classdict__" : PySem.Str)) = false) (ha : PE X e (rd G W (a c))) (hb : PE X ek (rd G W (b c)))
    (has : ∀ v, assign (.Subscript (.Name x px) ek tpos) X.env v = (do
      let ov ← holding [v] (eval (.Name x px) X.env)
      let iv ← holding [v, ov] (eval ek X.env)
      standAt tpos
      holding [v, ov, iv] (setItem ov iv v)
      release [v, ov, iv] []))
    (hs : swapsWithSole [.Subscript (.Name x px) ek tpos] e pos.line X.env = pure false) (hw : swappedStores [.Subscript (.Name x px) ek tpos] e X.env = pure none) (h1 : (assignEach [.Subscript (.Name x px) ek tpos] X.env).map (·.2) = [assign (.Subscript (.Name x px) ek tpos) X.env]) :
    PS X (.Assign [.Subscript (.Name x px) ek tpos] e pos) (rS G W (sSeti i b a c xo)) := by
  refine psTo (ps_asg (settle ha) (pg_sub (pe_var (i := i) (by rw [ok.eN]; exact hN) (by rw [ok.eS]; exact hv) hd hcd) (settle hb) set_list has) hs hw h1) fun D σ H q => ?_
  obtain ⟨H0, ρ0, ρ, σe, ih, m, q⟩ := q
  unfold sSeti at q
  cases hol : isOl (nth σe i) with
  | false => simp only [hol, cond_false] at q; exact q.elim
  | true =>
    simp only [hol, cond_true] at q
    have hsl : ∃ l, σ[i]? = some (some (.ref l)) := by
      unfold isOl at hol
      split at hol
      · rename_i n r hs; obtain ⟨_, l, vs, hl, _⟩ := own_at m hs; exact ⟨l, hl⟩
      · cases hol
    obtain ⟨l, hl⟩ := hsl
    refine sEs m q fun y H1 ρ1 σe1 ih1 r1 p1 a1 m1 s1 q => ?_
    refine ⟨_, hl, ?_⟩
    refine sEs m1 q fun z H2 ρ2 σe2 ih2 r2 p2 a2 m2 s2 q => ?_
    have s1 := s1.keep p2 a2
    cases hf : frozen r1 with
    | none => simp only [hf] at q; exact q.elim
    | some d =>
      cases hf2 : frozen r2 with
      | none => simp only [hf, hf2] at q; exact q.elim
      | some kd =>
        cases hs2 : nth σe2 i with
        | none => simp only [hf, hf2, hs2] at q; exact q.elim
        | some sl =>
          cases sl with
          | ol n r =>
            simp only [hf, hf2, hs2] at q
            cases hst : setAt r.reverse kd d with
            | none => simp only [hst] at q; exact q.elim
            | some xs =>
              simp only [hst] at q
              obtain ⟨hn, l2, vs2, hl2, hH2, rr2⟩ := own_at m2 hs2
              rw [hl] at hl2; cases hl2
              obtain ⟨i', j, rfl, hj, rr3, hlen⟩ := setAt_ok rr2 (s2.frz hf2) (s1.frz hf) hst
              have w := m2.rewrite (n' := n) (r' := xs.reverse) (vs' := vs2.set j y) hs2 hl hH2 (by rw [List.length_reverse, hlen, List.length_reverse]; exact hn) (by rw [List.reverse_reverse]; exact rr3)
              exact ⟨l, vs2, i', j, rfl, rfl, hH2, hj, q ρ2 _ σ w.2 (.refl _) w.1⟩
          | _ => simp only [hf, hf2, hs2] at q; exact q.elim
theorem s_setc {o a b : Ev} {eo e ek : Expr} {tpos pos : Pos} (ok : Cok G k N sc W X) (ho : PE X eo (rd G W (o c))) (ha : PE X e (rd G W (a c))) (hb : PE X ek (rd G W (b c)))
    (has : ∀ v, assign (.Subscript eo ek tpos) X.env v = (do
      let ov ← holding [v] (eval eo X.env)
      let iv ← holding [v, ov] (eval ek X.env)
      standAt tpos
      holding [v, ov, iv] (setItem ov iv v)
      release [v, ov, iv] []))
    (hs : swapsWithSole [.Subscript eo ek tpos] e pos.line X.env = pure false) (hw : swappedStores [.Subscript eo ek tpos] e X.env = pure none) (h1 : (assignEach [.Subscript eo ek tpos] X.env).map (·.2) = [assign (.Subscript eo ek tpos) X.env]) :
    PS X (.Assign [.Subscript eo ek tpos] e pos) (rS G W (sSetc o b a c xo)) := by
  refine psTo (ps_asg (settle ha) (pg_sub (settle ho) (settle hb) set_list has) hs hw h1) fun D σ H q => ?_
  obtain ⟨H0, ρ0, ρ, σe, ih, m, q⟩ := q
  refine sEs m q fun y H1 ρ1 σe1 ih1 r1 p1 a1 m1 s1 q => ?_
  refine sEs m1 q fun x H2 ρ2 σe2 ih2 rp p2 a2 m2 sp q => ?_
  refine sEs m2 q fun z H3 ρ3 σe3 ih3 r2 p3 a3 m3 s2 q => ?_
  have s1 := (s1.keep p2 a2).keep p3 a3
  have sp := sp.keep p3 a3
  cases hf : frozen r1 with
  | none => simp only [hf] at q; exact q.elim
  | some d =>
    cases hc : cellL ih3 rp with
    | none => simp only [hf, hc] at q; exact q.elim
    | some nx =>
      obtain ⟨n, xs⟩ := nx
      cases hf2 : frozen r2 with
      | none => simp only [hf, hc, hf2] at q; exact q.elim
      | some kd =>
        simp only [hf, hc, hf2] at q
        obtain ⟨l, vs, rfl, e3, e4, hH, rr⟩ := cell_at m3 sp hc
        cases hst : setAt xs kd d with
        | none => simp only [hst] at q; exact q.elim
        | some xs' =>
          simp only [hst] at q
          obtain ⟨i', j, rfl, hj, rr3, hlen⟩ := setAt_ok rr (s2.frz hf2) (s1.frz hf) hst
          have w := m3.cellSet e3 hH rr3
          exact ⟨l, vs, i', j, rfl, rfl, hH, hj, q ρ3 _ σ w.2 (.refl _) w.1⟩
/-! ### two names at once -/
/-- a result that is not yet stored stays through an expression -/
theorem sPair {cd : Cd} {kk : ES → IH → RV → OutS} {R : VK} {r : RV} {x : V} (m : Mat G.K H0 ρ0 ρ σe ih σ H) (hr : RepR G.K H0 ρ σe σ H r x) (hp : ∀ i, r ≠ .p i) (q : PostS G W H0 ρ0 ρ H D (fromE (cd σe ih) kk))
    (f : ∀ y H2 ρ2 σe2 ih2 r2, Pers H H2 → Ahead ρ ρ2 → Mat G.K H0 ρ0 ρ2 σe2 ih2 σ H2 → RepR G.K H0 ρ2 σe2 σ H2 r x → RepR G.K H0 ρ2 σe2 σ H2 r2 y → (∀ a, (∃ d, r = .n d) → x = .ref a → (∃ d, r2 = .n d) → y ≠ .ref a) → PostS G W H0 ρ0 ρ2 H2 D (kk σe2 ih2 r2) → R y H2) : rd G W cd σ H R := by
  have held : ∀ (a : Addr) (u : HO), H a = some u → x = .ref a → Lone H0 ρ σe σ a → (∀ ρ2 σe2 H2, Pers H H2 → Ahead ρ ρ2 → H2 a = some u → Lone H0 ρ2 σe2 σ a → RepR G.K H0 ρ2 σe2 σ H2 r x) → rd G W cd σ H R := fun a u hu hx lo back => by
    refine ⟨upd H0 a u, ρ0, ρ, σe, ih, m.hold hu lo, ?_⟩
    unfold fromE at q
    have n0 := lo.new
    have nr := lo.nr0 m.kept
    cases ha : cd σe ih with
    | st => rw [ha] at q; exact q
    | ex σ' h' x => rw [ha] at q; exact fun ρ' H' cls d mm xs => q ρ' H' σ cls d (mm.drop n0 nr).1 xs
    | ok σ1 h1 r1 =>
      rw [ha] at q
      intro ρ1 H1 y p1 a1 m1 s1
      obtain ⟨md, hd, ld⟩ := m1.drop n0 nr
      have new0 : ∀ b, upd H0 a u b = none → H0 b = none := fun b e => by
        unfold upd at e
        split at e
        · cases e
        · exact e
      have low : ∀ b, Lone (upd H0 a u) ρ1 σ1 σ b → Lone H0 ρ1 σ1 σ b ∧ b ≠ a := fun b lb => ⟨⟨lb.free, new0 b lb.new, lb.slot⟩, fun z => by have := lb.new; rw [z, upd_same] at this; cases this⟩
      have s1' : RepR G.K H0 ρ1 σ1 σ H1 r1 y := by
        cases r1 with
        | v d => exact s1
        | p i => exact s1
        | ls ds => exact s1
        | n d =>
          cases d with
          | lst ds => obtain ⟨b, vs, rfl, h1, h2, lb⟩ := s1; exact ⟨b, vs, rfl, h1, h2, (low b lb).1⟩
          | dct ks ds => obtain ⟨b, vs, rfl, h1, h2, lb⟩ := s1; exact ⟨b, vs, rfl, h1, h2, (low b lb).1⟩
          | _ => exact s1.elim
      refine f y H1 ρ1 σ1 h1 r1 p1 a1 md (back ρ1 σ1 H1 p1 a1 hd ld) s1' (fun b _ e1 h2 e2 => ?_) (PostS.weak p1 a1 q)
      obtain ⟨d, rfl⟩ := h2
      rw [hx] at e1; cases e1
      cases d with
      | lst ds => obtain ⟨b, vs, e3, _, _, lb⟩ := s1; rw [e2] at e3; cases e3; exact (low _ lb).2 rfl
      | dct ks ds => obtain ⟨b, vs, e3, _, _, lb⟩ := s1; rw [e2] at e3; cases e3; exact (low _ lb).2 rfl
      | _ => exact s1.elim
  cases r with
  | v d =>
    have hr : Rep G.K ρ H d x := hr
    exact sE m q fun y H2 ρ2 σe2 ih2 r2 p2 a2 m2 s2 q => f y H2 ρ2 σe2 ih2 r2 p2 a2 m2 (hr.keep p2 a2) s2 (fun a h => by obtain ⟨_, h⟩ := h; cases h) q
  | n d =>
    cases d with
    | lst ds =>
      obtain ⟨a, vs, e, h1, h2, lo⟩ := hr
      exact held a _ h1 e lo fun ρ2 σe2 H2 p a' hu l => ⟨a, vs, e, hu, h2.keep p a', l⟩
    | dct ks ds =>
      obtain ⟨a, vs, e, h1, h2, lo⟩ := hr
      exact held a _ h1 e lo fun ρ2 σe2 H2 p a' hu l => ⟨a, vs, e, hu, h2.keep p a', l⟩
    | _ => exact hr.elim
  | p i => exact absurd rfl (hp i)
  | ls ds => exact hr.elim
theorem s_par {a b : Ev} {i j : Nat} {x y : PySem.Str} {ea eb : Expr} {px py pt pos pt2 : Pos} {kt k2 : Nat} (ok : Cok G k N sc W X) (hi : N[i]? = some x) (hj : N[j]? = some y) (hij : i ≠ j) (hx : sc.names.lookup x = some .local) (hy : sc.names.lookup y = some .local)
    (ha : PE X ea (rd G W (a c))) (hb : PE X eb (rd G W (b c))) (hs : starEach [ea, eb] X.env = (false, eval ea X.env) :: starEach [eb] X.env) (hs2 : starEach [eb] X.env = (false, eval eb X.env) :: starEach [] X.env)
    (hw : swappedStores [.Tuple [.Name x px, .Name y py] kt pt] (.Tuple [ea, eb] k2 pt2) X.env = pure (some [x, y])) (hsw : swapsWithSole [.Tuple [.Name x px, .Name y py] kt pt] (.Tuple [ea, eb] k2 pt2) pos.line X.env = pure false) :
    PS X (.Assign [.Tuple [.Name x px, .Name y py] kt pt] (.Tuple [ea, eb] k2 pt2) pos) (rS G W (sPar i j a b c xo)) := by
  refine psTo (ps_par (i := i) (j := j) ok.calm (by rw [ok.eN]; exact ok.nd) (by rw [ok.eN]; exact hi) (by rw [ok.eN]; exact hj) hij (by rw [ok.eS]; exact hx) (by rw [ok.eS]; exact hy) (pa_cons ha (pa_cons hb pa_nil hs2) hs) hw hsw) fun D σ H q => ?_
  obtain ⟨H0, ρ0, ρ, σe, ih, m, q⟩ := q
  refine sE m q fun v H1 ρ1 σe1 ih1 r1 p1 a1 m1 s1 q => ?_
  cases hs1 : slotOf r1 with
  | none => simp only [hs1] at q; exact q.elim
  | some sl =>
    simp only [hs1] at q
    have hp : ∀ i, r1 ≠ .p i := fun i z => by rw [z] at hs1; cases hs1
    refine sPair m1 s1 hp q fun w H2 ρ2 σe2 ih2 r2 p2 a2 m2 s1 s2 apart q => ?_
    cases hs2 : slotOf r2 with
    | none => simp only [hs2] at q; exact q.elim
    | some su =>
      simp only [hs2] at q
      have z1 := slot_of s1 hs1
      have z2 := slot_of s2 hs2
      have m3 := m2.put (i := i) z1.1 z1.2
      refine ⟨v, w, rfl, q ρ2 H2 _ (.refl _) (.refl _) (m3.put (i := j) z2.1 fun ow a e => ?_)⟩
      have lo := z2.2 ow a e
      refine ⟨lo.free, lo.new, fun l t e2 ow2 h2 => ?_⟩
      rcases nth_setN e2 with ⟨rfl, rfl, hlt⟩ | ⟨ne, e2⟩
      · rw [List.getElem?_set_self (by rw [← m2.len]; exact hlt)] at h2
        have hv : v = .ref a := by simpa using h2
        have n1 : ∃ d, r1 = .n d := by
          cases r1 with
          | n d => exact ⟨d, rfl⟩
          | v d => cases hs1; cases ow2
          | p i => exact absurd rfl (hp i)
          | ls ds => cases hs1
        have n2 : ∃ d, r2 = .n d := by
          cases r2 with
          | n d => exact ⟨d, rfl⟩
          | v d => cases hs2; cases ow
          | p i => cases hs2
          | ls ds => cases hs2
        exact apart a n1 hv n2 e
      · rw [List.getElem?_set_ne (Ne.symm ne)] at h2
        exact lo.slot l t e2 ow2 h2
end
end Few
set_option Elab.async false
set_option linter.all false
set_option maxRecDepth 100000
set_option maxHeartbeats 4000000
namespace Few
open PySem PySem.Spec PyProof.Rows L2
section
variable {G : Gd} {k : Nat} {N : List PySem.Str} {sc : Scope} {W : WX} {X : Cx} {c : Call} {xo : Option XD}
variable {H0 H : Hp} {ρ0 ρ : List Addr} {σe : ES} {ih : IH} {σ : L2.St} {D : Ends} {Q : VK}
/-- name = [..] on one line -/
theorem s_setLc {own : List (PySem.Str × Nat)} {t : T} {it cd a : Ev} {i : Nat} {y : PySem.Str} {py pos spos : Pos} {elt tg iter : Expr} {ifs : List Expr} {scope : Scope} {g : TG} (ok : Cok G k N sc W X) (hy : N[i]? = some y) (hyl : sc.names.lookup y = some .local)
    (hsw : swapsWith (.ListComp elt [⟨tg, iter, ifs, 0⟩] scope pos) (some (.Name y py)) spos.line X.env = pure true) (hi : PI X tg iter (ri G W (it c))) (bk : BlkOk X.N X.env.scope scope own)
    (hg : ∀ (s : Shared) (H : Hp) (C : Addr) (cl : List (PySem.Str × Addr)) (fp : List Addr), PG (X.blk s H scope (compEnvC scope cl C X.env) fp) tg g) (hgo : gOk G.K t g) (htx : ∀ i ∈ tix t, i ∈ own.map (·.2))
    (ht : ∀ (s : Shared) (H : Hp) (C : Addr) (cl : List (PySem.Str × Addr)) (fp : List Addr), PTs (X.blk s H scope (compEnvC scope cl C X.env) fp) ifs (rt G WF (cd c)))
    (he : ∀ (s : Shared) (H : Hp) (C : Addr) (cl : List (PySem.Str × Addr)) (fp : List Addr), PE (X.blk s H scope (compEnvC scope cl C X.env) fp) elt (rd G WF (a c)))
    (hs : ∀ x, foldedSetIterable iter X.env x = pure x) : PS X (.Assign [.Name y py] (.ListComp elt [⟨tg, iter, ifs, 0⟩] scope pos) spos) (rS G W (sAsg (.nm i) (dBlk (own.map (·.2)) t it cd (dGelt a) finL) c xo)) :=
  psTo (ps_setLc (i := i) ok.calm (by rw [ok.eN]; exact ok.nd) (by rw [ok.eN]; exact hy) (by rw [ok.eS]; exact hyl) hsw hi bk hg ht (fun s H C cl fp => settle (he s H C cl fp)) hs) fun D σ H q => lc_read hgo htx (asg_read q)
/-! ### constants -/
theorem r_str {s : List Nat} {x : PySem.Str} {j : Nat} {pos : Pos} (h : x = txt s) : PE X (.Constant (.str x) j pos) (rd G W (dCon (.str s) c)) := by
  subst h; exact r_con (.str s)
theorem r_int' {i : Int} {j : Nat} {pos : Pos} : PE X (.Constant (.int i) j pos) (rd G W (dCon (.int i) c)) := r_con (.int i)
theorem r_bl' {b : Bool} {j : Nat} {pos : Pos} : PE X (.Constant (.bool b) j pos) (rd G W (dCon (.bl b) c)) := r_con (.bl b)
theorem r_non {j : Nat} {pos : Pos} : PE X (.Constant .none j pos) (rd G W (dCon .non c)) := r_con .non
/-- a constant of the module -/
theorem r_glob {d : Few.D} {v : V} {u : Value} {x : PySem.Str} {pos : Pos} (ok : Cok G k N sc W X) (hr : ∀ ρ H, Rep G.K ρ H d v) (hg : Gl X x) (hm : G.mg x = some u) (r : RelV v u) (hd : (x == ("__debug__" : PySem.Str)) = false) : PE X (.Name x pos) (rd G W (dCon d c)) :=
  peTo (pe_glob hg (by rw [ok.eM]; exact hm) r hd) fun σ H Q ⟨H0, ρ0, ρ, σe, ih, m, q⟩ => post_v m (hr ρ H) q
/-! ### line.pop() -/
theorem r_pop {i : Nat} {x : PySem.Str} {px apos cpos : Pos} (ok : Cok G k N sc W X) (hN : N[i]? = some x) (hv : Vis sc x) (hd : (x == ("__debug__" : PySem.Str)) = false) (hcd : (x == ("__classdict__" : PySem.Str)) = false)
    (hbase : attributeBase (.Name x px) "pop" X.env (eval (.Name x px) X.env) = eval (.Name x px) X.env) (hline : (apos.endLine == cpos.line) = true) :
    PE X (.Call (.Attribute (.Name x px) "pop" apos) [] [] cpos) (rd G W (dPop i c)) := by
  refine peTo (pe_bm0 PySem.F.plainAttrs_list PySem.F.slot_list_pop PySem.F.type_list_pop mt_pop (pe_var (i := i) (by rw [ok.eN]; exact hN) (by rw [ok.eS]; exact hv) hd hcd) hbase hline) fun σ H Q q => ?_
  obtain ⟨H0, ρ0, ρ, σe, ih, m, q⟩ := q
  unfold dPop at q
  split at q
  · rename_i n d r hs
    obtain ⟨hn, l, vs, hl, hH, rr⟩ := own_at m hs
    rw [List.reverse_cons] at rr
    have hlen := rr.length
    rw [List.length_append, List.length_singleton, List.length_reverse] at hlen
    obtain ⟨y, hy, hr⟩ := rr.get (i := r.length) (d := d) (by rw [nth_get]; simp)
    have hdl : Reps G.K ρ H r.reverse vs.dropLast := by
      have z := rr.take r.length
      rw [List.dropLast_eq_take, show vs.length - 1 = r.length by omega]
      rwa [List.take_append_of_le_length (by simp), show r.reverse.take r.length = r.reverse from List.take_of_length_le (by simp)] at z
    have w := m.rewrite (n' := n) (r' := r) (vs' := vs.dropLast) hs hl hH (by simp at hn; omega) hdl
    refine ⟨_, hl, .inl ⟨rfl, vs, .of hH⟩, l, vs, y, rfl, rfl, hH, by rw [show vs.length - 1 = r.length by omega]; exact hy, q ρ _ y w.2 (.refl _) w.1 (hr.keep w.2 (.refl _))⟩
  · exact q.elim
end
end Few
set_option Elab.async false
set_option linter.all false
set_option maxRecDepth 100000
set_option maxHeartbeats 4000000
namespace Few
open PySem PySem.Spec PyProof.Rows L2
section
variable {G : Gd} {k : Nat} {N : List PySem.Str} {sc : Scope} {W : WX} {X : Cx} {c : Call} {xo : Option XD}
/-- X(), X an own exception class that takes what its base takes -/
theorem pmk_bare {C : Addr} {bmB : List Value} {B newId initId : String} {x : PySem.Str} {p pos : Pos} (F : ExcBaseFacts B newId initId bmB) (q : PySem.W.excIn X.K C bmB newId = true) (gC : X.mg x = some (.ref C)) (kC : PySem.W.keepIn X.K (.ref C) = true) (r : Raises X (.ref C)) (hg : Gl X x)
    (hdb : (x == ("__debug__" : PySem.Str)) = false) : PMk X (.Call (.Name x p) [] [] pos) (fun _ H Q => Q (.ref C) none H) := by
  intro pl s σ H Q Iv h
  refine wpAny_Call_Name_kw (ld_glob Iv hg gC ?_ hdb)
  refine PySem.W.callWith_K0 Iv.kIn kC ?_
  obtain ⟨bm, Nn, nm, qn, bs, hdct, sn, sub, ab, col, dd, k0, k1, k2, k3, k5, mN, hC, hN, hni, T⟩ := exc_obj Iv.kIn q
  exact wpAny_call_exc_subT F T hC hN hni (fun h' e hm => mk_of Iv hm r h (Iv.hok.gone hm.new)) (Nat.zero_le _)
theorem s_raise0 {C : Addr} {bmB : List Value} {B newId initId : String} {x : PySem.Str} {n : Nat} {p pos pos2 : Pos} (ok : Cok G k N sc W X) (F : ExcBaseFacts B newId initId bmB) (q : PySem.W.excIn G.K C bmB newId = true) (hx : G.xn n = x) (gC : G.mg x = some (.ref C)) (kC : PySem.W.keepIn G.K (.ref C) = true)
    (h1 : PySem.W.subIn G.K (.ref C) (.type "BaseException") = some true) (h2 : PySem.W.typeIn G.K (.ref C) = some (.type "type")) (hg : Gl X x) (hdb : (x == ("__debug__" : PySem.Str)) = false) :
    PS X (.Raise (some (.Call (.Name x p) [] [] pos)) none pos2) (rS G W (sRaise n dNil c xo)) := by
  refine psTo (ps_raise ok.calm ok.takes (pmk_bare F (by rw [ok.eK]; exact q) (by rw [ok.eM]; exact gC) (by rw [ok.eK]; exact kC) (raises_own (by rw [ok.eK]; exact h1) (by rw [ok.eK]; exact h2)) hg hdb)) fun D σ H q => ?_
  obtain ⟨H0, ρ0, ρ, σe, ih, m, q⟩ := q
  exact q ρ H σ _ none m ⟨by rw [hx]; exact gC, fun _ => rfl, fun _ z => nomatch z⟩
end
end Few
set_option Elab.async false
set_option linter.all false
set_option maxRecDepth 100000
set_option maxHeartbeats 4000000
namespace Few
open PySem PySem.Spec PyProof.Rows L2
/-! try with several clauses, each with a name -/
/-- the exception at a, caught by the frame that runs, not in flight -/
structure Air (X : Cx) (pl : List (Addr × Obj)) (σ : L2.St) (H : Hp) (cls : Value) (d : Option Addr) (a : Addr) (s : Shared) : Prop where
  st : X.stack = X.env :: X.outer
  fr : X.env.frame = some X.env.locals
  na : H a = none
  ground : ∃ (B : Heap) (sI : Shared), HandSPX.FlyingZ B (X.env :: X.outer) a (Zc cls d) s.heap ∧ Inv X pl σ H sI ∧ (∀ b o, sI.heap.get? b = some o → b ∉ frs X.stack → B.get? b = some o) ∧ sI.heap.UpToSlots s.heap ∧ s.os = sI.os ∧ AllBare s.gens
section
variable {X : Cx} {pl : List (Addr × Obj)} {σ : L2.St} {H : Hp} {cls : Value} {d : Option Addr} {a : Addr} {s : Shared} {D : Ends}
theorem Air.inv (A : Air X pl σ H cls d a s) : Inv X pl σ H s := by
  obtain ⟨B, sI, fl, I, nb, up, os, ag⟩ := A.ground
  exact I.landed nb fl.1 up os ag
theorem Air.obj (A : Air X pl σ H cls d a s) : ∃ oe vs, s.heap.get? a = some oe ∧ Zc cls d oe ∧ oe.data = .fields vs ∧ a ∉ frs (X.env :: X.outer) := by
  obtain ⟨B, sI, fl, I, nb, up, os, ag⟩ := A.ground
  obtain ⟨oe, vs, h1, h2, h3⟩ := fl.there
  refine ⟨oe, vs, h1, h2, h3, fun m => ?_⟩
  obtain ⟨_, o', h4, nf⟩ := fl.2.2.1.mem m
  rw [h1] at h4
  cases h4
  exact nf _ h3
theorem Air.apart (A : Air X pl σ H cls d a s) : a ≠ X.env.locals ∧ a ∉ X.fs := by
  obtain ⟨_, _, _, _, _, nf⟩ := A.obj
  constructor
  · intro z
    exact nf (List.mem_filterMap.mpr ⟨X.env, by simp, by rw [A.fr, z]⟩)
  · intro m
    obtain ⟨e, m1, m2⟩ := List.mem_filterMap.mp m
    exact nf (List.mem_filterMap.mpr ⟨e, by simp [m1], m2⟩)
/-- its suite may begin -/
theorem Air.suite (A : Air X pl σ H cls d a s) : ∃ oe, Zc cls d oe ∧ (∃ vs, oe.data = .fields vs) ∧ Inv (X.suite a ((a, oe) :: (X.pn ++ pl))) [] σ H s := by
  obtain ⟨oe, vs, h1, h2, h3, _⟩ := A.obj
  exact ⟨oe, h2, ⟨vs, h3⟩, A.inv.suite h1 h3 A.na A.apart.1 A.apart.2⟩
theorem Air.again {M : Model} {Ar : Around} {E : Value → Shared → Prop} {Q : Unit → Shared → Prop} (A : Air X pl σ H cls d a s) (h : ∀ s', Air X pl σ H cls d a s' → Q () s') : wpAny M Ar (setFlight (.ref a) none) Q E s := by
  obtain ⟨B, sI, fl, I, nb, up, os, ag⟩ := A.ground
  exact HandSPX.lands_againZ fl fun h' fl' up' => h _ ⟨A.st, A.fr, A.na, B, sI, fl', I, nb, up.trans up', os, ag⟩
/-- no clause takes it -/
theorem Air.out {W : WX} (tk : Takes X W) (A : Air X pl σ H cls d a s) (w : W cls d σ H) : wpAny (model X.prog X.w) X.A (handleBy (.ref a) X.env []) (SP X pl D) X.xe s := by
  obtain ⟨B, sI, fl, I, nb, up, os, ag⟩ := A.ground
  obtain ⟨_, _, _, oe, vs, T, _, _, he, _, hd, h1, _⟩ := id fl
  have leave : wpAny (model X.prog X.w) X.A (setFlight (.ref a) X.env.frame) (fun _ s4 => wpAny (model X.prog X.w) X.A (throw (.ref a) : Sem Flow) (SP X pl D) X.xe s4) X.xe s := by
    rw [A.fr]
    exact HandSPX.setFlight_upZ fl fun h' hh up' => wpAny_throw (tk _ _ ⟨a, B, sI, pl, σ, H, cls, d, rfl, I, nb, up.trans up', .inr (.inr (by rw [A.st]; exact hh)), A.na, os, ag, w⟩)
  refine wpAny_handleBy_nil ?_
  unfold PySem.passOn
  refine wpAny_bind (wpAny_field he hd h1 ?_)
  rw [if_neg (by simp)]
  first
    | exact wpAny_bind (wpAny_pure (wpAny_bind leave))
    | exact wpAny_bind leave
/-- the clause's class is looked up beside the exception -/
theorem Air.named {c : Value} {x : PySem.Str} {np : Pos} {Q : Value → Shared → Prop} {E : Value → Shared → Prop} (A : Air X pl σ H cls d a s) (hc : Names X x c) (q : Q c s) : wpAny (model X.prog X.w) (X.A.mark (some (.ref a))) (eval (.Name x np) X.env) Q E s := by
  obtain ⟨oe, _, _, J⟩ := A.suite
  obtain ⟨g, nd, m | ⟨m, v, nn⟩⟩ := hc
  · exact ld_glob (X := X.suite a ((a, oe) :: (X.pn ++ pl))) J g m q nd
  · exact ld_blt (X := X.suite a ((a, oe) :: (X.pn ++ pl))) J g m v q nn nd
/-- the ends of a suite whose name is at slot i -/
def endAs (i : Nat) (D : Ends) : Ends := { nx := fun σ H => D.nx (σ.set i none) H, rt := D.rt, bk := fun σ H => D.bk (σ.set i none) H, ct := fun σ H => D.ct (σ.set i none) H }
theorem Air.clause {c : Value} {x n : PySem.Str} {i : Nat} {b : Bool} {b₀ : Stmt} {suite : List Stmt} {np pos : Pos} {rest : List ExceptHandler} {ts : Addr → Value → Option Addr → TS} (A : Air X pl σ H cls d a s) (hN : X.N.Nodup) (hi : X.N[i]? = some n) (hl : X.env.kindOf n = some .local) (hc : Names X x c)
    (hm : PySem.W.exmOne X.K cls c = some b) (hsu : ∀ (a : Addr) (oe : Obj) (cls : Value) (d : Option Addr) (pn : List (Addr × Obj)), Zc cls d oe → (∃ vs, oe.data = .fields vs) → PSs (X.suite a ((a, oe) :: pn)) (b₀ :: suite) (ts a cls d))
    (yes : b = true → ts a cls d (endAs i D) (σ.set i (some (.ref a))) H) (no : b = false → wpAny (model X.prog X.w) X.A (handleBy (.ref a) X.env rest) (SP X pl D) X.xe s) :
    wpAny (model X.prog X.w) X.A (handleBy (.ref a) X.env (.ExceptHandler (some (.Name x np)) (some n) (b₀ :: suite) pos :: rest)) (SP X pl D) X.xe s := by
  obtain ⟨oe0, vs0, g0, z0, _, _⟩ := A.obj
  have kind : PySem.W.Looks (model X.prog X.w) s.heap (typeOf (.ref a)) cls := fun _ _ _ _ kp q => wpAny_typeOf_ref (kp _ _ g0) (by rw [z0.1]; exact q)
  refine wpAny_handleBy_cons (codeAny_handlers_test ?_) (by intro z; cases z)
  refine A.named hc ((PySem.W.exm_one (M := model X.prog X.w) A.inv.kIn kind hm).here ?_)
  cases b with
  | false => exact no rfl
  | true =>
    refine codeAny_handlers_suite_as (A.again fun s1 A1 => ?_)
    obtain ⟨oe, z1, z2, J⟩ := A1.suite
    refine store_ok (X := X.suite a ((a, oe) :: (X.pn ++ pl))) (v := .ref a) J hN hi (.inl hl) rfl (fun s2 J2 => ?_) (.inr hl)
    refine wpAny_mono ((hsu a oe cls d (X.pn ++ pl) z1 z2).run [] s2 _ H (endAs i D) J2 (yes rfl)) (fun fl s3 e => ?_) (fun _ _ z => False.elim z)
    have gone : ∀ {σ3 : L2.St} {H3 : Hp} {R : Shared → Prop}, Inv (X.suite a ((a, oe) :: (X.pn ++ pl))) [] σ3 H3 s3 → (∀ s4, Inv X pl (σ3.set i none) H3 s4 → R s4) → wpAny (model X.prog X.w) X.A (do bindName X.env n .none; unbindBehindTheSuite X.env n pos) (fun _ s4 => R s4) X.xe s3 :=
      fun J3 r => gone_ok (J3.unsuite A.inv.ok) hN hi hl r
    cases fl with
    | ret u => obtain ⟨v, σ3, H3, J3, rv, q⟩ := e; exact gone J3 fun s4 J4 => ⟨v, _, H3, J4, rv, q⟩
    | next => obtain ⟨σ3, H3, J3, q⟩ := e; exact gone J3 fun s4 J4 => ⟨_, H3, J4, q⟩
    | brk => obtain ⟨σ3, H3, J3, q⟩ := e; exact gone J3 fun s4 J4 => ⟨_, H3, J4, q⟩
    | cont => obtain ⟨σ3, H3, J3, q⟩ := e; exact gone J3 fun s4 J4 => ⟨_, H3, J4, q⟩
/-- a clause: its class, its name's slot, its suite's reading -/
structure Clz where
  c : Value
  i : Nat
  ts : Addr → Value → Option Addr → TS
/-- what the clauses wish, one after the other -/
def wClz (K : PySem.W.Frag) (Wout : WX) (D : Ends) : List Clz → WX
  | [] => Wout
  | z :: r => fun cls d σ H => ∃ b, PySem.W.exmOne K cls z.c = some b ∧ (b = true → ∀ a, H a = none → z.ts a cls d (endAs z.i D) (σ.set z.i (some (.ref a))) H) ∧ (b = false → wClz K Wout D r cls d σ H)
inductive ClzOk (X : Cx) : List ExceptHandler → List Clz → Prop
  | nil : ClzOk X [] []
  | cons {x n : PySem.Str} {z : Clz} {b₀ : Stmt} {suite : List Stmt} {np pos : Pos} {hs : List ExceptHandler} {l : List Clz} (hc : Names X x z.c) (hi : X.N[z.i]? = some n) (hl : X.env.kindOf n = some .local)
      (hsu : ∀ (a : Addr) (oe : Obj) (cls : Value) (d : Option Addr) (pn : List (Addr × Obj)), Zc cls d oe → (∃ vs, oe.data = .fields vs) → PSs (X.suite a ((a, oe) :: pn)) (b₀ :: suite) (z.ts a cls d)) (r : ClzOk X hs l) :
      ClzOk X (.ExceptHandler (some (.Name x np)) (some n) (b₀ :: suite) pos :: hs) (z :: l)
theorem Air.all {W : WX} (tk : Takes X W) (hN : X.N.Nodup) (A : Air X pl σ H cls d a s) {hs : List ExceptHandler} {l : List Clz} (ok : ClzOk X hs l) (w : wClz X.K W D l cls d σ H) : wpAny (model X.prog X.w) X.A (handleBy (.ref a) X.env hs) (SP X pl D) X.xe s := by
  induction ok with
  | nil => exact A.out tk w
  | cons hc hi hl hsu r ih =>
    obtain ⟨b, hm, yes, no⟩ := w
    exact A.clause hN hi hl hc hm hsu (fun z => yes z a A.na) fun z => ih (no z)
theorem ps_tryAs {body : List Stmt} {h₀ : ExceptHandler} {hs : List ExceptHandler} {l : List Clz} {pos : Pos} {tb : WX → TS} {Wout : WX} (hst : X.stack = X.env :: X.outer) (hfr : X.env.frame = some X.env.locals) (hN : X.N.Nodup) (tk : Takes X Wout)
    (hb : ∀ (W : WX) (pn : List (Addr × Obj)) (xe : Value → Shared → Prop), Takes (X.tr pn xe) W → PassesOwn (model X.prog X.w) X.A X.env xe → PSs (X.tr pn xe) body (tb W)) (ok : ClzOk X (h₀ :: hs) l) :
    PS X (.Try body (h₀ :: hs) [] [] pos) (fun D σ H => tb (wClz X.K Wout D l) D σ H) := by
  refine ⟨fun pl s σ H D Iv q => ?_⟩
  have frames : X.A.frames = some (X.env :: X.outer) := by rw [Iv.ok.frames, hst]
  let caught : Value → Shared → Prop := fun e s₁ => wpAny (model X.prog X.w) X.A (noteFrame e X.env) (fun _ s₂ => wpAny (model X.prog X.w) X.A (setFlight e none) (fun _ s₃ => wpAny (model X.prog X.w) X.A (handleBy e X.env (h₀ :: hs)) (SP X pl D) X.xe s₃) X.xe s₂) X.xe s₁
  have tkb : Takes (X.tr (X.pn ++ pl) caught) (wClz X.K Wout D l) := fun u s' xx => by
    obtain ⟨a, B, sI, pl', σ', H', cls, d, rfl, J, nb, up, sky, na, os, ag, w⟩ := xx
    have sk : Sky B (X.env :: X.outer) a (Zc cls d) X.env.locals s'.heap := by rw [← hst]; exact sky
    exact Sky.land Zc.steady frames hfr sk fun h' fl up' => Air.all (s := { s' with heap := h' }) tk hN ⟨hst, hfr, na, B, sI, fl, J.ofTry Iv.ok, nb, up.trans up', os, ag⟩ ok w
  refine wpAny_Try_except (wpAny_mono ((hb _ (X.pn ++ pl) caught tkb PassesOwn.looking).run [] s σ H D (Iv.toTry _) q) (fun fl s1 e => ?_) (fun _ _ z => z))
  cases fl with
  | next => obtain ⟨σ', H', J, q⟩ := e; exact wpAny_execs_nil ⟨σ', H', J.ofTry Iv.ok, q⟩
  | ret u => obtain ⟨v, σ', H', J, r, q⟩ := e; exact ⟨v, σ', H', J.ofTry Iv.ok, r, q⟩
  | brk => obtain ⟨σ', H', J, q⟩ := e; exact ⟨σ', H', J.ofTry Iv.ok, q⟩
  | cont => obtain ⟨σ', H', J, q⟩ := e; exact ⟨σ', H', J.ofTry Iv.ok, q⟩
end
end Few
set_option Elab.async false
set_option linter.all false
set_option maxRecDepth 100000
set_option maxHeartbeats 4000000
namespace Few
open PySem PySem.Spec PyProof.Rows L2
section
variable {G : Gd} {k : Nat} {N : List PySem.Str} {sc : Scope} {W : WX} {X : Cx} {c : Call} {xo : Option XD}
variable {H0 H : Hp} {ρ0 ρ : List Addr} {σe : ES} {ih : IH} {σ : L2.St} {D : Ends}
/-- a clause does what its code says -/
structure HRead (G : Gd) (c : Call) (cs : List Nat) (hb : Sv) (z : Clz) : Prop where
  exm : ∀ ρ H y cls d, Xs G.K G.mg G.xn ρ H y cls d → PySem.W.exmOne G.K cls z.c = some (cs.any (Nat.beq y.cls))
  run : ∀ (W : WX) (D : Ends) (H0 : Hp) (ρ0 ρ : List Addr) (σe : ES) (ih : IH) (σ : L2.St) (H : Hp) (y : XD) (cls : Value) (d : Option Addr) (a : Addr), Mat G.K H0 ρ0 ρ σe ih σ H → Xs G.K G.mg G.xn ρ H y cls d → cs.any (Nat.beq y.cls) = true → H a = none → z.i < σ.length →
    PostS G W H0 ρ0 ρ H D (endH z.i (hb c none (setN σe z.i .un) ih)) → z.ts a cls d (endAs z.i D) (σ.set z.i (some (.ref a))) H
inductive HsRead (G : Gd) (c : Call) : Sv → List Clz → Prop
  | nil : HsRead G c sHnil []
  | cons {cs : List Nat} {hb hr : Sv} {z : Clz} {l : List Clz} : HRead G c cs hb z → HsRead G c hr l → HsRead G c (sHcons cs z.i hb hr) (z :: l)
theorem hs_read {hd : Sv} {l : List Clz} (h : HsRead G c hd l) {W : WX} {y : XD} {cls : Value} {d : Option Addr} (m : Mat G.K H0 ρ0 ρ σe ih σ H) (xs : Xs G.K G.mg G.xn ρ H y cls d) (q : PostS G W H0 ρ0 ρ H D (hd c (some y) σe ih)) : wClz G.K W D l cls d σ H := by
  induction h with
  | nil => exact q ρ H σ cls d m xs
  | cons hz r ih' =>
    rename_i cs hb hr z l
    refine ⟨_, hz.exm ρ H y cls d xs, fun hb a na => ?_, fun hb => ?_⟩
    · simp only [sHcons, hb, cond_true] at q
      cases hs : nth σe z.i with
      | none => simp only [hs] at q; exact q.elim
      | some sl =>
        simp only [hs] at q
        exact hz.run W D H0 ρ0 ρ _ _ _ _ y cls d a m xs hb na (by rw [← m.len]; exact lt_of_nth hs) q
    · simp only [sHcons, hb, cond_false] at q
      exact ih' q
theorem s_try {b hd : Sv} {body : List Stmt} {h₀ : ExceptHandler} {hs : List ExceptHandler} {l : List Clz} {pos : Pos} (ok : Cok G k N sc W X) (hst : X.stack = X.env :: X.outer) (hfr : X.env.frame = some X.env.locals)
    (hb : ∀ (W' : WX) (X' : Cx), Cok G k N sc W' X' → PassesOwn (model X'.prog X'.w) X'.A X'.env X'.xe → X'.env = X.env → (∀ x, X'.fn x = X.fn x) → PSs X' body (rS G W' (b c xo))) (hcz : ClzOk X (h₀ :: hs) l) (hr : HsRead G c hd l) :
    PS X (.Try body (h₀ :: hs) [] [] pos) (rS G W (sTry b hd c xo)) := by
  refine psTo (ps_tryAs (tb := fun W' => rS G W' (b c xo)) hst hfr (by rw [ok.eN]; exact ok.nd) ok.takes (fun W' pn xe tk po => hb W' (X.tr pn xe) ⟨ok.ePr, ok.eW, ok.eK, ok.eM, ok.eB, ok.eN, ok.eS, ok.nd, ok.room, ok.calm, tk⟩ po rfl fun _ => rfl) hcz) fun D σ H q => ?_
  obtain ⟨H0, ρ0, ρ, σe, ih, m, q⟩ := q
  refine ⟨H0, ρ0, ρ, σe, ih, m, ?_⟩
  rw [ok.eK]
  unfold sTry at q
  cases hc : b c xo σe ih with
  | st => simp only [hc] at q; exact q
  | nx σ1 h1 => simp only [hc] at q; exact q
  | rt h1 r => simp only [hc] at q; exact q
  | bk σ1 h1 => simp only [hc] at q; exact q
  | ct σ1 h1 => simp only [hc] at q; exact q
  | ex σ1 h1 y =>
    simp only [hc] at q
    intro ρ' H' σ' cls d m' xs
    refine hs_read hr m' xs ?_
    cases hh : hd c (some y) σ1 h1 with
    | rt h2 r => rw [hh] at q; exact q
    | ex σ2 h2 x => rw [hh] at q; exact q
    | _ => rw [hh] at q; exact q.elim
/-! ### a suite that returns what it knows of its exception -/
/-- isinstance(caught, T) in the suite: slot i is caught's -/
theorem pe_isE {C : Addr} {a : Addr} {oe : Obj} {pn : List (Addr × Obj)} {i : Nat} {x y : PySem.Str} {cv : V} {u : Value} {b : Bool} {p p2 p3 pos : Pos} (E : ExcC X.K C) (hz : Zc (.ref C) none oe) (hf : ∃ vs, oe.data = .fields vs) (hi : X.N[i]? = some x) (hv : Vis X.env.scope x) (hd : (x == ("__debug__" : PySem.Str)) = false) (hcd : (x == ("__classdict__" : PySem.Str)) = false)
    (hg : Gl X "isinstance") (hm : X.mg "isinstance" = none) (hb : bootBuiltins "isinstance" = some (.builtin "isinstance")) (hT : ∀ {pos : Pos}, PE (X.suite a ((a, oe) :: pn)) (.Name y pos) (tC cv)) (hu : ∀ w, RelV cv w → w = u) (hk : PySem.W.kitOne X.K (.ref C) u = some b)
    (hs : starEach [.Name x p2, .Name y p3] X.env = (false, eval (.Name x p2) X.env) :: starEach [.Name y p3] X.env) (hs2 : starEach [.Name y p3] X.env = (false, eval (.Name y p3) X.env) :: starEach [] X.env) (hpl : (backTo pos (starEach [.Name y p3] X.env)).any (·.1) = false) :
    PE (X.suite a ((a, oe) :: pn)) (.Call (.Name "isinstance" p) [.Name x p2, .Name y p3] [] pos) (fun σ H Q => σ[i]? = some (some (.ref a)) ∧ Q (.bl b) H) := by
  have rule := pe_callB (X := X.suite a ((a, oe) :: pn)) (p := p) (pos := pos) (call_isE E hz hf) hg hm hb (pa_cons (pe_var (X := X.suite a ((a, oe) :: pn)) (i := i) (pos := p2) hi hv hd hcd) (pa_cons (hT (pos := p3)) pa_nil hs2) hs) (by decide) (by decide) hs hpl
  exact peTo rule fun σ H Q q => ⟨.ref a, q.1, cv, u, b, rfl, hu, hk, q.2⟩
/-- [text, b1 and not b2] of it -/
def tTold (C : Addr) (i : Nat) (s : PySem.Str) (b1 b2 : Bool) : Addr → Value → Option Addr → TS := fun a cls d D σ H => (cls = .ref C ∧ d = none) ∧
  tRet (tLst (tCons (tC (.str s)) (tCons (tAndV (fun σ H Q => σ[i]? = some (some (.ref a)) ∧ Q (.bl b1) H) (tNotV fun σ H Q => σ[i]? = some (some (.ref a)) ∧ Q (.bl b2) H)) tNil))) D σ H
theorem told_read {C : Addr} {i n : Nat} {t : List Nat} {cc : Value} {cs : List Nat} (hx : ∀ y cls, G.mg (G.xn y) = some cls → PySem.W.exmOne G.K cls cc = some (cs.any (Nat.beq y))) (hcs : ∀ y, cs.any (Nat.beq y) = true → y = n) (hn : G.mg (G.xn n) = some (.ref C)) :
    HRead G c cs (sRet (dLst (dCons (dCon (.str t)) (dCons (dAnd (dCon (.bl true)) (dNo (dCon (.bl false)))) dNil)))) ⟨cc, i, tTold C i (txt t) true false⟩ where
  exm := fun ρ H y cls d xs => hx _ _ xs.cls
  run := fun W D H0 ρ0 ρ σe ih σ H y cls d a m xs hy na hi q => by
    have hc : cls = .ref C := by
      have e := xs.cls
      rw [hcs _ hy, hn] at e
      exact (Option.some.inj e).symm
    have hd : d = none := xs.noarg (by
      cases h : y.arg with
      | none => rfl
      | some e => exact (xs.arg e h).elim)
    have hs : (σ.set i (some (V.ref a)))[i]? = some (some (V.ref a)) := List.getElem?_set_self hi
    refine ⟨⟨hc, hd⟩, hs, true, rfl, ?_⟩
    rw [if_pos rfl]
    refine ⟨hs, false, rfl, by show 2 ≤ sizeLine; rw [sizeLine_eq]; omega, fun p np => ?_⟩
    have q : PostS G W H0 ρ0 ρ H D (.rt ih (.n (.lst [.str t, .bl true]))) := q
    have m2 := m.fresh (o := .lst [.str (txt t), .bl true]) np
    exact q ρ _ _ m2.kept m2.cells ⟨p, _, rfl, upd_same, .cons (.str t) (.cons (.bl true) .nil), (m.new0 np).2, (m.new0 np).1⟩
theorem told_suite {C : Addr} {a : Addr} {oe : Obj} {cls : Value} {d : Option Addr} {pn : List (Addr × Obj)} {i j1 : Nat} {s : PySem.Str} {b1 b2 : Bool} {e1 e2 : Expr} {p1 p2 p3 p4 p5 : Pos} (hz : Zc cls d oe) (hf : ∃ vs, oe.data = .fields vs)
    (h1 : ∀ (a : Addr) (oe : Obj) (pn : List (Addr × Obj)), Zc (.ref C) none oe → (∃ vs, oe.data = .fields vs) → PE (X.suite a ((a, oe) :: pn)) e1 (fun σ H Q => σ[i]? = some (some (.ref a)) ∧ Q (.bl b1) H))
    (h2 : ∀ (a : Addr) (oe : Obj) (pn : List (Addr × Obj)), Zc (.ref C) none oe → (∃ vs, oe.data = .fields vs) → PE (X.suite a ((a, oe) :: pn)) e2 (fun σ H Q => σ[i]? = some (some (.ref a)) ∧ Q (.bl b2) H))
    (hs : starEach [.Constant (.str s) j1 p1, .BoolOp .And [e1, .UnaryOp .Not e2 p2] p3] X.env = (false, eval (.Constant (.str s) j1 p1) X.env) :: starEach [.BoolOp .And [e1, .UnaryOp .Not e2 p2] p3] X.env)
    (hs2 : starEach [.BoolOp .And [e1, .UnaryOp .Not e2 p2] p3] X.env = (false, eval (.BoolOp .And [e1, .UnaryOp .Not e2 p2] p3) X.env) :: starEach [] X.env) :
    PSs (X.suite a ((a, oe) :: pn)) [.Return (some (.List [.Constant (.str s) j1 p1, .BoolOp .And [e1, .UnaryOp .Not e2 p2] p3] p4)) p5] (tTold C i s b1 b2 a cls d) := by
  by_cases hc : cls = .ref C ∧ d = none
  · obtain ⟨rfl, rfl⟩ := hc
    exact pssTo (pss_one (ps_ret (pe_lst (X := X.suite a ((a, oe) :: pn)) (pa_cons pe_str (pa_cons (pe_and (h1 a oe pn hz hf) (pe_one (pe_not (h2 a oe pn hz hf)))) pa_nil hs2) hs)))) fun D σ H q => q.2
  · exact ⟨fun _ _ _ _ _ _ q => absurd q.1 hc⟩
end
end Few
set_option Elab.async false
set_option linter.all false
set_option maxRecDepth 100000
set_option maxHeartbeats 4000000
namespace Few
open PySem PySem.Spec PyProof.Rows L2
section
variable {G : Gd} {k : Nat} {N : List PySem.Str} {sc : Scope} {W : WX} {X : Cx} {c : Call} {xo : Option XD}
variable {H0 H : Hp} {ρ0 ρ : List Addr} {σe : ES} {ih : IH} {σ : L2.St} {Q : VK}
theorem gloop_suf {own : List Nat} {t : T} {cd g : Ev} : ∀ (xs : List D) (σ : ES) (h : IH) (acc : List D) (σ' : ES) (h' : IH) (r : RV), gloop own t cd g c xs σ h acc = .ok σ' h' r → ∃ zs, r = .ls (zs ++ acc)
  | [], σ, h, acc, σ', h', r, e => by
    simp only [gloop, Out.ok.injEq] at e
    exact ⟨[], e.2.2.symm⟩
  | x :: xs, σ, h, acc, σ', h', r, e => by
    simp only [gloop] at e
    split at e
    · cases e
    · rename_i σ1 _
      cases h1 : cd c σ1 h with
      | st => rw [h1] at e; cases e
      | ex _ _ _ => rw [h1] at e; cases e
      | ok s2 i2 r2 =>
        simp only [h1, Out.bind] at e
        split at e
        · cases h2 : g c s2 i2 with
          | st => rw [h2] at e; cases e
          | ex _ _ _ => rw [h2] at e; cases e
          | ok s3 i3 r3 =>
            simp only [h2] at e
            split at e
            · obtain ⟨zs, h3⟩ := gloop_suf xs _ _ _ _ _ _ e
              exact ⟨_, by rw [h3, ← List.append_assoc]⟩
            · cases e
        · exact gloop_suf xs _ _ _ _ _ _ e
        · cases e
theorem putAll_app : ∀ (xs ys : List D) (ks vs : List D), putAll (xs ++ ys) ks vs = match putAll xs ks vs with
    | some p => putAll ys p.1 p.2
    | none => none
  | [], ys, ks, vs => rfl
  | x :: xs, ys, ks, vs => by
    rw [List.cons_append]
    simp only [putAll]
    cases put1 x ks vs with
    | none => rfl
    | some p => exact putAll_app xs ys p.1 p.2
/-- the dict behind a store -/
theorem put_ok {K : PySem.W.Frag} {kd d : D} {κ : Key} {v : V} (hx : keyOf kd = some κ) (hd : Rep K ρ H d v) {ks ds ks' ds' : List D} {kvs : List (Key × V)} (r : KReps K ρ H ks ds kvs) (e : putD kd d ks ds = some (ks', ds')) : KReps K ρ H ks' ds' (putK kvs κ v) := by
  have any : ∀ {ks ds : List D} {kvs : List (Key × V)} {b : Bool}, KReps K ρ H ks ds kvs → memD kd ks = some b → (kvs.any fun kv => decide (kv.1 = κ)) = b := fun r e => by rw [valV_any]; exact key_look hx r e
  have repl : ∀ {ks ds : List D} {kvs : List (Key × V)}, KReps K ρ H ks ds kvs → KReps K ρ H ks (replD kd d ks ds) (kvs.map fun kv => if kv.1 = κ then (kv.1, v) else kv) := by
    intro ks ds kvs r
    induction kvs generalizing ks ds with
    | nil => cases r; exact .nil
    | cons p r' ih =>
      obtain ⟨κa, va⟩ := p
      cases r with
      | cons e1 h1 r1 =>
        rw [List.map_cons]
        simp only [replD, key_eq e1 hx]
        by_cases z : κa = κ
        · simp only [z, decide_true, if_true]
          exact .cons (by rw [← z]; exact e1) hd (ih r1)
        · simp only [z, decide_false, if_false]
          exact .cons e1 h1 (ih r1)
  have snoc : ∀ {ks ds : List D} {kvs : List (Key × V)}, KReps K ρ H ks ds kvs → KReps K ρ H (ks ++ [kd]) (ds ++ [d]) (kvs ++ [(κ, v)]) := by
    intro ks ds kvs r
    induction kvs generalizing ks ds with
    | nil => cases r; exact .cons hx hd .nil
    | cons p r' ih => cases r with | cons e1 h1 r1 => exact .cons e1 h1 (ih r1)
  unfold putD at e
  unfold putK
  split at e
  · rename_i hm
    cases e
    rw [if_pos (any r hm)]; exact repl r
  · rename_i hm
    cases e
    rw [if_neg (by rw [any r hm]; decide)]; exact snoc r
  · cases e
theorem dc_read {vs : List Nat} {t : T} {it cd a b : Ev} {g : TG} (hgo : gOk G.K t g) (htx : ∀ i ∈ tix t, i ∈ vs) {σ : L2.St} {H : Hp} {Q : VK} (q : rd G W (dBlk vs t it cd (dGpair a b) finD c) σ H Q) :
    tDc (ri G W (it c)) g (rt G WF (cd c)) (rs G WF (a c)) (rs G WF (b c)) vs σ H Q := by
  obtain ⟨H0, ρ0, ρ, σe, ih, m, q⟩ := q
  refine ⟨H0, ρ0, ρ, σe, ih, m, ?_⟩
  unfold dBlk Out.bind at q
  cases hit : it c σe ih with
  | st => rw [hit] at q; exact q
  | ex σ' h' x => rw [hit] at q; exact q
  | ok σ1e ih1 r1 =>
    rw [hit] at q
    cases hz : itz r1 with
    | none => simp only [hz] at q; exact q.elim
    | some xs =>
      simp only [hz] at q
      cases hh : hid σ1e vs with
      | false => simp only [hh, cond_false] at q; exact q.elim
      | true =>
        simp only [hh, cond_true] at q
        refine ⟨xs, hz, fun ρ1 H1 J p1 al1 m1 w D nD => ?_⟩
        replace q := PostE.weak p1 al1 q
        let kf : Out → Out := fun o => o.calm.bind fun σ' h y => match y with
          | .ls acc => (match finD acc.reverse with
            | some v => .ok (Few.unwipe σ1e (Few.wipe σ' vs) vs) h v
            | none => .st)
          | _ => .st
        have q0 : PostE G W (RlR G) H0 ρ0 ρ1 σ H1 Q (kf (gloop vs t cd (dGpair a b) c xs σ1e ih1 [])) := q
        clear q
        let WW : Nat → Nat → Hp → Prop := fun i mm H => mm = xs.length - i ∧ i ≤ xs.length ∧ ∃ σe2 ih2 acc ρ ks ds kvs, Pers H1 H ∧ Ahead ρ1 ρ ∧ Mat G.K H0 ρ0 ρ (Few.wipe σe2 vs) ih2 (L2.wipe σ vs) H ∧ H D = some (.dK kvs) ∧ Lone H0 ρ (Few.wipe σe2 vs) (L2.wipe σ vs) D ∧ KReps G.K ρ H ks ds kvs ∧ putAll acc.reverse [] [] = some (ks, ds) ∧
          PostE G W (RlR G) H0 ρ0 ρ1 σ H1 Q (kf (gloop vs t cd (dGpair a b) c (xs.drop i) σe2 ih2 acc))
        refine ⟨WW, ⟨xs.length, rfl, Nat.zero_le _, σ1e, ih1, [], ρ1, [], [], [], .new nD, .refl _, (m1.fresh nD).wiped vs, upd_same, (m1.lone nD).wiped vs, .nil, rfl, q0⟩, fun i mm H hW => ?_⟩
        obtain ⟨hmm, hi', σe2, ih2, acc, ρ, ks, ds, kvs, ps, al, mt, hD, lo, racc, hp, q⟩ := hW
        by_cases hend : i = xs.length
        · subst hend
          refine .inl ⟨w.stop H ps, ?_⟩
          rw [List.drop_length] at q
          change PostE G W (RlR G) H0 ρ0 ρ1 σ H1 Q (match finD acc.reverse with
            | some v => .ok (Few.unwipe σ1e (Few.wipe σe2 vs) vs) ih2 v
            | none => .st) at q
          unfold finD at q
          rw [hp] at q
          refine q ρ H (.ref D) ps al (m1.unwipe hh ps al mt (wipe_length _ _) fun i hi => wipe_out hi) ⟨D, kvs, rfl, hD, racc, lo.unwipe ?_ hh fun i hi => wipe_out hi⟩
          rw [mt.len, wipe_length, m1.len]
        · refine .inr ⟨w.go H i ps (by omega), fun H' => ∃ m', m' < mm ∧ WW (i + 1) m' H', fun H' h => h, fun x H' hy => ?_⟩
          have hlt : i < xs.length := by omega
          rw [List.drop_eq_getElem_cons hlt] at q
          obtain ⟨gr, rx⟩ := w.yld H ρ i x H' xs[i] ps al hy (by rw [nth_get]; exact List.getElem?_eq_getElem hlt)
          have mg := mt.grow gr
          have hD' := gr.keep hD
          have racc := racc.keep mg.2 (.refl _)
          have ps := ps.trans mg.2
          simp only [gloop] at q
          cases ha : asgD t xs[i] (Few.wipe σe2 vs) with
          | none => simp only [ha] at q; exact q.elim
          | some σe3 =>
            simp only [ha] at q
            refine hgo H0 ρ0 ρ _ ih2 _ H' xs[i] x σe3 _ mg.1 rx ha fun σ2 l2 k2 lo2 m3 => ?_
            have hw2 : L2.wipe σ2 vs = L2.wipe σ vs := wipe_eq (l2.trans (wipe_length _ _)) fun j hj => k2 j fun z => hj (htx j z)
            refine ⟨hw2, ?_⟩
            have lo3 := lo2 D lo
            have n0 : H0 D = none := lo.new
            have nr : D ∉ ρ0 := lo.nr0 mt.kept
            have next : ∀ (σe5 : ES) (ih5 : IH) (acc5 ks5 ds5 : List Few.D) (kvs5 : List (Key × V)) (ρ5 : List Addr) (H5 : Hp), Pers H' H5 → Ahead ρ ρ5 → Mat G.K H0 ρ0 ρ5 σe5 ih5 σ2 H5 → H5 D = some (.dK kvs5) → Lone H0 ρ5 σe5 σ2 D → KReps G.K ρ5 H5 ks5 ds5 kvs5 → putAll acc5.reverse [] [] = some (ks5, ds5) →
                PostE G W (RlR G) H0 ρ0 ρ1 σ H1 Q (kf (gloop vs t cd (dGpair a b) c (xs.drop (i + 1)) σe5 ih5 acc5)) → ∃ m', m' < mm ∧ WW (i + 1) m' H5 := fun σe5 ih5 acc5 ks5 ds5 kvs5 ρ5 H5 p5 a5 m5 d5 l5 r5 hp5 q5 => by
              refine ⟨xs.length - (i + 1), by omega, rfl, by omega, σe5, ih5, acc5, ρ5, ks5, ds5, kvs5, ps.trans p5, al.trans a5, ?_, d5, ?_, r5, hp5, q5⟩
              · rw [← hw2]; exact m5.wiped vs
              · rw [← hw2]; exact l5.wiped vs
            refine ⟨upd H0 D (.dK kvs), ρ0, ρ, σe3, ih2, m3.hold hD' lo3, ?_⟩
            cases hc : cd c σe3 ih2 with
            | st => simp only [hc, Out.bind] at q; exact q.elim
            | ex _ _ _ => simp only [hc, Out.bind] at q; exact q.elim
            | ok σe4 ih4 rb =>
              simp only [hc, Out.bind] at q
              cases hb : truthR σe4 rb with
              | none => simp only [hb] at q; exact q.elim
              | some bb =>
                simp only [hb] at q
                refine ⟨bb, hb, fun ρ4 H3 p4 a4 m4 => ?_⟩
                obtain ⟨m4, d4, l4⟩ := m4.drop n0 nr
                cases bb with
                | false => exact next σe4 ih4 acc ks ds kvs ρ4 H3 p4 a4 m4 d4 l4 (racc.keep p4 a4) hp q
                | true =>
                  simp only at q
                  refine ⟨upd H0 D (.dK kvs), ρ0, ρ4, σe4, ih4, m4.hold d4 l4, ?_⟩
                  rw [show dGpair a b c σe4 ih4 = (a c σe4 ih4).bind fun σ h x => (b c σ h).bind fun σ h y => match frozen x, frozen y with
                    | some k, some v => .ok σ h (.ls [.tup [k, v]])
                    | _, _ => .st from rfl] at q
                  cases hel : a c σe4 ih4 with
                  | st => simp only [hel, Out.bind] at q; exact q.elim
                  | ex _ _ _ => simp only [hel, Out.bind] at q; exact q.elim
                  | ok σe5 ih5 re =>
                    simp only [hel, Out.bind] at q
                    intro ρ5 H4 y p5 a5 m5 s5
                    obtain ⟨m5, d5, l5⟩ := m5.drop n0 nr
                    refine ⟨upd H0 D (.dK kvs), ρ0, ρ5, σe5, ih5, m5.hold d5 l5, ?_⟩
                    cases hev : b c σe5 ih5 with
                    | st => simp only [hev] at q; exact q.elim
                    | ex _ _ _ => simp only [hev] at q; exact q.elim
                    | ok σe6 ih6 rv =>
                      simp only [hev] at q
                      intro ρ6 H5 z p6 a6 m6 s6
                      obtain ⟨m6, d6, l6⟩ := m6.drop n0 nr
                      have s5 := s5.keep p6 a6
                      cases hfr : frozen re with
                      | none => simp only [hfr] at q; exact q.elim
                      | some kd =>
                        cases hfv : frozen rv with
                        | none => simp only [hfr, hfv] at q; exact q.elim
                        | some d =>
                          simp only [hfr, hfv] at q
                          have hput : ∃ p, put1 (.tup [kd, d]) ks ds = some p := by
                            cases hg' : gloop vs t cd (dGpair a b) c (xs.drop (i + 1)) σe6 ih6 ([.tup [kd, d]].reverse ++ acc) with
                            | st => rw [hg'] at q; exact q.elim
                            | ex _ _ _ => rw [hg'] at q; exact q.elim
                            | ok _ _ rr =>
                              obtain ⟨zs, rfl⟩ := gloop_suf _ _ _ _ _ _ _ hg'
                              rw [hg'] at q
                              change PostE G W (RlR G) H0 ρ0 ρ1 σ H1 Q (match finD (zs ++ ([Few.D.tup [kd, d]].reverse ++ acc)).reverse with
                                | some v => .ok _ _ v
                                | none => .st) at q
                              unfold finD at q
                              rw [show (zs ++ ([Few.D.tup [kd, d]].reverse ++ acc)).reverse = acc.reverse ++ (Few.D.tup [kd, d] :: zs.reverse) by simp, putAll_app, hp] at q
                              cases hq : put1 (.tup [kd, d]) ks ds with
                              | none => simp only [putAll, hq] at q; exact q.elim
                              | some p => exact ⟨p, rfl⟩
                          obtain ⟨⟨ks6, ds6⟩, hput⟩ := hput
                          have hput' := hput
                          simp only [put1] at hput'
                          cases hok : (okKey kd && Nat.blt ks.length line) with
                          | false => rw [hok] at hput'; cases hput'
                          | true =>
                            rw [hok] at hput'
                            simp only [cond_true] at hput'
                            have hok := Bool.and_eq_true_iff.mp hok
                            obtain ⟨κ, hκ⟩ := okKey_of hok.1
                            have r6 := racc.keep ((p4.trans p5).trans p6) ((a4.trans a5).trans a6)
                            have hlen : ks.length < line := by simpa [Nat.blt_eq] using hok.2
                            refine ⟨kvs, κ, key_val hκ (s5.frz hfr), d6, by rw [← r6.length.1, ← line_eq]; exact hlen, ?_⟩
                            have mw := m6.write (o := .dK (putK kvs κ z)) d6 trivial l6
                            refine next σe6 ih6 ([.tup [kd, d]].reverse ++ acc) ks6 ds6 (putK kvs κ z) ρ6 _ (((p4.trans p5).trans p6).trans mw.2) ((a4.trans a5).trans a6) mw.1 upd_same l6 ((put_ok hκ (s6.frz hfv) r6 hput').keep mw.2 (.refl _)) ?_ q
                            rw [show ([Few.D.tup [kd, d]].reverse ++ acc).reverse = acc.reverse ++ [Few.D.tup [kd, d]] by simp, putAll_app, hp]
                            simp only [putAll, hput]
theorem r_dc {own : List (PySem.Str × Nat)} {t : T} {it cd a b : Ev} {kx vx tg iter : Expr} {ifs : List Expr} {scope : Scope} {pos : Pos} {g : TG} (ok : Cok G k N sc W X) (hi : PI X tg iter (ri G W (it c))) (bk : BlkOk X.N X.env.scope scope own)
    (hg : ∀ (s : Shared) (H : Hp) (C : Addr) (cl : List (PySem.Str × Addr)) (fp : List Addr), PG (X.blk s H scope (compEnvC scope cl C X.env) fp) tg g) (hgo : gOk G.K t g) (htx : ∀ i ∈ tix t, i ∈ own.map (·.2))
    (ht : ∀ (s : Shared) (H : Hp) (C : Addr) (cl : List (PySem.Str × Addr)) (fp : List Addr), PTs (X.blk s H scope (compEnvC scope cl C X.env) fp) ifs (rt G WF (cd c)))
    (ha : ∀ (s : Shared) (H : Hp) (C : Addr) (cl : List (PySem.Str × Addr)) (fp : List Addr), PE (X.blk s H scope (compEnvC scope cl C X.env) fp) kx (rd G WF (a c)))
    (hb : ∀ (s : Shared) (H : Hp) (C : Addr) (cl : List (PySem.Str × Addr)) (fp : List Addr), PE (X.blk s H scope (compEnvC scope cl C X.env) fp) vx (rd G WF (b c)))
    (hs : ∀ x, foldedSetIterable iter X.env x = pure x) : PE X (.DictComp kx vx [⟨tg, iter, ifs, 0⟩] scope pos) (rd G W (dBlk (own.map (·.2)) t it cd (dGpair a b) finD c)) :=
  peTo (pe_dc ok.calm (by rw [ok.eN]; exact ok.nd) hi bk hg ht (fun s H C cl fp => settle (ha s H C cl fp)) (fun s H C cl fp => settle (hb s H C cl fp)) hs) fun σ H Q q => dc_read hgo htx q
end
end Few
set_option Elab.async false
set_option linter.all false
namespace Few
open PySem PySem.Spec PyProof.Rows L2
theorem gl {G : Gd} {k : Nat} {N : List PySem.Str} {sc : Scope} {W : WX} {X : Cx} {x : PySem.Str} (ok : Cok G k N sc W X) (h : sc.names.lookup x = some .globalImplicit) : Gl X x := by
  show X.env.scope.names.lookup x = some .globalImplicit
  rw [ok.eS]; exact h
theorem ok_blk {G : Gd} {k : Nat} {N : List PySem.Str} {sc : Scope} {W : WX} {X : Cx} (ok : Cok G k N sc W X) (s : Shared) (H : Hp) (scope : Scope) (cl : List (PySem.Str × Addr)) (C : Addr) (fp : List Addr) : Cok G k N (relS scope sc) WF (X.blk s H scope (compEnvC scope cl C X.env) fp) :=
  ⟨ok.ePr, ok.eW, ok.eK, ok.eM, ok.eB, ok.eN, by obtain ⟨_, _, _, _, _, _, e, _⟩ := ok; subst e; rfl, ok.nd, ok.room, ok.calm, fun _ _ ⟨_, _, _, _, _, _, _, _, _, _, _, _, _, _, _, _, w⟩ => w.elim⟩
theorem p_nm {G : Gd} {k : Nat} {N : List PySem.Str} {sc : Scope} {W : WX} {X : Cx} {i : Nat} {x : PySem.Str} {pos : Pos} (ok : Cok G k N sc W X) (hi : N[i]? = some x) (hx : sc.names.lookup x = some .local) : PG X (.Name x pos) (gName i) :=
  pg_name (by rw [ok.eN]; exact ok.nd) (by rw [ok.eN]; exact hi) (.inl (by rw [ok.eS]; exact hx)) (.inr (by rw [ok.eS]; exact hx))
theorem blk_of {G : Gd} {k : Nat} {N : List PySem.Str} {sc scope : Scope} {W : WX} {X : Cx} {own : List (PySem.Str × Nat)} (ok : Cok G k N sc W X) (h : BlkOk N sc scope own) : BlkOk X.N X.env.scope scope own := by
  rw [ok.eN, ok.eS]; exact h
/-- a constant of the module, however its value is marked -/
theorem r_globE {G : Gd} {k : Nat} {N : List PySem.Str} {sc : Scope} {W : WX} {X : Cx} {c : Call} {d : D} {v : V} {x : PySem.Str} {pos : Pos} (ok : Cok G k N sc W X) (hr : ∀ ρ H, Rep G.K ρ H d v) (hg : sc.names.lookup x = some .globalImplicit) (hm : ∃ u, G.mg x = some u ∧ RelV v u) (hd : (x == ("__debug__" : PySem.Str)) = false) : PE X (.Name x pos) (rd G W (dCon d c)) := by
  obtain ⟨u, h1, h2⟩ := hm
  exact r_glob ok hr (gl ok hg) h1 h2 hd
/-- what is known of the def of number i, called x -/
structure DF (G : Gd) (dsc : Nat → Option Dsc) (i : Nat) (x : PySem.Str) (d : Dsc) : Prop where
  ds : dsc i = some d
  mg : G.mg x = some (.ref d.f)
  kp : PySem.W.keepIn G.K (.ref d.f) = true
  bd : Binds G.K d.fd d.ps []
section
variable {G : Gd} {k : Nat} {N : List PySem.Str} {sc : Scope} {W : WX} {X : Cx} {c : Call} {dsc : Nat → Option Dsc} {d : Dsc} {fi : Nat} {x : PySem.Str} {p pos : Pos}
theorem r_callD {a : Ev} {e : Expr} {es : List Expr} (ok : Cok G k N sc W X) (F : AllF G k c dsc) (h : DF G dsc fi x d) (hg : sc.names.lookup x = some .globalImplicit) (ha : PA X (e :: es) (ra G W (a c))) (hdb : (x == ("__debug__" : PySem.Str)) = false)
    (he : starEach (e :: es) X.env = (false, eval e X.env) :: starEach es X.env) (hpl : (backTo pos (starEach es X.env)).any (·.1) = false) : PE X (.Call (.Name x p) (e :: es) [] pos) (rd G W (dCall fi a c)) :=
  r_call ok F h.ds (gl ok hg) h.mg h.kp h.bd ha hdb he hpl
theorem r_callD0 (ok : Cok G k N sc W X) (F : AllF G k c dsc) (h : DF G dsc fi x d) (hg : sc.names.lookup x = some .globalImplicit) (hdb : (x == ("__debug__" : PySem.Str)) = false) : PE X (.Call (.Name x p) [] [] pos) (rd G W (dCall fi dNil c)) :=
  r_call0 ok F h.ds (gl ok hg) h.mg h.kp h.bd hdb
theorem r_callDk {a : Ev} {kws : List Keyword} {ks : List PySem.Str} {perm : List Nat} (ok : Cok G k N sc W X) (F : AllF G k c dsc) (h : DF G dsc fi x d) (hg : sc.names.lookup x = some .globalImplicit) (hb : KPerm G.K d.fd d.ps ks perm)
    (hkw : PK X kws (ra G W (a c))) (hall : (backToKw pos (keywordEach kws X.env)).all (·.1.isSome) = true) (hks : (backToKw pos (keywordEach kws X.env)).filterMap (·.1) = ks)
    (hpl : ((backTo pos (starEach [] X.env)).any (·.1) || (backToKw pos (keywordEach kws X.env)).any (·.1.isNone)) = false) (hlen : perm.length = ks.length) (hdb : (x == ("__debug__" : PySem.Str)) = false) : PE X (.Call (.Name x p) [] kws pos) (rd G W (dCallk fi a perm c)) :=
  r_callk ok F h.ds (gl ok hg) h.mg h.kp hb hkw hall hks hpl hlen hdb
theorem p_tup {es : List Expr} {kk n : Nat} {t : TGs} {tpos : Pos} (ok : Cok G k N sc W X) (h : PGs X es t) (hn : (assignEach es X.env).length = n) (hst : (assignEach es X.env).findIdx? (·.1) = none) : PG X (.Tuple es kk tpos) (gTup G.K n t) := by
  rw [← ok.eK]; exact pg_tup ok.calm h hn hst
end
end Few
set_option Elab.async false
set_option linter.all false
set_option maxRecDepth 100000
set_option maxHeartbeats 4000000
namespace Few
open PySem PySem.Spec PyProof.Rows L2 PySem.SeqAt PySem.W
/-! ### sorting by ranks -/
section
variable {α : Type} {rk : α → Nat}
def ltK (rk : α → Nat) (v u : α) : Bool := decide (rk v < rk u)
theorem ltK_no {v u : α} : ltK rk v u = false ↔ rk u ≤ rk v := by
  unfold ltK
  rw [decide_eq_false_iff_not]
  omega
theorem swoK : SrtO.Swo (ltK rk) := by
  refine ⟨fun x y h => ?_, fun x y z h1 h2 => ?_⟩
  · have a := of_decide_eq_true h
    exact ltK_no.mpr (by omega)
  · have a := ltK_no.mp h1
    have b := ltK_no.mp h2
    exact ltK_no.mpr (by omega)
theorem mem_insK {n : Nat} {x : α} {p : Nat × α} : ∀ {l : List (Nat × α)}, p ∈ insK n x l ↔ p = (n, x) ∨ p ∈ l
  | [] => by simp [insK]
  | (k, y) :: r => by
    cases h : Nat.blt k n with
    | true =>
      simp only [insK, h, cond_true, List.mem_cons, mem_insK (l := r)]
      constructor
      · rintro (a | a | a)
        · exact .inr (.inl a)
        · exact .inl a
        · exact .inr (.inr a)
      · rintro (a | a | a)
        · exact .inr (.inl a)
        · exact .inl a
        · exact .inr (.inr a)
    | false => simp only [insK, h, cond_false, List.mem_cons]
theorem mem_sortK {p : Nat × α} : ∀ {l : List (Nat × α)}, p ∈ sortK l ↔ p ∈ l
  | [] => by simp [sortK]
  | (n, x) :: r => by simp only [sortK, mem_insK, mem_sortK (l := r), List.mem_cons]
theorem blt_lt {k n : Nat} (h : Nat.blt k n = true) : k < n := by rw [blt_dec] at h; exact of_decide_eq_true h
theorem blt_ge {k n : Nat} (h : Nat.blt k n = false) : n ≤ k := by rw [blt_dec] at h; have := of_decide_eq_false h; omega
theorem srtd_insK {n : Nat} {x : α} (hx : rk x = n) : ∀ {l : List (Nat × α)}, (∀ p ∈ l, rk p.2 = p.1) → SrtO.Srtd (ltK rk) (l.map Prod.snd) → SrtO.Srtd (ltK rk) ((insK n x l).map Prod.snd)
  | [], _, _ => by simp only [insK, List.map]; exact List.pairwise_singleton _ _
  | (k, y) :: r, hk, hs => by
    have hy : rk y = k := hk (k, y) List.mem_cons_self
    have hr : ∀ p ∈ r, rk p.2 = p.1 := fun p hp => hk p (List.mem_cons_of_mem _ hp)
    obtain ⟨h1, h2⟩ := List.pairwise_cons.mp hs
    cases h : Nat.blt k n with
    | true =>
      simp only [insK, h, cond_true, List.map]
      refine List.pairwise_cons.mpr ⟨fun z hz => ?_, srtd_insK hx hr h2⟩
      obtain ⟨p, hp, rfl⟩ := List.mem_map.mp hz
      rcases mem_insK.mp hp with rfl | hp
      · have := blt_lt h
        exact ltK_no.mpr (by show rk y ≤ rk x; omega)
      · exact h1 _ (List.mem_map.mpr ⟨p, hp, rfl⟩)
    | false =>
      simp only [insK, h, cond_false, List.map]
      refine List.pairwise_cons.mpr ⟨fun z hz => ?_, hs⟩
      have := blt_ge h
      rcases List.mem_cons.mp hz with rfl | hz
      · exact ltK_no.mpr (by omega)
      · have := ltK_no.mp (h1 z hz)
        have e1 : rk (k, y).2 = k := hy
        exact ltK_no.mpr (by omega)
theorem srtd_sortK : ∀ {l : List (Nat × α)}, (∀ p ∈ l, rk p.2 = p.1) → SrtO.Srtd (ltK rk) ((sortK l).map Prod.snd)
  | [], _ => List.Pairwise.nil
  | (n, x) :: r, hk => srtd_insK (hk (n, x) List.mem_cons_self) (fun p hp => hk p (List.mem_cons_of_mem _ (mem_sortK.mp hp))) (srtd_sortK fun p hp => hk p (List.mem_cons_of_mem _ hp))
theorem perm_insK {n : Nat} {x : α} : ∀ {l : List (Nat × α)}, ((insK n x l).map Prod.snd).Perm (x :: l.map Prod.snd)
  | [] => List.Perm.refl _
  | (k, y) :: r => by
    cases h : Nat.blt k n with
    | true =>
      simp only [insK, h, cond_true, List.map]
      exact (List.Perm.cons y perm_insK).trans (List.Perm.swap _ _ _)
    | false =>
      simp only [insK, h, cond_false, List.map]
      exact List.Perm.refl _
theorem cls_insK {n : Nat} {x z : α} (hx : rk x = n) : ∀ {l : List (Nat × α)}, (∀ p ∈ l, rk p.2 = p.1) → ((insK n x l).map Prod.snd).filter (SrtO.eqv (ltK rk) z) = (x :: l.map Prod.snd).filter (SrtO.eqv (ltK rk) z)
  | [], _ => rfl
  | (k, y) :: r, hk => by
    have hy : rk y = k := hk (k, y) List.mem_cons_self
    cases h : Nat.blt k n with
    | false => simp only [insK, h, cond_false, List.map]
    | true =>
      have hlt := blt_lt h
      have ih := cls_insK (z := z) hx (l := r) fun p hp => hk p (List.mem_cons_of_mem _ hp)
      simp only [insK, h, cond_true, List.map]
      rw [List.filter_cons, ih, List.filter_cons, List.filter_cons, List.filter_cons]
      by_cases e1 : SrtO.eqv (ltK rk) z y = true
      · by_cases e2 : SrtO.eqv (ltK rk) z x = true
        · have a := SrtO.eqv_iff.mp e1
          have b := SrtO.eqv_iff.mp e2
          have a1 := ltK_no.mp a.1
          have a2 := ltK_no.mp a.2
          have b1 := ltK_no.mp b.1
          have b2 := ltK_no.mp b.2
          omega
        · simp only [e1, e2, if_true, if_false, Bool.false_eq_true]
      · by_cases e2 : SrtO.eqv (ltK rk) z x = true
        · simp only [e1, e2, if_true, if_false, Bool.false_eq_true]
        · simp only [e1, e2, if_true, if_false, Bool.false_eq_true]
theorem stb_sortK : ∀ {l : List (Nat × α)}, (∀ p ∈ l, rk p.2 = p.1) → SrtO.Stb (ltK rk) ((sortK l).map Prod.snd) (l.map Prod.snd)
  | [], _ => SrtO.Stb.refl _
  | (n, x) :: r, hk => by
    have ih := stb_sortK (l := r) fun p hp => hk p (List.mem_cons_of_mem _ hp)
    have h1 : SrtO.Stb (ltK rk) ((insK n x (sortK r)).map Prod.snd) (x :: (sortK r).map Prod.snd) :=
      ⟨perm_insK, fun z => cls_insK (hk (n, x) List.mem_cons_self) fun p hp => hk p (List.mem_cons_of_mem _ (mem_sortK.mp hp))⟩
    exact h1.trans (SrtO.Stb.app (SrtO.Stb.refl [x]) ih)
end
/-! ### things, their values, the machine's values, each with its rank -/
inductive Zs (K : PySem.W.Frag) (ρ : List Addr) (H : Hp) : List (Nat × D) → List (Nat × V) → List (Nat × Value) → Prop
  | nil : Zs K ρ H [] [] []
  | cons {n : Nat} {d : D} {v : V} {u : Value} {a : List (Nat × D)} {b : List (Nat × V)} {c : List (Nat × Value)} : Rep K ρ H d v → RelV v u → Zs K ρ H a b c → Zs K ρ H ((n, d) :: a) ((n, v) :: b) ((n, u) :: c)
section
variable {K : PySem.W.Frag} {ρ : List Addr} {H : Hp}
theorem Zs.make : ∀ {r : List (Nat × D)} {ds : List D} {ws : List V} {us : List Value}, r.map Prod.snd = ds → Reps K ρ H ds ws → Vals ws us → ∃ b c, Zs K ρ H r b c ∧ b.map Prod.snd = ws ∧ c.map Prod.snd = us
  | [], _, _, _, e, .nil, .nil => ⟨[], [], .nil, rfl, rfl⟩
  | [], _, _, _, e, .cons _ _, _ => by simp at e
  | (n, d) :: r, _, _, _, e, .nil, _ => by simp at e
  | (n, d) :: r, _, _, _, e, .cons h1 r1, .cons q1 t1 => by
    simp only [List.map, List.cons.injEq] at e
    obtain ⟨rfl, e⟩ := e
    obtain ⟨b, c, z, e1, e2⟩ := Zs.make e r1 t1
    exact ⟨_, _, .cons h1 q1 z, by simp only [List.map, e1], by simp only [List.map, e2]⟩
theorem Zs.ins {n : Nat} {d : D} {v : V} {u : Value} (h : Rep K ρ H d v) (q : RelV v u) : ∀ {a : List (Nat × D)} {b : List (Nat × V)} {c : List (Nat × Value)}, Zs K ρ H a b c → Zs K ρ H (insK n d a) (insK n v b) (insK n u c)
  | _, _, _, .nil => .cons h q .nil
  | _, _, _, .cons (n := k) h1 q1 z => by
    cases hk : Nat.blt k n with
    | true => simp only [insK, hk, cond_true]; exact .cons h1 q1 (Zs.ins h q z)
    | false => simp only [insK, hk, cond_false]; exact .cons h q (.cons h1 q1 z)
theorem Zs.sort : ∀ {a : List (Nat × D)} {b : List (Nat × V)} {c : List (Nat × Value)}, Zs K ρ H a b c → Zs K ρ H (sortK a) (sortK b) (sortK c)
  | _, _, _, .nil => .nil
  | _, _, _, .cons h q z => Zs.ins h q (Zs.sort z)
theorem Zs.reps : ∀ {a : List (Nat × D)} {b : List (Nat × V)} {c : List (Nat × Value)}, Zs K ρ H a b c → Reps K ρ H (a.map Prod.snd) (b.map Prod.snd)
  | _, _, _, .nil => .nil
  | _, _, _, .cons h _ z => .cons h (Zs.reps z)
theorem Zs.vals : ∀ {a : List (Nat × D)} {b : List (Nat × V)} {c : List (Nat × Value)}, Zs K ρ H a b c → Vals (b.map Prod.snd) (c.map Prod.snd)
  | _, _, _, .nil => .nil
  | _, _, _, .cons _ q z => .cons q (Zs.vals z)
theorem Zs.mem {n : Nat} {u : Value} : ∀ {a : List (Nat × D)} {b : List (Nat × V)} {c : List (Nat × Value)}, Zs K ρ H a b c → (n, u) ∈ c → ∃ d v, (n, d) ∈ a ∧ Rep K ρ H d v ∧ RelV v u
  | _, _, _, .nil, h => by cases h
  | _, _, _, .cons h1 q1 z, h => by
    rcases List.mem_cons.mp h with e | h
    · cases e; exact ⟨_, _, List.mem_cons_self, h1, q1⟩
    · obtain ⟨d, v, h2, h3, h4⟩ := Zs.mem z h
      exact ⟨d, v, List.mem_cons_of_mem _ h2, h3, h4⟩
end
theorem ranks_snd (all : List D) : ∀ {ds : List D} {r : List (Nat × D)}, ranksD all ds = some r → r.map Prod.snd = ds
  | [], r, e => by cases e; rfl
  | d :: ds, r, e => by
    simp only [ranksD] at e
    split at e
    · rename_i h1 h2
      cases e
      simp only [List.map, ranks_snd all h2]
    · cases e
theorem agree1_at {n : Nat} {x : D} : ∀ {l : List (Nat × D)}, agree1 n x l = true → ∀ k y, (k, y) ∈ l → ltD x y = some (Nat.blt n k)
  | [], _, k, y, h => by cases h
  | (j, z) :: r, e, k, y, h => by
    simp only [agree1] at e
    split at e
    · rename_i b hb
      cases hq : b == Nat.blt n j with
      | false => rw [hq] at e; cases e
      | true =>
        rw [hq, cond_true] at e
        rcases List.mem_cons.mp h with e2 | h
        · cases e2
          rw [hb, eq_of_beq hq]
        · exact agree1_at e k y h
    · cases e
theorem agree_at {all : List (Nat × D)} : ∀ {l : List (Nat × D)}, agreeD all l = true → ∀ n x, (n, x) ∈ l → ∀ k y, (k, y) ∈ all → ltD x y = some (Nat.blt n k)
  | [], _, n, x, h => by cases h
  | (m, z) :: r, e, n, x, h => by
    simp only [agreeD] at e
    cases hq : agree1 m z all with
    | false => rw [hq] at e; cases e
    | true =>
      rw [hq, cond_true] at e
      rcases List.mem_cons.mp h with e2 | h
      · cases e2; exact fun k y hy => agree1_at hq k y hy
      · exact agree_at e n x h
/-! ### two readings of a value: neither is below the other -/
section
variable {X : Cx} {pins : List (Addr × Obj)} {σ : L2.St} {H : Hp} {s : Shared} {ρ : List Addr}
theorem lts_self (I : Inv X pins σ H s) {f : D → D → Option Bool} {n : Nat} : ∀ (ds es : List D) (vs : List V) (b : Bool), Reps X.K ρ H ds vs → Reps X.K ρ H es vs → lts (eqN n) f ds es = some b → b = false
  | _, _, _, b, .nil, .nil, e => by simpa [lts] using e.symm
  | _, _, _, b, .cons h1 r1, .cons h2 r2, e => by
    simp only [lts] at e
    split at e
    · exact lts_self I _ _ _ b r1 r2 e
    · rename_i hr
      exact absurd (eq_self I n _ _ _ _ (.rep h1) (.rep h2) hr) (by simp)
    · cases e
theorem lt_self (I : Inv X pins σ H s) {d e : D} {v : V} {b : Bool} (h1 : Rep X.K ρ H d v) (h2 : Rep X.K ρ H e v) (q : ltD d e = some b) : b = false := by
  unfold ltD at q
  cases d with
  | int i =>
    cases h1; cases h2
    simp only [ltN, iblt_iff] at q
    simpa using q.symm
  | str x =>
    cases h1
    generalize hv : V.str (txt x) = v at h2
    cases h2 with
    | str y =>
      have : x = y := by simpa [txt] using hv
      subst this
      simp only [ltN, ltNats_iff] at q
      have e := Option.some.inj q
      rw [← e]
      exact decide_eq_false (List.lt_irrefl _)
    | _ => cases q
  | tup ds =>
    cases e with
    | tup es =>
      obtain ⟨a, vs, e1, t1, r1⟩ := (Val.rep h1).tuple
      obtain ⟨b', ws, e2, t2, r2⟩ := (Val.rep h2).tuple
      rw [e1] at e2; cases e2
      have := I.tuple_inj t1 t2
      subst this
      exact lts_self I _ _ _ b r1 r2 q
    | _ => cases q
  | _ => cases q
end
/-! ### comparing for a sort -/
def CmpAt (prog : Program) (w : World) (A : Around) (s : Shared) (κ : SortKind) (u v : Value) (b : Bool) : Prop := wpAny (model prog w) A (keyLt' κ u v) (fun r s' => s' = s ∧ r = b) (fun _ _ => False) s
/-- the first items are ints -/
def Ih (d : D) : Prop := ∃ i ds, d = .tup (.int i :: ds)
section
variable {X : Cx} {pins : List (Addr × Obj)} {σ : L2.St} {H : Hp} {s : Shared} {ρ : List Addr} {A : Around} {prog : Program} {w : World}
theorem kat_fd {b0 k : Bool} {fin : Bool} : ∀ {l : List (Value × Value)} {o : Option (Value × Value)} {i : Nat}, (b0 && i == 0) = false → Fd A s l o → (o = none → k = fin) → (∀ x y, o = some (x, y) → LtAt A s x y k) → PySem.W.KatLex prog w A b0 fin (fun r s' => s' = s ∧ r = k) l i s
  | _, _, i, _, .nil, h1, _ => PySem.W.kat_nil ⟨rfl, (h1 rfl).symm⟩
  | _, _, i, hb, .eq e r, h1, h2 => PySem.W.kat_cons (e _ _ _ _ (PySem.W.kat_yes (kat_fd (by simp) r h1 h2)))
  | _, _, i, hb, .ne (x := x) (y := y) e, h1, h2 => by
    refine PySem.W.kat_cons (e _ _ _ _ (PySem.W.kat_no ?_))
    rw [hb]
    exact PySem.W.kat_one _ _ (h2 x y rfl prog w _ _ ⟨rfl, rfl⟩)
theorem cmp_tup (I : Inv X pins σ H s) {b0 : Bool} {ds es : List D} {x y : V} {u v : Value} {b : Bool} (h1 : Rep X.K ρ H (.tup ds) x) (h2 : Rep X.K ρ H (.tup es) y) (q1 : RelV x u) (q2 : RelV y v) (hu : A.units + 100 < cLine) (hq : ltD (.tup ds) (.tup es) = some b)
    (hb : b0 = true → Ih (.tup ds) ∧ Ih (.tup es)) : CmpAt prog w A s (tuples' b0) u v b := by
  obtain ⟨a, vs, us, e1, e2, _, r1, t1, o1, g1, c1, n1, d1⟩ := Val.isTuple I (.rep h1) q1
  subst e1; subst e2
  obtain ⟨a', ws, ts, e1, e2, _, r2, t2, o2, g2, c2, n2, d2⟩ := Val.isTuple I (.rep h2) q2
  subst e1; subst e2
  have hq' : lts (eqN 99) (ltN 99) ds es = some b := hq
  have he : ∀ d e x y u v b, Rep X.K ρ H d x → Rep X.K ρ H e y → RelV x u → RelV y v → eqN 99 d e = some b → EqAt A s u v b := fun d e x y u v b a c p r h => (eq_at I 99 A d e x y u v b (.rep a) (.rep c) p r (by omega) h).1
  have hl : ∀ d e x y u v b, Rep X.K ρ H d x → Rep X.K ρ H e y → RelV x u → RelV y v → ltN 99 d e = some b → LtAt A s u v b := fun d e x y u v b a c p r h => lt_at I 99 A d e x y u v b (.rep a) (.rep c) p r (by omega) h
  refine PySem.W.kat_lt g1 d1 g2 d2 ?_
  cases b0 with
  | false =>
    obtain ⟨o, hfd, h3, h4⟩ := lts_fd (A := A) (s := s) he hl ds es vs ws us ts b r1 r2 t1 t2 hq'
    exact kat_fd (o := o) (by simp) (by simpa using hfd) (by simpa using h3) h4
  | true =>
    obtain ⟨⟨i, ds', e1⟩, j, es', e2⟩ := hb rfl
    cases e1; cases e2
    cases r1 with
    | cons k1 r1 =>
      cases r2 with
      | cons k2 r2 =>
        cases t1 with
        | cons p1 t1 =>
          cases t2 with
          | cons p2 t2 =>
            have hz : eqN 99 (.int i) (.int j) = some (ibeq i j) := rfl
            have hE := he _ _ _ _ _ _ _ k1 k2 p1 p2 hz
            simp only [lts, hz] at hq'
            refine PySem.W.kat_cons (hE _ _ _ _ ?_)
            cases hi : ibeq i j with
            | true =>
              rw [hi] at hq'
              obtain ⟨o, hfd, h3, h4⟩ := lts_fd (A := A) (s := s) he hl _ _ _ _ _ _ b r1 r2 t1 t2 hq'
              exact PySem.W.kat_yes (kat_fd (o := o) (by simp) hfd (by simpa using h3) h4)
            | false =>
              rw [hi] at hq'
              cases k1; cases k2
              obtain ⟨m1, rfl⟩ := p1
              obtain ⟨m2, rfl⟩ := p2
              have e : b = decide (i < j) := by
                simp only [ltN, iblt_iff] at hq'
                exact (Option.some.inj hq').symm
              exact PySem.W.kat_no (oneLt_int ⟨rfl, e.symm⟩)
theorem cmp_int {i j : Int} {x y : V} {u v : Value} {b : Bool} (h1 : Rep X.K ρ H (.int i) x) (h2 : Rep X.K ρ H (.int j) y) (q1 : RelV x u) (q2 : RelV y v) (hq : ltD (.int i) (.int j) = some b) : CmpAt prog w A s oneType' u v b := by
  cases h1; cases h2
  obtain ⟨m1, rfl⟩ := q1
  obtain ⟨m2, rfl⟩ := q2
  have e : b = decide (i < j) := by
    simp only [ltD, ltN, iblt_iff] at hq
    exact (Option.some.inj hq).symm
  exact oneLt_int ⟨rfl, e.symm⟩
theorem cmp_str {i j : List Nat} {x y : V} {u v : Value} {b : Bool} (h1 : Rep X.K ρ H (.str i) x) (h2 : Rep X.K ρ H (.str j) y) (q1 : RelV x u) (q2 : RelV y v) (hq : ltD (.str i) (.str j) = some b) : CmpAt prog w A s oneType' u v b := by
  cases h1; cases h2
  obtain ⟨m1, rfl⟩ := q1
  obtain ⟨m2, rfl⟩ := q2
  have e : b = decide ((txt i).cps.toList < (txt j).cps.toList) := by
    simp only [ltD, ltN, ltNats_iff] at hq
    exact (Option.some.inj hq).symm
  exact kas_lt_str ⟨rfl, e.symm⟩
/-! ### the kind of the keys -/
theorem firsts_fst : ∀ {ds : List D} {ws : List V} {us : List Value} (I : Inv X pins σ H s), Reps X.K ρ H ds ws → Vals ws us → (∀ d ∈ ds, ∃ e es, d = .tup (e :: es)) →
    ∃ fs, PySem.W.KatTups s.heap us fs ∧ fs.length = us.length ∧ ∀ f ∈ fs, ∃ e es x, .tup (e :: es) ∈ ds ∧ Rep X.K ρ H e x ∧ RelV x f
  | _, _, _, I, .nil, .nil, _ => ⟨[], PySem.W.KatTups.nil, rfl, fun f hf => by cases hf⟩
  | _, _, _, I, .cons h1 r1, .cons q1 t1, hd => by
    obtain ⟨fs, k1, k2, k3⟩ := firsts_fst I r1 t1 fun d hm => hd d (List.mem_cons_of_mem _ hm)
    obtain ⟨e, es, rfl⟩ := hd _ List.mem_cons_self
    obtain ⟨a, vs, us, e1, e2, _, rr, tt, o1, g1, c1, n1, d1⟩ := Val.isTuple I (.rep h1) q1
    subst e1; subst e2
    cases rr with
    | cons ha rr =>
      cases tt with
      | cons qa tt =>
        refine ⟨_ :: fs, PySem.W.KatTups.cons g1 c1 d1 (by simp; rfl) k1, by simp [k2], fun f hf => ?_⟩
        rcases List.mem_cons.mp hf with rfl | hf
        · exact ⟨e, es, _, List.mem_cons_self, ha, qa⟩
        · obtain ⟨e', es', x, m, h⟩ := k3 f hf
          exact ⟨e', es', x, List.mem_cons_of_mem _ m, h⟩
theorem sortable_cases {ds : List D} (h : sortable ds = true) : (∀ d ∈ ds, ∃ i, d = .int i) ∨ (∀ d ∈ ds, ∃ t, d = .str t) ∨ (∀ d ∈ ds, Ih d) ∨ ∀ d ∈ ds, ∃ e es r, d = .tup (.tup e :: r) ∧ es = e := by
  unfold sortable at h
  split at h
  · exact .inl fun d hd => by cases hd
  · rename_i i xs
    refine .inl fun d hd => ?_
    rcases List.mem_cons.mp hd with rfl | hd
    · exact ⟨_, rfl⟩
    · have z := List.all_eq_true.mp h d hd
      cases d <;> first | exact ⟨_, rfl⟩ | cases z
  · rename_i i xs
    refine .inr (.inl fun d hd => ?_)
    rcases List.mem_cons.mp hd with rfl | hd
    · exact ⟨_, rfl⟩
    · have z := List.all_eq_true.mp h d hd
      cases d <;> first | exact ⟨_, rfl⟩ | cases z
  · rename_i i r xs
    refine .inr (.inr (.inl fun d hd => ?_))
    rcases List.mem_cons.mp hd with rfl | hd
    · exact ⟨_, _, rfl⟩
    · have z := List.all_eq_true.mp h d hd
      split at z
      · exact ⟨_, _, rfl⟩
      · cases z
  · rename_i i r q xs
    refine .inr (.inr (.inr fun d hd => ?_))
    rcases List.mem_cons.mp hd with rfl | hd
    · exact ⟨_, _, _, rfl, rfl⟩
    · have z := List.all_eq_true.mp h d hd
      split at z
      · exact ⟨_, _, _, rfl, rfl⟩
      · cases z
  · cases h
theorem all_int : ∀ {ds : List D}, (∀ d ∈ ds, ∃ i, d = D.int i) → ∃ ns : List Int, ds = ns.map D.int
  | [], _ => ⟨[], rfl⟩
  | d :: ds, h => by
    obtain ⟨ns, e⟩ := all_int fun d hd => h d (List.mem_cons_of_mem _ hd)
    obtain ⟨i, rfl⟩ := h d List.mem_cons_self
    exact ⟨i :: ns, by rw [e]; rfl⟩
theorem all_str : ∀ {ds : List D}, (∀ d ∈ ds, ∃ i, d = D.str i) → ∃ ns : List (List Nat), ds = ns.map D.str
  | [], _ => ⟨[], rfl⟩
  | d :: ds, h => by
    obtain ⟨ns, e⟩ := all_str fun d hd => h d (List.mem_cons_of_mem _ hd)
    obtain ⟨i, rfl⟩ := h d List.mem_cons_self
    exact ⟨i :: ns, by rw [e]; rfl⟩
theorem reps_int {K : PySem.W.Frag} : ∀ {ns : List Int} {ws : List V}, Reps K ρ H (ns.map D.int) ws → ws = ns.map V.int
  | [], _, .nil => rfl
  | n :: ns, _, .cons h r => by cases h; rw [reps_int r]; rfl
theorem reps_str {K : PySem.W.Frag} : ∀ {ns : List (List Nat)} {ws : List V}, Reps K ρ H (ns.map D.str) ws → ws = (ns.map txt).map V.str
  | [], _, .nil => rfl
  | n :: ns, _, .cons h r => by cases h; rw [reps_str r]; rfl
theorem sort_kind (I : Inv X pins σ H s) {ds : List D} {ws : List V} {us : List Value} (r : Reps X.K ρ H ds ws) (t : Vals ws us) (hs : sortable ds = true) (h2 : 2 ≤ us.length) :
    ∃ κ, (∀ (Q : SortKind → Shared → Prop) (E : Value → Shared → Prop), Q κ s → wpAny (model prog w) A (keyKind' us.toArray) Q E s) ∧
      ∀ (d e : D) (x y : V) (u v : Value) (b : Bool), d ∈ ds → e ∈ ds → Rep X.K ρ H d x → Rep X.K ρ H e y → RelV x u → RelV y v → A.units + 100 < cLine → ltD d e = some b → CmpAt prog w A s κ u v b := by
  rcases sortable_cases hs with h | h | h | h
  · refine ⟨oneType', fun Q E q => ?_, fun d e x y u v b hd he h1 h2 q1 q2 _ hq => ?_⟩
    · obtain ⟨ns, rfl⟩ := all_int h
      rw [reps_int r] at t
      match us, t.ints, h2 with
      | v1 :: v2 :: rest, hI, _ =>
        rw [keyKind_ints hI]
        exact wpAny_pure q
      | [], _, h => exact absurd h (by simp)
      | [v], _, h => exact absurd h (by simp)
    · obtain ⟨i, rfl⟩ := h d hd
      obtain ⟨j, rfl⟩ := h e he
      exact cmp_int h1 h2 q1 q2 hq
  · refine ⟨oneType', fun Q E q => ?_, fun d e x y u v b hd he h1 h2 q1 q2 _ hq => ?_⟩
    · obtain ⟨ns, rfl⟩ := all_str h
      rw [reps_str r] at t
      match us, t.strs, h2 with
      | v1 :: v2 :: rest, hI, _ =>
        rw [keyKind_strs hI]
        exact wpAny_pure q
      | [], _, h => exact absurd h (by simp)
      | [v], _, h => exact absurd h (by simp)
    · obtain ⟨i, rfl⟩ := h d hd
      obtain ⟨j, rfl⟩ := h e he
      exact cmp_str h1 h2 q1 q2 hq
  · obtain ⟨fs, k1, k2, k3⟩ := firsts_fst I r t fun d hd => by obtain ⟨i, es, rfl⟩ := h d hd; exact ⟨_, _, rfl⟩
    refine ⟨tuples' true, fun Q E q => ?_, fun d e x y u v b hd he h1 h2 q1 q2 hu hq => ?_⟩
    · refine PySem.W.kat_kind (T := .type "int") k1 (by omega) (fun f hf => ?_) (by rfl) ?_
      · obtain ⟨e, es, x, hm, hr, hv⟩ := k3 f hf
        obtain ⟨i, es', e2⟩ := h _ hm
        cases e2
        cases hr
        obtain ⟨tk, rfl⟩ := hv
        exact PySem.W.Looks.now
      · have e : (Value.type "int" != Value.type "tuple") = true := by decide +kernel
        rw [e]
        exact q
    · obtain ⟨i, es, rfl⟩ := h d hd
      obtain ⟨j, es', rfl⟩ := h e he
      exact cmp_tup I h1 h2 q1 q2 hu hq fun _ => ⟨⟨_, _, rfl⟩, ⟨_, _, rfl⟩⟩
  · obtain ⟨fs, k1, k2, k3⟩ := firsts_fst I r t fun d hd => by obtain ⟨i, _, es, rfl, _⟩ := h d hd; exact ⟨_, _, rfl⟩
    refine ⟨tuples' false, fun Q E q => ?_, fun d e x y u v b hd he h1 h2 q1 q2 hu hq => ?_⟩
    · refine PySem.W.kat_kind (T := .type "tuple") k1 (by omega) (fun f hf => ?_) (by rfl) ?_
      · obtain ⟨e, es, x, hm, hr, hv⟩ := k3 f hf
        obtain ⟨i, _, es', e2, _⟩ := h _ hm
        cases e2
        obtain ⟨a, vs, us, e1, e2, _, rr, tt, o1, g1, c1, n1, d1⟩ := Val.isTuple I (.rep hr) hv
        subst e1; subst e2
        have := (PySem.W.Looks.ld (M := model prog w) (part := none) g1).andThen (f := fun o => pure o.cls) .now
        rw [c1] at this
        exact this
      · have e : (Value.type "tuple" != Value.type "tuple") = false := by decide +kernel
        rw [e]
        exact q
    · obtain ⟨i, _, es, rfl, _⟩ := h d hd
      obtain ⟨j, _, es', rfl, _⟩ := h e he
      exact cmp_tup I h1 h2 q1 q2 hu hq fun z => nomatch z
end
/-! ### sorted -/
def rSortedD (K : PySem.W.Frag) : List V → Hp → VK → Prop := fun vs H Q => ∃ (ρ : List Addr) (a : Addr) (ds es : List D) (ws : List V), vs = [V.ref a] ∧ SqL K H a ws ∧ Reps K ρ H ds ws ∧ sortD ds = some es ∧
  ∀ (ws' : List V) (p : Addr), Reps K ρ H es ws' → H p = none → Q (.ref p) (upd H p (.lst ws'))
open Classical in
/-- the rank of a value -/
noncomputable def rkOf (c : List (Nat × Value)) (u : Value) : Nat := if h : ∃ n, (n, u) ∈ c then Classical.choose h else 0
theorem rkOf_at {c : List (Nat × Value)} (uq : ∀ n m u, (n, u) ∈ c → (m, u) ∈ c → n = m) {n : Nat} {u : Value} (h : (n, u) ∈ c) : rkOf c u = n := by
  unfold rkOf
  have h' : ∃ n, (n, u) ∈ c := ⟨n, h⟩
  rw [dif_pos h']
  exact uq _ _ _ (Classical.choose_spec h') h
theorem cr_sortedD {X : Cx} (hu : X.A.units + 200 < cLine) : CallR X (.builtin "sorted") (rSortedD X.K) := by
  intro pins s σ H vs us Q I r h
  obtain ⟨ρ, a, ds, es, ws, rfl, hs, rp, hq, q⟩ := h
  obtain ⟨its, rv, hl, hz⟩ := I.list hs
  rw [Vals.ref1 r]
  unfold sortD at hq
  cases hso : sortable ds with
  | false => rw [hso] at hq; cases hq
  | true =>
    rw [hso, cond_true] at hq
    split at hq
    · rename_i rr hrr
      cases hag : agreeD rr rr with
      | false => rw [hag] at hq; cases hq
      | true =>
        rw [hag, cond_true] at hq
        cases hq
        obtain ⟨b, c, z, eb, ec⟩ := Zs.make (ranks_snd ds hrr) rp rv
        have ag := agree_at hag
        have uq : ∀ n m u, (n, u) ∈ c → (m, u) ∈ c → n = m := fun n m u h1 h2 => by
          obtain ⟨d, v, m1, r1, q1⟩ := z.mem h1
          obtain ⟨e, v', m2, r2, q2⟩ := z.mem h2
          have := q1.inj q2
          subst this
          have a1 := lt_self I r1 r2 (ag _ _ m1 _ _ m2)
          have a2 := lt_self I r2 r1 (ag _ _ m2 _ _ m1)
          have := blt_ge a1
          have := blt_ge a2
          omega
        have hk : ∀ p ∈ c, rkOf c p.2 = p.1 := fun p hp => rkOf_at uq hp
        have inC : ∀ u ∈ its, ∃ n, (n, u) ∈ c := fun u hm => by
          rw [← ec] at hm
          obtain ⟨p, hp, rfl⟩ := List.mem_map.mp hm
          exact ⟨p.1, hp⟩
        refine SrtO.sorted_ord (swoK (rk := rkOf c)) hl.isList (by rw [← rv.length]; exact hz) (fun h2 h₁ a' ha' keep h' keep' => ?_) fun out h1 h2 => ?_
        · have J : Inv X pins σ H { s with heap := h' } := I.kept (t' := s.toks) fun b u e => keep' b u (keep b u e).1 (keep b u e).2
          obtain ⟨κ, k1, k2⟩ := sort_kind (A := X.A.in1.in1) (prog := X.prog) (w := X.w) J rp rv hso h2
          refine ⟨κ, fun Q E hq => k1 Q E hq, fun p p' hp hp' => ?_⟩
          obtain ⟨n, hn⟩ := inC _ hp
          obtain ⟨m, hm⟩ := inC _ hp'
          obtain ⟨d, v, m1, r1, q1⟩ := z.mem hn
          obtain ⟨e, v', m2, r2, q2⟩ := z.mem hm
          have hd : ∀ n d, (n, d) ∈ rr → d ∈ ds := fun n d h => by rw [← ranks_snd ds hrr]; exact List.mem_map.mpr ⟨_, h, rfl⟩
          have := k2 d e v v' p.1 p'.1 _ (hd _ _ m1) (hd _ _ m2) r1 r2 q1 q2 (by rw [Around.in1_units, Around.in1_units]; omega) (ag _ _ m1 _ _ m2)
          have e : SrtO.lt2 (ltK (rkOf c)) p p' = Nat.blt n m := by
            show ltK (rkOf c) p.1 p'.1 = _
            unfold ltK
            rw [rkOf_at uq hn, rkOf_at uq hm, blt_dec]
          rw [e]
          exact this
        · have s1 := srtd_sortK hk
          have s2 := stb_sortK hk
          rw [ec] at s2
          have e : out = (sortK c).map Prod.snd := SrtO.stb_uniq swoK h1 s1 (h2.trans ⟨s2.perm.symm, fun x => (s2.cls x).symm⟩)
          subst e
          obtain ⟨ep, he'⟩ := PyProof.Rows.sortedAll_at s.heap its ((sortK c).map Prod.snd).toArray
          have zz := z.sort
          have hlen : ((sortK b).map Prod.snd).length ≤ sizeLine := by
            rw [zz.vals.length, s2.perm.length_eq, ← rv.length]
            exact hz
          exact ⟨.ref _, upd H (s.heap.objs.size + 1) (.lst ((sortK b).map Prod.snd)), I.laid (t' := s.toks) (fun _ _ => PyProof.Rows.sortedAll_old) (Nat.le_succ _) ⟨hlen, _, ep, zz.vals, he'⟩, rfl, q _ _ zz.reps (I.hok.fresh (Nat.le_succ _))⟩
    · cases hq
theorem r_sorted {G : Gd} {k : Nat} {N : List PySem.Str} {sc : Scope} {W : WX} {X : Cx} {c : Call} {a : Ev} {e : Expr} {p pos : Pos} (ok : Cok G k N sc W X) (hg : Gl X "sorted") (hm : G.mg "sorted" = none) (hv : bootBuiltins "sorted" = some (.builtin "sorted")) (ha : PE X e (rd G W (a c))) (hs : starEach [e] X.env = (false, eval e X.env) :: starEach [] X.env) (hpl : (backTo pos (starEach [] X.env)).any (·.1) = false) :
    PE X (.Call (.Name "sorted" p) [e] [] pos) (rd G W (dBi .sorted a c)) := by
  refine bi_gen (pe_callB (cr_sortedD (by have := ok.room.un; omega)) hg (by rw [ok.eM]; exact hm) hv (arg1 ha hs) (by decide) (by decide) hs hpl) fun H0 ρ0 ρ σe ih σ H d r' x Q m v e q => ?_
  rw [ok.eK]
  unfold b1 at e
  cases d with
  | lst ds =>
    obtain ⟨a, vs, rfl, l, rr⟩ := v.list
    simp only [lstD] at e
    cases hi : sortD ds with
    | none => rw [hi] at e; cases e
    | some es =>
      rw [hi] at e
      cases e
      exact ⟨ρ, a, ds, es, vs, rfl, l, rr, hi, fun ws' p rp np => post_lst m rp np q⟩
  | _ => cases e
end Few
set_option Elab.async false
set_option linter.all false
set_option maxRecDepth 100000
set_option maxHeartbeats 4000000
/-! set(l) of a list of ints, as a set that may be sorted -/
namespace L2
open PySem PyProof PyProof.Rows
section
variable {P : Program} {w : World} {A : Around} {E : Value → Shared → Prop} {s : Shared}
/-- a set as it is made -/
abbrev ob0 (w : World) : Obj := { cls := .type "set", dict := none, data := .set #[] 0 (.fresh 0 0 (!w.params.followText "set-order")) }
theorem few_set_lst {l : Addr} {items : Array Value} (ns : List Int) {Q : Value → Shared → Prop} (h0 : A.handled = none) (hl : s.heap.IsList l items) (hit : IntsAre items.toList ns) (hb : ns.length + 1 < scanBound)
    (fin : ∀ (h' : Heap) (tk c : Nat), SetR w h' s.heap.objs.size (fun j => decide (j ∈ ns)) c → c ≤ ns.length → (∀ b o, s.heap.get? b = some o → h'.get? b = some o) → Q (.ref s.heap.objs.size) { s with heap := h', toks := tk }) :
    wpAny (model P w) A (call (.type "set") [.ref l]) Q E s := by
  have len : items.size = ns.length := by rw [← Array.length_toList]; exact IntsAre.length hit
  obtain ⟨c, tl, hmro⟩ := F.called_set.mro
  have m1 := F.called_set.made
  have m2 := F.called_set.sub
  refine wpAny_call (codeAny_of_tree ?_)
  show wpAny _ _ (callAny (.type "set") _) _ _ _
  refine wpAny_pure ⟨Code.quiet_builtin _ (by decide +kernel), codeAny_builtin F.entry_type_call ?_⟩
  rw [Around.under_plain (weight_type_call_type "set" [.ref l] []) rfl]
  have m3 := F.called_set.notType
  have m4 := F.called_set.canCreate
  have m5 := F.typeCall_set_1 (.ref l)
  repeat (any_goals (first | assumption | wp_step))
  refine codeAny_mono (code_set_led1 (.ref l) (E := E) (Q₁ := fun u s₁ => u = .ref s.heap.objs.size ∧ s₁ = { s with heap := s.heap.push (ob0 w) }) ⟨rfl, rfl⟩) fun r s₁ hr => ?_
  cases r with
  | error e => exact hr
  | ok fl =>
    cases fl with
    | ret u =>
      obtain ⟨rfl, rfl⟩ := hr
      have hS : (s.heap.push (ob0 w)).get? s.heap.objs.size = some (ob0 w) := Heap.get?_push_size _ rfl
      have hT : Shared.TypeIs { s with heap := s.heap.push (ob0 w) } (.ref s.heap.objs.size) "set" := ⟨_, hS, rfl⟩
      have i1 := F.called_set.init.lookup
      have i2 := F.called_set.init.bind (.ref s.heap.objs.size)
      repeat (any_goals (first | assumption | wp_step))
      refine codeAny_mono (codeAny_call_builtin (R := wants (fun r s₂ => r = .none ∧ ∃ h' tk c, s₂ = { s with heap := h', toks := tk } ∧ SetR w h' s.heap.objs.size (fun j => decide (j ∈ ns)) c ∧ c ≤ ns.length ∧
          (∀ b o, s.heap.get? b = some o → h'.get? b = some o)) E) F.called_set.init.plain F.entry_set_init (check_set_init_1 hT ?_)) fun r₂ s₂ hr₂ => ?_
      · obtain ⟨ol, hol, hcl, nl, hdl⟩ := hl
        obtain ⟨ocls, odict, odata, oslots⟩ := ol
        simp only at hcl hdl
        subst hcl; subst hdl
        have hol' : (s.heap.push (ob0 w)).get? l = some { cls := .type "list", dict := odict, data := .seq items nl, slots := oslots } := Heap.get?_push_of_some _ hol
        have f1 := F.sub_list_set
        have f2 := F.sub_list_frozenset
        have f3 : (Value.type "list" == Value.type "dict") = false := by decide
        have hl1 : (s.heap.push (ob0 w)).IsList l items := ⟨_, hol', rfl, nl, rfl⟩
        unfold Builtin.«set.__init__» noKeywords Builtin.Frozenset.updateFrom
        generalize hPI : pyIter = PI
        wp_walk
        subst hPI
        refine wpAny_pyIter_list hl1 ?_
        refine wpAny_bind (wpAny_runValue ?_)
        have hlS : l < s.heap.objs.size := Heap.lt_size hol
        have h3 : A.in1.in1.in1.handled = none := by simp [h0]
        have sz : (s.heap.push (ob0 w)).objs.size = s.heap.objs.size + 1 := Heap.size_push ..
        have hneI : l ≠ (s.heap.push (ob0 w)).objs.size := by rw [sz]; exact Nat.ne_of_lt (Nat.lt_succ_of_lt hlS)
        have hSf : s.heap.objs.size ∉ [(s.heap.push (ob0 w)).objs.size, l] := by
          rw [sz]
          simp only [List.mem_cons, List.not_mem_nil, or_false, not_or]
          exact ⟨Nat.ne_of_lt (Nat.lt_succ_self _), Nat.ne_of_gt hlS⟩
        have hval : ∀ (i : Nat) (v : Value), items[i]? = some v → ∃ k t, ns[i]? = some k ∧ v = .int k t := fun i v hv => by
          have hi : i < ns.length := by rw [← len]; exact (Array.getElem?_eq_some_iff.mp hv).1
          obtain ⟨t, e⟩ := PyProof.Rows.IntsAre.int_at hit i v (by rw [Array.getElem?_toList]; exact hv)
          refine ⟨ns[i], t, List.getElem?_eq_getElem hi, ?_⟩
          rw [e, List.getD_eq_getElem?_getD, List.getElem?_eq_getElem hi] <;> rfl
        refine set_update_ints ((Walks.list h3 _ l hneI items).toS) s.heap.objs.size
          hSf ns len hb hval (items.size - 0) 0 _ (by omega) (Nat.zero_le _)
          ⟨⟨_, Heap.get?_push_size _ rfl, rfl, rfl⟩, (hl1.push _)⟩ ?z0 ?zR
        case z0 => exact ⟨0, Nat.le_refl 0, setR_new_at (Heap.get?_push_of_some _ hS)⟩
        case zR =>
          intro s' c' hm hc' hS'
          obtain ⟨h', g2, d', tk', os'⟩ := s'
          have eg : g2 = s.gens := hm.gens
          have ed : d' = s.drawn := hm.drawn
          have eo : os' = s.os := hm.os
          subst eg; subst ed; subst eo
          show wpAny _ _ _ _ _ _
          refine wpAny_pure ?_
          show wpAny _ _ (ret Value.none) _ _ _
          rw [len] at hc'
          refine wpAny_pure ⟨rfl, h', tk', c', rfl, hS', hc', fun b o e => ?_⟩
          have hb0 : b < s.heap.objs.size := Heap.lt_size e
          refine hm.heap b o ?_ (Heap.get?_push_of_some _ (Heap.get?_push_of_some _ e))
          rw [sz]
          simp only [List.mem_cons, List.not_mem_nil, or_false, not_or]
          exact ⟨Nat.ne_of_lt hb0, Nat.ne_of_lt (Nat.lt_succ_of_lt hb0)⟩
      · cases r₂ with
        | error e => exact hr₂
        | ok fl₂ =>
          cases fl₂ with
          | ret r =>
            obtain ⟨rfl, h', tk, c', rfl, hS', hc', hk'⟩ := hr₂
            repeat (any_goals (first | assumption | wp_step))
            exact fin _ _ _ hS' hc' hk'
          | _ => exact hr₂.elim
    | _ => exact hr.elim
end
end L2
namespace Few
open PySem PySem.Spec PyProof.Rows L2
def rSetL (K : PySem.W.Frag) (w : World) : List V → Hp → VK → Prop := fun xs H Q => ∃ (l : Addr) (ns : List Int), xs = [V.ref l] ∧ SqL K H l (ns.map V.int) ∧ ns.length < 64 ∧
  ∀ (p : Addr) (c : Nat), H p = none → c ≤ ns.length → Q (.ref p) (upd H p (SetO w p (fun j => decide (j ∈ ns)) c))
theorem cr_setL {X : Cx} (hc : X.calm = true) : CallR X (.type "set") (rSetL X.K X.w) := by
  intro pins s σ H xs us Q I r h
  obtain ⟨l, ns, rfl, hl, hn, q⟩ := h
  rw [Vals.ref1 r]
  obtain ⟨its, rv, pl, hz⟩ := I.list hl
  have hp : H s.heap.objs.size = none := I.hok.fresh (Nat.le_refl _)
  refine few_set_lst (P := X.prog) (w := X.w) ns (I.ok.hd hc) pl.isList (by simpa using rv.ints) (by unfold scanBound; omega) fun h' tk c R hcl keep => ?_
  exact ⟨.ref s.heap.objs.size, upd H s.heap.objs.size (SetO X.w s.heap.objs.size _ c), I.laid (t' := tk) keep (Nat.le_refl _) (setO_new R), rfl, q _ c hp hcl⟩
theorem mem_insU {x k : Int} : ∀ {l : List Int}, k ∈ insU x l ↔ k = x ∨ k ∈ l
  | [] => by simp [insU]
  | y :: ys => by
    simp only [insU, iblt_iff, ibeq_iff]
    by_cases h1 : x < y
    · simp only [h1, decide_true, cond_true, List.mem_cons]
    · by_cases h2 : x = y
      · subst h2
        simp only [h1, decide_false, cond_false, BEq.rfl, cond_true, List.mem_cons]
        constructor
        · exact fun h => .inr h
        · rintro (h | h)
          · exact .inl h
          · exact h
      · have : (x == y) = false := by simpa using h2
        simp only [h1, decide_false, cond_false, this, List.mem_cons, mem_insU (l := ys)]
        constructor
        · rintro (a | a | a)
          · exact .inr (.inl a)
          · exact .inl a
          · exact .inr (.inr a)
        · rintro (a | a | a)
          · exact .inr (.inl a)
          · exact .inl a
          · exact .inr (.inr a)
theorem mem_sortU {k : Int} : ∀ {l : List Int}, k ∈ sortU l ↔ k ∈ l
  | [] => by simp [sortU]
  | x :: xs => by simp only [sortU, mem_insU, mem_sortU (l := xs), List.mem_cons]
theorem pw_insU {x : Int} : ∀ {l : List Int}, l.Pairwise (· < ·) → (insU x l).Pairwise (· < ·)
  | [], _ => List.pairwise_singleton _ _
  | y :: ys, h => by
    obtain ⟨h1, h2⟩ := List.pairwise_cons.mp h
    simp only [insU, iblt_iff, ibeq_iff]
    by_cases e1 : x < y
    · simp only [e1, decide_true, cond_true]
      refine List.pairwise_cons.mpr ⟨fun z hz => ?_, h⟩
      rcases List.mem_cons.mp hz with rfl | hz
      · exact e1
      · exact Int.lt_trans e1 (h1 z hz)
    · by_cases e2 : x = y
      · subst e2
        simp only [e1, decide_false, cond_false, BEq.rfl, cond_true]
        exact h
      · have e3 : (x == y) = false := by simpa using e2
        simp only [e1, decide_false, cond_false, e3]
        refine List.pairwise_cons.mpr ⟨fun z hz => ?_, pw_insU h2⟩
        rcases mem_insU.mp hz with rfl | hz
        · omega
        · exact h1 z hz
theorem pw_sortU : ∀ {l : List Int}, (sortU l).Pairwise (· < ·)
  | [] => List.Pairwise.nil
  | x :: xs => pw_insU pw_sortU
theorem srt_uniq : ∀ {a b : List Int}, a.Pairwise (· < ·) → b.Pairwise (· < ·) → (∀ k, k ∈ a ↔ k ∈ b) → a = b
  | [], [], _, _, _ => rfl
  | [], y :: b, _, _, h => absurd ((h y).mpr List.mem_cons_self) (by simp)
  | x :: a, [], _, _, h => absurd ((h x).mp List.mem_cons_self) (by simp)
  | x :: a, y :: b, ha, hb, h => by
    obtain ⟨a1, a2⟩ := List.pairwise_cons.mp ha
    obtain ⟨b1, b2⟩ := List.pairwise_cons.mp hb
    have e : x = y := by
      rcases List.mem_cons.mp ((h x).mp List.mem_cons_self) with e | e
      · exact e
      · rcases List.mem_cons.mp ((h y).mpr List.mem_cons_self) with q | q
        · exact q.symm
        · have := b1 x e
          have := a1 y q
          omega
    subst e
    rw [srt_uniq a2 b2 fun k => ?_]
    constructor
    · intro hk
      rcases List.mem_cons.mp ((h k).mp (List.mem_cons_of_mem _ hk)) with e | e
      · subst e
        exact absurd (a1 _ hk) (by omega)
      · exact e
    · intro hk
      rcases List.mem_cons.mp ((h k).mpr (List.mem_cons_of_mem _ hk)) with e | e
      · subst e
        exact absurd (b1 _ hk) (by omega)
      · exact e
section
variable {G : Gd} {k : Nat} {N : List PySem.Str} {sc : Scope} {W : WX} {X : Cx} {c : Call} {a : Ev} {e : Expr} {p p2 q pos : Pos}
theorem reps_ints {K : PySem.W.Frag} {ρ : List Addr} {H : Hp} : ∀ (ns : List Int), Reps K ρ H (ns.map D.int) (ns.map V.int)
  | [] => .nil
  | n :: ns => .cons (.int n) (reps_ints ns)
theorem r_sortset (ok : Cok G k N sc W X) (hg : Gl X "sorted") (hm : G.mg "sorted" = none) (hg2 : Gl X "set") (hm2 : G.mg "set" = none) (hv : bootBuiltins "sorted" = some (.builtin "sorted")) (hv2 : bootBuiltins "set" = some (.type "set")) (ha : PE X e (rd G W (a c))) (hs : starEach [e] X.env = (false, eval e X.env) :: starEach [] X.env)
    (hs2 : starEach [.Call (.Name "set" p2) [e] [] q] X.env = (false, eval (.Call (.Name "set" p2) [e] [] q) X.env) :: starEach [] X.env) (hpl : (backTo q (starEach [] X.env)).any (·.1) = false) (hpl2 : (backTo pos (starEach [] X.env)).any (·.1) = false) :
    PE X (.Call (.Name "sorted" p) [.Call (.Name "set" p2) [e] [] q] [] pos) (rd G W (dBi .sortset a c)) := by
  have hS : PE X (.Call (.Name "set" p2) [e] [] q) _ := pe_callTy (cr_setL ok.calm) hg2 (by rw [ok.eM]; exact hm2) hv2 (arg1 ha hs) (by decide) (by decide) hs hpl
  refine peTo (pe_callB (cr_sortedSet ok.calm) hg (by rw [ok.eM]; exact hm) hv (pa_cons hS pa_nil hs2) (by decide) (by decide) hs2 hpl2) fun σ H Q q => ?_
  obtain ⟨H0, ρ0, ρ, σe, ih, m, q⟩ := q
  refine oneP m q fun x H1 ρ1 σ1 h1 r1 p1 a1 m1 s1 q => ?_
  rw [ok.eK, ok.eW]
  cases hv : valH σ1 h1 r1 with
  | none => simp only [hv] at q; exact q.elim
  | some d =>
    simp only [hv] at q
    have v := m1.readsH s1 hv
    unfold b1 at q
    cases d with
    | lst ds =>
      obtain ⟨a, vs, rfl, l, rr⟩ := v.list
      simp only [lstD] at q
      cases hi : intsD ds with
      | none => simp only [hi, opt] at q; exact q.elim
      | some ns =>
        simp only [hi] at q
        rw [ints_ok rr hi] at l
        cases hl : Nat.blt ns.length 64 with
        | false => simp only [hl, cond_false, opt] at q; exact q.elim
        | true =>
          simp only [hl, cond_true, opt] at q
          have hlt := blt_lt hl
          refine ⟨a, ns, rfl, l, hlt, fun p cc np hcc => ?_⟩
          have m2 := m1.fresh (o := SetO G.w p (fun j => decide (j ∈ ns)) cc) np
          have ps : Pers H1 (upd H1 p (SetO G.w p (fun j => decide (j ∈ ns)) cc)) := .new np
          refine ⟨p, _, cc, rfl, upd_same, by omega, fun out p' h1 h2 h3 np' => ?_⟩
          have e : out = sortU ns := srt_uniq h1 pw_sortU fun k => by rw [h2 k, decide_eq_true_eq, mem_sortU]
          subst e
          exact post_lst m2 (reps_ints _) np' (PostE.weak ps (.refl _) q)
    | _ => simp only [lstD, opt] at q; exact q.elim
end
end Few
set_option Elab.async false
set_option linter.all false
set_option maxRecDepth 100000
set_option maxHeartbeats 4000000
/-! list(zip(a, b)): the pairs are all kept -/
namespace Few
open PySem PySem.Spec PyProof.Rows L2
/-! ### zip, while its first tuple is kept -/
section
variable {prog : Program} {w : World} {A : Around} {E : Value → Shared → Prop} {s : Shared} {z TI TO T i1 i2 : Addr} {fp1 fp2 : List Addr} {n1 n2 i : Nat} {P1 P2 : Nat → Value → Prop} {St1 St2 : Nat → Heap → Prop} {f : Bool} {oT : Obj}
theorem zh_item {Q : Value → Shared → Prop} (S : ZipSep2 z TI TO i1 i2 fp1 fp2) (D1 : Draws prog w A i1 fp1 n1 P1 St1) (D2 : Draws prog w A i2 fp2 n2 P2 St2)
    (hz : IsZipHeld s.heap z TI TO T f) (hT : s.heap.get? T = some oT) (hTI : IsTupOf2 s.heap TI (.ref i1) (.ref i2)) (st1 : St1 i s.heap) (st2 : St2 i s.heap) (lt1 : i < n1) (lt2 : i < n2)
    (fin : ∀ x1 x2 h' tk, P1 i x1 → P2 i x2 → IsZipHeld h' z TI TO T true → St1 (i + 1) h' → St2 (i + 1) h' → IsTupOf2 h' s.heap.objs.size x1 x2 → h'.objs.size = s.heap.objs.size + 1 →
      (∀ c o, c ≠ z → c ≠ i1 → c ≠ i2 → s.heap.get? c = some o → h'.get? c = some o) → Q (.ref s.heap.objs.size) { s with heap := h', toks := tk }) :
    wpAny (model prog w) A (Builtin.«zip.__next__» ⟨[.ref z], []⟩) (fun r s' => ∃ v, r = .done (.ret v) ∧ Q v s') E s := by
  obtain ⟨hp, g, d, tk0, os⟩ := s
  show wpAny _ _ (field (.ref z) 2 >>= _) _ _ _
  refine wpAny_bind (wpAny_field hz rfl (x := .bool false) rfl ?_)
  show wpAny _ _ (field (.ref z) 3 >>= _) _ _ _
  refine wpAny_bind (wpAny_field hz rfl (x := .ref TI) rfl (wpAny_bind (wpAny_seqItems hTI rfl ?_)))
  show wpAny _ _ (Builtin.SmallTypes.ownedTupleIsFree (.ref z) >>= _) _ _ _
  refine wpAny_bind (wpAny_tupleHeld_zip hz hT fun h₁ hz₁ hs₁ => ?_)
  replace hs₁ : Heap.SameBut z hp h₁ := hs₁
  simp only [Bool.false_eq_true, if_false]
  refine wpAny_bind ?_
  rw [← Array.forIn_toList]
  simp only [List.forIn_cons, List.forIn_nil]
  refine wpAny_bind (wpAny_bind (wpAny_holding ?_))
  show wpAny _ _ (Builtin.SmallTypes.nextOf (.ref i1) >>= _) _ _ ⟨h₁, g, d, tk0, os⟩
  refine wpAny_bind (D1.item i _ _ _ lt1 (D1.over st1 hs₁ S.zf1) fun x1 p1 tk1 q1 sn1 k1 => wpAny_pure (wpAny_pure ?_))
  replace k1 : Heap.SameBut i1 h₁ p1 := k1
  refine wpAny_bind (wpAny_bind (wpAny_holding ?_))
  show wpAny _ _ (Builtin.SmallTypes.nextOf (.ref i2) >>= _) _ _ ⟨p1, g, d, tk1, os⟩
  refine wpAny_bind (D2.item i _ _ _ lt2 (D2.over (D2.over st2 hs₁ S.zf2) k1 S.sep1_2) fun x2 p2 tk2 q2 sn2 k2 => wpAny_pure (wpAny_pure (wpAny_pure ?_)))
  replace k2 : Heap.SameBut i2 p1 p2 := k2
  show wpAny _ _ (newTuple [x1, x2] >>= _) _ _ ⟨p2, g, d, tk2, os⟩
  refine wpAny_bind (wpAny_newTuple ?_)
  have sz : p2.objs.size = hp.objs.size := by rw [k2.1, k1.1, hs₁.1]
  have hz₃ : IsZipHeld p2 z TI TO T true := k2.extBut _ _ S.zi2 (k1.extBut _ _ S.zi1 hz₁)
  have kk : ∀ c o, c ≠ z → c ≠ i1 → c ≠ i2 → hp.get? c = some o → p2.get? c = some o := fun c o c1 c2 c3 e => k2.extBut _ _ c3 (k1.extBut _ _ c2 (hs₁.extBut _ _ c1 e))
  have j1 : St1 (i + 1) p2 := D1.over sn1 k2 S.sep2_1
  refine wpAny_pure ⟨_, rfl, ?_⟩
  show Q (.ref p2.objs.size) _
  have tp : IsTupOf2 (p2.push { cls := .type "tuple", data := .seq #[x1, x2] }) p2.objs.size x1 x2 := Heap.get?_push_size _ rfl
  have tz : (p2.push { cls := .type "tuple", data := .seq #[x1, x2] }).objs.size = p2.objs.size + 1 := Heap.size_push ..
  rw [sz] at tp tz ⊢
  exact fin x1 x2 _ tk2 q1 q2 (Heap.get?_push_of_some _ hz₃) (D1.frame _ _ _ j1 fun b _ o e => Heap.get?_push_of_some _ e) (D2.frame _ _ _ sn2 fun b _ o e => Heap.get?_push_of_some _ e) tp tz fun c o c1 c2 c3 e => Heap.get?_push_of_some _ (kk c o c1 c2 c3 e)
theorem zh_end {Q : Fin → Shared → Prop} (S : ZipSep2 z TI TO i1 i2 fp1 fp2) (D1 : Draws prog w A i1 fp1 n1 P1 St1) (D2 : Draws prog w A i2 fp2 n2 P2 St2)
    (hz : IsZipHeld s.heap z TI TO T f) (hT : s.heap.get? T = some oT) (hTI : IsTupOf2 s.heap TI (.ref i1) (.ref i2)) (st1 : St1 i s.heap) (st2 : St2 i s.heap) (le1 : i ≤ n1) (le2 : i ≤ n2) (hend : i = n1 ∨ i = n2)
    (hE : ∀ h' tk e, (∀ c o, c ≠ z → c ≠ i1 → c ≠ i2 → s.heap.get? c = some o → h'.get? c = some o) → (∃ o, h'.get? e = some o ∧ o.cls = .type "StopIteration") → E (.ref e) { s with heap := h', toks := tk }) :
    wpAny (model prog w) A (Builtin.«zip.__next__» ⟨[.ref z], []⟩) Q E s := by
  obtain ⟨hp, g, d, tk0, os⟩ := s
  show wpAny _ _ (field (.ref z) 2 >>= _) _ _ _
  refine wpAny_bind (wpAny_field hz rfl (x := .bool false) rfl ?_)
  show wpAny _ _ (field (.ref z) 3 >>= _) _ _ _
  refine wpAny_bind (wpAny_field hz rfl (x := .ref TI) rfl (wpAny_bind (wpAny_seqItems hTI rfl ?_)))
  show wpAny _ _ (Builtin.SmallTypes.ownedTupleIsFree (.ref z) >>= _) _ _ _
  refine wpAny_bind (wpAny_tupleHeld_zip hz hT fun h₁ hz₁ hs₁ => ?_)
  replace hs₁ : Heap.SameBut z hp h₁ := hs₁
  simp only [Bool.false_eq_true, if_false]
  refine wpAny_bind ?_
  rw [← Array.forIn_toList]
  simp only [List.forIn_cons, List.forIn_nil]
  refine wpAny_bind (wpAny_bind (wpAny_holding ?_))
  show wpAny _ _ (Builtin.SmallTypes.nextOf (.ref i1) >>= _) _ _ ⟨h₁, g, d, tk0, os⟩
  by_cases lt1 : i < n1
  · refine wpAny_bind (D1.item i _ _ _ lt1 (D1.over st1 hs₁ S.zf1) fun x1 p1 tk1 q1 sn1 k1 => wpAny_pure (wpAny_pure ?_))
    replace k1 : Heap.SameBut i1 h₁ p1 := k1
    have e2 : i = n2 := by omega
    refine wpAny_bind (wpAny_bind (wpAny_holding ?_))
    show wpAny _ _ (Builtin.SmallTypes.nextOf (.ref i2) >>= _) _ _ ⟨p1, g, d, tk1, os⟩
    refine wpAny_bind (D2.done ⟨p1, g, d, tk1, os⟩ _ _ (by rw [← e2]; exact D2.over (D2.over st2 hs₁ S.zf2) k1 S.sep1_2) fun q e hq he => ?_)
    exact hE q tk1 e (fun c o cz c1 c2 x => hq _ _ c2 (k1.extBut _ _ c1 (hs₁.extBut _ _ cz x))) he
  · have e1 : i = n1 := by omega
    refine wpAny_bind (D1.done ⟨h₁, g, d, tk0, os⟩ _ _ (by rw [← e1]; exact D1.over st1 hs₁ S.zf1) fun q e hq he => ?_)
    exact hE q tk0 e (fun c o cz c1 c2 x => hq _ _ c1 (hs₁.extBut _ _ cz x)) he
theorem zh_nextItem {Q : Option Value → Shared → Prop} (S : ZipSep2 z TI TO i1 i2 fp1 fp2) (D1 : Draws prog w A.in1 i1 fp1 n1 P1 St1) (D2 : Draws prog w A.in1 i2 fp2 n2 P2 St2)
    (hz : IsZipHeld s.heap z TI TO T f) (hT : s.heap.get? T = some oT) (hTI : IsTupOf2 s.heap TI (.ref i1) (.ref i2)) (st1 : St1 i s.heap) (st2 : St2 i s.heap) (lt1 : i < n1) (lt2 : i < n2)
    (fin : ∀ x1 x2 h' tk, P1 i x1 → P2 i x2 → IsZipHeld h' z TI TO T true → St1 (i + 1) h' → St2 (i + 1) h' → IsTupOf2 h' s.heap.objs.size x1 x2 → h'.objs.size = s.heap.objs.size + 1 →
      (∀ c o, c ≠ z → c ≠ i1 → c ≠ i2 → s.heap.get? c = some o → h'.get? c = some o) → Q (some (.ref s.heap.objs.size)) { s with heap := h', toks := tk }) :
    wpAny (model prog w) A (pyNext (.ref z)) Q E s := by
  have ty : s.TypeIs (.ref z) "zip" := ⟨_, hz, rfl⟩
  unfold pyNext
  exact wpAny_bind (wpAny_attempt (wpAny_callSpecial?_slot (name := Str.ofString "__next__") ty F.slot_zip_next (wpAny_call_entry F.slot_zip_next ty F.entry_zip_next
    (zh_item S D1 D2 hz hT hTI st1 st2 lt1 lt2 fun x1 x2 h' tk a1 a2 a3 a4 a5 a6 a7 a8 => wpAny_pure (fin x1 x2 h' tk a1 a2 a3 a4 a5 a6 a7 a8)) (F.args_zip_next_1 _))))
theorem zh_nextEnd {Q : Option Value → Shared → Prop} (S : ZipSep2 z TI TO i1 i2 fp1 fp2) (D1 : Draws prog w A.in1 i1 fp1 n1 P1 St1) (D2 : Draws prog w A.in1 i2 fp2 n2 P2 St2)
    (hz : IsZipHeld s.heap z TI TO T f) (hT : s.heap.get? T = some oT) (hTI : IsTupOf2 s.heap TI (.ref i1) (.ref i2)) (st1 : St1 i s.heap) (st2 : St2 i s.heap) (le1 : i ≤ n1) (le2 : i ≤ n2) (hend : i = n1 ∨ i = n2)
    (fin : ∀ h' tk, (∀ c o, c ≠ z → c ≠ i1 → c ≠ i2 → s.heap.get? c = some o → h'.get? c = some o) → Q none { s with heap := h', toks := tk }) : wpAny (model prog w) A (pyNext (.ref z)) Q E s := by
  have ty : s.TypeIs (.ref z) "zip" := ⟨_, hz, rfl⟩
  unfold pyNext
  refine wpAny_bind (wpAny_attempt (wpAny_callSpecial?_slot (name := Str.ofString "__next__") ty F.slot_zip_next (wpAny_call_entry F.slot_zip_next ty F.entry_zip_next
    (zh_end S D1 D2 hz hT hTI st1 st2 le1 le2 hend fun h' tk e hk he => ?_) (F.args_zip_next_1 _))))
  obtain ⟨o, ho, hc⟩ := he
  exact wpAny_bind (wpAny_isInstance (T := "StopIteration") (b := true) ⟨o, ho, hc⟩ isSubtype_stop (wpAny_pure (fin _ _ hk)))
/-- where the zip stands at turn i; L: the list that takes the pairs -/
def ZSt (z TI TO i1 i2 L : Addr) (St1 St2 : Nat → Heap → Prop) (i : Nat) (h : Heap) : Prop :=
  IsTupOf2 h TI (.ref i1) (.ref i2) ∧ St1 i h ∧ St2 i h ∧ ((i = 0 ∧ IsZip h z TI TO .none ∧ ∃ a1 a2, IsTupOf2 h TO a1 a2) ∨ ∃ T f oT, IsZipHeld h z TI TO T f ∧ h.get? T = some oT ∧ T ≠ z ∧ T ≠ i1 ∧ T ≠ i2 ∧ T ≠ L)
theorem ZSt.keep {L : Addr} {h h' : Heap} (S : ZipSep2 z TI TO i1 i2 fp1 fp2) (D1 : Draws prog w A i1 fp1 n1 P1 St1) (D2 : Draws prog w A i2 fp2 n2 P2 St2) (hL : L ∉ [z, TI, TO]) (h1 : L ∉ fp1) (h2 : L ∉ fp2) (k : ∀ b o, b ≠ L → h.get? b = some o → h'.get? b = some o) (st : ZSt z TI TO i1 i2 L St1 St2 i h) : ZSt z TI TO i1 i2 L St1 St2 i h' := by
  obtain ⟨a, b, c, e⟩ := st
  have n1 : z ≠ L := fun q => hL (by simp [q])
  have n2 : TI ≠ L := fun q => hL (by simp [q])
  have n3 : TO ≠ L := fun q => hL (by simp [q])
  refine ⟨k _ _ n2 a, D1.frame _ _ _ b fun x hx o e => k x o (fun q => h1 (q ▸ hx)) e, D2.frame _ _ _ c fun x hx o e => k x o (fun q => h2 (q ▸ hx)) e, ?_⟩
  rcases e with ⟨e0, e1, a1, a2, e2⟩ | ⟨T, f, oT, e1, e2, e3, e4, e5, e6⟩
  · exact .inl ⟨e0, k _ _ n1 e1, a1, a2, k _ _ n3 e2⟩
  · exact .inr ⟨T, f, oT, k _ _ n1 e1, k _ _ e6 e2, e3, e4, e5, e6⟩
theorem zst_item {L : Addr} {Q : Option Value → Shared → Prop} (S : ZipSep2 z TI TO i1 i2 fp1 fp2) (D1 : Draws prog w A.in1 i1 fp1 n1 P1 St1) (D2 : Draws prog w A.in1 i2 fp2 n2 P2 St2) (hLs : L < s.heap.objs.size)
    (st : ZSt z TI TO i1 i2 L St1 St2 i s.heap) (lt1 : i < n1) (lt2 : i < n2)
    (fin : ∀ x1 x2 h' tk, P1 i x1 → P2 i x2 → ZSt z TI TO i1 i2 L St1 St2 (i + 1) h' → IsTupOf2 h' s.heap.objs.size x1 x2 → h'.objs.size = s.heap.objs.size + 1 →
      (∀ c o, c ≠ z → c ≠ TO → c ≠ i1 → c ≠ i2 → s.heap.get? c = some o → h'.get? c = some o) → Q (some (.ref s.heap.objs.size)) { s with heap := h', toks := tk }) :
    wpAny (model prog w) A (pyNext (.ref z)) Q E s := by
  obtain ⟨a, b, c, e⟩ := st
  obtain ⟨o1, l1⟩ := D1.live _ _ b
  obtain ⟨o2, l2⟩ := D2.live _ _ c
  rcases e with ⟨rfl, e1, a1, a2, e2⟩ | ⟨T, f, oT, e1, e2, e3, e4, e5, e6⟩
  · refine wpAny_pyNext_zipD2_item S D1 D2 e1 a e2 b c lt1 lt2 fun x1 x2 h' tk p1 p2 b1 b2 d1 d2 b5 b6 kk => ?_
    exact fin x1 x2 h' tk p1 p2 ⟨kk _ _ S.TIz S.TITO S.TIi1 S.TIi2 a, d1, d2, .inr ⟨_, false, _, b1, b5, Nat.ne_of_gt (Heap.lt_size e1), Nat.ne_of_gt (Heap.lt_size l1), Nat.ne_of_gt (Heap.lt_size l2), Nat.ne_of_gt hLs⟩⟩ b5 b6 kk
  · refine zh_nextItem S D1 D2 e1 e2 a b c lt1 lt2 fun x1 x2 h' tk p1 p2 b1 d1 d2 b5 b6 kk => ?_
    exact fin x1 x2 h' tk p1 p2 ⟨kk _ _ S.TIz S.TIi1 S.TIi2 a, d1, d2, .inr ⟨T, true, oT, b1, kk _ _ e3 e4 e5 e2, e3, e4, e5, e6⟩⟩ b5 b6 fun c o c1 _ c3 c4 e => kk c o c1 c3 c4 e
theorem zst_end {L : Addr} {Q : Option Value → Shared → Prop} (S : ZipSep2 z TI TO i1 i2 fp1 fp2) (D1 : Draws prog w A.in1 i1 fp1 n1 P1 St1) (D2 : Draws prog w A.in1 i2 fp2 n2 P2 St2)
    (st : ZSt z TI TO i1 i2 L St1 St2 i s.heap) (le1 : i ≤ n1) (le2 : i ≤ n2) (hend : i = n1 ∨ i = n2)
    (fin : ∀ h' tk, (∀ c o, c ≠ z → c ≠ TO → c ≠ i1 → c ≠ i2 → s.heap.get? c = some o → h'.get? c = some o) → Q none { s with heap := h', toks := tk }) : wpAny (model prog w) A (pyNext (.ref z)) Q E s := by
  obtain ⟨a, b, c, e⟩ := st
  rcases e with ⟨rfl, e1, a1, a2, e2⟩ | ⟨T, f, oT, e1, e2, e3, e4, e5, e6⟩
  · exact wpAny_pyNext_zipD2_end S D1 D2 e1 a e2 b c le1 le2 hend fun h' tk kk => fin h' tk kk
  · exact zh_nextEnd S D1 D2 e1 e2 a b c le1 le2 hend fun h' tk kk => fin h' tk fun c o c1 _ c3 c4 e => kk c o c1 c3 c4 e
/-- the pairs laid -/
structure ZG (P1 P2 : Nat → Value → Prop) (lo : Addr) (h : Heap) (as : List Addr) : Prop where
  rise : as.Pairwise (· < ·)
  above : ∀ a ∈ as, lo < a
  pairs : ∀ (j : Nat) (a : Addr), as[j]? = some a → ∃ x1 x2, P1 j x1 ∧ P2 j x2 ∧ IsTupOf2 h a x1 x2
theorem ZG.there {lo : Addr} {h : Heap} {as : List Addr} (g : ZG P1 P2 lo h as) {a : Addr} (ha : a ∈ as) : a < h.objs.size := by
  obtain ⟨j, hj⟩ := List.mem_iff_getElem?.mp ha
  obtain ⟨_, _, _, _, e⟩ := g.pairs j a hj
  exact Heap.lt_size e
theorem zip_loop {L : Addr} {R : Result → Shared → Prop} (S : ZipSep2 z TI TO i1 i2 fp1 fp2) (D1 : Draws prog w A.in1.in1 i1 fp1 n1 P1 St1) (D2 : Draws prog w A.in1.in1 i2 fp2 n2 P2 St2) (hL : L ∉ [z, TI, TO]) (hf1 : L ∉ fp1) (hf2 : L ∉ fp2)
    (n : Nat) (hn : n = min n1 n2) (hn2 : n ≤ sizeLine) (lo : Addr) (hlo : L ≤ lo ∧ z ≤ lo ∧ TO ≤ lo ∧ i1 ≤ lo ∧ i2 ≤ lo) (res : Value) {h₁ : Heap}
    (fin : ∀ h' tk acc c as, (∀ b o, b ≠ L → b ≠ z → b ≠ TO → b ≠ i1 → b ≠ i2 → h₁.get? b = some o → h'.get? b = some o) → h'.get? L = some { cls := .type "list", dict := none, data := .seq acc c, slots := #[] } → as.length = n → ZG P1 P2 lo h' as →
      acc.toList = as.map Value.ref → R (.ok (.ret res)) { s with heap := h', toks := tk }) :
    ∀ (k i : Nat) (h : Heap) (tk c : Nat) (acc : Array Value) (as : List Addr), n - i = k → i ≤ n → ZSt z TI TO i1 i2 L St1 St2 i h → (∀ b o, b ≠ L → b ≠ z → b ≠ TO → b ≠ i1 → b ≠ i2 → h₁.get? b = some o → h.get? b = some o) →
      h.get? L = some { cls := .type "list", dict := none, data := .seq acc c, slots := #[] } → acc.toList = as.map Value.ref → as.length = i → ZG P1 P2 lo h as → lo < h.objs.size →
      codeAny (model prog w) A (.builtin "list.extend.loop" ⟨[.ref L, .ref z, res], []⟩) R { s with heap := h, toks := tk } := by
  have a1 : L ≠ z := fun q => hL (by simp [q])
  have a2 : L ≠ TO := fun q => hL (by simp [q])
  have a3 : L ≠ i1 := fun q => hf1 (q ▸ S.mem1)
  have a4 : L ≠ i2 := fun q => hf2 (q ▸ S.mem2)
  have far : ∀ b, lo < b → b ≠ L ∧ b ≠ z ∧ b ≠ TO ∧ b ≠ i1 ∧ b ≠ i2 := fun b hb => by
    obtain ⟨q1, q2, q3, q4, q5⟩ := hlo
    exact ⟨Nat.ne_of_gt (Nat.lt_of_le_of_lt q1 hb), Nat.ne_of_gt (Nat.lt_of_le_of_lt q2 hb), Nat.ne_of_gt (Nat.lt_of_le_of_lt q3 hb), Nat.ne_of_gt (Nat.lt_of_le_of_lt q4 hb), Nat.ne_of_gt (Nat.lt_of_le_of_lt q5 hb)⟩
  intro k
  induction k with
  | zero =>
    intro i h tk c acc as hk hi hst hkeep hS hacc hal hG hIs
    refine codeAny_builtin PySem.F.entry_extend_loop ?_
    rw [Around.under_plainId PySem.F.plain_extend_loop _]
    show wpAny _ A.in1 (pyNext (.ref z) >>= _) _ _ _
    refine wpAny_bind (zst_end (s := { s with heap := h, toks := tk }) (A := A.in1) S D1 D2 hst (by omega) (by omega) (by omega) fun h' tk' he => ?_)
    refine wpAny_pure (fin h' tk' acc c as (fun b o h1 h2 h3 h4 h5 e => he b o h2 h3 h4 h5 (hkeep b o h1 h2 h3 h4 h5 e)) (he L _ a1 a2 a3 a4 hS) (by omega) ⟨hG.rise, hG.above, fun j a hj => ?_⟩ hacc)
    obtain ⟨x1, x2, e1, e2, e3⟩ := hG.pairs j a hj
    obtain ⟨_, f1, f2, f3, f4⟩ := far a (hG.above a (List.mem_of_getElem? hj))
    exact ⟨x1, x2, e1, e2, he a _ f1 f2 f3 f4 e3⟩
  | succ k ih =>
    intro i h tk c acc as hk hi hst hkeep hS hacc hal hG hIs
    have hlt : i < n := by omega
    have hsz : acc.size = i := by rw [← Array.length_toList, hacc, List.length_map, hal]
    have hSl : L < h.objs.size := Heap.lt_size hS
    refine codeAny_builtin PySem.F.entry_extend_loop ?_
    rw [Around.under_plainId PySem.F.plain_extend_loop _]
    show wpAny _ A.in1 (pyNext (.ref z) >>= _) _ _ _
    refine wpAny_bind (zst_item (s := { s with heap := h, toks := tk }) (L := L) S D1 D2 hSl hst (by omega) (by omega) fun x1 x2 h' tk' p1 p2 hst' ht hz hkp => ?_)
    dsimp only at ht hz hkp ⊢
    have hS' := hkp L _ a1 a2 a3 a4 hS
    have up : ∀ b o, b ≠ L → h'.get? b = some o → (h'.update L (Obj.mapSeq (·.push (Value.ref h.objs.size)))).get? b = some o := fun b o hb e => (Heap.get?_update_other _ _ (Ne.symm hb)).trans e
    show wpAny _ A.in1 (updateSeq L (·.push (Value.ref h.objs.size)) >>= _) _ _ _
    refine wpAny_bind ?_
    refine wpAny_updateSeq hS' rfl (wpAny_pure ⟨plainId_quiet PySem.F.plain_extend_loop _, ih (i + 1) _ tk' _ (acc.push (Value.ref h.objs.size)) (as ++ [h.objs.size]) (by omega) hlt (hst'.keep S D1 D2 hL hf1 hf2 up)
      (fun b o h1 h2 h3 h4 h5 e => up b o h1 (hkp b o h2 h3 h4 h5 (hkeep b o h1 h2 h3 h4 h5 e))) (Heap.get?_update_self _ hS' rfl) (by rw [Array.toList_push, hacc, List.map_append]; rfl) (by rw [List.length_append, hal]; rfl) ⟨?_, ?_, ?_⟩ ?_⟩) (by rw [hsz]; omega) (by show (acc.push (Value.ref h.objs.size)).size ≤ sizeLine + 1; rw [Array.size_push, hsz]; omega)
    · refine List.pairwise_append.mpr ⟨hG.rise, List.pairwise_singleton _ _, fun a ha b hb => ?_⟩
      rw [List.mem_singleton.mp hb]
      exact hG.there ha
    · intro a ha
      rcases List.mem_append.mp ha with ha | ha
      · exact hG.above a ha
      · rw [List.mem_singleton.mp ha]; exact hIs
    · intro j b hj
      rcases Nat.lt_trichotomy j as.length with h1 | h1 | h1
      · rw [List.getElem?_append_left h1] at hj
        obtain ⟨y1, y2, e1, e2, e3⟩ := hG.pairs j b hj
        obtain ⟨f0, f1, f2, f3, f4⟩ := far b (hG.above b (List.mem_of_getElem? hj))
        exact ⟨y1, y2, e1, e2, up b _ f0 (hkp b _ f1 f2 f3 f4 e3)⟩
      · subst h1
        have hb : h.objs.size = b := by simpa using hj
        subst hb
        exact ⟨x1, x2, by rw [hal]; exact p1, by rw [hal]; exact p2, up _ _ (Nat.ne_of_gt hSl) ht⟩
      · have none : (as ++ [h.objs.size])[j]? = none := List.getElem?_eq_none (by rw [List.length_append, List.length_singleton]; omega)
        rw [none] at hj; cases hj
    · have e : (h'.update L (Obj.mapSeq (·.push (Value.ref h.objs.size)))).get? h.objs.size = _ := up _ _ (Nat.ne_of_gt hSl) ht
      exact Nat.lt_trans hIs (Heap.lt_size e)
end
theorem nolen_zip : typeLookup (.type "zip") "__len__" = pure none := by rw [typeLookup_type, builtinLookup_eq_fast]; kernel_rfl
theorem nohint_zip : typeLookup (.type "zip") "__length_hint__" = pure none := by rw [typeLookup_type, builtinLookup_eq_fast]; kernel_rfl
section
variable {prog : Program} {w : World} {A : Around} {E : Value → Shared → Prop} {s : Shared} {z TI TO i1 i2 : Addr} {fp1 fp2 : List Addr} {n1 n2 : Nat} {P1 P2 : Nat → Value → Prop} {St1 St2 : Nat → Heap → Prop} {a1 a2 : Value}
theorem zip_listed {Q : Value → Shared → Prop} (hh : A.handled = none) (S : ZipSep2 z TI TO i1 i2 fp1 fp2) (D1 : ∀ A' : Around, A'.handled = none → Draws prog w A' i1 fp1 n1 P1 St1) (D2 : ∀ A' : Around, A'.handled = none → Draws prog w A' i2 fp2 n2 P2 St2)
    (hz : IsZip s.heap z TI TO .none) (hTI : IsTupOf2 s.heap TI (.ref i1) (.ref i2)) (hTO : IsTupOf2 s.heap TO a1 a2) (st1 : St1 0 s.heap) (st2 : St2 0 s.heap) (hf1 : ∀ b ∈ fp1, b < s.heap.objs.size) (hf2 : ∀ b ∈ fp2, b < s.heap.objs.size) (hn : min n1 n2 ≤ sizeLine)
    (fin : ∀ h' tk acc c as, (∀ b o, b ≠ z → b ≠ TO → b ≠ i1 → b ≠ i2 → s.heap.get? b = some o → h'.get? b = some o) → h'.get? s.heap.objs.size = some { cls := .type "list", dict := none, data := .seq acc c, slots := #[] } → as.length = min n1 n2 → ZG P1 P2 s.heap.objs.size h' as →
      acc.toList = as.map Value.ref → Q (.ref s.heap.objs.size) { s with heap := h', toks := tk }) :
    wpAny (model prog w) A (call (.type "list") [.ref z]) Q E s := by
  have lz : z < s.heap.objs.size := Heap.lt_size hz
  have lT : TI < s.heap.objs.size := Heap.lt_size hTI
  have lO : TO < s.heap.objs.size := Heap.lt_size hTO
  have l1 : i1 < s.heap.objs.size := hf1 _ S.mem1
  have l2 : i2 < s.heap.objs.size := hf2 _ S.mem2
  have hLz : s.heap.objs.size ≠ z := Nat.ne_of_gt lz
  have hL : s.heap.objs.size ∉ [z, TI, TO] := by
    simp only [List.mem_cons, List.not_mem_nil, or_false, not_or]
    exact ⟨hLz, Nat.ne_of_gt lT, Nat.ne_of_gt lO⟩
  have g1 : s.heap.objs.size ∉ fp1 := fun q => Nat.lt_irrefl _ (hf1 _ q)
  have g2 : s.heap.objs.size ∉ fp2 := fun q => Nat.lt_irrefl _ (hf2 _ q)
  refine callType_codes (Q₁ := fun u s₁ => u = .ref s.heap.objs.size ∧ s₁ = { s with heap := s.heap.push { cls := .type "list", data := .seq #[] } }) PySem.F.called_list (PySem.F.typeCall_list_1 _) PySem.F.entry_list_init
    (code_list_new _ ⟨rfl, rfl⟩) fun u s₁ h₁ => ?_
  obtain ⟨rfl, rfl⟩ := h₁
  have k0 : ∀ b o, b ≠ s.heap.objs.size → s.heap.get? b = some o → (s.heap.push { cls := .type "list", data := .seq #[] }).get? b = some o := fun b o _ e => Heap.get?_push_of_some _ e
  have hS : (s.heap.push { cls := .type "list", data := .seq #[] }).get? s.heap.objs.size = some { cls := .type "list", data := .seq #[] } := Heap.get?_push_size _ rfl
  have z0 : ZSt z TI TO i1 i2 s.heap.objs.size St1 St2 0 s.heap := ⟨hTI, st1, st2, .inl ⟨rfl, hz, a1, a2, hTO⟩⟩
  have zk : ∀ h' : Heap, (∀ b o, b ≠ s.heap.objs.size → s.heap.get? b = some o → h'.get? b = some o) → ZSt z TI TO i1 i2 s.heap.objs.size St1 St2 0 h' := fun h' kp => z0.keep S (D1 A hh) (D2 A hh) hL g1 g2 kp
  have ty : ∀ (h' : Heap) (tk : Nat), (∀ b o, b ≠ s.heap.objs.size → s.heap.get? b = some o → h'.get? b = some o) → Shared.TypeIs { s with heap := h', toks := tk } (.ref z) "zip" := fun h' tk kp => ⟨_, kp _ _ (Ne.symm hLz) hz, rfl⟩
  have zp : ∀ h' : Heap, (∀ b o, b ≠ s.heap.objs.size → s.heap.get? b = some o → h'.get? b = some o) → IsZip h' z TI TO .none := fun h' kp => kp _ _ (Ne.symm hLz) hz
  refine ⟨⟨_, hS, rfl⟩, PySem.F.args_list_init_2 _ _, ?_⟩
  show wpAny _ _ (do let old ← Builtin.List.listItems (.ref s.heap.objs.size); Builtin.List.listUpdate (.ref s.heap.objs.size) (fun _ => #[]); letGo old.toList.reverse; Builtin.List.listExtendWith (.ref s.heap.objs.size) (.ref z) .none) _ _ _
  refine wpAny_bind ?_
  unfold Builtin.List.listItems
  refine wpAny_bind (wpAny_seqItems hS rfl (wpAny_pure ?_))
  show wpAny _ _ (updateSeq s.heap.objs.size (fun _ => #[]) >>= fun _ => letGo (#[] : Array Value).toList.reverse >>= fun _ => Builtin.List.listExtendWith (.ref s.heap.objs.size) (.ref z) .none) _ _ _
  refine wpAny_bind (wpAny_updateSeq hS rfl ?_)
  have hS₂ := Heap.get?_update_self (Obj.mapSeq (fun _ => (#[] : Array Value))) hS rfl
  have k1 : ∀ b o, b ≠ s.heap.objs.size → s.heap.get? b = some o → ((s.heap.push { cls := .type "list", data := .seq #[] }).update s.heap.objs.size (Obj.mapSeq (fun _ => (#[] : Array Value)))).get? b = some o := fun b o hb e => (Heap.get?_update_other _ _ (Ne.symm hb)).trans (k0 b o hb e)
  refine wpAny_bind (wpAny_letGo ?_)
  generalize hh1 : (s.heap.push { cls := .type "list", data := .seq #[] }).update s.heap.objs.size (Obj.mapSeq (fun _ => (#[] : Array Value))) = G1 at hS₂ k1 ⊢
  unfold Builtin.List.listExtendWith
  refine wpAny_bind (wpAny_typeOf (ty G1 s.toks k1) ?_)
  have e1 : Builtin.List.listSameRef (.ref s.heap.objs.size) (.ref z) = false := by simp [Builtin.List.listSameRef, hLz]
  have e2 : (Value.type "zip" == Value.type "list") = false := by decide
  have e3 : (Value.type "zip" == Value.type "tuple") = false := by decide
  simp only [e1, e2, e3, Bool.or_false, Bool.false_eq_true, if_false]
  refine wpAny_bind (wpAny_pyIter_zip (s := { s with heap := G1 }) (zp G1 k1) ?_)
  refine wpAny_bind (wpAny_holding ?_)
  unfold Builtin.List.listLengthHint
  refine wpAny_bind (wpAny_specialOf (ty G1 s.toks k1) nolen_zip ?_)
  show wpAny _ _ (specialOf (Value.ref z) (Str.ofString "__length_hint__") >>= _) _ _ _
  refine wpAny_bind (wpAny_specialOf (ty G1 s.toks k1) nohint_zip ?_)
  refine wpAny_pure ?_
  show wpAny _ _ (rule "list.extend.makes-room" >>= fun _ => Builtin.List.listTouch (.ref s.heap.objs.size) >>= fun _ =>
    again (.builtin "list.extend.loop" ⟨[.ref s.heap.objs.size, .ref z, .none], []⟩)) _ _ _
  refine wpAny_bind (wpAny_rule ?_)
  refine wpAny_bind ?_
  show wpAny _ _ (updateSeq s.heap.objs.size (·.push .none) >>= fun _ => updateSeq s.heap.objs.size (·.pop)) _ _ _
  refine wpAny_bind (wpAny_updateSeq hS₂ rfl ?_)
  have hS₃ := Heap.get?_update_self (Obj.mapSeq (·.push Value.none)) hS₂ rfl
  refine wpAny_updateSeq (hz := by seq_fits) hS₃ rfl ?_
  have hS₄ := Heap.get?_update_self (Obj.mapSeq (·.pop)) hS₃ rfl
  have k2 : ∀ b o, b ≠ s.heap.objs.size → s.heap.get? b = some o → ((G1.update s.heap.objs.size (Obj.mapSeq (·.push Value.none))).update s.heap.objs.size (Obj.mapSeq (·.pop))).get? b = some o := fun b o hb e =>
    (Heap.get?_update_other _ _ (Ne.symm hb)).trans ((Heap.get?_update_other _ _ (Ne.symm hb)).trans (k1 b o hb e))
  refine wpAny_pure ⟨plainId_quiet PySem.F.plain_extend_loop _, ?_⟩
  refine zip_loop (A := A.in1) (s := s) (h₁ := s.heap) (R := wants (fun r s₂ => r = Value.none ∧ Q (Value.ref s.heap.objs.size) s₂) E) S (D1 A.in1.in1.in1 hh) (D2 A.in1.in1.in1 hh) hL g1 g2 (min n1 n2) rfl hn s.heap.objs.size ⟨Nat.le_refl _, Nat.le_of_lt lz, Nat.le_of_lt lO, Nat.le_of_lt l1, Nat.le_of_lt l2⟩ .none
    (fun h' tk acc c as kp hS' hl hG hacc => ?_) (min n1 n2) 0 _ s.toks _ #[] [] (Nat.sub_zero _) (Nat.zero_le _) (zk _ k2) (fun b o hb _ _ _ _ e => k2 b o hb e) hS₄ rfl rfl
    ⟨List.Pairwise.nil, (fun _ ha => nomatch ha), (fun j a hj => by simp at hj)⟩ (Heap.lt_size hS₄)
  exact ⟨rfl, fin h' tk acc c as (fun b o q1 q2 q3 q4 e => kp b o (Nat.ne_of_lt (Heap.lt_size e)) q1 q2 q3 q4 e) hS' hl hG hacc⟩
end
end Few
set_option Elab.async false
set_option linter.all false
set_option maxRecDepth 100000
set_option maxHeartbeats 4000000
namespace Few
open PySem PySem.Spec PyProof.Rows L2
/-- the tuples laid at their addresses -/
def layP : Hp → List Addr → List (V × V) → Hp
  | H, a :: as, p :: ps => layP (upd H a (.tup [p.1, p.2])) as ps
  | H, _, _ => H
theorem layP_off {b : Addr} : ∀ (as : List Addr) (ps : List (V × V)) (H : Hp), b ∉ as → layP H as ps b = H b
  | [], _, _, _ => rfl
  | _ :: _, [], _, _ => rfl
  | a :: as, p :: ps, H, h => by
    have h2 : b ≠ a := fun z => h (by rw [z]; exact List.mem_cons_self)
    exact (layP_off as ps _ fun z => h (List.mem_cons_of_mem _ z)).trans (upd_ne h2)
theorem layP_at : ∀ (as : List Addr) (ps : List (V × V)) (H : Hp) (j : Nat) (a : Addr) (p : V × V), as.Nodup → as[j]? = some a → ps[j]? = some p → layP H as ps a = some (.tup [p.1, p.2])
  | [], _, _, j, a, p, _, h, _ => by simp at h
  | _ :: _, [], _, j, a, p, _, _, h => by simp at h
  | b :: as, r :: ps, H, 0, a, p, nd, h1, h2 => by
    simp only [List.getElem?_cons_zero, Option.some.injEq] at h1 h2
    subst h1; subst h2
    exact (layP_off as ps _ (List.nodup_cons.mp nd).1).trans upd_same
  | b :: as, r :: ps, H, j + 1, a, p, nd, h1, h2 => layP_at as ps _ j a p (List.nodup_cons.mp nd).2 (by simpa using h1) (by simpa using h2)
def SqA (K : PySem.W.Frag) (H : Hp) (a : Addr) (xs : List V) : Prop := SqL K H a xs ∨ SqT K H a xs
def rLsz (K : PySem.W.Frag) (x y : V) (H : Hp) (Q : VK) : Prop := ∃ (a b : Addr) (xs ys : List V), x = .ref a ∧ y = .ref b ∧ SqA K H a xs ∧ SqA K H b ys ∧
  ∀ (H' : Hp) (p : Addr) (ts : List Addr), (∀ c o, H c = some o → H' c = some o) → H p = none → H' p = some (.lst (ts.map V.ref)) → ts.length = (xs.zip ys).length → (∀ (j : Nat) (t : Addr) (q : V × V), ts[j]? = some t → (xs.zip ys)[j]? = some q → H' t = some (.tup [q.1, q.2])) → Q (.ref p) H'
/-- what is walked, however it is held -/
theorem seqA {X : Cx} {pins : List (Addr × Obj)} {σ : L2.St} {H : Hp} {s : Shared} {a : Addr} {xs : List V} (I : Inv X pins σ H s) (h : SqA X.K H a xs) :
    ∃ (its : List Value) (o : Obj) (Hh : Heap → Prop), Vals xs its ∧ xs.length ≤ sizeLine ∧ a < s.heap.objs.size ∧ Begins (.ref a) o Hh ∧ Hh s.heap ∧
      ∀ (it : Addr), a ≠ it → ∃ (St : Nat → Heap → Prop), (∀ h', h'.get? it = some o → Hh h' → St 0 h') ∧ ∀ A' : Around, A'.handled = none → Draws X.prog X.w A' it [it, a] its.length (fun i v => its[i]? = some v) St := by
  rcases h with h | h
  · obtain ⟨its, rv, p, hz⟩ := I.list h
    refine ⟨its, _, _, rv, hz, p.lt, begins_list a its.toArray, p.isList, fun it ne => ⟨fun i h => h.IsListIter it a i ∧ h.IsList a its.toArray, fun h' e q => ⟨⟨_, e, rfl, rfl⟩, q⟩, fun A' hh => ?_⟩⟩
    have := Draws.list (prog := X.prog) (w := X.w) hh it a ne its.toArray
    simpa using this
  · obtain ⟨its, rv, p, hz⟩ := I.tuple h
    have lt : a < s.heap.objs.size := by obtain ⟨_, z, _⟩ := id p; exact Heap.lt_size z
    refine ⟨its, _, _, rv, hz, lt, begins_tuple a its.toArray, p, fun it ne => ⟨fun i h => h.IsTupleIter it a i ∧ h.IsTuple a its.toArray, fun h' e q => ⟨⟨_, e, rfl, rfl⟩, q⟩, fun A' hh => ?_⟩⟩
    have := Draws.tuple (prog := X.prog) (w := X.w) hh it a ne its.toArray
    simpa using this
theorem lsz_laid {X : Cx} {pins : List (Addr × Obj)} {σ : L2.St} {H : Hp} {s : Shared} {h' : Heap} {tk : Nat} {xs ys : List V} {its its2 : List Value} {acc : Array Value} {c : Nat} {as : List Addr} {S : Addr} (I : Inv X pins σ H s) (r1 : Vals xs its) (r2 : Vals ys its2) (hz : xs.length ≤ sizeLine)
    (hk : ∀ b o, s.heap.get? b = some o → h'.get? b = some o) (hSs : s.heap.objs.size ≤ S) (hS : h'.get? S = some { cls := .type "list", dict := none, data := .seq acc c, slots := #[] }) (hl : as.length = min its.length its2.length)
    (hG : ZG (fun i v => its[i]? = some v) (fun i v => its2[i]? = some v) S h' as) (hacc : acc.toList = as.map Value.ref) :
    ∃ H' : Hp, (∀ b o, H b = some o → H' b = some o) ∧ H S = none ∧ H' S = some (.lst (as.map V.ref)) ∧ as.length = (xs.zip ys).length ∧ (∀ (j : Nat) (t : Addr) (q : V × V), as[j]? = some t → (xs.zip ys)[j]? = some q → H' t = some (.tup [q.1, q.2])) ∧ Inv X pins σ H' { s with heap := h', toks := tk } := by
  have lx := r1.length
  have ly := r2.length
  have hlen : as.length = (xs.zip ys).length := by rw [List.length_zip, lx, ly]; exact hl
  have hSn : S ∉ as := fun z => Nat.lt_irrefl _ (hG.above _ z)
  have nd : as.Nodup := List.Pairwise.imp (fun {a b} (h : a < b) => Nat.ne_of_lt h) hG.rise
  have new : ∀ t ∈ as, H t = none := fun t ht => I.hok.fresh (Nat.le_of_lt (Nat.lt_of_le_of_lt hSs (hG.above t ht)))
  have newS : H S = none := I.hok.fresh hSs
  have off : ∀ b, b ∉ as → b ≠ S → layP (upd H S (.lst (as.map V.ref))) as (xs.zip ys) b = H b := fun b h1 h2 => by rw [layP_off as _ _ h1, upd_ne h2]
  have low : ∀ b o, s.heap.get? b = some o → b ∉ as ∧ b ≠ S := fun b o e => ⟨fun z => absurd (Heap.lt_size e) (Nat.not_lt.mpr (Nat.le_of_lt (Nat.lt_of_le_of_lt hSs (hG.above b z)))), Nat.ne_of_lt (Nat.lt_of_lt_of_le (Heap.lt_size e) hSs)⟩
  have kp : ∀ b u, H b = some u → (layP (upd H S (.lst (as.map V.ref))) as (xs.zip ys)) b = some u := fun b u e => by
    rw [off b (fun z => by rw [new b z] at e; cases e) (fun z => by rw [z, newS] at e; cases e)]
    exact e
  have eS : layP (upd H S (.lst (as.map V.ref))) as (xs.zip ys) S = some (.lst (as.map V.ref)) := by rw [layP_off as _ _ hSn, upd_same]
  refine ⟨layP (upd H S (.lst (as.map V.ref))) as (xs.zip ys), kp, newS, eS, hlen, fun j t q e1 e2 => layP_at as _ _ j t q nd e1 e2, ?_⟩
  refine I.call' (ch := []) rfl ⟨fun b o q _ _ _ => hk b o q, fun b o q _ _ _ => ⟨o.slots, hk b o q⟩, fun b o q n _ => ?_, fun b o q _ => ⟨o, hk b o q⟩, fun b xs q => kp b _ q, fun b o u q => kp b _ q, fun b ps q => ⟨#[], by rw [kp b _ q]; simp⟩⟩ (fun b u q => ?_) I.bare fun b z => by simp at z
  · obtain ⟨z1, z2⟩ := low b o q
    rw [off b z1 z2]
    exact n
  · by_cases hb : b ∈ as
    · obtain ⟨j, ej⟩ := List.mem_iff_getElem?.mp hb
      have hj : j < (xs.zip ys).length := by rw [← hlen]; exact (List.getElem?_eq_some_iff.mp ej).1
      have e2 : (xs.zip ys)[j]? = some (xs.zip ys)[j] := List.getElem?_eq_getElem hj
      rw [layP_at as _ _ j b _ nd ej e2] at q
      cases q
      obtain ⟨x1, x2, f1, f2, f3⟩ := hG.pairs j b ej
      have gz := List.getElem?_zip_eq_some.mp e2
      obtain ⟨u1, g1, q1⟩ := r1.get gz.1
      obtain ⟨u2, g2, q2⟩ := r2.get gz.2
      rw [f1] at g1; cases g1
      rw [f2] at g2; cases g2
      exact ⟨by show 2 ≤ sizeLine; decide, [x1, x2], .cons q1 (.cons q2 .nil), ⟨_, f3, rfl, _, rfl⟩⟩
    · by_cases hb2 : b = S
      · rw [hb2] at q ⊢
        rw [eS] at q
        cases q
        refine ⟨by rw [List.length_map, hlen, List.length_zip]; omega, acc.toList, c, by rw [hacc]; exact LiI.vals_refs as, ?_⟩
        rw [Array.toArray_toList]
        exact hS
      · rw [off b hb hb2] at q
        exact (I.hok b u q).stay (fun d v _ y => hk d v y) (fun d y => kp d _ y) fun d xs y => kp d _ y
theorem pe_lsz {X : Cx} {e e2 : Expr} {t1 t2 : TE} {p p2 cpos pos : Pos} (hc : X.calm = true) (hg : Gl X "list") (hm : X.mg "list" = none) (hg2 : Gl X "zip") (hm2 : X.mg "zip" = none) (ha : PA X [e, e2] (tCons t1 (tCons t2 tNil)))
    (hs : starEach [e, e2] X.env = (false, eval e X.env) :: starEach [e2] X.env) (hpl : (backTo cpos (starEach [e2] X.env)).any (·.1) = false)
    (hs2 : starEach [.Call (.Name "zip" p2) [e, e2] [] cpos] X.env = (false, eval (.Call (.Name "zip" p2) [e, e2] [] cpos) X.env) :: starEach [] X.env) (hpl2 : (backTo pos (starEach [] X.env)).any (·.1) = false) :
    PE X (.Call (.Name "list" p) [.Call (.Name "zip" p2) [e, e2] [] cpos] [] pos) (fun σ H Q => t1 σ H fun x H1 => t2 σ H1 fun y H2 => ∃ x' y', [x, y] = [x', y'] ∧ rLsz X.K x' y' H2 Q) := by
  refine ⟨fun pins s σ H Q I hq => ?_⟩
  refine wpAny_Call_Name_kw (ld_blt I hg hm boot_list ?_)
  refine PyProof.Rows.callWith_type1 ?_ hs2 hpl2
  rw [hs2]
  show wpAny _ _ (spliced ((false, eval (.Call (.Name "zip" p2) [e, e2] [] cpos) X.env) :: backTo pos (starEach [] X.env))) _ _ s
  refine Calls.spliced_cons ?_
  refine wpAny_Call_Name_kw (ld_blt I hg2 hm2 PyProof.Rows.boot_zip ?_)
  refine PyProof.Rows.callWith_type1 (thn (ha.run cpos pins s σ H (fun vs H2 => ∃ x y, vs = [x, y] ∧ rLsz X.K x y H2 Q) I hq) fun us s1 ⟨vs, H1, I1, rv, x, y, ex, a, b, xs, ys, ex1, ex2, hqx, hqy, q⟩ => ?_) hs hpl
  · subst ex ex1 ex2
    cases rv with
    | cons r rr =>
      cases rr with
      | cons r' rr =>
        cases rr
        cases r
        cases r'
        obtain ⟨its, o1, Hh1, rv1, hzl, la, B1, h1, g1⟩ := seqA I1 hqx
        obtain ⟨its2, o2, Hh2, rv2, _, lb, B2, h2, g2⟩ := seqA I1 hqy
        refine zip_begins2 B1 B2 h1 h2 fun h' hz hTI hTO e1 e2 hsz hk => ?_
        refine Calls.spliced_nil ?_
        obtain ⟨St1, st1, D1⟩ := g1 s1.heap.objs.size (Nat.ne_of_lt la)
        obtain ⟨St2, st2, D2⟩ := g2 (s1.heap.objs.size + 1) (Nat.ne_of_lt (Nat.lt_succ_of_lt lb))
        have S := zip_sep2 (N := s1.heap.objs.size) (fp1 := [a]) (fp2 := [b]) (fun c hc => by rw [List.mem_singleton.mp hc]; exact la) (fun c hc => by rw [List.mem_singleton.mp hc]; exact lb)
        have lx := rv1.length
        refine zip_listed (s := { s1 with heap := h' }) (I1.ok.hd hc) S D1 D2 hz hTI hTO (st1 h' e1 (B1.keeps _ _ h1 hk)) (st2 h' e2 (B2.keeps _ _ h2 hk)) (fun c hcm => ?_) (fun c hcm => ?_) (by omega) fun h'' tk acc c as kp hS hl hG hacc => ?_
        · show c < h'.objs.size
          rw [hsz]
          rcases List.mem_cons.mp hcm with z | z
          · rw [z]; exact Nat.lt_add_of_pos_right (by omega)
          · rw [List.mem_singleton.mp z]; exact Nat.lt_of_lt_of_le la (Nat.le_add_right _ _)
        · show c < h'.objs.size
          rw [hsz]
          rcases List.mem_cons.mp hcm with z | z
          · rw [z]; exact Nat.add_lt_add_left (by omega) _
          · rw [List.mem_singleton.mp z]; exact Nat.lt_of_lt_of_le lb (Nat.le_add_right _ _)
        · have kp' : ∀ b o, s1.heap.get? b = some o → h''.get? b = some o := fun b o e => by
            have lt := Heap.lt_size e
            refine kp b o ?_ ?_ ?_ ?_ (hk b o e)
            · exact Nat.ne_of_lt (Nat.lt_of_lt_of_le lt (Nat.le_add_right _ _))
            · exact Nat.ne_of_lt (Nat.lt_of_lt_of_le lt (Nat.le_add_right _ _))
            · exact Nat.ne_of_lt lt
            · exact Nat.ne_of_lt (Nat.lt_succ_of_lt lt)
          obtain ⟨H', k1, k2, k3, k4, k5, J⟩ := lsz_laid (tk := tk) (S := h'.objs.size) I1 rv1 rv2 hzl kp' (by rw [hsz]; exact Nat.le_add_right _ _) hS hl hG hacc
          exact ⟨.ref _, H', J, rfl, q H' _ as k1 k2 k3 k4 k5⟩
/-- more stands, nothing else is changed -/
theorem Mat.ext {K : PySem.W.Frag} {H0 H H' : Hp} {ρ0 ρ : List Addr} {σe : ES} {ih : IH} {σ : L2.St} (m : Mat K H0 ρ0 ρ σe ih σ H) (k : ∀ c o, H c = some o → H' c = some o) : Mat K H0 ρ0 ρ σe ih σ H' := by
  have ps : Pers H H' := ⟨fun a xs e => k _ _ e, fun a o u e => k _ _ e⟩
  exact ⟨m.len, fun i s e => (m.slot i s e).keep ps (.refl _) fun a u _ _ h => k _ _ h, m.own, m.sep, ⟨m.cells.len, m.cells.nd, fun n c a e1 e2 => (m.cells.cell n c a e1 e2).keep ps (.refl _) fun u h => k _ _ h⟩,
    ⟨m.kept.ahead, fun a u e h => ⟨(m.kept.keep a u e h).1, k _ _ (m.kept.keep a u e h).2⟩⟩⟩
theorem zip_reps {K : PySem.W.Frag} {ρ : List Addr} {H H' : Hp} (k : Pers H H') : ∀ {ds es : List D} {xs ys : List V} {ts : List Addr}, Reps K ρ H ds xs → Reps K ρ H es ys → ts.length = (xs.zip ys).length →
    (∀ (j : Nat) (t : Addr) (q : V × V), ts[j]? = some t → (xs.zip ys)[j]? = some q → H' t = some (.tup [q.1, q.2])) → Reps K ρ H' (zipD ds es) (ts.map V.ref)
  | _, _, _, _, ts, .nil, r2, hl, _ => by
    have : ts = [] := List.eq_nil_of_length_eq_zero (by simpa using hl)
    subst this
    cases r2 <;> exact .nil
  | _, _, _, _, ts, .cons h1 r1, .nil, hl, _ => by
    have : ts = [] := List.eq_nil_of_length_eq_zero (by simpa using hl)
    subst this
    exact .nil
  | _, _, _, _, [], .cons h1 r1, .cons h2 r2, hl, _ => by simp at hl
  | _, _, _, _, t :: ts, .cons h1 r1, .cons h2 r2, hl, hp => by
    refine .cons ?_ (zip_reps k r1 r2 (by simpa using hl) fun j u q e1 e2 => hp (j + 1) u q (by simpa using e1) (by simpa using e2))
    exact .tup (.inl (.inl (hp 0 t _ rfl rfl))) (.cons (h1.keep k (.refl _)) (.cons (h2.keep k (.refl _)) .nil))
section
variable {G : Gd} {k : Nat} {N : List PySem.Str} {sc : Scope} {W : WX} {X : Cx} {c : Call}
theorem lsz_seq {K : PySem.W.Frag} {ρ : List Addr} {H : Hp} {d : D} {x : V} {ds : List D} (r : Rep K ρ H d x) (h : d = .lst ds ∨ d = .tup ds) : ∃ a xs, x = .ref a ∧ SqA K H a xs ∧ Reps K ρ H ds xs := by
  rcases h with rfl | rfl
  · obtain ⟨a, xs, e, l, rr⟩ := (Val.rep r).list
    exact ⟨a, xs, e, .inl l, rr⟩
  · obtain ⟨a, xs, e, l, rr⟩ := (Val.rep r).tuple
    exact ⟨a, xs, e, .inr l, rr⟩
theorem r_lsz {a b : Ev} {e e2 : Expr} {p p2 cpos pos : Pos} (ok : Cok G k N sc W X) (hg : Gl X "list") (hm : G.mg "list" = none) (hg2 : Gl X "zip") (hm2 : G.mg "zip" = none) (ha : PE X e (rd G W (a c))) (hb : PE X e2 (rd G W (b c)))
    (hs : starEach [e, e2] X.env = (false, eval e X.env) :: starEach [e2] X.env) (hs1 : starEach [e2] X.env = (false, eval e2 X.env) :: starEach [] X.env) (hpl : (backTo cpos (starEach [e2] X.env)).any (·.1) = false)
    (hs2 : starEach [.Call (.Name "zip" p2) [e, e2] [] cpos] X.env = (false, eval (.Call (.Name "zip" p2) [e, e2] [] cpos) X.env) :: starEach [] X.env) (hpl2 : (backTo pos (starEach [] X.env)).any (·.1) = false) :
    PE X (.Call (.Name "list" p) [.Call (.Name "zip" p2) [e, e2] [] cpos] [] pos) (rd G W (dLsz (dBi2 .zip a b) c)) := by
  refine peTo (pe_lsz ok.calm hg (by rw [ok.eM]; exact hm) hg2 (by rw [ok.eM]; exact hm2) (pa_cons (settle ha) (pa_cons (settle hb) pa_nil hs1) hs) hs hpl hs2 hpl2) fun σ H Q q => ?_
  obtain ⟨H0, ρ0, ρ, σe, ih, m, q⟩ := q
  have q' : PostE G W (RlR G) H0 ρ0 ρ σ H Q (d2 a b (fun σ h x y => match b2 .zip σ h x y with
    | some (.ls ds) => bif fits ds then .ok σ h (.n (.lst ds)) else .st
    | _ => .st) c σe ih) := by
    unfold dLsz dBi2 d2 Out.bind at q
    unfold d2 Out.bind
    cases h1 : a c σe ih with
    | st => rw [h1] at q; exact q
    | ex σ' h' x => rw [h1] at q; exact q
    | ok σ1 h1' r1 =>
      simp only [h1] at q ⊢
      cases h2 : b c σ1 h1' with
      | st => simp only [h2] at q; exact q
      | ex σ' h' x => simp only [h2] at q; exact q
      | ok σ2 h2' r2 =>
        simp only [h2] at q ⊢
        cases h3 : b2 .zip σ2 h2' r1 r2 with
        | none => rw [h3] at q; exact q
        | some r =>
          rw [h3] at q
          cases r with
          | ls ds => exact q
          | _ => exact q.elim
  refine two' m q' fun x y H2 t => ?_
  obtain ⟨H0, ρ0, ρ2, σe2, ih2, r1, r2, m2, s1, s2, q⟩ := t
  rw [ok.eK]
  have fin : ∀ ds es : List D, ∀ d1 d2 : D, (d1 = .lst ds ∨ d1 = .tup ds) → (d2 = .lst es ∨ d2 = .tup es) → frozen r1 = some d1 → frozen r2 = some d2 → b2 .zip σe2 ih2 r1 r2 = some (.ls (zipD ds es)) → ∃ x' y', [x, y] = [x', y'] ∧ rLsz G.K x' y' H2 Q := fun ds es d1 d2 k1 k2 f1 f2 hb => by
    simp only [hb] at q
    cases hf : fits (zipD ds es) with
    | false => rw [hf] at q; exact q.elim
    | true =>
      rw [hf, cond_true] at q
      obtain ⟨a, xs, rfl, l1, rr1⟩ := lsz_seq (s1.frz f1) k1
      obtain ⟨b, ys, rfl, l2, rr2⟩ := lsz_seq (s2.frz f2) k2
      refine ⟨_, _, rfl, a, b, xs, ys, rfl, rfl, l1, l2, fun H' p ts kp np hp hl hq => ?_⟩
      have ps : Pers H2 H' := ⟨fun a xs e => kp _ _ e, fun a o u e => kp _ _ e⟩
      exact q ρ2 H' _ ps (.refl _) (m2.ext kp) ⟨p, _, rfl, hp, zip_reps ps rr1 rr2 hl hq, m2.lone np⟩
  cases hf : frozen r1 with
  | none => simp only [b2, hf] at q; exact q.elim
  | some d =>
    cases hf2 : frozen r2 with
    | none => simp only [b2, hf, hf2] at q; exact q.elim
    | some d2 =>
      cases d with
      | lst ds =>
        cases d2 with
        | lst es => exact fin ds es _ _ (.inl rfl) (.inl rfl) hf hf2 (by simp only [b2, hf, hf2])
        | tup es => exact fin ds es _ _ (.inl rfl) (.inr rfl) hf hf2 (by simp only [b2, hf, hf2])
        | _ => simp only [b2, hf, hf2] at q; exact q.elim
      | tup ds =>
        cases d2 with
        | tup es => exact fin ds es _ _ (.inr rfl) (.inr rfl) hf hf2 (by simp only [b2, hf, hf2])
        | _ => simp only [b2, hf, hf2] at q; exact q.elim
      | _ => simp only [b2, hf, hf2] at q; exact q.elim
end
end Few
set_option Elab.async false
set_option linter.all false
set_option maxRecDepth 100000
set_option maxHeartbeats 4000000
namespace Few
open PySem PySem.Spec PyProof.Rows L2
section
variable {G : Gd} {k : Nat} {N : List PySem.Str} {sc : Scope} {W : WX} {X : Cx} {c : Call}
/-- which names are stored from the right is told by the scope alone -/
theorem sw_env (ok : Cok G k N sc W X) {ts : List Expr} {v : Expr} : swappedStores ts v X.env = swappedStores ts v { X.env with scope := sc } := by
  have h := ok.eS
  generalize X.env = e at h ⊢
  cases e
  cases h
  rfl
/-- a target that is stored in a cell -/
theorem p_nmc {i : Nat} {x : PySem.Str} {pos : Pos} (ok : Cok G k N sc W X) (hfn : ∀ x, X.fn x = true) (hi : N[i]? = some x) (hx : Loc sc x) : PG X (.Name x pos) (gName i) :=
  pg_name (by rw [ok.eN]; exact ok.nd) (by rw [ok.eN]; exact hi) (by rw [ok.eS]; exact hx) (.inl (hfn x))
theorem sw1_env (ok : Cok G k N sc W X) {v : Expr} {t : Option Expr} {l : Nat} : swapsWith v t l X.env = swapsWith v t l { X.env with scope := sc } := by
  have h := ok.eS
  generalize X.env = e at h ⊢
  cases e
  cases h
  rfl
/-- an argument list, then what it leads to -/
theorem sA {xo : Option XD} {H0 H : Hp} {ρ0 ρ : List Addr} {σe : ES} {ih : IH} {σ : L2.St} {D : Ends} {cd : Cd} {kk : ES → IH → RV → OutS} {R : List V → Hp → Prop} (m : Mat G.K H0 ρ0 ρ σe ih σ H) (q : PostS G W H0 ρ0 ρ H D (fromE (cd σe ih) kk)) (hk : ∀ σ h r, (∀ ds, r ≠ .ls ds) → kk σ h r = .st)
    (f : ∀ vs H2 ρ2 σe2 ih2 ds, Pers H H2 → Ahead ρ ρ2 → Mat G.K H0 ρ0 ρ2 σe2 ih2 σ H2 → Reps G.K ρ2 H2 ds vs → PostS G W H0 ρ0 ρ2 H2 D (kk σe2 ih2 (.ls ds)) → R vs H2) : ra G W cd σ H R := by
  refine ⟨H0, ρ0, ρ, σe, ih, m, ?_⟩
  unfold fromE at q
  cases ha : cd σe ih with
  | st => rw [ha] at q; exact q
  | ex σ' h' x => rw [ha] at q; exact fun ρ' H' cls d => q ρ' H' σ cls d
  | ok σ1 h1 r1 =>
    rw [ha] at q
    dsimp only at q
    have no : (∀ ds, r1 ≠ .ls ds) → False := fun h => by rw [hk _ _ _ h] at q; exact q.elim
    cases r1 with
    | ls ds => exact fun ρ1 H1 x p1 a1 m1 s1 => f _ _ _ _ _ _ p1 a1 m1 s1 (PostS.weak p1 a1 q)
    | _ => exact (no (fun ds z => by cases z)).elim
/-- a, b, c = x, y, z: what is stored stays -/
theorem s_par3 {xo : Option XD} {a : Ev} {i j l : Nat} {x y z : PySem.Str} {ea eb ec : Expr} {px py pz pt pos pt2 : Pos} {kt k2 : Nat} (ok : Cok G k N sc W X) (hi : N[i]? = some x) (hj : N[j]? = some y) (hl : N[l]? = some z) (hij : i ≠ j) (hil : i ≠ l) (hjl : j ≠ l)
    (hx : sc.names.lookup x = some .local) (hy : sc.names.lookup y = some .local) (hz : sc.names.lookup z = some .local) (ha : PA X [ea, eb, ec] (ra G W (a c)))
    (hw : swappedStores [.Tuple [.Name x px, .Name y py, .Name z pz] kt pt] (.Tuple [ea, eb, ec] k2 pt2) X.env = pure (some [x, y, z])) (hsw : swapsWithSole [.Tuple [.Name x px, .Name y py, .Name z pz] kt pt] (.Tuple [ea, eb, ec] k2 pt2) pos.line X.env = pure false) :
    PS X (.Assign [.Tuple [.Name x px, .Name y py, .Name z pz] kt pt] (.Tuple [ea, eb, ec] k2 pt2) pos) (rS G W (sAsg (.cons (.nm i) (.cons (.nm j) (.cons (.nm l) .nil))) (dTup a) c xo)) := by
  refine psTo (ps_par3 (i := i) (j := j) (l := l) ok.calm (by rw [ok.eN]; exact ok.nd) (by rw [ok.eN]; exact hi) (by rw [ok.eN]; exact hj) (by rw [ok.eN]; exact hl) hij hil hjl (by rw [ok.eS]; exact hx) (by rw [ok.eS]; exact hy) (by rw [ok.eS]; exact hz) ha hw hsw) fun D σ H q => ?_
  obtain ⟨H0, ρ0, ρ, σe, ih, m, q⟩ := q
  have q' : PostS G W H0 ρ0 ρ H D (fromE (a c σe ih) fun σ h r => match r with
    | .ls ds => (match asgD (.cons (.nm i) (.cons (.nm j) (.cons (.nm l) .nil))) (.tup ds) σ with
      | some σ => .nx σ h
      | none => .st)
    | _ => .st) := by
    unfold sAsg fromE dTup Out.bind at q
    unfold fromE
    cases hc : a c σe ih with
    | st => simp only [hc] at q; exact q
    | ex σ' h' x => simp only [hc] at q; exact q
    | ok σ1 h1 r1 =>
      simp only [hc] at q
      cases r1 with
      | ls ds =>
        dsimp only at q ⊢
        cases hf : fits ds with
        | false => rw [hf] at q; exact q.elim
        | true =>
          rw [hf] at q
          exact q
      | _ => exact q.elim
  refine sA (xo := xo) m q' (fun σ h r hr => by cases r <;> first | rfl | exact absurd rfl (hr _)) fun vs H2 ρ2 σe2 ih2 ds p2 a2 m2 rr q => ?_
  match ds, vs, rr, q with
  | [d1, d2, d3], [v1, v2, v3], .cons r1 (.cons r2 (.cons r3 .nil)), q =>
    exact ⟨v1, v2, v3, rfl, q ρ2 H2 _ (.refl _) (.refl _) (((m2.putF r1).putF r2).putF r3)⟩
  | [], _, _, q => exact q.elim
  | [_], _, _, q => exact q.elim
  | [_, _], _, _, q => exact q.elim
  | _ :: _ :: _ :: _ :: _, _, _, q => exact q.elim
end
end Few
set_option Elab.async false
set_option linter.all false
set_option maxRecDepth 100000
set_option maxHeartbeats 4000000
namespace Few
open PySem PySem.Spec PyProof.Rows L2
section
variable {G : Gd} {k : Nat} {N : List PySem.Str} {sc : Scope} {W : WX} {X : Cx} {c : Call}
/-- a suite [text, isinstance(x, T) and not isinstance(x, C2)], x of the class C -/
theorem told_ok {C C2 : Addr} {bt : String} {i j1 : Nat} {s x y y2 : PySem.Str} {q1 q2 q3 q4 q5 q6 p1 p2 p3 p4 p5 p6 p7 : Pos} (ok : Cok G k N sc W X) (E : ExcC G.K C) (hi : N[i]? = some x) (hl : sc.names.lookup x = some .local) (hdx : (x == ("__debug__" : PySem.Str)) = false) (hcx : (x == ("__classdict__" : PySem.Str)) = false)
    (gi : sc.names.lookup ("isinstance" : PySem.Str) = some .globalImplicit) (mi : G.mg "isinstance" = none) (bi : bootBuiltins "isinstance" = some (.builtin "isinstance")) (gv : sc.names.lookup y = some .globalImplicit) (mv : G.mg y = none) (bv : bootBuiltins y = some (.type bt)) (nv : y ≠ "__name__") (dv : (y == ("__debug__" : PySem.Str)) = false)
    (g2 : sc.names.lookup y2 = some .globalImplicit) (m2 : G.mg y2 = some (.ref C2)) (d2 : (y2 == ("__debug__" : PySem.Str)) = false) (k1 : PySem.W.kitOne G.K (.ref C) (.type bt) = some true) (k2 : PySem.W.kitOne G.K (.ref C) (.ref C2) = some false)
    (s1 : starEach [.Name x q2, .Name y q3] X.env = (false, eval (.Name x q2) X.env) :: starEach [.Name y q3] X.env) (s2 : starEach [.Name y q3] X.env = (false, eval (.Name y q3) X.env) :: starEach [] X.env) (s3 : (backTo p1 (starEach [.Name y q3] X.env)).any (·.1) = false)
    (s4 : starEach [.Name x q5, .Name y2 q6] X.env = (false, eval (.Name x q5) X.env) :: starEach [.Name y2 q6] X.env) (s5 : starEach [.Name y2 q6] X.env = (false, eval (.Name y2 q6) X.env) :: starEach [] X.env) (s6 : (backTo p2 (starEach [.Name y2 q6] X.env)).any (·.1) = false)
    (s7 : starEach [.Constant (.str s) j1 p3, .BoolOp .And [.Call (.Name "isinstance" q1) [.Name x q2, .Name y q3] [] p1, .UnaryOp .Not (.Call (.Name "isinstance" q4) [.Name x q5, .Name y2 q6] [] p2) p4] p5] X.env
      = (false, eval (.Constant (.str s) j1 p3) X.env) :: starEach [.BoolOp .And [.Call (.Name "isinstance" q1) [.Name x q2, .Name y q3] [] p1, .UnaryOp .Not (.Call (.Name "isinstance" q4) [.Name x q5, .Name y2 q6] [] p2) p4] p5] X.env)
    (s8 : starEach [.BoolOp .And [.Call (.Name "isinstance" q1) [.Name x q2, .Name y q3] [] p1, .UnaryOp .Not (.Call (.Name "isinstance" q4) [.Name x q5, .Name y2 q6] [] p2) p4] p5] X.env
      = (false, eval (.BoolOp .And [.Call (.Name "isinstance" q1) [.Name x q2, .Name y q3] [] p1, .UnaryOp .Not (.Call (.Name "isinstance" q4) [.Name x q5, .Name y2 q6] [] p2) p4] p5) X.env) :: starEach [] X.env) :
    ∀ (a : Addr) (oe : Obj) (cls : Value) (d : Option Addr) (pn : List (Addr × Obj)), Zc cls d oe → (∃ vs, oe.data = .fields vs) →
      PSs (X.suite a ((a, oe) :: pn)) [.Return (some (.List [.Constant (.str s) j1 p3, .BoolOp .And [.Call (.Name "isinstance" q1) [.Name x q2, .Name y q3] [] p1, .UnaryOp .Not (.Call (.Name "isinstance" q4) [.Name x q5, .Name y2 q6] [] p2) p4] p5] p6)) p7] (tTold C i s true false a cls d) := by
  have hi' : X.N[i]? = some x := by rw [ok.eN]; exact hi
  have vis : Vis X.env.scope x := .inl (by rw [ok.eS]; exact hl)
  have E' : ExcC X.K C := by rw [ok.eK]; exact E
  have mi' : X.mg "isinstance" = none := by rw [ok.eM]; exact mi
  intro a oe cls d pn hz hf
  refine told_suite hz hf (fun a oe pn hz hf => ?_) (fun a oe pn hz hf => ?_) s7 s8
  · exact pe_isE (cv := .ty bt) (u := .type bt) E' hz hf hi' vis hdx hcx (gl ok gi) mi' bi (pe_bltn (X := X.suite a ((a, oe) :: pn)) (show X.env.scope.names.lookup y = some .globalImplicit from gl ok gv) (by show X.mg y = none; rw [ok.eM]; exact mv) bv rfl nv dv) (fun w h => h) (by rw [ok.eK]; exact k1) s1 s2 s3
  · exact pe_isE (cv := .ref C2) (u := .ref C2) E' hz hf hi' vis hdx hcx (gl ok gi) mi' bi (pe_glob (X := X.suite a ((a, oe) :: pn)) (show X.env.scope.names.lookup y2 = some .globalImplicit from gl ok g2) (by show X.mg y2 = _; rw [ok.eM]; exact m2) rfl d2) (fun w h => h) (by rw [ok.eK]; exact k2) s4 s5 s6
/-- the class of a clause, by its name -/
theorem nm_exc {x : PySem.Str} {C : Addr} (ok : Cok G k N sc W X) (g : sc.names.lookup x = some .globalImplicit) (m : G.mg x = some (.ref C)) (d : (x == ("__debug__" : PySem.Str)) = false) : Names X x (.ref C) := ⟨gl ok g, d, .inl (by rw [ok.eM]; exact m)⟩
theorem kind_loc {x : PySem.Str} (ok : Cok G k N sc W X) (h : sc.names.lookup x = some .local) : X.env.kindOf x = some .local := by
  show X.env.scope.names.lookup x = some .local
  rw [ok.eS]; exact h
theorem one_of {n : Nat} : ∀ y, ([n] : List Nat).any (Nat.beq y) = true → y = n := fun y h => by
  simp only [List.any_cons, List.any_nil, Bool.or_false] at h
  exact Nat.eq_of_beq_eq_true h
end
end Few
set_option Elab.async false
set_option linter.all false
set_option maxRecDepth 100000
set_option maxHeartbeats 4000000
namespace Few
open PySem PySem.Spec PyProof.Rows L2
/-! ### a head whose facts hold of no list -/
def isLst (o : Obj) : Bool := match o.cls with
  | .type c => c == "list"
  | _ => false
def noL (K : PySem.W.Frag) : PySem.W.Frag := K.filter fun p => !isLst p.2
theorem look_mem {a : Addr} {o : Obj} : ∀ {K : PySem.W.Frag}, K.lookup a = some o → (a, o) ∈ K
  | [], e => nomatch (show (none : Option Obj) = some o from e)
  | (b, u) :: r, e => by
    by_cases h : (a == b) = true
    · rw [List.lookup_cons, h] at e
      cases e
      rw [eq_of_beq h]
      exact List.mem_cons_self
    · have h' : (a == b) = false := by simpa using h
      rw [List.lookup_cons, h'] at e
      exact List.mem_cons_of_mem _ (look_mem e)
theorem frG_mem {g : Addr → Option Obj} {as : List Addr} {a : Addr} {o : Obj} (h : (a, o) ∈ He.frG g as) : g a = some o := by
  unfold He.frG at h
  obtain ⟨b, _, e⟩ := List.mem_filterMap.mp h
  cases hb : g b with
  | none => rw [hb] at e; cases e
  | some u =>
    rw [hb] at e
    simp only [Option.map, Option.some.injEq, Prod.mk.injEq] at e
    rw [← e.1, hb, e.2]
theorem noL_in {as : List Addr} {h : Heap} : (noL (He.frG h.get? as)).In h := fun a o e => frG_mem (List.mem_filter.mp (look_mem e)).1
def NoList (K : PySem.W.Frag) : Prop := ∀ a o, K.lookup a = some o → o.cls ≠ .type "list"
theorem noL_no (K : PySem.W.Frag) : NoList (noL K) := fun a o e z => by
  have := (List.mem_filter.mp (look_mem e)).2
  unfold isLst at this
  rw [z] at this
  simp at this
abbrev Fact : Type := PySem.W.Frag → Bool
def obsF (fx : List Fact) (fn : List He.DefD) (K : PySem.W.Frag) : He.AlD := ((fx.all fun f => f K) && fn.all fun d => d.ok K, fn.map fun d => He.fnW K d.at_)
def SaysF (fx : List Fact) (fn : List He.DefD) (K : PySem.W.Frag) : Prop := obsF fx fn K = He.valD fn
def obsFG (n : Nat) (fx : List Fact) (fn : List He.DefD) (g : Addr → Option Obj) : He.AlD := obsF fx fn (noL (He.frG g (He.asD g n)))
def hookF (n : Nat) (fx : List Fact) (fn : List He.DefD) : PySem.W.Hook where
  α := He.AlD
  obs := fun s => obsFG n fx fn s.heap.get?
  val := fun _ => He.valD fn
  says := fun _ h => ∃ K : PySem.W.Frag, K.In h ∧ NoList K ∧ SaysF fx fn K
  of := fun _ _ e => ⟨_, noL_in, noL_no _, e⟩
  keeps := fun _ _ _ ⟨K, hK, hn, c⟩ k => ⟨K, PySem.W.Frag.In.keeps hK k, hn, c⟩
theorem obsFG_eq {n : Nat} {fx : List Fact} {fn : List He.DefD} {g : Addr → Option Obj} {s : Shared} (h : ∀ a, g a = s.heap.get? a) : obsFG n fx fn g = (hookF n fx fn).obs s := by
  have e : g = s.heap.get? := funext h
  rw [e] <;> rfl
section
variable {fx : List Fact} {fn : List He.DefD} {K : PySem.W.Frag}
theorem SaysF.fact (c : SaysF fx fn K) (i : Nat) {f : Fact} (h : fx[i]? = some f) : f K = true := by
  have c1 := (He.ba (show ((fx.all fun f => f K) && fn.all fun d => d.ok K) = true from congrArg (fun z : He.AlD => z.1) c)).1
  exact List.all_eq_true.mp c1 f (List.mem_of_getElem? h)
theorem SaysF.fact' (c : SaysF fx fn K) {f : Fact} (h : f ∈ fx) : f K = true := by
  have c1 := (He.ba (show ((fx.all fun f => f K) && fn.all fun d => d.ok K) = true from congrArg (fun z : He.AlD => z.1) c)).1
  exact List.all_eq_true.mp c1 f h
theorem SaysF.def_ (c : SaysF fx fn K) (i : Nat) {d : He.DefD} (h : fn[i]? = some d) : ∃ fd, FunD K d.name d.qual d.params d.body d.scope (d.dvs K) (d.kws K) (He.fAd K d.at_) fd := by
  have c2 := (He.ba (show ((fx.all fun f => f K) && fn.all fun d => d.ok K) = true from congrArg (fun z : He.AlD => z.1) c)).2
  have e : fn.map (fun d => He.fnW K d.at_) = fn.map He.DefD.val := congrArg (fun z : He.AlD => z.2) c
  have e2 : (fn.map fun d => He.fnW K d.at_)[i]? = (fn.map He.DefD.val)[i]? := by rw [e]
  rw [List.getElem?_map, List.getElem?_map, h] at e2
  exact He.DefD.funD (Option.some.inj e2) (List.all_eq_true.mp c2 d (List.mem_of_getElem? h))
end
/-! ### the table of the defs -/
/-- a def's row: what the head knows it by, its parameters -/
structure Row where
  d : He.DefD
  ps : List PySem.Str
def mkRow (x : PySem.Str) (ps : List PySem.Str) (st : Stmt) : Row := ⟨⟨(x, none), x, x, defArgs st, defBody st, defScope st, [], []⟩, ps⟩
section
variable {fx : List Fact} {rows : List Row} {K : PySem.W.Frag}
/-- a def's description -/
def IsRow (K : PySem.W.Frag) (r : Row) (p : Dsc) : Prop := p.f = He.fAd K r.d.at_ ∧ p.ps = r.ps ∧ FunD K r.d.name r.d.qual r.d.params r.d.body r.d.scope (r.d.dvs K) (r.d.kws K) p.f p.fd
theorem row_ex (c : SaysF fx (rows.map Row.d) K) {i : Nat} {r : Row} (h : rows[i]? = some r) : ∃ p : Dsc, IsRow K r p := by
  obtain ⟨fd, F⟩ := c.def_ i (d := r.d) (by rw [List.getElem?_map, h]; rfl)
  exact ⟨⟨_, fd, r.ps⟩, rfl, rfl, F⟩
theorem row_ex' (c : SaysF fx (rows.map Row.d) K) {i : Nat} (h : ∃ r, rows[i]? = some r) : ∃ p : Dsc, ∃ r, rows[i]? = some r ∧ IsRow K r p := by
  obtain ⟨r, h⟩ := h
  obtain ⟨p, hp⟩ := row_ex c h
  exact ⟨p, r, h, hp⟩
open Classical in
noncomputable def dsc (c : SaysF fx (rows.map Row.d) K) (i : Nat) : Option Dsc := if h : ∃ r, rows[i]? = some r then some (Classical.choose (row_ex' c h)) else none
theorem dsc_at (c : SaysF fx (rows.map Row.d) K) {i : Nat} {r : Row} (h : rows[i]? = some r) : ∃ fd, dsc c i = some ⟨He.fAd K r.d.at_, fd, r.ps⟩ ∧ FunD K r.d.name r.d.qual r.d.params r.d.body r.d.scope (r.d.dvs K) (r.d.kws K) (He.fAd K r.d.at_) fd := by
  have h' : ∃ r, rows[i]? = some r := ⟨r, h⟩
  have e : dsc c i = some (Classical.choose (row_ex' c h')) := by unfold dsc; rw [dif_pos h']
  obtain ⟨r', h2, p1, p2, p3⟩ := Classical.choose_spec (row_ex' c h')
  rw [h] at h2
  cases h2
  generalize Classical.choose (row_ex' c h') = p at e p1 p2 p3
  obtain ⟨f, fd, ps⟩ := p
  dsimp only at p1 p2 p3
  subst p1; subst p2
  exact ⟨fd, e, p3⟩
theorem dsc_none (c : SaysF fx (rows.map Row.d) K) {i : Nat} {d : Dsc} (h : dsc c i = some d) : ∃ r, rows[i]? = some r := by
  unfold dsc at h
  split at h
  · assumption
  · cases h
noncomputable def dOf (c : SaysF fx (rows.map Row.d) K) (d0 : Dsc) (i : Nat) : Dsc := (dsc c i).getD d0
/-- what is known of a def -/
theorem df_of {G : Gd} {base h : Heap} (c : SaysF fx (rows.map Row.d) K) (d0 : Dsc) (eK : G.K = K) (X : K.In h) (Gn : h.Ns mainGlobals G.mg) {i : Nat} {x : PySem.Str} {ps : List PySem.Str} {st : Stmt} (hr : rows[i]? = some (mkRow x ps st)) (hg : (He.Fa.glo x).ok K = true)
    (hb : ∀ (kV doc pm : Value) (an : Option Addr) (cdv ct : Value) (us : List Value), us.length = ps.length → bindArgs (PySem.W.fnOf x x (defArgs st) (defBody st) (defScope st) .none kV doc pm an cdv ct) ⟨us, []⟩ = pure (ps.zip us)) :
    DF G (dsc c) i x (dOf c d0 i) := by
  obtain ⟨fd, e, F⟩ := dsc_at c hr
  have ed : dOf c d0 i = ⟨He.fAd K (mkRow x ps st).d.at_, fd, ps⟩ := by unfold dOf; rw [e]; rfl
  rw [ed]
  exact ⟨e, He.glo_ok X Gn hg, by rw [eK]; exact F.kp, by rw [eK]; exact FunD.bindsN F hb⟩
theorem kp_of (c : SaysF fx (rows.map Row.d) K) (d0 : Dsc) {i : Nat} {x : PySem.Str} {ps ks : List PySem.Str} {perm : List Nat} {st : Stmt} (hr : rows[i]? = some (mkRow x ps st))
    (hb : ∀ (kV doc pm : Value) (an : Option Addr) (cdv ct : Value) (us ws : List Value), permL us perm = some ws → us.length = ks.length → ws.length = ps.length → bindArgs (PySem.W.fnOf x x (defArgs st) (defBody st) (defScope st) .none kV doc pm an cdv ct) ⟨[], ks.zip us⟩ = pure (ps.zip ws)) :
    KPerm K (dOf c d0 i).fd (dOf c d0 i).ps ks perm := by
  obtain ⟨fd, e, F⟩ := dsc_at c hr
  have ed : dOf c d0 i = ⟨He.fAd K (mkRow x ps st).d.at_, fd, ps⟩ := by unfold dOf; rw [e]; rfl
  rw [ed]
  obtain ⟨oc, od, dV, kV, doc, pm, an, cdv, ct, osl, rfl, lk, hcd, hD, hK⟩ := F.ex
  rcases hD with ⟨_, rfl⟩ | ⟨e, _⟩
  · exact ⟨fun s us ws _ h1 h2 h3 => .of_eq (hb kV doc pm an cdv ct us ws h1 h2 h3)⟩
  · exact absurd rfl e
theorem defok_of {G : Gd} {tab : Nat → Option Fn} (c : SaysF fx (rows.map Row.d) K) (eK : G.K = K) {i : Nat} {d : Dsc} (hd : dsc c i = some d) {x : PySem.Str} {ps N : List PySem.Str} {st : Stmt} {fn : Fn} (hr : rows[i]? = some (mkRow x ps st)) (S : FnScope N ps (defScope st)) (ht : tab i = some fn) (h1 : ps.length = fn.ps) (h2 : N.length = fn.ps + fn.ns)
    (hb : BodyOk G N (defScope st) (defBody st) fn.body (dsc c)) : DefOk G tab (dsc c) i d := by
  obtain ⟨fd, e, F⟩ := dsc_at c hr
  rw [e] at hd
  cases hd
  subst eK
  exact ⟨fn, _, _, _, _, _, _, _, N, F, S, ht, h1, h2, hb⟩
end
/-! ### the law -/
def spLaw : Sp := fun vs H Q _ => ∃ (a : Addr) (ns : List Int), vs = [.ref a] ∧ (∃ o, H a = some (.frz o (.lst (ns.map V.int)))) ∧ ns.length ≤ 63 ∧ ∀ H', Q (.bl true) H'
theorem law_fn {G : Gd} {k : Nat} {f : Addr} {fd : FuncData} {ps : List PySem.Str} {cl : List D → IH → OutC} (F : FnOk G.P G.w G.K G.mg G.base (L2.CX G.P G.w) k f fd ps (spOf G 1 cl)) (hl : ∀ ns : List Int, ns.length ≤ 63 → ∃ ih, cl [.lst (ns.map .int)] [] = .ok ih (.v (.bl true))) :
    FnOk G.P G.w G.K G.mg G.base (L2.CX G.P G.w) k f fd ps spLaw := by
  refine F.imp fun vs H Q E h => ?_
  obtain ⟨a, ns, rfl, ⟨o, ho⟩, hn, q⟩ := h
  refine ⟨rfl, [], [.lst (ns.map .int)], [], ⟨rfl, List.nodup_nil, fun n c a e => by simp [nth] at e⟩, .cons (.lst ho (reps_ints ns)) .nil, ?_⟩
  obtain ⟨ih, e⟩ := hl ns hn
  rw [e]
  intro ρ' H' v _ _ _ r
  cases r
  exact q H'
theorem law_sp {K : PySem.W.Frag} {H : Hp} {a : Addr} {ns : List Int} (nl : NoList K) (hO : L2.Only H) (hS : SqL K H a (ns.map V.int)) (hn : ns.length ≤ 63) : spLaw [.ref a] H (fun v _ => v = .bl true) fun _ _ _ => False := by
  refine ⟨a, ns, rfl, ?_, hn, fun _ => rfl⟩
  rcases hS with (h | ⟨o, h⟩) | ⟨o, its, n, e, hc, _⟩
  · rcases hO a with z | ⟨o, xs, z⟩
    · rw [h] at z; cases z
    · rw [h] at z; cases z
  · exact ⟨o, h⟩
  · exact absurd hc (nl a o e)
/-- nothing leaves the law -/
theorem to_plain {P : Program} {w : World} {K : PySem.W.Frag} {mg : PySem.Str → Option Value} {base : Heap} {k : Nat} {f : Addr} {fd : FuncData} {ps : List PySem.Str} (F : FnOk P w K mg base (L2.CX P w) k f fd ps spLaw) : FnOk P w K mg base L2.CX0 k f fd ps spLaw := by
  refine ⟨fun vs H Q E h => F.len vs H Q E h, fun A outer s H args us vs Q E hr he hb hv hs => ?_⟩
  refine codeAny_mono (F.run A outer s H args us vs Q (fun _ _ _ => False) hr he hb hv hs) fun r s' hq => ?_
  cases r with
  | error e =>
    obtain ⟨a, B, H', cls, d, _, _, _, _, _, _, _, z⟩ := (show L2.CX P w outer H s (fun _ _ _ => False) e s' from hq)
    exact z.elim
  | ok fl =>
    cases fl with
    | ret u => exact hq
    | next => exact hq
    | brk => exact hq
    | cont => exact hq
/-! ### facts of exception classes -/
def excCB (x : PySem.Str) : Fact := fun K =>
  decide (PySem.W.findIn K (.ref (He.ga K x)) "__getattribute__" = some (some (.builtin "BaseException.__getattribute__"))) && (decide (PySem.W.findIn K (.ref (He.ga K x)) "__getattr__" = some none) &&
  (decide (PySem.W.subIn K (.ref (He.ga K x)) (.type "BaseException") = some true) && (PySem.W.hasDictIn K (He.ga K x) && (decide (PySem.W.findIn K (.ref (He.ga K x)) "__class__" = some (some (.builtin "object.__class__"))) &&
  (decide (PySem.W.specialIn K (.builtin "object.__class__") "__get__" = some (some (.builtin "getset_descriptor.__get__"))) && (decide (PySem.W.takesIn K (.builtin "object.__class__") = some true) && decide (PySem.W.mroIn K (He.ga K x) (.type "object") = some true)))))))
theorem excCB_ok {K : PySem.W.Frag} {x : PySem.Str} (c : excCB x K = true) : ExcC K (He.ga K x) := by
  obtain ⟨c1, c⟩ := He.ba c
  obtain ⟨c2, c⟩ := He.ba c
  obtain ⟨c3, c⟩ := He.ba c
  obtain ⟨c4, c⟩ := He.ba c
  obtain ⟨c5, c⟩ := He.ba c
  obtain ⟨c6, c⟩ := He.ba c
  obtain ⟨c7, c8⟩ := He.ba c
  exact ⟨of_decide_eq_true c1, of_decide_eq_true c2, of_decide_eq_true c3, c4, of_decide_eq_true c5, of_decide_eq_true c6, of_decide_eq_true c7, of_decide_eq_true c8⟩
def kitB1 (x : PySem.Str) (t : String) : Fact := fun K => decide (PySem.W.kitOne K (.ref (He.ga K x)) (.type t) = some true)
def kitB2 (x y : PySem.Str) : Fact := fun K => decide (PySem.W.kitOne K (.ref (He.ga K x)) (.ref (He.ga K y)) = some false)
end Few
set_option Elab.async false
set_option linter.all false
set_option maxRecDepth 100000
set_option maxHeartbeats 4000000
namespace Few
/-! ### what the law draws from its script -/
def sBox : S := (.seq (.asg (.nm 2) (.ite (.cmp .lt (.pk 1) (.bi .len (.pk 0))) (.sub (.pk 0) (.pk 1)) (.con (.int 0)))) (.ret (.lstc (.cons (.bin .mul (.bi .abs (.pk 2)) (.bi .int (.cmp .ge (.bi .abs (.pk 2)) (.bin .pow (.con (.int 10)) (.con (.int 18)))))) (.cons (.bin .add (.bin .add (.bin .mod (.bi .int (.pk 2)) (.con (.int 2305843009213693951))) (.bin .mul (.con (.int 39373)) (.pk 1))) (.con (.int 74240654))) (.cons (.con (.int 0)) .nil))))))
def sTake : S := (.seq (.ife (.cmp .gt (.sub (.pk 0) (.con (.int 0))) (.con (.int 0))) (.seq (.asg (.nm 5) (.bin .mod (.bi .int (.sub (.pk 0) (.con (.int 0)))) (.pk 1))) (.seq (.setc (.var 0) (.con (.int 0)) (.bin .fdiv (.sub (.pk 0) (.con (.int 0))) (.pk 1))) (.retp 5))) .skip) (.seq (.setc (.var 0) (.con (.int 2)) (.bin .add (.sub (.pk 0) (.con (.int 2))) (.con (.int 1)))) (.seq (.asg (.nm 2) (.bin .mod (.bi .int (.bin .mul (.bin .add (.sub (.pk 0) (.con (.int 1))) (.bin .mul (.con (.int 48271)) (.sub (.pk 0) (.con (.int 2))))) (.bin .add (.con (.int 39373)) (.sub (.pk 0) (.con (.int 2)))))) (.con (.int 2147483647)))) (.seq (.asg (.nm 3) (.bin .add (.bin .mod (.bi .int (.pk 2)) (.con (.int 40009))) (.con (.int 7)))) (.seq (.asg (.nm 4) (.bin .mod (.bi .int (.bin .mul (.bin .add (.bin .add (.pk 2) (.sub (.pk 0) (.con (.int 2)))) (.bin .fdiv (.sub (.pk 0) (.con (.int 1))) (.con (.int 1000003)))) (.pk 3))) (.con (.int 2147483629)))) (.ret (.bin .mod (.bi .int (.bin .fdiv (.bin .mod (.bi .int (.bin .add (.bin .mul (.pk 4) (.con (.int 48271))) (.pk 2))) (.con (.int 2147483587))) (.con (.int 64)))) (.pk 1))))))))
def sCells : S := (.seq (.asg (.nm 2) (.bor (.bi .list (.slc (.pk 0) (.con .non) (.var 1))) (.lst (.cons (.con (.int 0)) .nil)))) (.seq (.forr (.cons (.nm 3) (.cons (.nm 4) .nil)) (.bi2 .enum (.slc (.pk 0) (.var 1) (.con (.int 63))) (.con (.int 0))) (.seq (.asg (.nm 5) (.bin .mod (.bi .int (.pk 3)) (.pk 1))) (.seti 2 (.var 5) (.bin .add (.sub (.pk 2) (.pk 5)) (.bin .mul (.pk 4) (.bin .add (.pk 3) (.con (.int 2)))))))) (.retp 2)))
theorem small_of {a : Int} (h0 : 0 ≤ a) (h : a < 18446744073709551616) : small64 a = true := by
  obtain ⟨n, rfl⟩ := Int.eq_ofNat_of_zero_le h0
  show Nat.blt n 18446744073709551616 = true
  rw [blt_dec]
  exact decide_eq_true (by omega)
theorem bmul {a b : Int} (h : (small64 a || small64 b) = true) : binD .mul (.int a) (.int b) = some (.v (.int (a * b))) := by
  show (bif small64 a || small64 b then some (RV.v (.int (a * b))) else none) = _
  rw [h]; rfl
theorem bmod {a : Int} {b : Nat} (h : 0 < b) : binD .mod (.int a) (.int (.ofNat b)) = some (.v (.int (a.fmod b))) := by
  show (bif Nat.blt 0 b then some (RV.v (.int (Int.fmod a b))) else none) = _
  rw [blt_dec, decide_eq_true h]; rfl
theorem bdiv {a : Int} {b : Nat} (h : 0 < b) (h2 : b < 1073741824) : binD .fdiv (.int a) (.int (.ofNat b)) = some (.v (.int (a.fdiv b))) := by
  show (bif Nat.blt 0 b && Nat.blt b 1073741824 then some (RV.v (.int (Int.fdiv a b))) else none) = _
  rw [blt_dec, blt_dec, decide_eq_true h, decide_eq_true h2]; rfl
/-- an urn: what is left of the first number, a seed, how often it was asked -/
def UrnAt (h : IH) (r : Nat) (A B n : Int) : Prop := nth h r = some (.lst [.int A, .int B, .int n])
end Few
set_option Elab.async false
set_option linter.all false
set_option maxRecDepth 100000
set_option maxHeartbeats 4000000
namespace Few
/-! ### running a code by hand -/
def Pv (c : Call) (σ : ES) (h : IH) (e : E) (x : D) : Prop := ∃ r, den e c σ h = .ok σ h r ∧ val σ r = some x
def Vv (c : Call) (σ : ES) (h : IH) (e : E) (x : D) : Prop := den e c σ h = .ok σ h (.v x)
section
variable {c : Call} {σ σ' : ES} {h h' : IH} {a b e t : E} {x y : D} {xo : Option XD}
theorem Vv.p (hv : Vv c σ h e x) : Pv c σ h e x := ⟨_, hv, rfl⟩
theorem v_con : Vv c σ h (.con x) x := rfl
theorem p_pk {i : Nat} (hs : nth σ i = some (.fz x)) : Pv c σ h (.pk i) x := by
  refine ⟨.p i, ?_, ?_⟩
  · show dPk i c σ h = _
    unfold dPk; rw [hs]
  · show (match nth σ i with
      | some s => content s
      | none => none) = _
    rw [hs]; rfl
theorem v_var {i : Nat} (hs : nth σ i = some (.fz x)) : Vv c σ h (.var i) x := by
  show dVar i c σ h = _
  unfold dVar; rw [hs]
theorem v_cell {j r i : Nat} {xs : List D} (hs : nth σ j = some (.fz (.obj r))) (hh : nth h r = some (.lst xs)) (hi : nth xs i = some y) : Vv c σ h (.sub (.pk j) (.con (.int (.ofNat i)))) y := by
  have hl : Nat.blt i xs.length = true := by
    rw [blt_dec]
    rw [nth_get] at hi
    exact decide_eq_true (List.getElem?_eq_some_iff.mp hi).1
  show dSub (dPk j) (dCon (.int (.ofNat i))) c σ h = _
  simp only [dSub, d2, dPk, dCon, Out.bind, hs, valH, val, content, deref, hh, subD, ixOf, hl, cond_true, hi]
theorem v_bin {op : Bop} {z : Int} (ha : Pv c σ h a x) (hb : Pv c σ h b y) (hz : binD op x y = some (.v (.int z))) : Vv c σ h (.bin op a b) (.int z) := by
  obtain ⟨r1, e1, v1⟩ := ha
  obtain ⟨r2, e2, v2⟩ := hb
  show dBin op (den a) (den b) c σ h = _
  simp only [dBin, d2, Out.bind, e1, e2, v1, v2, hz, fitR, opt]
theorem v_int {i : Int} (ha : Pv c σ h a (.int i)) : Vv c σ h (.bi .int a) (.int i) := by
  obtain ⟨r1, e1, v1⟩ := ha
  show dBi .int (den a) c σ h = _
  simp only [dBi, Out.bind, e1, valH, v1, deref, b1, opt]
theorem v_cmp {op : Cop} {z : Bool} (ha : Pv c σ h a x) (hb : Pv c σ h b y) (hz : cmpD op x y = some z) : Vv c σ h (.cmp op a b) (.bl z) := by
  obtain ⟨r1, e1, v1⟩ := ha
  obtain ⟨r2, e2, v2⟩ := hb
  show dCmp op (den a) (den b) c σ h = _
  simp only [dCmp, d2, Out.bind, e1, e2, v1, v2, hz, optB]
theorem ds_seq {s u : S} (e : denS s c xo σ h = .nx σ' h') : denS (.seq s u) c xo σ h = denS u c xo σ' h' := by
  show sSeq (denS s) (denS u) c xo σ h = _
  unfold sSeq; rw [e]
theorem ds_seq_rt {s u : S} {v : RV} (e : denS s c xo σ h = .rt h' v) : denS (.seq s u) c xo σ h = .rt h' v := by
  show sSeq (denS s) (denS u) c xo σ h = _
  unfold sSeq; rw [e]
theorem ds_skip : denS .skip c xo σ h = .nx σ h := rfl
theorem ds_asg {i : Nat} (hv : Vv c σ h e x) : denS (.asg (.nm i) e) c xo σ h = .nx (setN σ i (.fz x)) h := by
  show sAsg (.nm i) (den e) c xo σ h = _
  unfold sAsg fromE; rw [show den e c σ h = _ from hv]; rfl
theorem ds_setc {j r : Nat} {k : Int} {xs ys : List D} (hs : nth σ j = some (.fz (.obj r))) (hh : nth h r = some (.lst xs)) (hv : Vv c σ h e x) (hy : setAt xs (.int k) x = some ys) : denS (.setc (.var j) (.con (.int k)) e) c xo σ h = .nx σ (setN h r (.lst ys)) := by
  show sSetc (dVar j) (dCon (.int k)) (den e) c xo σ h = _
  unfold sSetc fromE
  rw [show den e c σ h = _ from hv]
  simp only [dVar, hs, cellL, frozen, hh, dCon, hy]
theorem ds_if {s u : S} {z : Bool} (ht : Pv c σ h t (.bl z)) : denS (.ife t s u) c xo σ h = if z = true then denS s c xo σ h else denS u c xo σ h := by
  obtain ⟨r, e, v⟩ := ht
  show sIf (den t) (denS s) (denS u) c xo σ h = _
  simp only [sIf, fromE, e, truthR, v, truth]
  cases z <;> rfl
theorem ds_ret (hv : Vv c σ h e x) : denS (.ret e) c xo σ h = .rt h (.v x) := by
  show sRet (den e) c xo σ h = _
  unfold sRet fromE; rw [show den e c σ h = _ from hv]
theorem ds_retp {i : Nat} (hs : nth σ i = some (.fz x)) : denS (.retp i) c xo σ h = .rt h (.v x) := by
  show sRetp i c xo σ h = _
  unfold sRetp; rw [hs]
theorem nth_setN_same {α : Type} {xs : List α} {i : Nat} {x y : α} (e : nth xs i = some y) : nth (setN xs i x) i = some x := by
  rw [nth_get] at e ⊢
  rw [setN_set]
  exact List.getElem?_set_self (List.getElem?_eq_some_iff.mp e).1
theorem setN_setN {α : Type} {xs : List α} {i : Nat} {x y : α} : setN (setN xs i x) i y = setN xs i y := by
  rw [setN_set, setN_set, setN_set, List.set_set]
end
section
variable {c : Call} {h : IH} {r : Nat} {A B n : Int} {b : Nat}
theorem take_ev (hu : UrnAt h r A B n) (hA : 0 ≤ A) (hB : 0 ≤ B ∧ B < 4611686018427387904) (hn : 0 ≤ n ∧ n < 1048576) (hb : 0 < b ∧ b < 1073741824) :
    ∃ A' n' d, endC (denS sTake c none (initS [.obj r, .int (.ofNat b)] 4) h) = .ok (setN h r (.lst [.int A', .int B, .int n'])) (.v (.int d)) ∧ 0 ≤ A' ∧ n ≤ n' ∧ n' ≤ n + 1 ∧ 0 ≤ d ∧ d < b := by
  unfold UrnAt at hu
  have s0 : ∀ l : ES, nth (.fz (.obj r) :: l) 0 = some (.fz (.obj r)) := fun _ => rfl
  have g0 : cmpD .gt (.int A) (.int 0) = some (decide (0 < A)) := by
    show some (iblt 0 A) = _
    rw [iblt_iff]
  show ∃ A' n' d, endC (denS sTake c none [.fz (.obj r), .fz (.int (.ofNat b)), .un, .un, .un, .un] h) = _ ∧ _
  by_cases h0 : 0 < A
  · refine ⟨A.fdiv b, n, A.fmod b, ?_, Int.fdiv_nonneg hA (by omega), by omega, by omega, ?_, Int.fmod_lt_of_pos _ (by omega)⟩
    · have e1 := ds_if (c := c) (xo := none) (s := .seq (.asg (.nm 5) (.bin .mod (.bi .int (.sub (.pk 0) (.con (.int 0)))) (.pk 1))) (.seq (.setc (.var 0) (.con (.int 0)) (.bin .fdiv (.sub (.pk 0) (.con (.int 0))) (.pk 1))) (.retp 5))) (u := .skip)
        (v_cmp (v_cell (s0 [.fz (.int (.ofNat b)), .un, .un, .un, .un]) hu (i := 0) rfl).p v_con.p g0).p
      rw [decide_eq_true h0, if_pos rfl] at e1
      have e2 := e1.trans ((ds_seq (ds_asg (v_bin (v_int (v_cell (s0 _) hu (i := 0) rfl).p).p (p_pk rfl) (bmod hb.1)))).trans ((ds_seq (ds_setc (s0 _) hu (v_bin (v_cell (s0 _) hu (i := 0) rfl).p (p_pk rfl) (bdiv hb.1 hb.2)) rfl)).trans (ds_retp rfl)))
      exact congrArg endC (ds_seq_rt e2)
    · rw [Int.fmod_eq_emod_of_nonneg _ (by omega)]
      exact Int.emod_nonneg _ (by omega)
  · have hA0 : A = 0 := by omega
    have e1 := ds_if (c := c) (xo := none) (s := .seq (.asg (.nm 5) (.bin .mod (.bi .int (.sub (.pk 0) (.con (.int 0)))) (.pk 1))) (.seq (.setc (.var 0) (.con (.int 0)) (.bin .fdiv (.sub (.pk 0) (.con (.int 0))) (.pk 1))) (.retp 5))) (u := .skip)
        (v_cmp (v_cell (s0 [.fz (.int (.ofNat b)), .un, .un, .un, .un]) hu (i := 0) rfl).p v_con.p g0).p
    rw [decide_eq_false h0, if_neg (by simp)] at e1
    have hu1 : nth (setN h r (.lst [.int A, .int B, .int (n + 1)])) r = some (.lst [.int A, .int B, .int (n + 1)]) := nth_setN_same hu
    generalize hh1 : setN h r (.lst [.int A, .int B, .int (n + 1)]) = h1 at hu1
    let o1 : Int := ((B + 48271 * (n + 1)) * (39373 + (n + 1))).fmod 2147483647
    have ho : 0 ≤ o1 ∧ o1 < 2147483647 := ⟨by show 0 ≤ Int.fmod _ _; rw [Int.fmod_eq_emod_of_nonneg _ (by omega)]; exact Int.emod_nonneg _ (by omega), Int.fmod_lt_of_pos _ (by omega)⟩
    let f1 : Int := o1.fmod 40009 + 7
    have hf : 0 ≤ f1 ∧ f1 < 50000 := by
      have a1 : 0 ≤ o1.fmod 40009 := by rw [Int.fmod_eq_emod_of_nonneg _ (by omega)]; exact Int.emod_nonneg _ (by omega)
      have a2 : o1.fmod 40009 < 40009 := Int.fmod_lt_of_pos _ (by omega)
      show 0 ≤ o1.fmod 40009 + 7 ∧ o1.fmod 40009 + 7 < 50000
      omega
    let t1 : Int := ((o1 + (n + 1) + B.fdiv 1000003) * f1).fmod 2147483629
    have ht : 0 ≤ t1 ∧ t1 < 2147483629 := ⟨by show 0 ≤ Int.fmod _ _; rw [Int.fmod_eq_emod_of_nonneg _ (by omega)]; exact Int.emod_nonneg _ (by omega), Int.fmod_lt_of_pos _ (by omega)⟩
    let z1 : Int := ((t1 * 48271 + o1).fmod 2147483587).fdiv 64
    refine ⟨A, n + 1, z1.fmod b, ?_, hA, by omega, by omega, ?_, Int.fmod_lt_of_pos _ (by omega)⟩
    · have e2 : denS sTake c none [.fz (.obj r), .fz (.int (.ofNat b)), .un, .un, .un, .un] h = _ := ds_seq e1
      have e3 := e2.trans (ds_seq (ds_setc (s0 _) hu (v_bin (v_cell (s0 _) hu (i := 2) rfl).p v_con.p (x := .int n) (y := .int 1) (z := n + 1) rfl) rfl))
      rw [show setN h r (.lst (setN [D.int A, D.int B, D.int n] 2 (D.int (n + 1)))) = h1 from hh1] at e3
      have c1 : Vv c [.fz (.obj r), .fz (.int (.ofNat b)), .un, .un, .un, .un] h1 _ (.int o1) := v_bin (v_int (v_bin (v_bin (op := .add) (v_cell (s0 _) hu1 (i := 1) rfl).p (v_bin (op := .mul) (v_con (x := .int 48271)).p (v_cell (s0 _) hu1 (i := 2) rfl).p (z := 48271 * (n + 1)) rfl).p (z := B + 48271 * (n + 1)) rfl).p
        (v_bin (op := .add) (v_con (x := .int 39373)).p (v_cell (s0 _) hu1 (i := 2) rfl).p (z := 39373 + (n + 1)) rfl).p (z := (B + 48271 * (n + 1)) * (39373 + (n + 1))) (bmul (by rw [small_of (a := 39373 + (n + 1)) (by omega) (by omega), Bool.or_true]))).p).p v_con.p (bmod (b := 2147483647) (by omega))
      have e4 := e3.trans (ds_seq (ds_asg c1))
      have c2 : Vv c [.fz (.obj r), .fz (.int (.ofNat b)), .fz (.int o1), .un, .un, .un] h1 _ (.int f1) := v_bin (op := .add) (v_bin (v_int (p_pk (i := 2) rfl)).p v_con.p (bmod (b := 40009) (by omega))).p (v_con (x := .int 7)).p rfl
      have e5 := e4.trans (ds_seq (ds_asg c2))
      have c3 : Vv c [.fz (.obj r), .fz (.int (.ofNat b)), .fz (.int o1), .fz (.int f1), .un, .un] h1 _ (.int t1) := v_bin (v_int (v_bin (v_bin (op := .add) (v_bin (op := .add) (p_pk (i := 2) rfl) (v_cell (s0 _) hu1 (i := 2) rfl).p (z := o1 + (n + 1)) rfl).p
        (v_bin (v_cell (s0 _) hu1 (i := 1) rfl).p v_con.p (bdiv (b := 1000003) (by omega) (by omega))).p (z := o1 + (n + 1) + B.fdiv 1000003) rfl).p (p_pk (i := 3) rfl) (z := (o1 + (n + 1) + B.fdiv 1000003) * f1) (bmul (by rw [small_of hf.1 (by omega), Bool.or_true]))).p).p v_con.p (bmod (b := 2147483629) (by omega))
      have e6 := e5.trans (ds_seq (ds_asg c3))
      have c4 : Vv c [.fz (.obj r), .fz (.int (.ofNat b)), .fz (.int o1), .fz (.int f1), .fz (.int t1), .un] h1 _ (.int (z1.fmod b)) := v_bin (v_int (v_bin (v_bin (v_int (v_bin (op := .add) (v_bin (p_pk (i := 4) rfl) (v_con (x := .int 48271)).p (z := t1 * 48271) (bmul (by rw [small_of ht.1 (by omega), Bool.true_or]))).p (p_pk (i := 2) rfl) (z := t1 * 48271 + o1) rfl).p).p
        v_con.p (bmod (b := 2147483587) (by omega))).p v_con.p (bdiv (b := 64) (by omega) (by omega))).p).p (p_pk (i := 1) rfl) (bmod hb.1)
      have e7 := e6.trans (ds_ret c4)
      rw [hh1]
      exact congrArg endC e7
    · rw [Int.fmod_eq_emod_of_nonneg _ (by omega)]
      exact Int.emod_nonneg _ (by omega)
end
end Few
set_option Elab.async false
set_option linter.all false
set_option maxRecDepth 100000
set_option maxHeartbeats 4000000
namespace Few
section
variable {c : Call} {h : IH}
theorem cut_lo {α : Type} (xs : List α) (m : Nat) : cutL xs none (some (.ofNat m)) = xs.take m := by
  unfold cutL bnd clampI
  dsimp only
  rw [blt_dec, List.drop_zero, Nat.sub_zero]
  by_cases z : m < xs.length
  · rw [decide_eq_true z]; rfl
  · rw [decide_eq_false z]
    show xs.take xs.length = _
    rw [List.take_length, List.take_of_length_le (by omega)]
theorem cut_hi {α : Type} (xs : List α) (m : Nat) : ∃ l, cutL xs (some (.ofNat m)) (some 63) = l ∧ (xs.length ≤ m → l = []) ∧ ∀ x ∈ l, x ∈ xs := by
  refine ⟨_, rfl, fun hl => ?_, fun x hx => ?_⟩
  · have z : Nat.blt m xs.length = false := by rw [blt_dec]; exact decide_eq_false (by omega)
    simp only [cutL, bnd, clampI, z, cond_false, List.drop_length, List.take_nil]
  · unfold cutL at hx
    exact List.mem_of_mem_drop (List.mem_of_mem_take hx)
theorem ds_seti {σ : ES} {xo : Option XD} {i j L : Nat} {k : Int} {r ys : List D} {e : E} {x : D} (cv : Vv c σ h e x) (hk : nth σ j = some (.fz (.int k))) (hi : nth σ i = some (.ol L r)) (hs : setAt r.reverse (.int k) x = some ys) : denS (.seti i (.var j) e) c xo σ h = .nx (setN σ i (.ol L ys.reverse)) h := by
  show sSeti i (dVar j) (den e) c xo σ h = _
  unfold sSeti fromE
  rw [show den e c σ h = _ from cv]
  simp only [hi, isOl, cond_true, dVar, hk, frozen, hs]
/-- a turn of the loop over the rest of the script -/
def cBody : S := .seq (.asg (.nm 5) (.bin .mod (.bi .int (.pk 3)) (.pk 1))) (.seti 2 (.var 5) (.bin .add (.sub (.pk 2) (.pk 5)) (.bin .mul (.pk 4) (.bin .add (.pk 3) (.con (.int 2))))))
theorem v_ol {σ : ES} {i j L k : Nat} {r : List D} {y : D} (hs : nth σ j = some (.ol L r)) (hk : nth σ i = some (.fz (.int (.ofNat k)))) (hy : nth r.reverse k = some y) : Vv c σ h (.sub (.pk j) (.pk i)) y := by
  have hl : Nat.blt k r.reverse.length = true := by
    rw [blt_dec]
    rw [nth_get] at hy
    exact decide_eq_true (List.getElem?_eq_some_iff.mp hy).1
  show dSub (dPk j) (dPk i) c σ h = _
  simp only [dSub, d2, dPk, Out.bind, hs, hk, valH, val, content, deref, subD, ixOf, hl, cond_true, hy]
theorem turn_ev {s0 s3 s4 s5 : Slot} {m k L : Nat} {v : Int} {xs : List Int} (hm : 0 < m) (hL : xs.length = m) (hk : k < 100) :
    ∃ xs' : List Int, xs'.length = m ∧ denS cBody c none [s0, .fz (.int (.ofNat m)), .ol L (xs.map D.int).reverse, .fz (.int (.ofNat k)), .fz (.int v), s5] h = .nx [s0, .fz (.int (.ofNat m)), .ol L (xs'.map D.int).reverse, .fz (.int (.ofNat k)), .fz (.int v), .fz (.int (.ofNat (k % m)))] h := by
  have hlt : k % m < xs.length := by rw [hL]; exact Nat.mod_lt _ hm
  obtain ⟨y, hy⟩ : ∃ y, xs[k % m]? = some y := ⟨xs[k % m], List.getElem?_eq_getElem hlt⟩
  have e0 : ((Int.ofNat k).fmod (m : Nat)) = Int.ofNat (k % m) := by
    rw [Int.fmod_eq_emod_of_nonneg _ (by omega)]; rfl
  have e1 : denS (.asg (.nm 5) (.bin .mod (.bi .int (.pk 3)) (.pk 1))) c none [s0, .fz (.int (.ofNat m)), .ol L (xs.map D.int).reverse, .fz (.int (.ofNat k)), .fz (.int v), s5] h = .nx [s0, .fz (.int (.ofNat m)), .ol L (xs.map D.int).reverse, .fz (.int (.ofNat k)), .fz (.int v), .fz (.int (.ofNat (k % m)))] h := by
    have := ds_asg (c := c) (h := h) (xo := none) (i := 5) (σ := [s0, .fz (.int (.ofNat m)), .ol L (xs.map D.int).reverse, .fz (.int (.ofNat k)), .fz (.int v), s5]) (v_bin (op := .mod) (v_int (p_pk (i := 3) rfl)).p (p_pk (i := 1) rfl) (bmod hm))
    rw [e0] at this
    exact this
  have hy2 : nth (xs.map D.int).reverse.reverse (k % m) = some (.int y) := by
    rw [List.reverse_reverse, nth_get, List.getElem?_map, hy]; rfl
  have cv : Vv c [s0, .fz (.int (.ofNat m)), .ol L (xs.map D.int).reverse, .fz (.int (.ofNat k)), .fz (.int v), .fz (.int (.ofNat (k % m)))] h (.bin .add (.sub (.pk 2) (.pk 5)) (.bin .mul (.pk 4) (.bin .add (.pk 3) (.con (.int 2))))) (.int (y + v * (Int.ofNat k + 2))) :=
    v_bin (v_ol (j := 2) (i := 5) rfl rfl hy2).p (v_bin (p_pk (i := 4) rfl) (v_bin (op := .add) (p_pk (i := 3) rfl) (v_con (x := .int 2)).p (z := Int.ofNat k + 2) rfl).p (bmul (by rw [small_of (a := Int.ofNat k + 2) (by show (0 : Int) ≤ (k : Int) + 2; omega) (by show ((k : Int) + 2) < _; omega), Bool.or_true]))).p rfl
  refine ⟨xs.set (k % m) (y + v * (Int.ofNat k + 2)), by rw [List.length_set]; exact hL, ?_⟩
  refine (ds_seq e1).trans ?_
  have hset : setAt (xs.map D.int).reverse.reverse (.int (.ofNat (k % m))) (.int (y + v * (Int.ofNat k + 2))) = some ((xs.set (k % m) (y + v * (Int.ofNat k + 2))).map D.int) := by
    have hb : Nat.blt (k % m) (xs.map D.int).length = true := by rw [blt_dec, List.length_map]; exact decide_eq_true hlt
    simp only [setAt, ixOf, List.reverse_reverse, hb, cond_true, setN_set, List.map_set]
  exact ds_seti (i := 2) (j := 5) cv rfl rfl hset
theorem loop_ev {s0 : Slot} {m : Nat} (hm : 0 < m) : ∀ (vs : List Int) (k L : Nat) (xs : List Int) (s3 s4 s5 : Slot), xs.length = m → k + vs.length ≤ 100 →
    ∃ (xs' : List Int) (t3 t4 t5 : Slot), xs'.length = m ∧ forL (.cons (.nm 3) (.cons (.nm 4) .nil)) (denS cBody) c none (enumD k (vs.map D.int)) [s0, .fz (.int (.ofNat m)), .ol L (xs.map D.int).reverse, s3, s4, s5] h = .nx [s0, .fz (.int (.ofNat m)), .ol L (xs'.map D.int).reverse, t3, t4, t5] h
  | [], k, L, xs, s3, s4, s5, hL, _ => ⟨xs, s3, s4, s5, hL, rfl⟩
  | v :: vs, k, L, xs, s3, s4, s5, hL, hk => by
    obtain ⟨xs1, h1, e1⟩ := turn_ev (c := c) (h := h) (s0 := s0) (s3 := s3) (s4 := s4) (s5 := s5) (L := L) (k := k) (v := v) hm hL (by simp at hk; omega)
    obtain ⟨xs', t3, t4, t5, h2, e2⟩ := loop_ev hm vs (k + 1) L xs1 (.fz (.int (.ofNat k))) (.fz (.int v)) (.fz (.int (.ofNat (k % m)))) h1 (by simp at hk; omega)
    refine ⟨xs', t3, t4, t5, h2, ?_⟩
    show forL (.cons (.nm 3) (.cons (.nm 4) .nil)) (denS cBody) c none (.tup [.int (.ofNat k), .int v] :: enumD (k + 1) (vs.map D.int)) _ h = _
    simp only [forL, asgD, setN, e1]
    exact e2
theorem cut_map {α β : Type} (f : α → β) (xs : List α) (a b : Option Int) : cutL (xs.map f) a b = (cutL xs a b).map f := by
  unfold cutL
  rw [List.length_map, ← List.map_drop, ← List.map_take]
theorem cut_len {α : Type} (xs : List α) (a b : Option Int) : (cutL xs a b).length ≤ xs.length := by
  unfold cutL
  rw [List.length_take, List.length_drop]
  omega
theorem cells_ev (ns : List Int) (hns : ns.length ≤ 63) : ∃ v : Int, endC (denS sCells c none (initS [.lst (ns.map D.int), .int 1] 4) h) = .ok h (.n (.lst [.int v])) := by
  have first : ∃ v : Int, denS (.asg (.nm 2) (.bor (.bi .list (.slc (.pk 0) (.con .non) (.var 1))) (.lst (.cons (.con (.int 0)) .nil)))) c none [.fz (.lst (ns.map D.int)), .fz (.int 1), .un, .un, .un, .un] h
      = .nx [.fz (.lst (ns.map D.int)), .fz (.int 1), .ol 1 ([v].map D.int).reverse, .un, .un, .un] h := by
    have e1 : den (.bi .list (.slc (.pk 0) (.con .non) (.var 1))) c [.fz (.lst (ns.map D.int)), .fz (.int 1), .un, .un, .un, .un] h = .ok [.fz (.lst (ns.map D.int)), .fz (.int 1), .un, .un, .un, .un] h (.n (.lst ((ns.take 1).map D.int))) := by
      have z : cutL (ns.map D.int) none (some 1) = (ns.take 1).map D.int := by rw [cut_map, show (1 : Int) = Int.ofNat 1 from rfl, cut_lo]
      show dBi .list (dSlc (dPk 0) (dCon .non) (dVar 1)) c _ h = _
      simp only [dBi, dSlc, Out.bind, dPk, nth, dCon, partO, frozen, optI, dVar, valH, val, content, deref, slcD, opt, z, b1]
    cases ns with
    | nil =>
      refine ⟨0, ?_⟩
      show sAsg (.nm 2) (dOr (den (.bi .list (.slc (.pk 0) (.con .non) (.var 1)))) (den _)) c none _ h = _
      simp only [sAsg, fromE, dOr, e1, Out.bind, truthR, val, truth, List.take_nil, List.map_nil, List.isEmpty_nil, Bool.not_true]
      rfl
    | cons v t =>
      refine ⟨v, ?_⟩
      show sAsg (.nm 2) (dOr (den (.bi .list (.slc (.pk 0) (.con .non) (.var 1)))) (den _)) c none _ h = _
      unfold sAsg fromE dOr
      rw [e1]
      rfl
  obtain ⟨v, e1⟩ := first
  have src : den (.bi2 .enum (.slc (.pk 0) (.var 1) (.con (.int 63))) (.con (.int 0))) c [.fz (.lst (ns.map D.int)), .fz (.int 1), .ol 1 ([v].map D.int).reverse, .un, .un, .un] h
      = .ok [.fz (.lst (ns.map D.int)), .fz (.int 1), .ol 1 ([v].map D.int).reverse, .un, .un, .un] h (.ls (enumD 0 ((cutL ns (some 1) (some 63)).map D.int))) := by
    show dBi2 .enum (dSlc (dPk 0) (dVar 1) (dCon (.int 63))) (dCon (.int 0)) c _ h = _
    simp only [dBi2, d2, dSlc, Out.bind, dPk, nth, dCon, partO, frozen, optI, dVar, valH, val, content, deref, slcD, opt, cut_map, b2]
  obtain ⟨xs', t3, t4, t5, h2, e2⟩ := loop_ev (c := c) (h := h) (s0 := .fz (.lst (ns.map D.int))) (m := 1) (by omega) (cutL ns (some 1) (some 63)) 0 1 [v] .un .un .un rfl (by have := cut_len ns (some 1) (some 63); omega)
  have e3 : denS (.forr (.cons (.nm 3) (.cons (.nm 4) .nil)) (.bi2 .enum (.slc (.pk 0) (.var 1) (.con (.int 63))) (.con (.int 0))) cBody) c none [.fz (.lst (ns.map D.int)), .fz (.int 1), .ol 1 ([v].map D.int).reverse, .un, .un, .un] h
      = .nx [.fz (.lst (ns.map D.int)), .fz (.int 1), .ol 1 (xs'.map D.int).reverse, t3, t4, t5] h := by
    show sFor (.cons (.nm 3) (.cons (.nm 4) .nil)) (den _) (denS cBody) c none _ h = _
    unfold sFor fromE
    rw [src]
    exact e2
  match xs', h2, e3 with
  | [u], _, e3 =>
    refine ⟨u, ?_⟩
    exact congrArg endC ((ds_seq e1).trans ((ds_seq e3).trans rfl))
  | [], h2, _ => cases h2
  | _ :: _ :: _, h2, _ => simp at h2
theorem box_ev (v : Int) : ∃ A B : Int, 0 ≤ A ∧ (0 ≤ B ∧ B < 4611686018427387904) ∧ endC (denS sBox c none (initS [.lst [.int v], .int 0] 1) h) = .ok (h ++ [.lst [.int A, .int B, .int 0]]) (.v (.obj h.length)) := by
  let av : Int := bif iblt v 0 then -v else v
  have hav : 0 ≤ av := by
    show 0 ≤ (bif iblt v 0 then -v else v)
    rw [iblt_iff]
    by_cases z : v < 0
    · rw [decide_eq_true z, cond_true]; omega
    · rw [decide_eq_false z, cond_false]; omega
  let g : Bool := !(iblt av 1000000000000000000)
  let k : Int := bif g then 1 else 0
  have hk : 0 ≤ k ∧ k ≤ 1 := by
    show 0 ≤ (bif g then (1 : Int) else 0) ∧ (bif g then (1 : Int) else 0) ≤ 1
    cases g <;> simp
  let m : Int := v.fmod 2305843009213693951
  have hm : 0 ≤ m ∧ m < 2305843009213693951 := ⟨by show 0 ≤ Int.fmod _ _; rw [Int.fmod_eq_emod_of_nonneg _ (by omega)]; exact Int.emod_nonneg _ (by omega), Int.fmod_lt_of_pos _ (by omega)⟩
  refine ⟨av * k, m + 0 + 74240654, Int.mul_nonneg hav hk.1, by omega, ?_⟩
  have e1 : denS (.asg (.nm 2) (.ite (.cmp .lt (.pk 1) (.bi .len (.pk 0))) (.sub (.pk 0) (.pk 1)) (.con (.int 0)))) c none [.fz (.lst [.int v]), .fz (.int 0), .un] h = .nx [.fz (.lst [.int v]), .fz (.int 0), .fz (.int v)] h := rfl
  have va : Vv c [.fz (.lst [.int v]), .fz (.int 0), .fz (.int v)] h (.bi .abs (.pk 2)) (.int av) := rfl
  have vp : Vv c [.fz (.lst [.int v]), .fz (.int 0), .fz (.int v)] h (.bin .pow (.con (.int 10)) (.con (.int 18))) (.int 1000000000000000000) := rfl
  have vg : Vv c [.fz (.lst [.int v]), .fz (.int 0), .fz (.int v)] h (.cmp .ge (.bi .abs (.pk 2)) (.bin .pow (.con (.int 10)) (.con (.int 18)))) (.bl g) := v_cmp va.p vp.p rfl
  have vk : Vv c [.fz (.lst [.int v]), .fz (.int 0), .fz (.int v)] h (.bi .int (.cmp .ge (.bi .abs (.pk 2)) (.bin .pow (.con (.int 10)) (.con (.int 18))))) (.int k) := by
    show dBi .int (den _) c _ h = _
    unfold dBi Out.bind
    rw [show den _ c _ h = _ from vg]
    rfl
  have v1 : Vv c [.fz (.lst [.int v]), .fz (.int 0), .fz (.int v)] h _ (.int (av * k)) := v_bin (op := .mul) va.p vk.p (bmul (by rw [small_of hk.1 (by omega), Bool.or_true]))
  have v2 : Vv c [.fz (.lst [.int v]), .fz (.int 0), .fz (.int v)] h (.bin .add (.bin .add (.bin .mod (.bi .int (.pk 2)) (.con (.int 2305843009213693951))) (.bin .mul (.con (.int 39373)) (.pk 1))) (.con (.int 74240654))) (.int (m + 0 + 74240654)) :=
    v_bin (op := .add) (v_bin (op := .add) (v_bin (op := .mod) (v_int (p_pk (i := 2) rfl)).p v_con.p (bmod (b := 2305843009213693951) (by omega))).p (v_bin (op := .mul) (v_con (x := .int 39373)).p (p_pk (i := 1) rfl) (z := 0) rfl).p rfl).p (v_con (x := .int 74240654)).p rfl
  have e2 : denS (.ret (.lstc (.cons (.bin .mul (.bi .abs (.pk 2)) (.bi .int (.cmp .ge (.bi .abs (.pk 2)) (.bin .pow (.con (.int 10)) (.con (.int 18)))))) (.cons (.bin .add (.bin .add (.bin .mod (.bi .int (.pk 2)) (.con (.int 2305843009213693951))) (.bin .mul (.con (.int 39373)) (.pk 1))) (.con (.int 74240654))) (.cons (.con (.int 0)) .nil))))) c none [.fz (.lst [.int v]), .fz (.int 0), .fz (.int v)] h
      = .rt (h ++ [.lst [.int (av * k), .int (m + 0 + 74240654), .int 0]]) (.v (.obj h.length)) := by
    show sRet (dLstc (dCons (den _) (dCons (den _) (dCons (dCon (.int 0)) dNil)))) c none _ h = _
    simp only [sRet, fromE, dLstc, dCons, dAhead, Out.bind, show den _ c _ h = _ from v1, show den _ c _ h = _ from v2, pre1, frozen, dCon, dNil]
    rfl
  exact congrArg endC ((ds_seq e1).trans e2)
end
end Few
set_option Elab.async false
set_option linter.all false
set_option maxRecDepth 100000
set_option maxHeartbeats 4000000
namespace Few
theorem callK_eq {tab : Nat → Option Fn} {k f : Nat} {ds : List D} {h : IH} {fn : Fn} (ht : tab f = some fn) (hl : ds.length = fn.ps) : callK tab (k + 1) f ds h = endC (denS fn.body (callK tab k) none (initS ds fn.ns) h) := by
  simp only [callK, ht, hl, Nat.beq_refl, cond_true]
/-- the law: its urn, soft, part, the rest -/
def sLaw (box take cells M i j : Nat) (rest : S) : S := .seq (.asg (.nm 1) (.call box (.cons (.call cells (.cons (.var 0) (.cons (.con (.int 1)) .nil))) (.cons (.con (.int 0)) .nil))))
  (.seq (.par i j (.cmp .eq (.call take (.cons (.var 1) (.cons (.con (.int 2)) .nil))) (.con (.int 0))) (.call take (.cons (.var 1) (.cons (.con (.int (.ofNat M))) .nil)))) rest)
section
variable {tab : Nat → Option Fn} {k box take cells M i j m : Nat} {rest : S}
theorem v_take {σ : ES} {h h' : IH} {b : Nat} {d : Int} (hs : nth σ 1 = some (.fz (.obj 0))) (e : callK tab k take [.obj 0, .int (.ofNat b)] h = .ok h' (.v (.int d))) : den (.call take (.cons (.var 1) (.cons (.con (.int (.ofNat b))) .nil))) (callK tab k) σ h = .ok σ h' (.v (.int d)) := by
  show dCall take (dCons (dVar 1) (dCons (dCon (.int (.ofNat b))) dNil)) _ σ h = _
  simp only [dCall, dCons, dAhead, Out.bind, dVar, hs, pre1, frozen, dCon, dNil, List.append_nil, List.singleton_append]
  rw [e]; rfl
theorem law_start (hb : tab box = some ⟨2, 1, sBox⟩) (ht : tab take = some ⟨2, 4, sTake⟩) (hc : tab cells = some ⟨2, 4, sCells⟩) (hM : 0 < M ∧ M < 1073741824) (ns : List Int) (hns : ns.length ≤ 63) (hi : i ≠ 1) :
    ∃ (s : Bool) (d : Nat) (A B n : Int), d < M ∧ denS (sLaw box take cells M i j rest) (callK tab (k + 1)) none (initS [.lst (ns.map D.int)] (m + 1)) []
      = denS rest (callK tab (k + 1)) none (setN (setN (.fz (.lst (ns.map D.int)) :: .fz (.obj 0) :: List.replicate m .un) i (.fz (.bl s))) j (.fz (.int (.ofNat d)))) [.lst [.int A, .int B, .int n]] := by
  obtain ⟨v, e1⟩ := cells_ev (c := callK tab k) (h := []) ns hns
  replace e1 := (callK_eq (tab := tab) (k := k) (h := []) (ds := [.lst (ns.map D.int), .int 1]) hc rfl).trans e1
  obtain ⟨A, B, hA, hB, e2⟩ := box_ev (c := callK tab k) (h := []) v
  replace e2 := (callK_eq (tab := tab) (k := k) (h := []) (ds := [.lst [.int v], .int 0]) hb rfl).trans e2
  obtain ⟨A1, n1, d1, e3, hA1, hn1, hn1', hd1, _⟩ := take_ev (c := callK tab k) (h := [.lst [.int A, .int B, .int 0]]) (r := 0) (b := 2) (A := A) (B := B) (n := 0) rfl hA hB (by omega) (by omega)
  replace e3 := (callK_eq (tab := tab) (k := k) (h := [.lst [.int A, .int B, .int 0]]) (ds := [.obj 0, .int (.ofNat 2)]) ht rfl).trans e3
  obtain ⟨A2, n2, d2, e4, hA2, hn2, hn2', hd2, hd2'⟩ := take_ev (c := callK tab k) (h := [.lst [.int A1, .int B, .int n1]]) (r := 0) (b := M) (A := A1) (B := B) (n := n1) rfl hA1 hB (by omega) hM
  replace e4 := (callK_eq (tab := tab) (k := k) (h := [.lst [.int A1, .int B, .int n1]]) (ds := [.obj 0, .int (.ofNat M)]) ht rfl).trans e4
  obtain ⟨dn, rfl⟩ := Int.eq_ofNat_of_zero_le hd2
  refine ⟨ibeq d1 0, dn, A2, B, n2, by omega, ?_⟩
  have s1 : denS (.asg (.nm 1) (.call box (.cons (.call cells (.cons (.var 0) (.cons (.con (.int 1)) .nil))) (.cons (.con (.int 0)) .nil)))) (callK tab (k + 1)) none (.fz (.lst (ns.map D.int)) :: .un :: List.replicate m .un) []
      = .nx (.fz (.lst (ns.map D.int)) :: .fz (.obj 0) :: List.replicate m .un) [.lst [.int A, .int B, .int 0]] := by
    show sAsg (.nm 1) (dCall box (dCons (dCall cells (dCons (dVar 0) (dCons (dCon (.int 1)) dNil))) (dCons (dCon (.int 0)) dNil))) _ none _ [] = _
    simp only [sAsg, fromE, dCall, dCons, dAhead, Out.bind, dVar, nth, pre1, frozen, dCon, dNil, List.append_nil, List.singleton_append, e1, ofC]
    rw [e2]
    rfl
  refine (ds_seq s1).trans (ds_seq ?_)
  have t1 := v_take (σ := .fz (.lst (ns.map D.int)) :: .fz (.obj 0) :: List.replicate m .un) (h := [.lst [.int A, .int B, .int 0]]) rfl e3
  have t2 := v_take (σ := .fz (.lst (ns.map D.int)) :: .fz (.obj 0) :: List.replicate m .un) (h := [.lst [.int A1, .int B, .int n1]]) rfl e4
  show sPar i j (dCmp .eq (den _) (dCon (.int 0))) (den _) _ none _ _ = _
  unfold sPar fromE dCmp d2 Out.bind
  rw [show den (.call take (.cons (.var 1) (.cons (.con (.int 2)) .nil))) (callK tab (k + 1)) _ _ = _ from t1]
  dsimp only [dCon, val, cmpD, optB, slotOf]
  rw [show eqD (.int d1) (.int 0) = some (ibeq d1 0) from rfl]
  dsimp only [optB, slotOf]
  rw [show den (.call take (.cons (.var 1) (.cons (.con (.int (.ofNat M))) .nil))) (callK tab (k + 1)) (.fz (.lst (ns.map D.int)) :: .fz (.obj 0) :: List.replicate m .un) (setN [.lst [.int A, .int B, .int 0]] 0 (.lst [.int A1, .int B, .int n1])) = _ from t2]
  rfl
end
def isT : OutC → Bool
  | .ok _ (.v (.bl true)) => true
  | _ => false
theorem isT_ok {o : OutC} (h : isT o = true) : ∃ ih, o = .ok ih (.v (.bl true)) := by
  unfold isT at h
  split at h
  · exact ⟨_, rfl⟩
  · cases h
/-- a law that picks soft and part, and is true whatever they are -/
theorem law_all {tab : Nat → Option Fn} {k law box take cells M i j m : Nat} {rest : S} (hlaw : tab law = some ⟨1, m + 1, sLaw box take cells M i j rest⟩) (hb : tab box = some ⟨2, 1, sBox⟩) (ht : tab take = some ⟨2, 4, sTake⟩) (hc : tab cells = some ⟨2, 4, sCells⟩) (hM : 0 < M ∧ M < 1073741824) (hi : i ≠ 1)
    (h : ∀ (s : Bool) (d : Nat) (a : D) (cl : Cell), d < M → isT (endC (denS rest (callK tab (k + 1)) none (setN (setN (.fz a :: .fz (.obj 0) :: List.replicate m .un) i (.fz (.bl s))) j (.fz (.int (.ofNat d)))) [cl])) = true) :
    ∀ ns : List Int, ns.length ≤ 63 → ∃ ih, callK tab (k + 2) law [.lst (ns.map .int)] [] = .ok ih (.v (.bl true)) := fun ns hns => by
  obtain ⟨s, d, A, B, n, hd, e⟩ := law_start (tab := tab) (k := k) (rest := rest) (m := m) (i := i) (j := j) hb ht hc hM ns hns hi
  refine isT_ok ?_
  rw [callK_eq (tab := tab) (k := k + 1) hlaw rfl]
  show isT (endC (denS (sLaw box take cells M i j rest) (callK tab (k + 1)) none (initS [.lst (ns.map D.int)] (m + 1)) [])) = true
  rw [e]
  exact h s d _ _ hd
end Few
set_option linter.all false
set_option maxRecDepth 100000
namespace Few.Pg
/-- is_number: thing -/
def c0 : S := (.ret (.band (.isi (.pk 0) [.int]) (.no (.isi (.pk 0) [.bool]))))
/-- is_from: thing least -/
def c1 : S := (.ret (.band (.call 0 (.cons (.var 0) .nil)) (.cmp .ge (.pk 0) (.pk 1))))
/-- is_below: thing many -/
def c2 : S := (.ret (.band (.call 0 (.cons (.var 0) .nil)) (.cmp2 .le .lt (.con (.int 0)) (.var 0) (.pk 1))))
/-- is_tuple_of: thing many -/
def c3 : S := (.ret (.band (.isi (.pk 0) [.tuple]) (.cmp .eq (.bi .len (.pk 0)) (.pk 1))))
/-- tuple_of: thing part -/
def c4 : S := (.seq (.ife (.isi (.pk 0) [.list, .tuple]) (.ret (.bi .tuple (.lc [1] (.nm 1) (.var 0) (.con (.bl true)) (.gelt (.call 4 (.cons (.var 1) .nil)))))) .skip) (.retp 0))
/-- sure: good -/
def c5 : S := (.ife (.no (.pk 0)) (.raise 0 .nil) .skip)
/-- is_sign_name: thing own -/
def c6 : S := (.ret (.band (.isi (.pk 0) [.str]) (.band (.cmp2 .lt .le (.con (.int 0)) (.bi .len (.pk 0)) (.con (.int 8))) (.bi .all (.lc [1] (.nm 1) (.var 0) (.con (.bl true)) (.gelt (.cmp .isin (.pk 1) (.con (.str [97, 98, 99, 100, 101, 102, 103, 104, 105, 106, 107, 108, 109, 110, 111, 112, 113, 114, 115, 116, 117, 118, 119, 120, 121, 122])))))))))
/-- is_sign: thing -/
def c7 : S := (.seq (.ife (.bor (.no (.call 3 (.cons (.var 0) (.cons (.con (.int 3)) .nil)))) (.bor (.no (.call 6 (.cons (.sub (.pk 0) (.con (.int 0))) .nil))) (.no (.isi (.sub (.pk 0) (.con (.int 1))) [.str])))) (.ret (.con (.bl false))) .skip) (.seq (.ife (.cmp .eq (.sub (.pk 0) (.con (.int 1))) (.con (.str [112, 108, 97, 105, 110]))) (.ret (.call 2 (.cons (.sub (.pk 0) (.con (.int 2))) (.cons (.bin .add (.con (.int 3)) (.con (.int 1))) .nil)))) .skip) (.ret (.band (.cmp .isin (.sub (.pk 0) (.con (.int 1))) (.tup (.cons (.con (.str [115, 119, 97, 112])) (.cons (.con (.str [98, 97, 103])) .nil)))) (.band (.call 0 (.cons (.sub (.pk 0) (.con (.int 2))) .nil)) (.cmp .eq (.sub (.pk 0) (.con (.int 2))) (.con (.int 2))))))))
/-- is_book: thing near far own -/
def c8 : S := (.seq (.ife (.bor (.no (.isi (.pk 0) [.tuple])) (.bor (.no (.cmp2 .lt .le (.con (.int 0)) (.bi .len (.pk 0)) (.con (.int 8)))) (.no (.bi .all (.lc [3] (.nm 3) (.var 0) (.con (.bl true)) (.gelt (.call 7 (.cons (.var 3) .nil)))))))) (.ret (.con (.bl false))) .skip) (.ret (.bi .all (.lc [1, 2] (.cons (.nm 1) (.cons (.nm 2) .nil)) (.bi2 .zip (.var 0) (.slc (.pk 0) (.con (.int 1)) (.con .non))) (.con (.bl true)) (.gelt (.cmp .lt (.sub (.pk 1) (.con (.int 0))) (.sub (.pk 2) (.con (.int 0)))))))))
/-- sure_book: book own -/
def c9 : S := (.seq (.asg (.nm 1) (.call 4 (.cons (.var 0) .nil))) (.seq (.ex (.call 5 (.cons (.call 8 (.cons (.var 1) .nil)) .nil))) (.retp 1)))
/-- signs_of: book name kind many -/
def c10 : S := (.ret (.dc [1, 2, 3] (.cons (.nm 1) (.cons (.nm 2) (.cons (.nm 3) .nil))) (.var 0) (.con (.bl true)) (.gpair (.var 1) (.tup (.cons (.var 2) (.cons (.var 3) .nil))))))
/-- parts_fit: signs thing good kind many -/
def c11 : S := (.seq (.ife (.call 0 (.cons (.var 1) .nil)) (.ret (.ite (.call 2 (.cons (.var 1) (.cons (.con (.int 100)) .nil))) (.tup .nil) (.con .non))) .skip) (.seq (.ife (.bor (.no (.call 3 (.cons (.var 1) (.cons (.con (.int 2)) .nil)))) (.bor (.no (.isi (.sub (.pk 1) (.con (.int 0))) [.str])) (.no (.isi (.sub (.pk 1) (.con (.int 1))) [.tuple])))) (.ret (.con .non)) .skip) (.seq (.ife (.cmp .notin (.sub (.pk 1) (.con (.int 0))) (.pk 0)) (.ret (.con .non)) .skip) (.seq (.asg (.cons (.nm 3) (.cons (.nm 4) .nil)) (.sub (.pk 0) (.sub (.pk 1) (.con (.int 0))))) (.seq (.asg (.nm 2) (.ite (.cmp .eq (.pk 3) (.con (.str [98, 97, 103]))) (.cmp .ge (.bi .len (.sub (.pk 1) (.con (.int 1)))) (.pk 4)) (.cmp .eq (.bi .len (.sub (.pk 1) (.con (.int 1)))) (.pk 4)))) (.ret (.ite (.pk 2) (.sub (.pk 1) (.con (.int 1))) (.con .non))))))))
/-- is_term_by: signs thing line parts -/
def c12 : S := (.seq (.asg (.nm 2) (.lst (.cons (.var 1) .nil))) (.seq (.whl (.cmp .ne (.pk 2) (.lst .nil)) (.seq (.asg (.nm 3) (.call 11 (.cons (.var 0) (.cons (.pop 2) .nil)))) (.seq (.ife (.cmp .isn (.pk 3) (.con .non)) (.ret (.con (.bl false))) .skip) (.ext 2 (.bi .list (.pk 3)))))) (.ret (.con (.bl true)))))
/-- is_path: thing own -/
def c13 : S := (.ret (.band (.isi (.pk 0) [.tuple]) (.bi .all (.lc [1] (.nm 1) (.var 0) (.con (.bl true)) (.gelt (.band (.call 0 (.cons (.var 1) .nil)) (.cmp .ge (.pk 1) (.con (.int 0)))))))))
/-- parts_in: own -/
def c14 : S := (.ret (.ite (.call 0 (.cons (.var 0) .nil)) (.tup .nil) (.sub (.pk 0) (.con (.int 1)))))
/-- words_in: signs own below part -/
def c15 : S := (.seq (.ife (.call 0 (.cons (.var 1) .nil)) (.ret (.con (.int 1))) .skip) (.seq (.asg (.nm 2) (.bi .sum (.lc [3] (.nm 3) (.sub (.pk 1) (.con (.int 1))) (.con (.bl true)) (.gelt (.call 15 (.cons (.var 0) (.cons (.var 3) .nil))))))) (.ret (.bin .add (.pk 2) (.ite (.cmp .eq (.sub (.sub (.pk 0) (.sub (.pk 1) (.con (.int 0)))) (.con (.int 0))) (.con (.str [98, 97, 103]))) (.bin .sub (.bi .len (.sub (.pk 1) (.con (.int 1)))) (.con (.int 1))) (.con (.int 1)))))))
/-- walked: own found line path here place part -/
def c16 : S := (.seq (.par 1 2 (.lst .nil) (.lst (.cons (.tup (.cons (.tup .nil) (.cons (.var 0) .nil))) .nil))) (.seq (.whl (.cmp .ne (.pk 2) (.lst .nil)) (.seq (.asg (.cons (.nm 3) (.cons (.nm 4) .nil)) (.pop 2)) (.seq (.app 1 (.tup (.cons (.var 3) (.cons (.var 4) .nil)))) (.ext 2 (.rev (.lc [5, 6] (.cons (.nm 5) (.cons (.nm 6) .nil)) (.bi2 .enum (.call 14 (.cons (.var 4) .nil)) (.con (.int 0))) (.con (.bl true)) (.gelt (.tup (.cons (.tup (.star (.var 3) (.cons (.var 5) .nil))) (.cons (.var 6) .nil)))))))))) (.retp 1)))
/-- unknowns_in: own _ here -/
def c17 : S := (.ret (.bi .tuple (.bi .sortset (.lc [1, 2] (.cons (.nm 1) (.cons (.nm 2) .nil)) (.call 16 (.cons (.var 0) .nil)) (.call 0 (.cons (.var 2) .nil)) (.gelt (.var 2))))))
/-- put_told_at: own path other parts -/
def c18 : S := (.seq (.ife (.cmp .eq (.pk 1) (.tup .nil)) (.retp 2) .skip) (.seq (.asg (.nm 3) (.bi .list (.sub (.pk 0) (.con (.int 1))))) (.seq (.seti 3 (.sub (.pk 1) (.con (.int 0))) (.call 18 (.cons (.sub (.pk 3) (.sub (.pk 1) (.con (.int 0)))) (.cons (.slc (.pk 1) (.con (.int 1)) (.con .non)) (.cons (.var 2) .nil))))) (.ret (.tup (.cons (.sub (.pk 0) (.con (.int 0))) (.cons (.bi .tuple (.pk 3)) .nil)))))))
/-- key_of: signs own behind name parts words keys part key -/
def c19 : S := (.seq (.ife (.call 0 (.cons (.var 1) .nil)) (.ret (.tup (.cons (.con (.int 1)) (.cons (.con (.int 0)) (.cons (.var 1) .nil))))) .skip) (.seq (.asg (.cons (.nm 3) (.cons (.nm 4) .nil)) (.var 1)) (.seq (.par 5 6 (.call 15 (.cons (.var 0) (.cons (.var 1) .nil))) (.lc [7] (.nm 7) (.var 4) (.con (.bl true)) (.gelt (.call 19 (.cons (.var 0) (.cons (.var 7) .nil)))))) (.seq (.ife (.cmp .ne (.sub (.sub (.pk 0) (.pk 3)) (.con (.int 0))) (.con (.str [98, 97, 103]))) (.ret (.tup (.cons (.var 5) (.cons (.con (.int 1)) (.cons (.var 3) (.cons (.bi .tuple (.pk 6)) .nil)))))) .skip) (.seq (.asg (.nm 2) (.lc [8, 7] (.cons (.nm 8) (.cons (.nm 7) .nil)) (.bi2 .zip (.var 6) (.var 4)) (.band (.no (.call 0 (.cons (.var 7) .nil))) (.cmp .gt (.sub (.pk 7) (.con (.int 0))) (.pk 3))) (.gelt (.var 8)))) (.ret (.tup (.cons (.var 5) (.cons (.con (.int 1)) (.cons (.var 3) (.cons (.bi .tuple (.rev (.bi .sorted (.pk 2)))) (.cons (.bi .len (.pk 4)) (.cons (.bi .tuple (.rev (.bi .sorted (.pk 6)))) .nil)))))))))))))
/-- sure_plain_book: book own sign -/
def c20 : S := (.seq (.asg (.nm 1) (.call 9 (.cons (.var 0) .nil))) (.seq (.ex (.call 5 (.cons (.band (.bi .all (.lc [2] (.nm 2) (.var 1) (.con (.bl true)) (.gelt (.cmp .eq (.sub (.pk 2) (.con (.int 1))) (.con (.str [112, 108, 97, 105, 110])))))) (.bi .any (.lc [2] (.nm 2) (.var 1) (.con (.bl true)) (.gelt (.cmp .eq (.sub (.pk 2) (.con (.int 2))) (.con (.int 0))))))) .nil))) (.retp 1)))
/-- is_pattern: book thing _ here -/
def c21 : S := (.seq (.ife (.no (.call 12 (.cons (.call 10 (.cons (.var 0) .nil)) (.cons (.var 1) .nil)))) (.ret (.con (.bl false))) .skip) (.ret (.cmp .eq (.bi .len (.lc [2, 3] (.cons (.nm 2) (.cons (.nm 3) .nil)) (.call 16 (.cons (.var 1) .nil)) (.call 0 (.cons (.var 3) .nil)) (.gelt (.var 3)))) (.bi .len (.call 17 (.cons (.var 1) .nil))))))
/-- sure_pattern: book pattern own -/
def c22 : S := (.seq (.asg (.nm 2) (.call 4 (.cons (.var 1) .nil))) (.seq (.ex (.call 5 (.cons (.call 21 (.cons (.var 0) (.cons (.var 2) .nil))) .nil))) (.retp 2)))
/-- sure_patterns: book patterns own pattern -/
def c23 : S := (.seq (.asg (.nm 2) (.call 4 (.cons (.var 1) .nil))) (.seq (.ex (.call 5 (.cons (.band (.isi (.pk 2) [.tuple]) (.band (.cmp .le (.bi .len (.pk 2)) (.con (.int 8))) (.bi .all (.lc [3] (.nm 3) (.var 2) (.con (.bl true)) (.gelt (.call 21 (.cons (.var 0) (.cons (.var 3) .nil)))))))) .nil))) (.retp 2)))
/-- is_of: own pattern near far -/
def c24 : S := (.seq (.ife (.call 0 (.cons (.var 1) .nil)) (.ret (.con (.bl true))) .skip) (.seq (.ife (.bor (.call 0 (.cons (.var 0) .nil)) (.cmp .ne (.sub (.pk 0) (.con (.int 0))) (.sub (.pk 1) (.con (.int 0))))) (.ret (.con (.bl false))) .skip) (.ret (.bi .all (.lc [2, 3] (.cons (.nm 2) (.cons (.nm 3) .nil)) (.bi2 .zip (.sub (.pk 0) (.con (.int 1))) (.sub (.pk 1) (.con (.int 1)))) (.con (.bl true)) (.gelt (.call 24 (.cons (.var 2) (.cons (.var 3) .nil)))))))))
/-- have_one: one other near far -/
def c25 : S := (.seq (.ife (.bor (.call 0 (.cons (.var 0) .nil)) (.call 0 (.cons (.var 1) .nil))) (.ret (.con (.bl true))) .skip) (.ret (.band (.cmp .eq (.sub (.pk 0) (.con (.int 0))) (.sub (.pk 1) (.con (.int 0)))) (.bi .all (.lc [2, 3] (.cons (.nm 2) (.cons (.nm 3) .nil)) (.bi2 .zip (.sub (.pk 0) (.con (.int 1))) (.sub (.pk 1) (.con (.int 1)))) (.con (.bl true)) (.gelt (.call 25 (.cons (.var 2) (.cons (.var 3) .nil)))))))))
/-- merged: one other near far -/
def c26 : S := (.seq (.ife (.call 0 (.cons (.var 0) .nil)) (.ret (.call 27 (.cons (.var 1) .nil))) .skip) (.seq (.ife (.call 0 (.cons (.var 1) .nil)) (.ret (.call 27 (.cons (.var 0) .nil))) .skip) (.ret (.tup (.cons (.sub (.pk 0) (.con (.int 0))) (.cons (.bi .tuple (.lc [2, 3] (.cons (.nm 2) (.cons (.nm 3) .nil)) (.bi2 .zip (.sub (.pk 0) (.con (.int 1))) (.sub (.pk 1) (.con (.int 1)))) (.con (.bl true)) (.gelt (.call 26 (.cons (.var 2) (.cons (.var 3) .nil)))))) .nil))))))
/-- bare: own part -/
def c27 : S := (.ret (.ite (.call 0 (.cons (.var 0) .nil)) (.con (.int 0)) (.tup (.cons (.sub (.pk 0) (.con (.int 0))) (.cons (.bi .tuple (.lc [1] (.nm 1) (.sub (.pk 0) (.con (.int 1))) (.con (.bl true)) (.gelt (.call 27 (.cons (.var 1) .nil))))) .nil)))))
/-- by_number: own found number path here -/
def c28 : S := (.seq (.par 1 2 (.var 0) (.con (.int 0))) (.seq (.forr (.cons (.nm 3) (.cons (.nm 4) .nil)) (.call 16 (.cons (.var 0) .nil)) (.ife (.call 0 (.cons (.var 4) .nil)) (.seq (.asg (.nm 1) (.call 18 (.cons (.var 1) (.cons (.var 3) (.cons (.var 2) .nil))))) (.asg (.nm 2) (.bin .add (.pk 2) (.con (.int 1))))) .skip)) (.retp 1)))
/-- spot_of: own pattern line pairs path near far place one other -/
def c29 : S := (.seq (.asg (.nm 2) (.lst (.cons (.tup (.cons (.tup .nil) (.cons (.var 0) (.cons (.var 1) .nil)))) .nil))) (.seq (.whl (.cmp .ne (.pk 2) (.lst .nil)) (.seq (.asg (.cons (.nm 4) (.cons (.nm 5) (.cons (.nm 6) .nil))) (.pop 2)) (.seq (.ife (.call 0 (.cons (.var 6) .nil)) .cont .skip) (.seq (.ife (.call 0 (.cons (.var 5) .nil)) (.retp 4) .skip) (.seq (.asg (.nm 3) (.lsz (.bi2 .zip (.call 14 (.cons (.var 5) .nil)) (.call 14 (.cons (.var 6) .nil))))) (.ext 2 (.rev (.lc [7, 8, 9] (.cons (.nm 7) (.cons (.cons (.nm 8) (.cons (.nm 9) .nil)) .nil)) (.bi2 .enum (.var 3) (.con (.int 0))) (.con (.bl true)) (.gelt (.tup (.cons (.tup (.star (.var 4) (.cons (.var 7) .nil))) (.cons (.var 8) (.cons (.var 9) .nil))))))))))))) (.ret (.con .non))))
/-- parted_at: book own path name _ many -/
def c30 : S := (.ret (.lc [3, 4, 5] (.cons (.nm 3) (.cons (.nm 4) (.cons (.nm 5) .nil))) (.var 0) (.con (.bl true)) (.gelt (.call 18 (.cons (.var 1) (.cons (.var 2) (.cons (.tup (.cons (.var 3) (.cons (.bin .mul (.tup (.cons (.con (.int 0)) .nil)) (.pk 5)) .nil))) .nil)))))))
/-- left_of: book own patterns some found part pattern -/
def c31 : S := (.seq (.ife (.bi .any (.lc [6] (.nm 6) (.var 2) (.con (.bl true)) (.gelt (.call 24 (.cons (.var 1) (.cons (.var 6) .nil)))))) (.ret (.lst .nil)) .skip) (.seq (.asg (.nm 3) (.lc [6] (.nm 6) (.var 2) (.call 25 (.cons (.var 1) (.cons (.var 6) .nil))) (.gelt (.var 6)))) (.seq (.ife (.cmp .eq (.pk 3) (.lst .nil)) (.ret (.lst (.cons (.var 1) .nil))) .skip) (.seq (.asg (.nm 4) (.lst .nil)) (.seq (.forr (.nm 5) (.call 30 (.cons (.var 0) (.cons (.var 1) (.cons (.call 29 (.cons (.var 1) (.cons (.sub (.pk 3) (.con (.int 0))) .nil))) .nil)))) (.ext 4 (.call 31 (.cons (.var 0) (.cons (.var 5) (.cons (.var 3) .nil)))))) (.retp 4))))))
/-- missing_in: book patterns own -/
def c32 : S := (.ret (.lc [2] (.nm 2) (.call 31 (.cons (.var 0) (.cons (.con (.int 0)) (.cons (.var 1) .nil)))) (.con (.bl true)) (.gelt (.call 28 (.cons (.var 2) .nil)))))
/-- are_covered: book patterns own -/
def c33 : S := (.seq (.asg (.nm 2) (.call 20 (.cons (.var 0) .nil))) (.ret (.cmp .eq (.call 31 (.cons (.var 2) (.cons (.con (.int 0)) (.cons (.call 23 (.cons (.var 2) (.cons (.var 1) .nil))) .nil)))) (.lst .nil))))
/-- missing: book patterns own -/
def c34 : S := (.seq (.asg (.nm 2) (.call 20 (.cons (.var 0) .nil))) (.ret (.call 32 (.cons (.var 2) (.cons (.call 23 (.cons (.var 2) (.cons (.var 1) .nil))) .nil)))))
/-- least_bare: book name _ many -/
def c35 : S := (.ret (.sub (.lc [1, 2, 3] (.cons (.nm 1) (.cons (.nm 2) (.cons (.nm 3) .nil))) (.var 0) (.cmp .eq (.pk 3) (.con (.int 0))) (.gelt (.tup (.cons (.var 1) (.cons (.tup .nil) .nil))))) (.con (.int 0))))
/-- closed_by: own least part -/
def c36 : S := (.ret (.ite (.call 0 (.cons (.var 0) .nil)) (.var 1) (.tup (.cons (.sub (.pk 0) (.con (.int 0))) (.cons (.bi .tuple (.lc [2] (.nm 2) (.sub (.pk 0) (.con (.int 1))) (.con (.bl true)) (.gelt (.call 36 (.cons (.var 2) (.cons (.var 1) .nil)))))) .nil)))))
/-- least_missing: book patterns own found signs least pattern term -/
def c37 : S := (.seq (.asg (.nm 2) (.call 20 (.cons (.var 0) .nil))) (.seq (.asg (.cons (.nm 4) (.cons (.nm 5) .nil)) (.tup (.cons (.call 10 (.cons (.var 2) .nil)) (.cons (.call 35 (.cons (.var 2) .nil)) .nil)))) (.seq (.asg (.nm 3) (.lc [6] (.nm 6) (.call 32 (.cons (.var 2) (.cons (.call 23 (.cons (.var 2) (.cons (.var 1) .nil))) .nil))) (.con (.bl true)) (.gelt (.call 36 (.cons (.var 6) (.cons (.var 5) .nil)))))) (.seq (.ife (.cmp .eq (.pk 3) (.lst .nil)) (.raise 1 .nil) .skip) (.ret (.sub (.sub (.bi .sorted (.lc [7] (.nm 7) (.var 3) (.con (.bl true)) (.gelt (.tup (.cons (.call 19 (.cons (.var 4) (.cons (.var 7) .nil))) (.cons (.var 7) .nil)))))) (.con (.int 0))) (.con (.int 1))))))))
/-- is_missing: book patterns thing own some pattern -/
def c38 : S := (.seq (.asg (.nm 3) (.call 20 (.cons (.var 0) .nil))) (.seq (.asg (.nm 4) (.call 23 (.cons (.var 3) (.cons (.var 1) .nil)))) (.seq (.ife (.bor (.no (.call 12 (.cons (.call 10 (.cons (.var 3) .nil)) (.cons (.var 2) .nil)))) (.cmp .ne (.call 17 (.cons (.var 2) .nil)) (.tup .nil))) (.ret (.con (.bl false))) .skip) (.ret (.no (.bi .any (.lc [5] (.nm 5) (.var 4) (.con (.bl true)) (.gelt (.call 24 (.cons (.var 2) (.cons (.var 5) .nil)))))))))))
/-- tree_of: book own patterns some path trees place pattern part -/
def c39 : S := (.seq (.forr (.cons (.nm 6) (.cons (.nm 7) .nil)) (.bi2 .enum (.var 2) (.con (.int 0))) (.ife (.call 24 (.cons (.var 1) (.cons (.var 7) .nil))) (.ret (.tup (.cons (.con (.str [98, 121])) (.cons (.var 6) .nil)))) .skip)) (.seq (.asg (.nm 3) (.lc [7] (.nm 7) (.var 2) (.call 25 (.cons (.var 1) (.cons (.var 7) .nil))) (.gelt (.var 7)))) (.seq (.ife (.cmp .eq (.pk 3) (.lst .nil)) (.ret (.con .non)) .skip) (.seq (.asg (.nm 4) (.call 29 (.cons (.var 1) (.cons (.sub (.pk 3) (.con (.int 0))) .nil)))) (.seq (.asg (.nm 5) (.lc [8] (.nm 8) (.call 30 (.cons (.var 0) (.cons (.var 1) (.cons (.var 4) .nil)))) (.con (.bl true)) (.gelt (.call 39 (.cons (.var 0) (.cons (.var 8) (.cons (.var 2) .nil))))))) (.ret (.ite (.cmp .isin (.con .non) (.pk 5)) (.con .non) (.tup (.cons (.con (.str [112, 97, 114, 116])) (.cons (.var 4) (.cons (.bi .tuple (.pk 5)) .nil)))))))))))
/-- cover_tree: book patterns own found -/
def c40 : S := (.seq (.asg (.nm 2) (.call 20 (.cons (.var 0) .nil))) (.seq (.asg (.nm 3) (.call 39 (.cons (.var 2) (.cons (.con (.int 0)) (.cons (.call 23 (.cons (.var 2) (.cons (.var 1) .nil))) .nil))))) (.seq (.ife (.cmp .isn (.pk 3) (.con .non)) (.raise 1 .nil) .skip) (.retp 3))))
/-- is_tree_at: book own patterns thing here parts path part tree -/
def c41 : S := (.seq (.ife (.band (.call 3 (.cons (.var 3) (.cons (.con (.int 2)) .nil))) (.band (.isi (.sub (.pk 3) (.con (.int 0))) [.str]) (.cmp .eq (.sub (.pk 3) (.con (.int 0))) (.con (.str [98, 121]))))) (.ret (.band (.call 2 (.cons (.sub (.pk 3) (.con (.int 1))) (.cons (.bi .len (.pk 2)) .nil))) (.call 24 (.cons (.var 1) (.cons (.sub (.pk 2) (.sub (.pk 3) (.con (.int 1)))) .nil))))) .skip) (.seq (.ife (.bor (.no (.call 3 (.cons (.var 3) (.cons (.con (.int 3)) .nil)))) (.bor (.no (.isi (.sub (.pk 3) (.con (.int 0))) [.str])) (.bor (.cmp .ne (.sub (.pk 3) (.con (.int 0))) (.con (.str [112, 97, 114, 116]))) (.no (.call 13 (.cons (.sub (.pk 3) (.con (.int 1))) .nil)))))) (.ret (.con (.bl false))) .skip) (.seq (.asg (.nm 4) (.lc [6, 7] (.cons (.nm 6) (.cons (.nm 7) .nil)) (.call 16 (.cons (.var 1) .nil)) (.cmp .eq (.pk 6) (.sub (.pk 3) (.con (.int 1)))) (.gelt (.var 7)))) (.seq (.ife (.bor (.cmp .eq (.pk 4) (.lst .nil)) (.bor (.no (.call 0 (.cons (.sub (.pk 4) (.con (.int 0))) .nil))) (.no (.call 3 (.cons (.sub (.pk 3) (.con (.int 2))) (.cons (.bi .len (.pk 0)) .nil)))))) (.ret (.con (.bl false))) .skip) (.seq (.asg (.nm 5) (.call 30 (.cons (.var 0) (.cons (.var 1) (.cons (.sub (.pk 3) (.con (.int 1))) .nil))))) (.ret (.bi .all (.lc [7, 8] (.cons (.nm 7) (.cons (.nm 8) .nil)) (.bi2 .zip (.var 5) (.sub (.pk 3) (.con (.int 2)))) (.con (.bl true)) (.gelt (.call 41 (.cons (.var 0) (.cons (.var 7) (.cons (.var 2) (.cons (.var 8) .nil))))))))))))))
/-- is_cover_tree: book patterns thing own -/
def c42 : S := (.seq (.asg (.nm 3) (.call 20 (.cons (.var 0) .nil))) (.ret (.call 41 (.cons (.var 3) (.cons (.con (.int 0)) (.cons (.call 23 (.cons (.var 3) (.cons (.var 1) .nil))) (.cons (.var 2) .nil)))))))
/-- needless: book patterns own some place -/
def c43 : S := (.seq (.asg (.nm 2) (.call 20 (.cons (.var 0) .nil))) (.seq (.asg (.nm 3) (.call 23 (.cons (.var 2) (.cons (.var 1) .nil)))) (.ret (.bi .tuple (.lc [4] (.nm 4) (.bi2 .range (.con (.int 0)) (.bi .len (.pk 3))) (.cmp .eq (.call 31 (.cons (.var 2) (.cons (.call 27 (.cons (.sub (.pk 3) (.pk 4)) .nil)) (.cons (.slc (.pk 3) (.con .non) (.var 4)) .nil)))) (.lst .nil)) (.gelt (.var 4)))))))
/-- of_both: book one other own near far -/
def c44 : S := (.seq (.asg (.nm 3) (.call 20 (.cons (.var 0) .nil))) (.seq (.asg (.nm 4) (.call 22 (.cons (.var 3) (.cons (.var 1) .nil)))) (.seq (.asg (.nm 5) (.call 22 (.cons (.var 3) (.cons (.var 2) .nil)))) (.seq (.ife (.no (.call 25 (.cons (.var 4) (.cons (.var 5) .nil)))) (.raise 1 .nil) .skip) (.ret (.call 28 (.cons (.call 26 (.cons (.var 4) (.cons (.var 5) .nil))) .nil)))))))
/-- without: book one other own near pattern -/
def c45 : S := (.seq (.asg (.nm 3) (.call 20 (.cons (.var 0) .nil))) (.seq (.asg (.nm 4) (.call 22 (.cons (.var 3) (.cons (.var 1) .nil)))) (.ret (.lc [5] (.nm 5) (.call 31 (.cons (.var 3) (.cons (.call 27 (.cons (.var 4) .nil)) (.cons (.tup (.cons (.call 22 (.cons (.var 3) (.cons (.var 2) .nil))) .nil)) .nil)))) (.con (.bl true)) (.gelt (.call 28 (.cons (.var 5) .nil)))))))
/-- closed_counts: book words found size whole _ many -/
def c46 : S := (.seq (.asg (.nm 2) (.lstc (.cons (.con (.int 0)) .nil))) (.seq (.forr (.nm 3) (.bi2 .range (.con (.int 1)) (.bin .add (.pk 1) (.con (.int 1)))) (.seq (.asg (.nm 4) (.con (.int 0))) (.seq (.forr (.cons (.nm 5) (.cons (.nm 5) (.cons (.nm 6) .nil))) (.var 0) (.asg (.nm 4) (.bin .add (.pk 4) (.call 47 (.cons (.var 2) (.cons (.var 6) (.cons (.bin .sub (.pk 3) (.con (.int 1))) .nil))))))) (.appc (.var 2) (.var 4))))) (.retp 2)))
/-- ways: counts many words found _ later size own more -/
def c47 : S := (.seq (.asg (.nm 3) (.bin .add (.lst (.cons (.con (.int 1)) .nil)) (.bin .mul (.lst (.cons (.con (.int 0)) .nil)) (.pk 2)))) (.seq (.forr (.nm 4) (.bi2 .range (.con (.int 0)) (.var 1)) (.seq (.asg (.nm 5) (.bin .mul (.lst (.cons (.con (.int 0)) .nil)) (.bin .add (.pk 2) (.con (.int 1))))) (.seq (.forr (.cons (.nm 6) (.cons (.nm 7) .nil)) (.bi2 .enum (.var 3) (.con (.int 0))) (.forr (.nm 8) (.bi2 .range (.con (.int 1)) (.bin .add (.bi2 .min (.bin .sub (.bi .len (.pk 0)) (.con (.int 1))) (.bin .sub (.pk 2) (.pk 6))) (.con (.int 1)))) (.seti 5 (.bin .add (.pk 6) (.pk 8)) (.bin .add (.sub (.pk 5) (.bin .add (.pk 6) (.pk 8))) (.bin .mul (.pk 7) (.sub (.pk 0) (.pk 8))))))) (.asg (.nm 3) (.var 5))))) (.ret (.sub (.pk 3) (.pk 2)))))
/-- instances: counts own words open_so told _ here -/
def c48 : S := (.seq (.asg (.nm 3) (.bi .len (.lc [5, 6] (.cons (.nm 5) (.cons (.nm 6) .nil)) (.call 16 (.cons (.var 1) .nil)) (.call 0 (.cons (.var 6) .nil)) (.gelt (.var 6))))) (.seq (.asg (.nm 4) (.bin .sub (.bi .len (.call 16 (.cons (.var 1) .nil))) (.pk 3))) (.ret (.ite (.cmp .ge (.pk 2) (.pk 4)) (.call 47 (.cons (.var 0) (.cons (.var 3) (.cons (.bin .sub (.pk 2) (.pk 4)) .nil)))) (.con (.int 0))))))
/-- how_many_closed: book words own -/
def c49 : S := (.seq (.asg (.nm 2) (.call 20 (.cons (.var 0) .nil))) (.seq (.ex (.call 5 (.cons (.call 1 (.cons (.var 1) (.cons (.con (.int 0)) .nil))) .nil))) (.ret (.sub (.call 46 (.cons (.var 2) (.cons (.var 1) .nil))) (.pk 1)))))
/-- how_many_covered: book patterns words own some counts pattern -/
def c50 : S := (.seq (.asg (.nm 3) (.call 20 (.cons (.var 0) .nil))) (.seq (.asg (.nm 4) (.call 23 (.cons (.var 3) (.cons (.var 1) .nil)))) (.seq (.ex (.call 5 (.cons (.call 1 (.cons (.var 2) (.cons (.con (.int 0)) .nil))) .nil))) (.seq (.asg (.nm 5) (.call 46 (.cons (.var 3) (.cons (.var 2) .nil)))) (.ret (.bin .sub (.sub (.pk 5) (.pk 2)) (.bi .sum (.lc [6] (.nm 6) (.call 31 (.cons (.var 3) (.cons (.con (.int 0)) (.cons (.var 4) .nil)))) (.con (.bl true)) (.gelt (.call 48 (.cons (.var 5) (.cons (.var 6) (.cons (.var 2) .nil)))))))))))))
/-- _law_box: script k cell -/
def c51 : S := (.seq (.asg (.nm 2) (.ite (.cmp .lt (.pk 1) (.bi .len (.pk 0))) (.sub (.pk 0) (.pk 1)) (.con (.int 0)))) (.ret (.lstc (.cons (.bin .mul (.bi .abs (.pk 2)) (.bi .int (.cmp .ge (.bi .abs (.pk 2)) (.bin .pow (.con (.int 10)) (.con (.int 18)))))) (.cons (.bin .add (.bin .add (.bin .mod (.bi .int (.pk 2)) (.con (.int 2305843009213693951))) (.bin .mul (.con (.int 39373)) (.pk 1))) (.con (.int 74240654))) (.cons (.con (.int 0)) .nil))))))
/-- _law_take: urn below once far twice drawn -/
def c52 : S := (.seq (.ife (.cmp .gt (.sub (.pk 0) (.con (.int 0))) (.con (.int 0))) (.seq (.asg (.nm 5) (.bin .mod (.bi .int (.sub (.pk 0) (.con (.int 0)))) (.pk 1))) (.seq (.setc (.var 0) (.con (.int 0)) (.bin .fdiv (.sub (.pk 0) (.con (.int 0))) (.pk 1))) (.retp 5))) .skip) (.seq (.setc (.var 0) (.con (.int 2)) (.bin .add (.sub (.pk 0) (.con (.int 2))) (.con (.int 1)))) (.seq (.asg (.nm 2) (.bin .mod (.bi .int (.bin .mul (.bin .add (.sub (.pk 0) (.con (.int 1))) (.bin .mul (.con (.int 48271)) (.sub (.pk 0) (.con (.int 2))))) (.bin .add (.con (.int 39373)) (.sub (.pk 0) (.con (.int 2)))))) (.con (.int 2147483647)))) (.seq (.asg (.nm 3) (.bin .add (.bin .mod (.bi .int (.pk 2)) (.con (.int 40009))) (.con (.int 7)))) (.seq (.asg (.nm 4) (.bin .mod (.bi .int (.bin .mul (.bin .add (.bin .add (.pk 2) (.sub (.pk 0) (.con (.int 2)))) (.bin .fdiv (.sub (.pk 0) (.con (.int 1))) (.con (.int 1000003)))) (.pk 3))) (.con (.int 2147483629)))) (.ret (.bin .mod (.bi .int (.bin .fdiv (.bin .mod (.bi .int (.bin .add (.bin .mul (.pk 4) (.con (.int 48271))) (.pk 2))) (.con (.int 2147483587))) (.con (.int 64)))) (.pk 1))))))))
/-- _law_cells: script many cells k cell at -/
def c53 : S := (.seq (.asg (.nm 2) (.bor (.bi .list (.slc (.pk 0) (.con .non) (.var 1))) (.lst (.cons (.con (.int 0)) .nil)))) (.seq (.forr (.cons (.nm 3) (.cons (.nm 4) .nil)) (.bi2 .enum (.slc (.pk 0) (.var 1) (.con (.int 63))) (.con (.int 0))) (.seq (.asg (.nm 5) (.bin .mod (.bi .int (.pk 3)) (.pk 1))) (.seti 2 (.var 5) (.bin .add (.sub (.pk 2) (.pk 5)) (.bin .mul (.pk 4) (.bin .add (.pk 3) (.con (.int 2)))))))) (.retp 2)))
/-- _law_same: got due mine own -/
def c54 : S := (.seq (.ife (.isi (.pk 1) [.list, .tuple]) (.seq (.ife (.bor (.cmp .ne (.isi (.pk 0) [.list]) (.isi (.pk 1) [.list])) (.cmp .ne (.isi (.pk 0) [.tuple]) (.isi (.pk 1) [.tuple]))) (.ret (.con (.bl false))) .skip) (.ret (.band (.cmp .eq (.bi .len (.pk 0)) (.bi .len (.pk 1))) (.bi .all (.lc [2, 3] (.cons (.nm 2) (.cons (.nm 3) .nil)) (.bi2 .zip (.var 0) (.var 1)) (.con (.bl true)) (.gelt (.call 54 (.cons (.var 2) (.cons (.var 3) .nil))))))))) .skip) (.seq (.ife (.bor (.cmp .isn (.pk 1) (.con .non)) (.isi (.pk 1) [.bool, .str])) (.ret (.band (.cmp .eq (.isi (.pk 0) [.str]) (.isi (.pk 1) [.str])) (.band (.cmp .eq (.isi (.pk 0) [.bool]) (.isi (.pk 1) [.bool])) (.band (.cmp .eq (.cmp .isn (.pk 0) (.con .non)) (.cmp .isn (.pk 1) (.con .non))) (.cmp .eq (.pk 0) (.pk 1)))))) .skip) (.ret (.band (.isi (.pk 0) [.int]) (.band (.no (.isi (.pk 0) [.bool])) (.cmp .eq (.pk 0) (.pk 1)))))))
/-- _law_lists: matter own -/
def c55 : S := (.ret (.ite (.isi (.pk 0) [.list, .tuple]) (.lc [1] (.nm 1) (.var 0) (.con (.bl true)) (.gelt (.call 55 (.cons (.var 1) .nil)))) (.var 0)))
/-- _law_signs:  -/
def c56 : S := (.ret (.tup (.cons (.tup (.cons (.con (.str [97])) (.cons (.con (.str [112, 108, 97, 105, 110])) (.cons (.con (.int 2)) .nil)))) (.cons (.tup (.cons (.con (.str [102])) (.cons (.con (.str [112, 108, 97, 105, 110])) (.cons (.con (.int 1)) .nil)))) (.cons (.tup (.cons (.con (.str [110])) (.cons (.con (.str [112, 108, 97, 105, 110])) (.cons (.con (.int 0)) .nil)))) (.cons (.tup (.cons (.con (.str [111])) (.cons (.con (.str [112, 108, 97, 105, 110])) (.cons (.con (.int 0)) .nil)))) .nil))))))
/-- _law_heard: door book one two caught -/
def c57 : S := (.tri (.seq (.ife (.cmp .lt (.pk 0) (.con (.int 4))) (.ret (.ite (.cmp .eq (.pk 0) (.con (.int 0))) (.call 33 (.cons (.var 1) (.cons (.var 2) .nil))) (.ite (.cmp .eq (.pk 0) (.con (.int 1))) (.call 34 (.cons (.var 1) (.cons (.var 2) .nil))) (.ite (.cmp .eq (.pk 0) (.con (.int 2))) (.call 37 (.cons (.var 1) (.cons (.var 2) .nil))) (.call 40 (.cons (.var 1) (.cons (.var 2) .nil))))))) .skip) (.seq (.ife (.cmp .lt (.pk 0) (.con (.int 8))) (.ret (.ite (.cmp .eq (.pk 0) (.con (.int 4))) (.call 38 (.cons (.var 1) (.cons (.var 2) (.cons (.var 3) .nil)))) (.ite (.cmp .eq (.pk 0) (.con (.int 5))) (.call 42 (.cons (.var 1) (.cons (.var 2) (.cons (.var 3) .nil)))) (.ite (.cmp .eq (.pk 0) (.con (.int 6))) (.call 43 (.cons (.var 1) (.cons (.var 2) .nil))) (.call 44 (.cons (.var 1) (.cons (.var 2) (.cons (.var 3) .nil)))))))) .skip) (.ret (.ite (.cmp .eq (.pk 0) (.con (.int 8))) (.call 45 (.cons (.var 1) (.cons (.var 2) (.cons (.var 3) .nil)))) (.ite (.cmp .eq (.pk 0) (.con (.int 9))) (.call 50 (.cons (.var 1) (.cons (.var 2) (.cons (.var 3) .nil)))) (.call 49 (.cons (.var 1) (.cons (.var 2) .nil)))))))) (.hcons [1] 4 (.ret (.lst (.cons (.con (.str [99, 97, 110])) (.cons (.band (.con (.bl true)) (.no (.con (.bl false)))) .nil)))) (.hcons [0] 4 (.ret (.lst (.cons (.con (.str [117, 110, 102, 105, 116])) (.cons (.band (.con (.bl true)) (.no (.con (.bl false)))) .nil)))) .hnil)))
/-- _law_covers_right: soft told lots both got due some things book n o patterns covered left given thing -/
def c58 : S := (.seq (.asg (.cons (.nm 8) (.cons (.nm 9) (.cons (.nm 10) .nil))) (.tup (.cons (.call 56 .nil) (.cons (.tup (.cons (.con (.str [110])) (.cons (.tup .nil) .nil))) (.cons (.tup (.cons (.con (.str [111])) (.cons (.tup .nil) .nil))) .nil))))) (.seq (.asg (.nm 1) (.ite (.pk 0) (.call 55 (.cons (.var 8) .nil)) (.var 8))) (.seq (.asg (.nm 2) (.lst (.cons (.tup (.cons (.tup .nil) (.cons (.con (.bl false)) (.cons (.lst (.cons (.con (.int 0)) .nil)) .nil)))) (.cons (.tup (.cons (.tup (.cons (.con (.int 4)) .nil)) (.cons (.con (.bl true)) (.cons (.lst .nil) .nil)))) (.cons (.tup (.cons (.tup (.cons (.var 9) (.cons (.var 10) (.cons (.tup (.cons (.con (.str [102])) (.cons (.tup (.cons (.con (.int 0)) .nil)) .nil))) (.cons (.tup (.cons (.con (.str [97])) (.cons (.tup (.cons (.con (.int 0)) (.cons (.con (.int 1)) .nil))) .nil))) .nil))))) (.cons (.con (.bl true)) (.cons (.lst .nil) .nil)))) .nil))))) (.seq (.asg (.nm 2) (.bin .add (.pk 2) (.lst (.cons (.tup (.cons (.tup (.cons (.var 9) (.cons (.tup (.cons (.con (.str [102])) (.cons (.tup (.cons (.var 9) .nil)) .nil))) (.cons (.tup (.cons (.con (.str [97])) (.cons (.tup (.cons (.con (.int 0)) (.cons (.tup (.cons (.con (.str [102])) (.cons (.tup (.cons (.con (.int 1)) .nil)) .nil))) .nil))) .nil))) .nil)))) (.cons (.con (.bl false)) (.cons (.lst (.cons (.tup (.cons (.con (.str [97])) (.cons (.tup (.cons (.con (.int 0)) (.cons (.tup (.cons (.con (.str [97])) (.cons (.tup (.cons (.con (.int 1)) (.cons (.con (.int 2)) .nil))) .nil))) .nil))) .nil))) (.cons (.tup (.cons (.con (.str [97])) (.cons (.tup (.cons (.con (.int 0)) (.cons (.var 9) .nil))) .nil))) (.cons (.tup (.cons (.con (.str [97])) (.cons (.tup (.cons (.con (.int 0)) (.cons (.var 10) .nil))) .nil))) (.cons (.tup (.cons (.con (.str [102])) (.cons (.tup (.cons (.tup (.cons (.con (.str [97])) (.cons (.tup (.cons (.con (.int 0)) (.cons (.con (.int 1)) .nil))) .nil))) .nil)) .nil))) (.cons (.tup (.cons (.con (.str [102])) (.cons (.tup (.cons (.tup (.cons (.con (.str [102])) (.cons (.tup (.cons (.con (.int 0)) .nil)) .nil))) .nil)) .nil))) (.cons (.tup (.cons (.con (.str [102])) (.cons (.tup (.cons (.var 10) .nil)) .nil))) (.cons (.var 10) .nil)))))))) .nil)))) .nil)))) (.seq (.asg (.nm 3) (.lst (.cons (.tup (.cons (.con (.str [97])) (.cons (.tup (.cons (.tup (.cons (.con (.str [97])) (.cons (.tup (.cons (.con (.int 0)) (.cons (.con (.int 1)) .nil))) .nil))) (.cons (.tup (.cons (.con (.str [97])) (.cons (.tup (.cons (.con (.int 2)) (.cons (.con (.int 3)) .nil))) .nil))) .nil))) .nil))) (.cons (.tup (.cons (.con (.str [97])) (.cons (.tup (.cons (.tup (.cons (.con (.str [97])) (.cons (.tup (.cons (.con (.int 0)) (.cons (.con (.int 1)) .nil))) .nil))) (.cons (.tup (.cons (.con (.str [102])) (.cons (.tup (.cons (.con (.int 2)) .nil)) .nil))) .nil))) .nil))) (.cons (.tup (.cons (.con (.str [97])) (.cons (.tup (.cons (.tup (.cons (.con (.str [97])) (.cons (.tup (.cons (.con (.int 0)) (.cons (.con (.int 1)) .nil))) .nil))) (.cons (.var 10) .nil))) .nil))) (.cons (.tup (.cons (.con (.str [97])) (.cons (.tup (.cons (.tup (.cons (.con (.str [102])) (.cons (.tup (.cons (.con (.int 0)) .nil)) .nil))) (.cons (.tup (.cons (.con (.str [97])) (.cons (.tup (.cons (.con (.int 1)) (.cons (.con (.int 2)) .nil))) .nil))) .nil))) .nil))) (.cons (.tup (.cons (.con (.str [97])) (.cons (.tup (.cons (.tup (.cons (.con (.str [102])) (.cons (.tup (.cons (.con (.int 0)) .nil)) .nil))) (.cons (.tup (.cons (.con (.str [102])) (.cons (.tup (.cons (.con (.int 1)) .nil)) .nil))) .nil))) .nil))) .nil))))))) (.seq (.asg (.nm 3) (.bin .add (.pk 3) (.lst (.cons (.tup (.cons (.con (.str [97])) (.cons (.tup (.cons (.tup (.cons (.con (.str [102])) (.cons (.tup (.cons (.con (.int 0)) .nil)) .nil))) (.cons (.var 10) .nil))) .nil))) (.cons (.tup (.cons (.con (.str [97])) (.cons (.tup (.cons (.var 10) (.cons (.tup (.cons (.con (.str [97])) (.cons (.tup (.cons (.con (.int 0)) (.cons (.con (.int 1)) .nil))) .nil))) .nil))) .nil))) (.cons (.tup (.cons (.con (.str [97])) (.cons (.tup (.cons (.var 10) (.cons (.tup (.cons (.con (.str [102])) (.cons (.tup (.cons (.con (.int 0)) .nil)) .nil))) .nil))) .nil))) (.cons (.tup (.cons (.con (.str [97])) (.cons (.tup (.cons (.var 10) (.cons (.var 10) .nil))) .nil))) (.cons (.tup (.cons (.con (.str [102])) (.cons (.tup (.cons (.con (.int 0)) .nil)) .nil))) (.cons (.var 9) (.cons (.var 10) .nil)))))))))) (.seq (.asg (.nm 2) (.bin .add (.pk 2) (.lst (.cons (.tup (.cons (.tup (.cons (.tup (.cons (.con (.str [97])) (.cons (.tup (.cons (.var 9) (.cons (.con (.int 0)) .nil))) .nil))) (.cons (.tup (.cons (.con (.str [97])) (.cons (.tup (.cons (.con (.int 0)) (.cons (.var 9) .nil))) .nil))) .nil))) (.cons (.con (.bl false)) (.cons (.var 3) .nil)))) .nil)))) (.seq (.par 4 5 (.lst .nil) (.lst .nil)) (.seq (.forr (.cons (.nm 11) (.cons (.nm 12) (.cons (.nm 13) .nil))) (.var 2) (.seq (.asg (.nm 14) (.ite (.pk 0) (.call 55 (.cons (.var 11) .nil)) (.var 11))) (.seq (.asg (.nm 4) (.bin .add (.pk 4) (.lst (.cons (.call 33 (.cons (.var 1) (.cons (.var 14) .nil))) (.cons (.call 34 (.cons (.var 1) (.cons (.var 14) .nil))) (.cons (.call 57 (.cons (.ite (.cmp .ne (.pk 13) (.lst .nil)) (.con (.int 3)) (.con (.int 2))) (.cons (.var 1) (.cons (.var 14) (.cons (.con .non) .nil))))) .nil)))))) (.asg (.nm 5) (.bin .add (.pk 5) (.lst (.cons (.var 12) (.cons (.var 13) (.cons (.lst (.cons (.con (.str [99, 97, 110])) (.cons (.con (.bl true)) .nil))) .nil))))))))) (.seq (.asg (.nm 4) (.bin .add (.pk 4) (.lst (.cons (.call 37 (.cons (.var 1) (.cons (.tup .nil) .nil))) (.cons (.call 37 (.cons (.var 1) (.cons (.tup (.cons (.var 9) .nil)) .nil))) (.cons (.call 37 (.cons (.var 1) (.cons (.tup (.cons (.var 9) (.cons (.var 10) .nil))) .nil))) (.cons (.call 37 (.cons (.var 1) (.cons (.tup (.cons (.var 9) (.cons (.var 10) (.cons (.tup (.cons (.con (.str [102])) (.cons (.tup (.cons (.con (.int 0)) .nil)) .nil))) .nil)))) .nil))) (.cons (.call 37 (.cons (.var 1) (.cons (.tup (.cons (.var 9) (.cons (.var 10) (.cons (.tup (.cons (.con (.str [102])) (.cons (.tup (.cons (.var 9) .nil)) .nil))) .nil)))) .nil))) .nil)))))))) (.seq (.asg (.nm 4) (.bin .add (.pk 4) (.lst (.cons (.callk 37 (.cons (.tup (.cons (.var 10) (.cons (.var 9) (.cons (.tup (.cons (.con (.str [102])) (.cons (.tup (.cons (.con (.int 0)) .nil)) .nil))) (.cons (.tup (.cons (.con (.str [97])) (.cons (.tup (.cons (.var 9) (.cons (.con (.int 0)) .nil))) .nil))) .nil))))) (.cons (.var 1) .nil)) [1, 0]) .nil)))) (.seq (.asg (.nm 5) (.bin .add (.pk 5) (.lst (.cons (.var 9) (.cons (.var 10) (.cons (.tup (.cons (.con (.str [102])) (.cons (.tup (.cons (.var 9) .nil)) .nil))) (.cons (.tup (.cons (.con (.str [97])) (.cons (.tup (.cons (.var 9) (.cons (.var 9) .nil))) .nil))) (.cons (.tup (.cons (.con (.str [102])) (.cons (.tup (.cons (.var 10) .nil)) .nil))) (.cons (.tup (.cons (.con (.str [97])) (.cons (.tup (.cons (.var 10) (.cons (.var 9) .nil))) .nil))) .nil))))))))) (.seq (.asg (.nm 6) (.tup (.cons (.var 9) (.cons (.tup (.cons (.con (.str [102])) (.cons (.tup (.cons (.var 9) .nil)) .nil))) (.cons (.tup (.cons (.con (.str [97])) (.cons (.tup (.cons (.con (.int 0)) (.cons (.tup (.cons (.con (.str [102])) (.cons (.tup (.cons (.con (.int 1)) .nil)) .nil))) .nil))) .nil))) .nil))))) (.seq (.asg (.nm 7) (.lst (.cons (.var 10) (.cons (.var 9) (.cons (.tup (.cons (.con (.str [102])) (.cons (.tup (.cons (.var 10) .nil)) .nil))) (.cons (.tup (.cons (.con (.str [102])) (.cons (.tup (.cons (.var 9) .nil)) .nil))) (.cons (.tup (.cons (.con (.str [97])) (.cons (.tup (.cons (.var 10) (.cons (.tup (.cons (.con (.str [102])) (.cons (.tup (.cons (.var 10) .nil)) .nil))) .nil))) .nil))) (.cons (.tup (.cons (.con (.str [97])) (.cons (.tup (.cons (.var 10) (.cons (.var 9) .nil))) .nil))) (.cons (.tup (.cons (.con (.str [102])) (.cons (.tup (.cons (.con (.int 3)) .nil)) .nil))) (.cons (.con (.int 3)) (.cons (.tup (.cons (.con (.str [113])) (.cons (.tup .nil) .nil))) (.cons (.lst (.cons (.con (.str [102])) (.cons (.tup (.cons (.var 10) .nil)) .nil))) (.cons (.con .non) .nil))))))))))))) (.seq (.asg (.nm 4) (.bin .add (.pk 4) (.lst (.cons (.lc [15] (.nm 15) (.var 7) (.con (.bl true)) (.gelt (.call 38 (.cons (.var 1) (.cons (.var 6) (.cons (.var 15) .nil)))))) (.cons (.callk 38 (.cons (.var 10) (.cons (.var 6) (.cons (.var 1) .nil))) [2, 1, 0]) (.cons (.call 43 (.cons (.var 1) (.cons (.tup (.cons (.var 9) (.cons (.con (.int 3)) (.cons (.var 10) .nil)))) .nil))) .nil)))))) (.seq (.asg (.nm 4) (.bin .add (.pk 4) (.lst (.cons (.call 43 (.cons (.var 1) (.cons (.tup (.cons (.tup (.cons (.con (.str [102])) (.cons (.tup (.cons (.var 9) .nil)) .nil))) (.cons (.tup (.cons (.con (.str [102])) (.cons (.tup (.cons (.var 10) .nil)) .nil))) (.cons (.tup (.cons (.con (.str [102])) (.cons (.tup (.cons (.tup (.cons (.con (.str [102])) (.cons (.tup (.cons (.con (.int 0)) .nil)) .nil))) .nil)) .nil))) (.cons (.tup (.cons (.con (.str [102])) (.cons (.tup (.cons (.tup (.cons (.con (.str [97])) (.cons (.tup (.cons (.con (.int 0)) (.cons (.con (.int 1)) .nil))) .nil))) .nil)) .nil))) (.cons (.tup (.cons (.con (.str [102])) (.cons (.tup (.cons (.con (.int 0)) .nil)) .nil))) (.cons (.tup (.cons (.con (.str [97])) (.cons (.tup (.cons (.var 9) (.cons (.var 9) .nil))) .nil))) (.cons (.tup (.cons (.con (.str [97])) (.cons (.tup (.cons (.con (.int 0)) (.cons (.var 9) .nil))) .nil))) .nil)))))))) .nil))) .nil)))) (.seq (.asg (.nm 4) (.bin .add (.pk 4) (.lst (.cons (.callk 43 (.cons (.tup (.cons (.var 9) (.cons (.var 9) (.cons (.var 9) .nil)))) (.cons (.var 1) .nil)) [1, 0]) .nil)))) (.seq (.asg (.nm 5) (.bin .add (.pk 5) (.lst (.cons (.bin .add (.lst (.cons (.con (.bl true)) (.cons (.con (.bl false)) (.cons (.con (.bl true)) (.cons (.con (.bl false)) (.cons (.con (.bl false)) (.cons (.con (.bl true)) .nil))))))) (.bin .mul (.lst (.cons (.con (.bl false)) .nil)) (.con (.int 5)))) (.cons (.con (.bl true)) (.cons (.tup (.cons (.con (.int 2)) .nil)) (.cons (.tup (.cons (.con (.int 4)) .nil)) (.cons (.tup (.cons (.con (.int 1)) (.cons (.con (.int 2)) .nil))) .nil)))))))) (.ret (.call 54 (.cons (.var 4) (.cons (.var 5) .nil))))))))))))))))))))))
/-- _law_trees_right: soft told patterns given tree long_so things got due pairs counts book n o words thing one other both -/
def c59 : S := (.seq (.asg (.cons (.nm 11) (.cons (.nm 12) (.cons (.nm 13) .nil))) (.tup (.cons (.call 56 .nil) (.cons (.tup (.cons (.con (.str [110])) (.cons (.tup .nil) .nil))) (.cons (.tup (.cons (.con (.str [111])) (.cons (.tup .nil) .nil))) .nil))))) (.seq (.asg (.nm 1) (.ite (.pk 0) (.call 55 (.cons (.var 11) .nil)) (.var 11))) (.seq (.asg (.nm 2) (.tup (.cons (.var 12) (.cons (.var 13) (.cons (.tup (.cons (.con (.str [102])) (.cons (.tup (.cons (.con (.int 0)) .nil)) .nil))) (.cons (.tup (.cons (.con (.str [97])) (.cons (.tup (.cons (.con (.int 0)) (.cons (.var 12) .nil))) .nil))) (.cons (.tup (.cons (.con (.str [97])) (.cons (.tup (.cons (.con (.int 0)) (.cons (.con (.int 1)) .nil))) .nil))) .nil))))))) (.seq (.asg (.nm 3) (.ite (.pk 0) (.call 55 (.cons (.var 2) .nil)) (.var 2))) (.seq (.asg (.nm 4) (.tup (.cons (.con (.str [112, 97, 114, 116])) (.cons (.tup .nil) (.cons (.tup (.cons (.tup (.cons (.con (.str [98, 121])) (.cons (.con (.int 4)) .nil))) (.cons (.tup (.cons (.con (.str [98, 121])) (.cons (.con (.int 2)) .nil))) (.cons (.tup (.cons (.con (.str [98, 121])) (.cons (.con (.int 0)) .nil))) (.cons (.tup (.cons (.con (.str [98, 121])) (.cons (.con (.int 1)) .nil))) .nil))))) .nil))))) (.seq (.asg (.nm 5) (.tup (.cons (.con (.str [112, 97, 114, 116])) (.cons (.tup .nil) (.cons (.tup (.cons (.tup (.cons (.con (.str [112, 97, 114, 116])) (.cons (.tup (.cons (.con (.int 1)) .nil)) (.cons (.tup (.cons (.tup (.cons (.con (.str [98, 121])) (.cons (.con (.int 4)) .nil))) (.cons (.tup (.cons (.con (.str [98, 121])) (.cons (.con (.int 4)) .nil))) (.cons (.tup (.cons (.con (.str [98, 121])) (.cons (.con (.int 3)) .nil))) (.cons (.tup (.cons (.con (.str [98, 121])) (.cons (.con (.int 4)) .nil))) .nil))))) .nil)))) (.cons (.tup (.cons (.con (.str [112, 97, 114, 116])) (.cons (.tup (.cons (.con (.int 0)) .nil)) (.cons (.bin .mul (.tup (.cons (.tup (.cons (.con (.str [98, 121])) (.cons (.con (.int 2)) .nil))) .nil)) (.con (.int 4))) .nil)))) (.cons (.tup (.cons (.con (.str [98, 121])) (.cons (.con (.int 0)) .nil))) (.cons (.tup (.cons (.con (.str [98, 121])) (.cons (.con (.int 1)) .nil))) .nil))))) .nil))))) (.seq (.asg (.nm 6) (.lst (.cons (.var 4) (.cons (.var 5) (.cons (.tup (.cons (.con (.str [98, 121])) (.cons (.con (.int 4)) .nil))) (.cons (.tup (.cons (.con (.str [112, 97, 114, 116])) (.cons (.tup .nil) (.cons (.tup (.cons (.tup (.cons (.con (.str [98, 121])) (.cons (.con (.int 4)) .nil))) (.cons (.tup (.cons (.con (.str [98, 121])) (.cons (.con (.int 2)) .nil))) (.cons (.tup (.cons (.con (.str [98, 121])) (.cons (.con (.int 0)) .nil))) .nil)))) .nil)))) (.cons (.tup (.cons (.con (.str [112, 97, 114, 116])) (.cons (.tup .nil) (.cons (.tup (.cons (.tup (.cons (.con (.str [98, 121])) (.cons (.con (.int 3)) .nil))) (.cons (.tup (.cons (.con (.str [98, 121])) (.cons (.con (.int 2)) .nil))) (.cons (.tup (.cons (.con (.str [98, 121])) (.cons (.con (.int 0)) .nil))) (.cons (.tup (.cons (.con (.str [98, 121])) (.cons (.con (.int 1)) .nil))) .nil))))) .nil)))) .nil))))))) (.seq (.asg (.nm 6) (.bin .add (.pk 6) (.lst (.cons (.tup (.cons (.con (.str [112, 97, 114, 116])) (.cons (.tup (.cons (.con (.int 0)) .nil)) (.cons (.bin .mul (.tup (.cons (.tup (.cons (.con (.str [98, 121])) (.cons (.con (.int 4)) .nil))) .nil)) (.con (.int 4))) .nil)))) (.cons (.tup (.cons (.con (.str [112, 97, 114, 116])) (.cons (.tup .nil) (.cons (.lst (.cons (.tup (.cons (.con (.str [98, 121])) (.cons (.con (.int 4)) .nil))) (.cons (.tup (.cons (.con (.str [98, 121])) (.cons (.con (.int 2)) .nil))) (.cons (.tup (.cons (.con (.str [98, 121])) (.cons (.con (.int 0)) .nil))) (.cons (.tup (.cons (.con (.str [98, 121])) (.cons (.con (.int 1)) .nil))) .nil))))) .nil)))) (.cons (.lst (.cons (.con (.str [98, 121])) (.cons (.con (.int 4)) .nil))) (.cons (.tup (.cons (.con (.str [98, 121])) (.cons (.con (.int 5)) .nil))) (.cons (.tup (.cons (.con (.str [98, 121])) (.cons (.neg (.con (.int 1))) .nil))) (.cons (.tup (.cons (.con (.str [98, 121])) (.cons (.con (.bl true)) .nil))) (.cons (.con .non) .nil)))))))))) (.seq (.asg (.nm 6) (.bin .add (.pk 6) (.lst (.cons (.tup (.cons (.con (.str [112, 97, 114, 116])) (.cons (.tup .nil) (.cons (.tup (.cons (.tup (.cons (.con (.str [112, 97, 114, 116])) (.cons (.tup .nil) (.cons (.bin .mul (.tup (.cons (.tup (.cons (.con (.str [98, 121])) (.cons (.con (.int 4)) .nil))) .nil)) (.con (.int 4))) .nil)))) (.cons (.tup (.cons (.con (.str [98, 121])) (.cons (.con (.int 2)) .nil))) (.cons (.tup (.cons (.con (.str [98, 121])) (.cons (.con (.int 0)) .nil))) (.cons (.tup (.cons (.con (.str [98, 121])) (.cons (.con (.int 1)) .nil))) .nil))))) .nil)))) (.cons (.tup (.cons (.con (.str [112, 97, 114, 116, 115])) (.cons (.tup .nil) (.cons (.sub (.pk 4) (.con (.int 2))) .nil)))) .nil))))) (.seq (.asg (.nm 7) (.lst (.cons (.lc [15] (.nm 15) (.var 6) (.con (.bl true)) (.gelt (.call 42 (.cons (.var 1) (.cons (.var 3) (.cons (.var 15) .nil)))))) (.cons (.callk 42 (.cons (.var 4) (.cons (.var 3) (.cons (.var 1) .nil))) [2, 1, 0]) (.cons (.call 42 (.cons (.var 1) (.cons (.var 3) (.cons (.call 40 (.cons (.var 1) (.cons (.var 3) .nil))) .nil)))) .nil))))) (.seq (.asg (.nm 7) (.bin .add (.pk 7) (.lst (.cons (.callk 40 (.cons (.tup (.cons (.con (.int 0)) .nil)) (.cons (.var 1) .nil)) [1, 0]) (.cons (.call 42 (.cons (.var 1) (.cons (.tup (.cons (.con (.int 5)) (.cons (.var 12) .nil))) (.cons (.tup (.cons (.con (.str [98, 121])) (.cons (.con (.int 0)) .nil))) .nil)))) (.cons (.call 42 (.cons (.var 1) (.cons (.tup (.cons (.con (.int 5)) (.cons (.var 12) .nil))) (.cons (.tup (.cons (.con (.str [98, 121])) (.cons (.con (.int 1)) .nil))) .nil)))) .nil)))))) (.seq (.asg (.nm 8) (.lst (.cons (.bin .add (.lst (.cons (.con (.bl true)) (.cons (.con (.bl true)) .nil))) (.bin .mul (.lst (.cons (.con (.bl false)) .nil)) (.con (.int 12)))) (.cons (.con (.bl true)) (.cons (.con (.bl true)) (.cons (.tup (.cons (.con (.str [98, 121])) (.cons (.con (.int 0)) .nil))) (.cons (.con (.bl true)) (.cons (.con (.bl false)) .nil)))))))) (.seq (.asg (.nm 9) (.lst (.cons (.tup (.cons (.tup (.cons (.con (.str [97])) (.cons (.tup (.cons (.con (.int 0)) (.cons (.var 12) .nil))) .nil))) (.cons (.tup (.cons (.con (.str [97])) (.cons (.tup (.cons (.tup (.cons (.con (.str [102])) (.cons (.tup (.cons (.con (.int 5)) .nil)) .nil))) (.cons (.con (.int 6)) .nil))) .nil))) (.cons (.tup (.cons (.con (.str [97])) (.cons (.tup (.cons (.tup (.cons (.con (.str [102])) (.cons (.tup (.cons (.con (.int 0)) .nil)) .nil))) (.cons (.var 12) .nil))) .nil))) .nil)))) (.cons (.tup (.cons (.con (.int 3)) (.cons (.con (.int 9)) (.cons (.con (.int 0)) .nil)))) (.cons (.tup (.cons (.tup (.cons (.con (.str [102])) (.cons (.tup (.cons (.con (.int 1)) .nil)) .nil))) (.cons (.con (.int 0)) (.cons (.tup (.cons (.con (.str [102])) (.cons (.tup (.cons (.con (.int 0)) .nil)) .nil))) .nil)))) (.cons (.tup (.cons (.var 12) (.cons (.con (.int 0)) (.cons (.var 12) .nil)))) .nil)))))) (.seq (.asg (.nm 9) (.bin .add (.pk 9) (.lst (.cons (.tup (.cons (.tup (.cons (.con (.str [97])) (.cons (.tup (.cons (.con (.int 0)) (.cons (.con (.int 1)) .nil))) .nil))) (.cons (.tup (.cons (.con (.str [97])) (.cons (.tup (.cons (.tup (.cons (.con (.str [97])) (.cons (.tup (.cons (.con (.int 2)) (.cons (.con (.int 3)) .nil))) .nil))) (.cons (.con (.int 4)) .nil))) .nil))) (.cons (.tup (.cons (.con (.str [97])) (.cons (.tup (.cons (.tup (.cons (.con (.str [97])) (.cons (.tup (.cons (.con (.int 0)) (.cons (.con (.int 1)) .nil))) .nil))) (.cons (.con (.int 2)) .nil))) .nil))) .nil)))) .nil)))) (.seq (.asg (.nm 7) (.bin .add (.pk 7) (.lst (.cons (.lc [16, 17, 18] (.cons (.nm 16) (.cons (.nm 17) (.cons (.nm 18) .nil))) (.var 9) (.con (.bl true)) (.gelt (.call 44 (.cons (.var 1) (.cons (.ite (.pk 0) (.call 55 (.cons (.var 16) .nil)) (.var 16)) (.cons (.var 17) .nil)))))) (.cons (.callk 44 (.cons (.var 12) (.cons (.con (.int 7)) (.cons (.var 1) .nil))) [2, 1, 0]) (.cons (.call 57 (.cons (.con (.int 7)) (.cons (.var 1) (.cons (.var 12) (.cons (.var 13) .nil))))) .nil)))))) (.seq (.asg (.nm 7) (.bin .add (.pk 7) (.lst (.cons (.call 57 (.cons (.con (.int 7)) (.cons (.var 1) (.cons (.tup (.cons (.con (.str [97])) (.cons (.tup (.cons (.con (.int 0)) (.cons (.var 12) .nil))) .nil))) (.cons (.tup (.cons (.con (.str [97])) (.cons (.tup (.cons (.con (.int 1)) (.cons (.tup (.cons (.con (.str [102])) (.cons (.tup (.cons (.con (.int 0)) .nil)) .nil))) .nil))) .nil))) .nil))))) .nil)))) (.seq (.asg (.nm 8) (.bin .add (.pk 8) (.lst (.cons (.lc [16, 17, 18] (.cons (.nm 16) (.cons (.nm 17) (.cons (.nm 18) .nil))) (.var 9) (.con (.bl true)) (.gelt (.var 18))) (.cons (.var 12) (.cons (.lst (.cons (.con (.str [99, 97, 110])) (.cons (.con (.bl true)) .nil))) (.cons (.lst (.cons (.con (.str [99, 97, 110])) (.cons (.con (.bl true)) .nil))) .nil))))))) (.seq (.asg (.nm 7) (.bin .add (.pk 7) (.lst (.cons (.call 45 (.cons (.var 1) (.cons (.con (.int 3)) (.cons (.var 12) .nil)))) (.cons (.call 45 (.cons (.var 1) (.cons (.tup (.cons (.con (.str [102])) (.cons (.tup (.cons (.con (.int 4)) .nil)) .nil))) (.cons (.tup (.cons (.con (.str [102])) (.cons (.tup (.cons (.tup (.cons (.con (.str [102])) (.cons (.tup (.cons (.con (.int 0)) .nil)) .nil))) .nil)) .nil))) .nil)))) (.cons (.call 45 (.cons (.var 1) (.cons (.var 12) (.cons (.con (.int 0)) .nil)))) (.cons (.call 45 (.cons (.var 1) (.cons (.tup (.cons (.con (.str [97])) (.cons (.tup (.cons (.con (.int 0)) (.cons (.var 12) .nil))) .nil))) (.cons (.var 13) .nil)))) .nil))))))) (.seq (.asg (.nm 7) (.bin .add (.pk 7) (.lst (.cons (.slc (.callk 45 (.cons (.tup (.cons (.con (.str [97])) (.cons (.tup (.cons (.var 12) (.cons (.var 12) .nil))) .nil))) (.cons (.tup (.cons (.con (.str [97])) (.cons (.tup (.cons (.con (.int 0)) (.cons (.con (.int 1)) .nil))) .nil))) (.cons (.var 1) .nil))) [2, 1, 0]) (.neg (.con (.int 1))) (.con .non)) .nil)))) (.seq (.asg (.nm 8) (.bin .add (.pk 8) (.lst (.cons (.lst (.cons (.tup (.cons (.con (.str [97])) (.cons (.tup (.cons (.con (.int 0)) (.cons (.con (.int 1)) .nil))) .nil))) (.cons (.tup (.cons (.con (.str [102])) (.cons (.tup (.cons (.con (.int 0)) .nil)) .nil))) (.cons (.var 13) .nil)))) (.cons (.lst (.cons (.tup (.cons (.con (.str [102])) (.cons (.tup (.cons (.tup (.cons (.con (.str [97])) (.cons (.tup (.cons (.con (.int 0)) (.cons (.con (.int 1)) .nil))) .nil))) .nil)) .nil))) (.cons (.tup (.cons (.con (.str [102])) (.cons (.tup (.cons (.var 12) .nil)) .nil))) (.cons (.tup (.cons (.con (.str [102])) (.cons (.tup (.cons (.var 13) .nil)) .nil))) .nil)))) (.cons (.lst .nil) (.cons (.lst (.cons (.tup (.cons (.con (.str [97])) (.cons (.tup (.cons (.con (.int 0)) (.cons (.var 12) .nil))) .nil))) .nil)) (.cons (.lst (.cons (.tup (.cons (.con (.str [97])) (.cons (.tup (.cons (.var 13) (.cons (.con (.int 0)) .nil))) .nil))) .nil)) .nil)))))))) (.seq (.asg (.nm 10) (.lc [14] (.nm 14) (.bi2 .range (.con (.int 0)) (.con (.int 6))) (.con (.bl true)) (.gelt (.call 49 (.cons (.var 1) (.cons (.var 14) .nil)))))) (.seq (.asg (.nm 7) (.bin .add (.pk 7) (.lst (.cons (.var 10) (.cons (.callk 49 (.cons (.con (.int 3)) (.cons (.var 1) .nil)) [1, 0]) (.cons (.lc [14] (.nm 14) (.bi2 .range (.con (.int 0)) (.con (.int 5))) (.con (.bl true)) (.gelt (.call 50 (.cons (.var 1) (.cons (.var 2) (.cons (.var 14) .nil)))))) .nil)))))) (.seq (.asg (.nm 7) (.bin .add (.pk 7) (.lst (.cons (.lc [14] (.nm 14) (.bi2 .range (.con (.int 0)) (.con (.int 5))) (.con (.bl true)) (.gelt (.call 50 (.cons (.var 1) (.cons (.tup (.cons (.var 12) (.cons (.tup (.cons (.con (.str [102])) (.cons (.tup (.cons (.con (.int 0)) .nil)) .nil))) .nil))) (.cons (.var 14) .nil)))))) (.cons (.lc [14] (.nm 14) (.bi2 .range (.con (.int 0)) (.con (.int 6))) (.con (.bl true)) (.gelt (.call 50 (.cons (.var 1) (.cons (.tup (.cons (.tup (.cons (.con (.str [97])) (.cons (.tup (.cons (.con (.int 0)) (.cons (.var 12) .nil))) .nil))) .nil)) (.cons (.var 14) .nil)))))) .nil))))) (.seq (.asg (.nm 7) (.bin .add (.pk 7) (.lst (.cons (.callk 50 (.cons (.con (.int 4)) (.cons (.tup .nil) (.cons (.var 1) .nil))) [2, 1, 0]) .nil)))) (.seq (.asg (.nm 8) (.bin .add (.pk 8) (.lst (.cons (.lst (.cons (.con (.int 0)) (.cons (.con (.int 2)) (.cons (.con (.int 2)) (.cons (.con (.int 6)) (.cons (.con (.int 14)) (.cons (.con (.int 42)) .nil))))))) (.cons (.con (.int 6)) (.cons (.lst (.cons (.con (.int 0)) (.cons (.con (.int 2)) (.cons (.con (.int 2)) (.cons (.con (.int 6)) (.cons (.con (.int 14)) .nil)))))) (.cons (.lst (.cons (.con (.int 0)) (.cons (.con (.int 1)) (.cons (.con (.int 2)) (.cons (.con (.int 2)) (.cons (.con (.int 6)) .nil)))))) (.cons (.lst (.cons (.con (.int 0)) (.cons (.con (.int 0)) (.cons (.con (.int 0)) (.cons (.con (.int 2)) (.cons (.con (.int 2)) (.cons (.con (.int 6)) .nil))))))) (.cons (.con (.int 0)) .nil))))))))) (.ret (.call 54 (.cons (.var 7) (.cons (.var 8) .nil)))))))))))))))))))))))))))))
/-- law: script urn bad got due soft part book n o door -/
def c60 : S := (.seq (.asg (.nm 1) (.call 51 (.cons (.call 53 (.cons (.var 0) (.cons (.con (.int 1)) .nil))) (.cons (.con (.int 0)) .nil)))) (.seq (.par 5 6 (.cmp .eq (.call 52 (.cons (.var 1) (.cons (.con (.int 2)) .nil))) (.con (.int 0))) (.call 52 (.cons (.var 1) (.cons (.con (.int 3)) .nil)))) (.seq (.ife (.cmp .lt (.pk 6) (.con (.int 2))) (.ret (.ite (.cmp .eq (.pk 6) (.con (.int 0))) (.call 58 (.cons (.var 5) .nil)) (.call 59 (.cons (.var 5) .nil)))) .skip) (.seq (.asg (.cons (.nm 7) (.cons (.nm 8) (.cons (.nm 9) .nil))) (.tup (.cons (.call 56 .nil) (.cons (.tup (.cons (.con (.str [110])) (.cons (.tup .nil) .nil))) (.cons (.tup (.cons (.con (.str [111])) (.cons (.tup .nil) .nil))) .nil))))) (.seq (.par 3 4 (.lst .nil) (.lst .nil)) (.seq (.forr (.nm 2) (.tup (.cons (.con .non) (.cons (.tup .nil) (.cons (.tup (.cons (.tup (.cons (.con (.str [102])) (.cons (.con (.str [112, 108, 97, 105, 110])) (.cons (.con (.int 1)) .nil)))) .nil)) (.cons (.tup (.cons (.tup (.cons (.con (.str [110])) (.cons (.con (.str [112, 108, 97, 105, 110])) (.cons (.con (.int 0)) .nil)))) (.cons (.tup (.cons (.con (.str [112])) (.cons (.con (.str [98, 97, 103])) (.cons (.con (.int 2)) .nil)))) .nil))) (.cons (.tup (.cons (.tup (.cons (.con (.str [110])) (.cons (.con (.str [112, 108, 97, 105, 110])) (.cons (.con (.int 0)) .nil)))) (.cons (.tup (.cons (.con (.str [115])) (.cons (.con (.str [115, 119, 97, 112])) (.cons (.con (.int 2)) .nil)))) .nil))) (.cons (.tup (.cons (.tup (.cons (.con (.str [111])) (.cons (.con (.str [112, 108, 97, 105, 110])) (.cons (.con (.int 0)) .nil)))) (.cons (.tup (.cons (.con (.str [110])) (.cons (.con (.str [112, 108, 97, 105, 110])) (.cons (.con (.int 0)) .nil)))) .nil))) .nil))))))) (.seq (.asg (.nm 3) (.bin .add (.pk 3) (.lc [10] (.nm 10) (.bi2 .range (.con (.int 0)) (.con (.int 11))) (.con (.bl true)) (.gelt (.call 57 (.cons (.var 10) (.cons (.var 2) (.cons (.ite (.cmp .isin (.pk 10) (.tup (.cons (.con (.int 7)) (.cons (.con (.int 8)) .nil)))) (.con (.int 0)) (.ite (.cmp .eq (.pk 10) (.con (.int 10))) (.con (.int 3)) (.tup (.cons (.var 8) .nil)))) (.cons (.ite (.cmp .isin (.pk 10) (.tup (.cons (.con (.int 7)) (.cons (.con (.int 8)) .nil)))) (.con (.int 0)) (.con (.int 3))) .nil))))))))) (.asg (.nm 4) (.bin .add (.pk 4) (.bin .mul (.lst (.cons (.lst (.cons (.con (.str [117, 110, 102, 105, 116])) (.cons (.con (.bl true)) .nil))) .nil)) (.con (.int 11))))))) (.seq (.forr (.nm 2) (.tup (.cons (.con .non) (.cons (.tup (.cons (.tup (.cons (.con (.str [97])) (.cons (.tup (.cons (.con (.int 0)) (.cons (.con (.int 0)) .nil))) .nil))) .nil)) (.cons (.tup (.cons (.tup (.cons (.con (.str [113])) (.cons (.tup .nil) .nil))) .nil)) (.cons (.tup (.cons (.tup (.cons (.con (.str [97])) (.cons (.tup (.cons (.con (.int 0)) .nil)) .nil))) .nil)) (.cons (.bin .mul (.tup (.cons (.var 8) .nil)) (.con (.int 9))) (.cons (.var 8) .nil))))))) (.seq (.asg (.nm 3) (.bin .add (.pk 3) (.lc [10] (.nm 10) (.tup (.cons (.con (.int 0)) (.cons (.con (.int 1)) (.cons (.con (.int 2)) (.cons (.con (.int 3)) (.cons (.con (.int 4)) (.cons (.con (.int 5)) (.cons (.con (.int 6)) (.cons (.con (.int 9)) .nil))))))))) (.con (.bl true)) (.gelt (.call 57 (.cons (.var 10) (.cons (.var 7) (.cons (.var 2) (.cons (.con (.int 3)) .nil))))))))) (.asg (.nm 4) (.bin .add (.pk 4) (.bin .mul (.lst (.cons (.lst (.cons (.con (.str [117, 110, 102, 105, 116])) (.cons (.con (.bl true)) .nil))) .nil)) (.con (.int 8))))))) (.seq (.asg (.nm 3) (.bin .add (.pk 3) (.lst (.cons (.call 57 (.cons (.con (.int 7)) (.cons (.var 7) (.cons (.tup (.cons (.con (.str [97])) (.cons (.tup (.cons (.con (.int 0)) (.cons (.con (.int 0)) .nil))) .nil))) (.cons (.var 8) .nil))))) (.cons (.call 57 (.cons (.con (.int 7)) (.cons (.var 7) (.cons (.var 8) (.cons (.con .non) .nil))))) (.cons (.call 57 (.cons (.con (.int 8)) (.cons (.var 7) (.cons (.con .non) (.cons (.var 8) .nil))))) (.cons (.call 57 (.cons (.con (.int 8)) (.cons (.var 7) (.cons (.var 8) (.cons (.tup (.cons (.con (.str [97])) (.cons (.tup (.cons (.con (.int 1)) (.cons (.con (.int 1)) .nil))) .nil))) .nil))))) (.cons (.call 57 (.cons (.con (.int 9)) (.cons (.var 7) (.cons (.tup (.cons (.var 8) .nil)) (.cons (.neg (.con (.int 1))) .nil))))) .nil)))))))) (.seq (.asg (.nm 3) (.bin .add (.pk 3) (.lst (.cons (.call 57 (.cons (.con (.int 9)) (.cons (.var 7) (.cons (.tup (.cons (.var 8) .nil)) (.cons (.con .non) .nil))))) (.cons (.call 57 (.cons (.con (.int 10)) (.cons (.var 7) (.cons (.neg (.con (.int 1))) (.cons (.con .non) .nil))))) (.cons (.call 57 (.cons (.con (.int 10)) (.cons (.var 7) (.cons (.con .non) (.cons (.con .non) .nil))))) .nil)))))) (.seq (.asg (.nm 4) (.bin .add (.pk 4) (.bin .mul (.lst (.cons (.lst (.cons (.con (.str [117, 110, 102, 105, 116])) (.cons (.con (.bl true)) .nil))) .nil)) (.con (.int 8))))) (.ret (.call 54 (.cons (.bin .add (.pk 3) (.lst (.cons (.call 57 (.cons (.con (.int 2)) (.cons (.var 7) (.cons (.tup (.cons (.con (.int 0)) .nil)) (.cons (.con .non) .nil))))) (.cons (.call 57 (.cons (.con (.int 3)) (.cons (.var 7) (.cons (.tup (.cons (.var 8) (.cons (.var 9) .nil))) (.cons (.con .non) .nil))))) .nil)))) (.cons (.bin .add (.pk 4) (.bin .mul (.lst (.cons (.lst (.cons (.con (.str [99, 97, 110])) (.cons (.con (.bl true)) .nil))) .nil)) (.con (.int 2)))) .nil))))))))))))))
def fns : List (Option Fn) := [some ⟨1, 0, c0⟩, some ⟨2, 0, c1⟩, some ⟨2, 0, c2⟩, some ⟨2, 0, c3⟩, some ⟨1, 1, c4⟩, some ⟨1, 0, c5⟩, some ⟨1, 1, c6⟩, some ⟨1, 0, c7⟩, some ⟨1, 3, c8⟩, some ⟨1, 1, c9⟩, some ⟨1, 3, c10⟩, some ⟨2, 3, c11⟩, some ⟨2, 2, c12⟩, some ⟨1, 1, c13⟩, some ⟨1, 0, c14⟩, some ⟨2, 2, c15⟩, some ⟨1, 6, c16⟩, some ⟨1, 2, c17⟩, some ⟨3, 1, c18⟩, some ⟨2, 7, c19⟩, some ⟨1, 2, c20⟩, some ⟨2, 2, c21⟩, some ⟨2, 1, c22⟩, some ⟨2, 2, c23⟩, some ⟨2, 2, c24⟩, some ⟨2, 2, c25⟩, some ⟨2, 2, c26⟩, some ⟨1, 1, c27⟩, some ⟨1, 4, c28⟩, some ⟨2, 8, c29⟩, some ⟨3, 3, c30⟩, some ⟨3, 4, c31⟩, some ⟨2, 1, c32⟩, some ⟨2, 1, c33⟩, some ⟨2, 1, c34⟩, some ⟨1, 3, c35⟩, some ⟨2, 1, c36⟩, some ⟨2, 6, c37⟩, some ⟨3, 3, c38⟩, some ⟨3, 6, c39⟩, some ⟨2, 2, c40⟩, some ⟨4, 5, c41⟩, some ⟨3, 1, c42⟩, some ⟨2, 3, c43⟩, some ⟨3, 3, c44⟩, some ⟨3, 3, c45⟩, some ⟨2, 5, c46⟩, some ⟨3, 6, c47⟩, some ⟨3, 4, c48⟩, some ⟨2, 1, c49⟩, some ⟨3, 4, c50⟩, some ⟨2, 1, c51⟩, some ⟨2, 4, c52⟩, some ⟨2, 4, c53⟩, some ⟨2, 2, c54⟩, some ⟨1, 1, c55⟩, some ⟨0, 0, c56⟩, some ⟨4, 1, c57⟩, some ⟨1, 15, c58⟩, some ⟨1, 18, c59⟩, some ⟨1, 10, c60⟩]
def tab (i : Nat) : Option Fn := match nth fns i with
  | some x => x
  | none => none
end Few.Pg
set_option Elab.async false
set_option linter.all false
set_option maxRecDepth 100000
set_option maxHeartbeats 4000000
namespace Few.Wk
open PySem PySem.Spec PyProof.Rows L2
def top (i : Nat) : Stmt := PySem.Challenge.pw_fewanswers_k80_patterns_by_hand_and_refu.main.body.getD i (.Pass ⟨0, 0, 0, 0⟩)
theorem bt_isinstance : bootBuiltins "isinstance" = some (.builtin "isinstance") := by decide +kernel
theorem bt_sum : bootBuiltins "sum" = some (.builtin "sum") := by decide +kernel
theorem bt_all : bootBuiltins "all" = some (.builtin "all") := by decide +kernel
theorem bt_any : bootBuiltins "any" = some (.builtin "any") := by decide +kernel
theorem bt_abs : bootBuiltins "abs" = some (.builtin "abs") := by decide +kernel
theorem bt_sorted : bootBuiltins "sorted" = some (.builtin "sorted") := by decide +kernel
theorem bt_min : bootBuiltins "min" = some (.builtin "min") := by decide +kernel
theorem bt_set : bootBuiltins "set" = some (.type "set") := by decide +kernel
theorem bt_ValueError : bootBuiltins "ValueError" = some (.type "ValueError") := by decide +kernel
theorem bt_LookupError : bootBuiltins "LookupError" = some (.type "LookupError") := by decide +kernel
structure Ec (G : Gd) (n : Nat) (x : PySem.Str) (C : Addr) (bmB : List Value) (newId : String) : Prop where
  q : PySem.W.excIn G.K C bmB newId = true
  g : G.mg x = some (.ref C)
  k : PySem.W.keepIn G.K (.ref C) = true
  s : PySem.W.subIn G.K (.ref C) (.type "BaseException") = some true
  t : PySem.W.typeIn G.K (.ref C) = some (.type "type")
  x : G.xn n = x
/-- what is known of the text -/
structure Fx (G : Gd) (dsc : Nat → Option Dsc) (d : Nat → Dsc) (ec : Nat → Addr) (bmB : List Value) (bs newId initId : String) : Prop where
  b_range : G.mg "range" = none
  b_enumerate : G.mg "enumerate" = none
  b_zip : G.mg "zip" = none
  b_isinstance : G.mg "isinstance" = none
  b_int : G.mg "int" = none
  b_bool : G.mg "bool" = none
  b_str : G.mg "str" = none
  b_tuple : G.mg "tuple" = none
  b_list : G.mg "list" = none
  b_len : G.mg "len" = none
  b_sum : G.mg "sum" = none
  b_all : G.mg "all" = none
  b_any : G.mg "any" = none
  b_abs : G.mg "abs" = none
  b_sorted : G.mg "sorted" = none
  b_min : G.mg "min" = none
  b_set : G.mg "set" = none
  f0 : DF G dsc 0 "is_number" (d 0)
  f1 : DF G dsc 1 "is_from" (d 1)
  f2 : DF G dsc 2 "is_below" (d 2)
  f3 : DF G dsc 3 "is_tuple_of" (d 3)
  f4 : DF G dsc 4 "tuple_of" (d 4)
  f5 : DF G dsc 5 "sure" (d 5)
  f6 : DF G dsc 6 "is_sign_name" (d 6)
  f7 : DF G dsc 7 "is_sign" (d 7)
  f8 : DF G dsc 8 "is_book" (d 8)
  f9 : DF G dsc 9 "sure_book" (d 9)
  f10 : DF G dsc 10 "signs_of" (d 10)
  f11 : DF G dsc 11 "parts_fit" (d 11)
  f12 : DF G dsc 12 "is_term_by" (d 12)
  f13 : DF G dsc 13 "is_path" (d 13)
  f14 : DF G dsc 14 "parts_in" (d 14)
  f15 : DF G dsc 15 "words_in" (d 15)
  f16 : DF G dsc 16 "walked" (d 16)
  f17 : DF G dsc 17 "unknowns_in" (d 17)
  f18 : DF G dsc 18 "put_told_at" (d 18)
  f19 : DF G dsc 19 "key_of" (d 19)
  f20 : DF G dsc 20 "sure_plain_book" (d 20)
  f21 : DF G dsc 21 "is_pattern" (d 21)
  f22 : DF G dsc 22 "sure_pattern" (d 22)
  f23 : DF G dsc 23 "sure_patterns" (d 23)
  f24 : DF G dsc 24 "is_of" (d 24)
  f25 : DF G dsc 25 "have_one" (d 25)
  f26 : DF G dsc 26 "merged" (d 26)
  f27 : DF G dsc 27 "bare" (d 27)
  f28 : DF G dsc 28 "by_number" (d 28)
  f29 : DF G dsc 29 "spot_of" (d 29)
  f30 : DF G dsc 30 "parted_at" (d 30)
  f31 : DF G dsc 31 "left_of" (d 31)
  f32 : DF G dsc 32 "missing_in" (d 32)
  f33 : DF G dsc 33 "are_covered" (d 33)
  f34 : DF G dsc 34 "missing" (d 34)
  f35 : DF G dsc 35 "least_bare" (d 35)
  f36 : DF G dsc 36 "closed_by" (d 36)
  f37 : DF G dsc 37 "least_missing" (d 37)
  f38 : DF G dsc 38 "is_missing" (d 38)
  f39 : DF G dsc 39 "tree_of" (d 39)
  f40 : DF G dsc 40 "cover_tree" (d 40)
  f41 : DF G dsc 41 "is_tree_at" (d 41)
  f42 : DF G dsc 42 "is_cover_tree" (d 42)
  f43 : DF G dsc 43 "needless" (d 43)
  f44 : DF G dsc 44 "of_both" (d 44)
  f45 : DF G dsc 45 "without" (d 45)
  f46 : DF G dsc 46 "closed_counts" (d 46)
  f47 : DF G dsc 47 "ways" (d 47)
  f48 : DF G dsc 48 "instances" (d 48)
  f49 : DF G dsc 49 "how_many_closed" (d 49)
  f50 : DF G dsc 50 "how_many_covered" (d 50)
  f51 : DF G dsc 51 "_law_box" (d 51)
  f52 : DF G dsc 52 "_law_take" (d 52)
  f53 : DF G dsc 53 "_law_cells" (d 53)
  f54 : DF G dsc 54 "_law_same" (d 54)
  f55 : DF G dsc 55 "_law_lists" (d 55)
  f56 : DF G dsc 56 "_law_signs" (d 56)
  f57 : DF G dsc 57 "_law_heard" (d 57)
  f58 : DF G dsc 58 "_law_covers_right" (d 58)
  f59 : DF G dsc 59 "_law_trees_right" (d 59)
  f60 : DF G dsc 60 "law" (d 60)
  c_PLAIN : ∃ u, G.mg "PLAIN" = some u ∧ RelV (.str (txt [112, 108, 97, 105, 110])) u
  c_SWAP : ∃ u, G.mg "SWAP" = some u ∧ RelV (.str (txt [115, 119, 97, 112])) u
  c_BAG : ∃ u, G.mg "BAG" = some u ∧ RelV (.str (txt [98, 97, 103])) u
  c_MOST_SIGNS : ∃ u, G.mg "MOST_SIGNS" = some u ∧ RelV (.int 8) u
  c_MOST_NAME : ∃ u, G.mg "MOST_NAME" = some u ∧ RelV (.int 8) u
  c_MOST_PLAIN : ∃ u, G.mg "MOST_PLAIN" = some u ∧ RelV (.int 3) u
  c_MOST_UNKNOWN : ∃ u, G.mg "MOST_UNKNOWN" = some u ∧ RelV (.int 100) u
  c_SMALL : ∃ u, G.mg "SMALL" = some u ∧ RelV (.str (txt [97, 98, 99, 100, 101, 102, 103, 104, 105, 106, 107, 108, 109, 110, 111, 112, 113, 114, 115, 116, 117, 118, 119, 120, 121, 122])) u
  c_BY : ∃ u, G.mg "BY" = some u ∧ RelV (.str (txt [98, 121])) u
  c_PART : ∃ u, G.mg "PART" = some u ∧ RelV (.str (txt [112, 97, 114, 116])) u
  c_MOST_PATTERNS : ∃ u, G.mg "MOST_PATTERNS" = some u ∧ RelV (.int 8) u
  k37_patterns_book : KPerm G.K (d 37).fd (d 37).ps ["patterns", "book"] [1, 0]
  k38_thing_patterns_book : KPerm G.K (d 38).fd (d 38).ps ["thing", "patterns", "book"] [2, 1, 0]
  k40_patterns_book : KPerm G.K (d 40).fd (d 40).ps ["patterns", "book"] [1, 0]
  k42_thing_patterns_book : KPerm G.K (d 42).fd (d 42).ps ["thing", "patterns", "book"] [2, 1, 0]
  k43_patterns_book : KPerm G.K (d 43).fd (d 43).ps ["patterns", "book"] [1, 0]
  k44_other_one_book : KPerm G.K (d 44).fd (d 44).ps ["other", "one", "book"] [2, 1, 0]
  k45_other_one_book : KPerm G.K (d 45).fd (d 45).ps ["other", "one", "book"] [2, 1, 0]
  k49_words_book : KPerm G.K (d 49).fd (d 49).ps ["words", "book"] [1, 0]
  k50_words_patterns_book : KPerm G.K (d 50).fd (d 50).ps ["words", "patterns", "book"] [2, 1, 0]
  eb : ExcBaseFacts bs newId initId bmB
  e0 : Ec G 0 "Unfit" (ec 0) bmB newId
  e1 : Ec G 1 "CanNot" (ec 1) bmB newId
  b_ValueError : G.mg "ValueError" = none
  z0 : ExcC G.K (ec 0)
  v0 : PySem.W.kitOne G.K (.ref (ec 0)) (.type "ValueError") = some true
  x0 : ∀ y cls, G.mg (G.xn y) = some cls → PySem.W.exmOne G.K cls (.ref (ec 0)) = some (([0] : List Nat).any (Nat.beq y))
  z1 : ExcC G.K (ec 1)
  v1 : PySem.W.kitOne G.K (.ref (ec 1)) (.type "ValueError") = some true
  x1 : ∀ y cls, G.mg (G.xn y) = some cls → PySem.W.exmOne G.K cls (.ref (ec 1)) = some (([1] : List Nat).any (Nat.beq y))
  n0_1 : PySem.W.kitOne G.K (.ref (ec 0)) (.ref (ec 1)) = some false
  n1_0 : PySem.W.kitOne G.K (.ref (ec 1)) (.ref (ec 0)) = some false

end Few.Wk
set_option Elab.async false
set_option linter.all false
set_option maxRecDepth 100000
set_option maxHeartbeats 4000000
namespace Few.Wk
open PySem PySem.Spec PyProof.Rows L2
theorem b0 {G : Gd} {dsc : Nat → Option Dsc} {d : Nat → Dsc} {ec : Nat → Addr} {bmB : List Value} {bs newId initId : String} (F : Fx G dsc d ec bmB bs newId initId) : BodyOk G ["thing"] (defScope (top 4)) (defBody (top 4)) Few.Pg.c0 dsc := by
  intro k W X c ok po hst hfr hfn A
  refine (ss_one (s_ret (r_and ok (r_isi (t := .int) ok ?_ F.b_isinstance bt_isinstance ?_ F.b_int boot_int ?_ ?_ (r_pk ok rfl ?_ ?_ ?_) ?_ ?_ ?_) (r_one (r_not ok (r_isi (t := .bool) ok ?_ F.b_isinstance bt_isinstance ?_ F.b_bool boot_bool ?_ ?_ (r_pk ok rfl ?_ ?_ ?_) ?_ ?_ ?_))))))
  all_goals first
    | rfl
    | (intro _; rfl)
    | (intro _ _; rfl)
    | exact gl ok (by decide +kernel)
    | exact gl (ok_blk ok _ _ _ _ _ _) (by decide +kernel)
    | exact gl (by assumption) (by decide +kernel)
    | exact (sw_env ok).trans rfl
    | exact (sw1_env ok).trans rfl
    | exact .inl (by decide +kernel)
    | exact .inl (hfn _)
    | exact .inr (by decide +kernel)
    | exact blk_of ok ⟨rfl, by decide +kernel, by decide +kernel, by decide +kernel, by decide +kernel⟩
    | decide +kernel

end Few.Wk
set_option Elab.async false
set_option linter.all false
set_option maxRecDepth 100000
set_option maxHeartbeats 4000000
namespace Few.Wk
open PySem PySem.Spec PyProof.Rows L2
theorem b1 {G : Gd} {dsc : Nat → Option Dsc} {d : Nat → Dsc} {ec : Nat → Addr} {bmB : List Value} {bs newId initId : String} (F : Fx G dsc d ec bmB bs newId initId) : BodyOk G ["thing", "least"] (defScope (top 5)) (defBody (top 5)) Few.Pg.c1 dsc := by
  intro k W X c ok po hst hfr hfn A
  refine (ss_one (s_ret (r_and ok (r_callD ok A F.f0 ?_ (a_cons (r_var ok rfl ?_ ?_ ?_) a_nil ?_) ?_ ?_ ?_) (r_one (r_cmp (op := .ge) ok (r_pk ok rfl ?_ ?_ ?_) (r_pk ok rfl ?_ ?_ ?_) ?_)))))
  all_goals first
    | rfl
    | (intro _; rfl)
    | (intro _ _; rfl)
    | exact gl ok (by decide +kernel)
    | exact gl (ok_blk ok _ _ _ _ _ _) (by decide +kernel)
    | exact gl (by assumption) (by decide +kernel)
    | exact (sw_env ok).trans rfl
    | exact (sw1_env ok).trans rfl
    | exact .inl (by decide +kernel)
    | exact .inl (hfn _)
    | exact .inr (by decide +kernel)
    | exact blk_of ok ⟨rfl, by decide +kernel, by decide +kernel, by decide +kernel, by decide +kernel⟩
    | decide +kernel

end Few.Wk
set_option Elab.async false
set_option linter.all false
set_option maxRecDepth 100000
set_option maxHeartbeats 4000000
namespace Few.Wk
open PySem PySem.Spec PyProof.Rows L2
theorem b2 {G : Gd} {dsc : Nat → Option Dsc} {d : Nat → Dsc} {ec : Nat → Addr} {bmB : List Value} {bs newId initId : String} (F : Fx G dsc d ec bmB bs newId initId) : BodyOk G ["thing", "many"] (defScope (top 6)) (defBody (top 6)) Few.Pg.c2 dsc := by
  intro k W X c ok po hst hfr hfn A
  refine (ss_one (s_ret (r_and ok (r_callD ok A F.f0 ?_ (a_cons (r_var ok rfl ?_ ?_ ?_) a_nil ?_) ?_ ?_ ?_) (r_one (r_cmp2 (o1 := .le) (o2 := .lt) ok r_int' (r_var ok rfl ?_ ?_ ?_) (r_pk ok rfl ?_ ?_ ?_) ?_)))))
  all_goals first
    | rfl
    | (intro _; rfl)
    | (intro _ _; rfl)
    | exact gl ok (by decide +kernel)
    | exact gl (ok_blk ok _ _ _ _ _ _) (by decide +kernel)
    | exact gl (by assumption) (by decide +kernel)
    | exact (sw_env ok).trans rfl
    | exact (sw1_env ok).trans rfl
    | exact .inl (by decide +kernel)
    | exact .inl (hfn _)
    | exact .inr (by decide +kernel)
    | exact blk_of ok ⟨rfl, by decide +kernel, by decide +kernel, by decide +kernel, by decide +kernel⟩
    | decide +kernel

end Few.Wk
set_option Elab.async false
set_option linter.all false
set_option maxRecDepth 100000
set_option maxHeartbeats 4000000
namespace Few.Wk
open PySem PySem.Spec PyProof.Rows L2
theorem b3 {G : Gd} {dsc : Nat → Option Dsc} {d : Nat → Dsc} {ec : Nat → Addr} {bmB : List Value} {bs newId initId : String} (F : Fx G dsc d ec bmB bs newId initId) : BodyOk G ["thing", "many"] (defScope (top 7)) (defBody (top 7)) Few.Pg.c3 dsc := by
  intro k W X c ok po hst hfr hfn A
  refine (ss_one (s_ret (r_and ok (r_isi (t := .tuple) ok ?_ F.b_isinstance bt_isinstance ?_ F.b_tuple boot_tuple ?_ ?_ (r_pk ok rfl ?_ ?_ ?_) ?_ ?_ ?_) (r_one (r_cmp (op := .eq) ok (r_len ok ?_ F.b_len (r_pk ok rfl ?_ ?_ ?_) ?_ ?_) (r_pk ok rfl ?_ ?_ ?_) ?_)))))
  all_goals first
    | rfl
    | (intro _; rfl)
    | (intro _ _; rfl)
    | exact gl ok (by decide +kernel)
    | exact gl (ok_blk ok _ _ _ _ _ _) (by decide +kernel)
    | exact gl (by assumption) (by decide +kernel)
    | exact (sw_env ok).trans rfl
    | exact (sw1_env ok).trans rfl
    | exact .inl (by decide +kernel)
    | exact .inl (hfn _)
    | exact .inr (by decide +kernel)
    | exact blk_of ok ⟨rfl, by decide +kernel, by decide +kernel, by decide +kernel, by decide +kernel⟩
    | decide +kernel

end Few.Wk
set_option Elab.async false
set_option linter.all false
set_option maxRecDepth 100000
set_option maxHeartbeats 4000000
namespace Few.Wk
open PySem PySem.Spec PyProof.Rows L2
theorem b4 {G : Gd} {dsc : Nat → Option Dsc} {d : Nat → Dsc} {ec : Nat → Addr} {bmB : List Value} {bs newId initId : String} (F : Fx G dsc d ec bmB bs newId initId) : BodyOk G ["thing", "part"] (defScope (top 8)) (defBody (top 8)) Few.Pg.c4 dsc := by
  intro k W X c ok po hst hfr hfn A
  refine (ss_cons (s_if (t_val ok (r_isi2 (t := .list) (u := .tuple) ok ?_ F.b_isinstance bt_isinstance ?_ F.b_list boot_list ?_ ?_ ?_ F.b_tuple boot_tuple ?_ ?_ (r_pk ok rfl ?_ ?_ ?_) ?_ ?_ ?_ ?_ ?_) ?_) (ss_one (s_ret (r_tuple ok ?_ F.b_tuple (r_lc (own := [("part", 1)]) (t := (.nm 1)) (cd := dCon (.bl true)) ok (i_val ok (r_var ok rfl ?_ ?_ ?_)) ?_ (fun s1 H1 C1 cl1 fp1 => (p_nm (ok_blk ok s1 H1 _ cl1 C1 fp1) rfl ?_)) g_nm ?_ (fun s1 H1 C1 cl1 fp1 => (pts_of (c := c) (.inl ⟨rfl, rfl⟩))) (fun s1 H1 C1 cl1 fp1 => (r_callD (ok_blk ok s1 H1 _ cl1 C1 fp1) A F.f4 ?_ (a_cons (r_var (ok_blk ok s1 H1 _ cl1 C1 fp1) rfl ?_ ?_ ?_) a_nil ?_) ?_ ?_ ?_)) ?_) ?_ ?_))) ss_nil) (ss_one (s_retp ok rfl ?_ ?_ ?_)))
  all_goals first
    | rfl
    | (intro _; rfl)
    | (intro _ _; rfl)
    | exact gl ok (by decide +kernel)
    | exact gl (ok_blk ok _ _ _ _ _ _) (by decide +kernel)
    | exact gl (by assumption) (by decide +kernel)
    | exact (sw_env ok).trans rfl
    | exact (sw1_env ok).trans rfl
    | exact .inl (by decide +kernel)
    | exact .inl (hfn _)
    | exact .inr (by decide +kernel)
    | exact blk_of ok ⟨rfl, by decide +kernel, by decide +kernel, by decide +kernel, by decide +kernel⟩
    | decide +kernel

end Few.Wk
set_option Elab.async false
set_option linter.all false
set_option maxRecDepth 100000
set_option maxHeartbeats 4000000
namespace Few.Wk
open PySem PySem.Spec PyProof.Rows L2
theorem b5 {G : Gd} {dsc : Nat → Option Dsc} {d : Nat → Dsc} {ec : Nat → Addr} {bmB : List Value} {bs newId initId : String} (F : Fx G dsc d ec bmB bs newId initId) : BodyOk G ["good"] (defScope (top 9)) (defBody (top 9)) Few.Pg.c5 dsc := by
  intro k W X c ok po hst hfr hfn A
  refine (ss_one (s_if (t_not (t_val ok (r_pk ok rfl ?_ ?_ ?_) ?_)) (ss_one (s_raise0 ok F.eb F.e0.q F.e0.x F.e0.g F.e0.k F.e0.s F.e0.t ?_ ?_)) ss_nil))
  all_goals first
    | rfl
    | (intro _; rfl)
    | (intro _ _; rfl)
    | exact gl ok (by decide +kernel)
    | exact gl (ok_blk ok _ _ _ _ _ _) (by decide +kernel)
    | exact gl (by assumption) (by decide +kernel)
    | exact (sw_env ok).trans rfl
    | exact (sw1_env ok).trans rfl
    | exact .inl (by decide +kernel)
    | exact .inl (hfn _)
    | exact .inr (by decide +kernel)
    | exact blk_of ok ⟨rfl, by decide +kernel, by decide +kernel, by decide +kernel, by decide +kernel⟩
    | decide +kernel

end Few.Wk
set_option Elab.async false
set_option linter.all false
set_option maxRecDepth 100000
set_option maxHeartbeats 4000000
namespace Few.Wk
open PySem PySem.Spec PyProof.Rows L2
theorem b6 {G : Gd} {dsc : Nat → Option Dsc} {d : Nat → Dsc} {ec : Nat → Addr} {bmB : List Value} {bs newId initId : String} (F : Fx G dsc d ec bmB bs newId initId) : BodyOk G ["thing", "own"] (defScope (top 19)) (defBody (top 19)) Few.Pg.c6 dsc := by
  intro k W X c ok po hst hfr hfn A
  refine (ss_one (s_ret (r_and ok (r_isi (t := .str) ok ?_ F.b_isinstance bt_isinstance ?_ F.b_str boot_str ?_ ?_ (r_pk ok rfl ?_ ?_ ?_) ?_ ?_ ?_) (r_and ok (r_cmp2 (o1 := .lt) (o2 := .le) ok r_int' (r_len ok ?_ F.b_len (r_pk ok rfl ?_ ?_ ?_) ?_ ?_) (r_globE ok (fun _ _ => .int _) ?_ F.c_MOST_NAME ?_) ?_) (r_one (r_all ok ?_ F.b_all bt_all (r_lc (own := [("own", 1)]) (t := (.nm 1)) (cd := dCon (.bl true)) ok (i_val ok (r_var ok rfl ?_ ?_ ?_)) ?_ (fun s1 H1 C1 cl1 fp1 => (p_nm (ok_blk ok s1 H1 _ cl1 C1 fp1) rfl ?_)) g_nm ?_ (fun s1 H1 C1 cl1 fp1 => (pts_of (c := c) (.inl ⟨rfl, rfl⟩))) (fun s1 H1 C1 cl1 fp1 => (r_cmp (op := .isin) (ok_blk ok s1 H1 _ cl1 C1 fp1) (r_pk (ok_blk ok s1 H1 _ cl1 C1 fp1) rfl ?_ ?_ ?_) (r_globE (ok_blk ok s1 H1 _ cl1 C1 fp1) (fun _ _ => .str _) ?_ F.c_SMALL ?_) ?_)) ?_) ?_ ?_))))))
  all_goals first
    | rfl
    | (intro _; rfl)
    | (intro _ _; rfl)
    | exact gl ok (by decide +kernel)
    | exact gl (ok_blk ok _ _ _ _ _ _) (by decide +kernel)
    | exact gl (by assumption) (by decide +kernel)
    | exact (sw_env ok).trans rfl
    | exact (sw1_env ok).trans rfl
    | exact .inl (by decide +kernel)
    | exact .inl (hfn _)
    | exact .inr (by decide +kernel)
    | exact blk_of ok ⟨rfl, by decide +kernel, by decide +kernel, by decide +kernel, by decide +kernel⟩
    | decide +kernel

end Few.Wk
set_option Elab.async false
set_option linter.all false
set_option maxRecDepth 100000
set_option maxHeartbeats 4000000
namespace Few.Wk
open PySem PySem.Spec PyProof.Rows L2
theorem b7 {G : Gd} {dsc : Nat → Option Dsc} {d : Nat → Dsc} {ec : Nat → Addr} {bmB : List Value} {bs newId initId : String} (F : Fx G dsc d ec bmB bs newId initId) : BodyOk G ["thing"] (defScope (top 20)) (defBody (top 20)) Few.Pg.c7 dsc := by
  intro k W X c ok po hst hfr hfn A
  refine (ss_cons (s_if (L2.PW.pt (t_or (t_not (t_val ok (r_callD ok A F.f3 ?_ (a_cons (r_var ok rfl ?_ ?_ ?_) (a_cons r_int' a_nil ?_) ?_) ?_ ?_ ?_) ?_)) (t_or (t_not (t_val ok (r_callD ok A F.f6 ?_ (a_cons (r_sub ok (r_pk ok rfl ?_ ?_ ?_) r_int' ?_) a_nil ?_) ?_ ?_ ?_) ?_)) (t_or1 (t_not (t_val ok (r_isi (t := .str) ok ?_ F.b_isinstance bt_isinstance ?_ F.b_str boot_str ?_ ?_ (r_sub ok (r_pk ok rfl ?_ ?_ ?_) r_int' ?_) ?_ ?_ ?_) ?_)))))) (ss_one (s_ret r_bl')) ss_nil) (ss_cons (s_if (t_cmp (op := .eq) ok (r_sub ok (r_pk ok rfl ?_ ?_ ?_) r_int' ?_) (r_globE ok (fun _ _ => .str _) ?_ F.c_PLAIN ?_) ?_) (ss_one (s_ret (r_callD ok A F.f2 ?_ (a_cons (r_sub ok (r_pk ok rfl ?_ ?_ ?_) r_int' ?_) (a_cons (r_bin (op := .add) ok (r_globE ok (fun _ _ => .int _) ?_ F.c_MOST_PLAIN ?_) r_int') a_nil ?_) ?_) ?_ ?_ ?_))) ss_nil) (ss_one (s_ret (r_and ok (r_cmp (op := .isin) ok (r_sub ok (r_pk ok rfl ?_ ?_ ?_) r_int' ?_) (r_tup (a_cons (r_globE ok (fun _ _ => .str _) ?_ F.c_SWAP ?_) (a_cons (r_globE ok (fun _ _ => .str _) ?_ F.c_BAG ?_) a_nil ?_) ?_)) ?_) (r_and ok (r_callD ok A F.f0 ?_ (a_cons (r_sub ok (r_pk ok rfl ?_ ?_ ?_) r_int' ?_) a_nil ?_) ?_ ?_ ?_) (r_one (r_cmp (op := .eq) ok (r_sub ok (r_pk ok rfl ?_ ?_ ?_) r_int' ?_) r_int' ?_))))))))
  all_goals first
    | rfl
    | (intro _; rfl)
    | (intro _ _; rfl)
    | exact gl ok (by decide +kernel)
    | exact gl (ok_blk ok _ _ _ _ _ _) (by decide +kernel)
    | exact gl (by assumption) (by decide +kernel)
    | exact (sw_env ok).trans rfl
    | exact (sw1_env ok).trans rfl
    | exact .inl (by decide +kernel)
    | exact .inl (hfn _)
    | exact .inr (by decide +kernel)
    | exact blk_of ok ⟨rfl, by decide +kernel, by decide +kernel, by decide +kernel, by decide +kernel⟩
    | decide +kernel

end Few.Wk
set_option Elab.async false
set_option linter.all false
set_option maxRecDepth 100000
set_option maxHeartbeats 4000000
namespace Few.Wk
open PySem PySem.Spec PyProof.Rows L2
theorem b8 {G : Gd} {dsc : Nat → Option Dsc} {d : Nat → Dsc} {ec : Nat → Addr} {bmB : List Value} {bs newId initId : String} (F : Fx G dsc d ec bmB bs newId initId) : BodyOk G ["thing", "near", "far", "own"] (defScope (top 21)) (defBody (top 21)) Few.Pg.c8 dsc := by
  intro k W X c ok po hst hfr hfn A
  refine (ss_cons (s_if (L2.PW.pt (t_or (t_not (t_val ok (r_isi (t := .tuple) ok ?_ F.b_isinstance bt_isinstance ?_ F.b_tuple boot_tuple ?_ ?_ (r_pk ok rfl ?_ ?_ ?_) ?_ ?_ ?_) ?_)) (t_or (t_not (t_cmp2 (o1 := .lt) (o2 := .le) ok r_int' (r_len ok ?_ F.b_len (r_pk ok rfl ?_ ?_ ?_) ?_ ?_) (r_globE ok (fun _ _ => .int _) ?_ F.c_MOST_SIGNS ?_) ?_)) (t_or1 (t_not (t_val ok (r_all ok ?_ F.b_all bt_all (r_lc (own := [("own", 3)]) (t := (.nm 3)) (cd := dCon (.bl true)) ok (i_val ok (r_var ok rfl ?_ ?_ ?_)) ?_ (fun s1 H1 C1 cl1 fp1 => (p_nm (ok_blk ok s1 H1 _ cl1 C1 fp1) rfl ?_)) g_nm ?_ (fun s1 H1 C1 cl1 fp1 => (pts_of (c := c) (.inl ⟨rfl, rfl⟩))) (fun s1 H1 C1 cl1 fp1 => (r_callD (ok_blk ok s1 H1 _ cl1 C1 fp1) A F.f7 ?_ (a_cons (r_var (ok_blk ok s1 H1 _ cl1 C1 fp1) rfl ?_ ?_ ?_) a_nil ?_) ?_ ?_ ?_)) ?_) ?_ ?_) ?_)))))) (ss_one (s_ret r_bl')) ss_nil) (ss_one (s_ret (r_all ok ?_ F.b_all bt_all (r_lc (own := [("near", 1), ("far", 2)]) (t := (.cons (.nm 1) (.cons (.nm 2) .nil))) (cd := dCon (.bl true)) ok (i_zip ok ?_ F.b_zip (r_var ok rfl ?_ ?_ ?_) (r_slc ok (r_pk ok rfl ?_ ?_ ?_) (.som r_int') .non) ?_ ?_ ?_) ?_ (fun s1 H1 C1 cl1 fp1 => (p_tup (n := 2) (ok_blk ok s1 H1 _ cl1 C1 fp1) (pgs_cons (p_nm (ok_blk ok s1 H1 _ cl1 C1 fp1) rfl ?_) (pgs_cons (p_nm (ok_blk ok s1 H1 _ cl1 C1 fp1) rfl ?_) pgs_nil ?_) ?_) ?_ ?_)) (g_tup (g_cons g_nm (g_cons g_nm g_nil)) ?_) ?_ (fun s1 H1 C1 cl1 fp1 => (pts_of (c := c) (.inl ⟨rfl, rfl⟩))) (fun s1 H1 C1 cl1 fp1 => (r_cmp (op := .lt) (ok_blk ok s1 H1 _ cl1 C1 fp1) (r_sub (ok_blk ok s1 H1 _ cl1 C1 fp1) (r_pk (ok_blk ok s1 H1 _ cl1 C1 fp1) rfl ?_ ?_ ?_) r_int' ?_) (r_sub (ok_blk ok s1 H1 _ cl1 C1 fp1) (r_pk (ok_blk ok s1 H1 _ cl1 C1 fp1) rfl ?_ ?_ ?_) r_int' ?_) ?_)) ?_) ?_ ?_))))
  all_goals first
    | rfl
    | (intro _; rfl)
    | (intro _ _; rfl)
    | exact gl ok (by decide +kernel)
    | exact gl (ok_blk ok _ _ _ _ _ _) (by decide +kernel)
    | exact gl (by assumption) (by decide +kernel)
    | exact (sw_env ok).trans rfl
    | exact (sw1_env ok).trans rfl
    | exact .inl (by decide +kernel)
    | exact .inl (hfn _)
    | exact .inr (by decide +kernel)
    | exact blk_of ok ⟨rfl, by decide +kernel, by decide +kernel, by decide +kernel, by decide +kernel⟩
    | decide +kernel

end Few.Wk
set_option Elab.async false
set_option linter.all false
set_option maxRecDepth 100000
set_option maxHeartbeats 4000000
namespace Few.Wk
open PySem PySem.Spec PyProof.Rows L2
theorem b9 {G : Gd} {dsc : Nat → Option Dsc} {d : Nat → Dsc} {ec : Nat → Addr} {bmB : List Value} {bs newId initId : String} (F : Fx G dsc d ec bmB bs newId initId) : BodyOk G ["book", "own"] (defScope (top 22)) (defBody (top 22)) Few.Pg.c9 dsc := by
  intro k W X c ok po hst hfr hfn A
  refine (ss_cons (s_set ok rfl ?_ (r_callD ok A F.f4 ?_ (a_cons (r_var ok rfl ?_ ?_ ?_) a_nil ?_) ?_ ?_ ?_) ?_ ?_) (ss_cons (s_ex (r_callD ok A F.f5 ?_ (a_cons (r_callD ok A F.f8 ?_ (a_cons (r_var ok rfl ?_ ?_ ?_) a_nil ?_) ?_ ?_ ?_) a_nil ?_) ?_ ?_ ?_) ?_) (ss_one (s_retp ok rfl ?_ ?_ ?_))))
  all_goals first
    | rfl
    | (intro _; rfl)
    | (intro _ _; rfl)
    | exact gl ok (by decide +kernel)
    | exact gl (ok_blk ok _ _ _ _ _ _) (by decide +kernel)
    | exact gl (by assumption) (by decide +kernel)
    | exact (sw_env ok).trans rfl
    | exact (sw1_env ok).trans rfl
    | exact .inl (by decide +kernel)
    | exact .inl (hfn _)
    | exact .inr (by decide +kernel)
    | exact blk_of ok ⟨rfl, by decide +kernel, by decide +kernel, by decide +kernel, by decide +kernel⟩
    | decide +kernel

end Few.Wk
set_option Elab.async false
set_option linter.all false
set_option maxRecDepth 100000
set_option maxHeartbeats 4000000
namespace Few.Wk
open PySem PySem.Spec PyProof.Rows L2
theorem b10 {G : Gd} {dsc : Nat → Option Dsc} {d : Nat → Dsc} {ec : Nat → Addr} {bmB : List Value} {bs newId initId : String} (F : Fx G dsc d ec bmB bs newId initId) : BodyOk G ["book", "name", "kind", "many"] (defScope (top 23)) (defBody (top 23)) Few.Pg.c10 dsc := by
  intro k W X c ok po hst hfr hfn A
  refine (ss_one (s_ret (r_dc (own := [("name", 1), ("kind", 2), ("many", 3)]) (t := (.cons (.nm 1) (.cons (.nm 2) (.cons (.nm 3) .nil)))) (cd := dCon (.bl true)) ok (i_val ok (r_var ok rfl ?_ ?_ ?_)) ?_ (fun s1 H1 C1 cl1 fp1 => (p_tup (n := 3) (ok_blk ok s1 H1 _ cl1 C1 fp1) (pgs_cons (p_nm (ok_blk ok s1 H1 _ cl1 C1 fp1) rfl ?_) (pgs_cons (p_nm (ok_blk ok s1 H1 _ cl1 C1 fp1) rfl ?_) (pgs_cons (p_nm (ok_blk ok s1 H1 _ cl1 C1 fp1) rfl ?_) pgs_nil ?_) ?_) ?_) ?_ ?_)) (g_tup (g_cons g_nm (g_cons g_nm (g_cons g_nm g_nil))) ?_) ?_ (fun s1 H1 C1 cl1 fp1 => (pts_of (c := c) (.inl ⟨rfl, rfl⟩))) (fun s1 H1 C1 cl1 fp1 => (r_var (ok_blk ok s1 H1 _ cl1 C1 fp1) rfl ?_ ?_ ?_)) (fun s1 H1 C1 cl1 fp1 => (r_tup (a_cons (r_var (ok_blk ok s1 H1 _ cl1 C1 fp1) rfl ?_ ?_ ?_) (a_cons (r_var (ok_blk ok s1 H1 _ cl1 C1 fp1) rfl ?_ ?_ ?_) a_nil ?_) ?_))) ?_)))
  all_goals first
    | rfl
    | (intro _; rfl)
    | (intro _ _; rfl)
    | exact gl ok (by decide +kernel)
    | exact gl (ok_blk ok _ _ _ _ _ _) (by decide +kernel)
    | exact gl (by assumption) (by decide +kernel)
    | exact (sw_env ok).trans rfl
    | exact (sw1_env ok).trans rfl
    | exact .inl (by decide +kernel)
    | exact .inl (hfn _)
    | exact .inr (by decide +kernel)
    | exact blk_of ok ⟨rfl, by decide +kernel, by decide +kernel, by decide +kernel, by decide +kernel⟩
    | decide +kernel

end Few.Wk
set_option Elab.async false
set_option linter.all false
set_option maxRecDepth 100000
set_option maxHeartbeats 4000000
namespace Few.Wk
open PySem PySem.Spec PyProof.Rows L2
theorem b11 {G : Gd} {dsc : Nat → Option Dsc} {d : Nat → Dsc} {ec : Nat → Addr} {bmB : List Value} {bs newId initId : String} (F : Fx G dsc d ec bmB bs newId initId) : BodyOk G ["signs", "thing", "good", "kind", "many"] (defScope (top 24)) (defBody (top 24)) Few.Pg.c11 dsc := by
  intro k W X c ok po hst hfr hfn A
  refine (ss_cons (s_if (t_val ok (r_callD ok A F.f0 ?_ (a_cons (r_var ok rfl ?_ ?_ ?_) a_nil ?_) ?_ ?_ ?_) ?_) (ss_one (s_ret (r_ite (t_val ok (r_callD ok A F.f2 ?_ (a_cons (r_var ok rfl ?_ ?_ ?_) (a_cons (r_globE ok (fun _ _ => .int _) ?_ F.c_MOST_UNKNOWN ?_) a_nil ?_) ?_) ?_ ?_ ?_) ?_) (r_tup a_nil) r_non))) ss_nil) (ss_cons (s_if (L2.PW.pt (t_or (t_not (t_val ok (r_callD ok A F.f3 ?_ (a_cons (r_var ok rfl ?_ ?_ ?_) (a_cons r_int' a_nil ?_) ?_) ?_ ?_ ?_) ?_)) (t_or (t_not (t_val ok (r_isi (t := .str) ok ?_ F.b_isinstance bt_isinstance ?_ F.b_str boot_str ?_ ?_ (r_sub ok (r_pk ok rfl ?_ ?_ ?_) r_int' ?_) ?_ ?_ ?_) ?_)) (t_or1 (t_not (t_val ok (r_isi (t := .tuple) ok ?_ F.b_isinstance bt_isinstance ?_ F.b_tuple boot_tuple ?_ ?_ (r_sub ok (r_pk ok rfl ?_ ?_ ?_) r_int' ?_) ?_ ?_ ?_) ?_)))))) (ss_one (s_ret r_non)) ss_nil) (ss_cons (s_if (t_cmp (op := .notin) ok (r_sub ok (r_pk ok rfl ?_ ?_ ?_) r_int' ?_) (r_pk ok rfl ?_ ?_ ?_) ?_) (ss_one (s_ret r_non)) ss_nil) (ss_cons (s_asgT (r_sub ok (r_pk ok rfl ?_ ?_ ?_) (r_sub ok (r_pk ok rfl ?_ ?_ ?_) r_int' ?_) ?_) (p_tup (n := 2) ok (pgs_cons (p_nm ok rfl ?_) (pgs_cons (p_nm ok rfl ?_) pgs_nil ?_) ?_) ?_ ?_) (g_tup (g_cons g_nm (g_cons g_nm g_nil)) ?_) ?_ ?_ ?_) (ss_cons (s_set ok rfl ?_ (r_ite (t_cmp (op := .eq) ok (r_pk ok rfl ?_ ?_ ?_) (r_globE ok (fun _ _ => .str _) ?_ F.c_BAG ?_) ?_) (r_cmp (op := .ge) ok (r_len ok ?_ F.b_len (r_sub ok (r_pk ok rfl ?_ ?_ ?_) r_int' ?_) ?_ ?_) (r_pk ok rfl ?_ ?_ ?_) ?_) (r_cmp (op := .eq) ok (r_len ok ?_ F.b_len (r_sub ok (r_pk ok rfl ?_ ?_ ?_) r_int' ?_) ?_ ?_) (r_pk ok rfl ?_ ?_ ?_) ?_)) ?_ ?_) (ss_one (s_ret (r_ite (t_val ok (r_pk ok rfl ?_ ?_ ?_) ?_) (r_sub ok (r_pk ok rfl ?_ ?_ ?_) r_int' ?_) r_non))))))))
  all_goals first
    | rfl
    | (intro _; rfl)
    | (intro _ _; rfl)
    | exact gl ok (by decide +kernel)
    | exact gl (ok_blk ok _ _ _ _ _ _) (by decide +kernel)
    | exact gl (by assumption) (by decide +kernel)
    | exact (sw_env ok).trans rfl
    | exact (sw1_env ok).trans rfl
    | exact .inl (by decide +kernel)
    | exact .inl (hfn _)
    | exact .inr (by decide +kernel)
    | exact blk_of ok ⟨rfl, by decide +kernel, by decide +kernel, by decide +kernel, by decide +kernel⟩
    | decide +kernel

end Few.Wk
set_option Elab.async false
set_option linter.all false
set_option maxRecDepth 100000
set_option maxHeartbeats 4000000
namespace Few.Wk
open PySem PySem.Spec PyProof.Rows L2
theorem b12 {G : Gd} {dsc : Nat → Option Dsc} {d : Nat → Dsc} {ec : Nat → Addr} {bmB : List Value} {bs newId initId : String} (F : Fx G dsc d ec bmB bs newId initId) : BodyOk G ["signs", "thing", "line", "parts"] (defScope (top 25)) (defBody (top 25)) Few.Pg.c12 dsc := by
  intro k W X c ok po hst hfr hfn A
  refine (ss_cons (s_set ok rfl ?_ (r_lst (a_cons (r_var ok rfl ?_ ?_ ?_) a_nil ?_)) ?_ ?_) (ss_cons (s_while po (t_cmp (op := .ne) ok (r_pk ok rfl ?_ ?_ ?_) (r_lst a_nil) ?_) (ss_cons (s_set ok rfl ?_ (r_callD ok A F.f11 ?_ (a_cons (r_var ok rfl ?_ ?_ ?_) (a_cons (r_pop ok rfl ?_ ?_ ?_ ?_ ?_) a_nil ?_) ?_) ?_ ?_ ?_) ?_ ?_) (ss_cons (s_if (t_cmp (op := .isn) ok (r_pk ok rfl ?_ ?_ ?_) r_non ?_) (ss_one (s_ret r_bl')) ss_nil) (ss_one (s_ext ok rfl ?_ ?_ ?_ (r_list ok ?_ F.b_list (r_pk ok rfl ?_ ?_ ?_) ?_ ?_) ?_ ?_ ?_ ?_ ?_ ?_))))) (ss_one (s_ret r_bl'))))
  all_goals first
    | rfl
    | (intro _; rfl)
    | (intro _ _; rfl)
    | exact gl ok (by decide +kernel)
    | exact gl (ok_blk ok _ _ _ _ _ _) (by decide +kernel)
    | exact gl (by assumption) (by decide +kernel)
    | exact (sw_env ok).trans rfl
    | exact (sw1_env ok).trans rfl
    | exact .inl (by decide +kernel)
    | exact .inl (hfn _)
    | exact .inr (by decide +kernel)
    | exact blk_of ok ⟨rfl, by decide +kernel, by decide +kernel, by decide +kernel, by decide +kernel⟩
    | decide +kernel

end Few.Wk
set_option Elab.async false
set_option linter.all false
set_option maxRecDepth 100000
set_option maxHeartbeats 4000000
namespace Few.Wk
open PySem PySem.Spec PyProof.Rows L2
theorem b13 {G : Gd} {dsc : Nat → Option Dsc} {d : Nat → Dsc} {ec : Nat → Addr} {bmB : List Value} {bs newId initId : String} (F : Fx G dsc d ec bmB bs newId initId) : BodyOk G ["thing", "own"] (defScope (top 26)) (defBody (top 26)) Few.Pg.c13 dsc := by
  intro k W X c ok po hst hfr hfn A
  refine (ss_one (s_ret (r_and ok (r_isi (t := .tuple) ok ?_ F.b_isinstance bt_isinstance ?_ F.b_tuple boot_tuple ?_ ?_ (r_pk ok rfl ?_ ?_ ?_) ?_ ?_ ?_) (r_one (r_all ok ?_ F.b_all bt_all (r_lc (own := [("own", 1)]) (t := (.nm 1)) (cd := dCon (.bl true)) ok (i_val ok (r_var ok rfl ?_ ?_ ?_)) ?_ (fun s1 H1 C1 cl1 fp1 => (p_nm (ok_blk ok s1 H1 _ cl1 C1 fp1) rfl ?_)) g_nm ?_ (fun s1 H1 C1 cl1 fp1 => (pts_of (c := c) (.inl ⟨rfl, rfl⟩))) (fun s1 H1 C1 cl1 fp1 => (r_and (ok_blk ok s1 H1 _ cl1 C1 fp1) (r_callD (ok_blk ok s1 H1 _ cl1 C1 fp1) A F.f0 ?_ (a_cons (r_var (ok_blk ok s1 H1 _ cl1 C1 fp1) rfl ?_ ?_ ?_) a_nil ?_) ?_ ?_ ?_) (r_one (r_cmp (op := .ge) (ok_blk ok s1 H1 _ cl1 C1 fp1) (r_pk (ok_blk ok s1 H1 _ cl1 C1 fp1) rfl ?_ ?_ ?_) r_int' ?_)))) ?_) ?_ ?_)))))
  all_goals first
    | rfl
    | (intro _; rfl)
    | (intro _ _; rfl)
    | exact gl ok (by decide +kernel)
    | exact gl (ok_blk ok _ _ _ _ _ _) (by decide +kernel)
    | exact gl (by assumption) (by decide +kernel)
    | exact (sw_env ok).trans rfl
    | exact (sw1_env ok).trans rfl
    | exact .inl (by decide +kernel)
    | exact .inl (hfn _)
    | exact .inr (by decide +kernel)
    | exact blk_of ok ⟨rfl, by decide +kernel, by decide +kernel, by decide +kernel, by decide +kernel⟩
    | decide +kernel

end Few.Wk
set_option Elab.async false
set_option linter.all false
set_option maxRecDepth 100000
set_option maxHeartbeats 4000000
namespace Few.Wk
open PySem PySem.Spec PyProof.Rows L2
theorem b14 {G : Gd} {dsc : Nat → Option Dsc} {d : Nat → Dsc} {ec : Nat → Addr} {bmB : List Value} {bs newId initId : String} (F : Fx G dsc d ec bmB bs newId initId) : BodyOk G ["own"] (defScope (top 27)) (defBody (top 27)) Few.Pg.c14 dsc := by
  intro k W X c ok po hst hfr hfn A
  refine (ss_one (s_ret (r_ite (t_val ok (r_callD ok A F.f0 ?_ (a_cons (r_var ok rfl ?_ ?_ ?_) a_nil ?_) ?_ ?_ ?_) ?_) (r_tup a_nil) (r_sub ok (r_pk ok rfl ?_ ?_ ?_) r_int' ?_))))
  all_goals first
    | rfl
    | (intro _; rfl)
    | (intro _ _; rfl)
    | exact gl ok (by decide +kernel)
    | exact gl (ok_blk ok _ _ _ _ _ _) (by decide +kernel)
    | exact gl (by assumption) (by decide +kernel)
    | exact (sw_env ok).trans rfl
    | exact (sw1_env ok).trans rfl
    | exact .inl (by decide +kernel)
    | exact .inl (hfn _)
    | exact .inr (by decide +kernel)
    | exact blk_of ok ⟨rfl, by decide +kernel, by decide +kernel, by decide +kernel, by decide +kernel⟩
    | decide +kernel

end Few.Wk
set_option Elab.async false
set_option linter.all false
set_option maxRecDepth 100000
set_option maxHeartbeats 4000000
namespace Few.Wk
open PySem PySem.Spec PyProof.Rows L2
theorem b15 {G : Gd} {dsc : Nat → Option Dsc} {d : Nat → Dsc} {ec : Nat → Addr} {bmB : List Value} {bs newId initId : String} (F : Fx G dsc d ec bmB bs newId initId) : BodyOk G ["signs", "own", "below", "part"] (defScope (top 28)) (defBody (top 28)) Few.Pg.c15 dsc := by
  intro k W X c ok po hst hfr hfn A
  refine (ss_cons (s_if (t_val ok (r_callD ok A F.f0 ?_ (a_cons (r_var ok rfl ?_ ?_ ?_) a_nil ?_) ?_ ?_ ?_) ?_) (ss_one (s_ret r_int')) ss_nil) (ss_cons (s_set ok rfl ?_ (r_sum ok ?_ F.b_sum bt_sum (r_lc (own := [("part", 3)]) (t := (.nm 3)) (cd := dCon (.bl true)) ok (i_val ok (r_sub ok (r_pk ok rfl ?_ ?_ ?_) r_int' ?_)) ?_ (fun s1 H1 C1 cl1 fp1 => (p_nm (ok_blk ok s1 H1 _ cl1 C1 fp1) rfl ?_)) g_nm ?_ (fun s1 H1 C1 cl1 fp1 => (pts_of (c := c) (.inl ⟨rfl, rfl⟩))) (fun s1 H1 C1 cl1 fp1 => (r_callD (ok_blk ok s1 H1 _ cl1 C1 fp1) A F.f15 ?_ (a_cons (r_var (ok_blk ok s1 H1 _ cl1 C1 fp1) rfl ?_ ?_ ?_) (a_cons (r_var (ok_blk ok s1 H1 _ cl1 C1 fp1) rfl ?_ ?_ ?_) a_nil ?_) ?_) ?_ ?_ ?_)) ?_) ?_ ?_) ?_ ?_) (ss_one (s_ret (r_bin (op := .add) ok (r_pk ok rfl ?_ ?_ ?_) (r_ite (t_cmp (op := .eq) ok (r_sub ok (r_sub ok (r_pk ok rfl ?_ ?_ ?_) (r_sub ok (r_pk ok rfl ?_ ?_ ?_) r_int' ?_) ?_) r_int' ?_) (r_globE ok (fun _ _ => .str _) ?_ F.c_BAG ?_) ?_) (r_bin (op := .sub) ok (r_len ok ?_ F.b_len (r_sub ok (r_pk ok rfl ?_ ?_ ?_) r_int' ?_) ?_ ?_) r_int') r_int'))))))
  all_goals first
    | rfl
    | (intro _; rfl)
    | (intro _ _; rfl)
    | exact gl ok (by decide +kernel)
    | exact gl (ok_blk ok _ _ _ _ _ _) (by decide +kernel)
    | exact gl (by assumption) (by decide +kernel)
    | exact (sw_env ok).trans rfl
    | exact (sw1_env ok).trans rfl
    | exact .inl (by decide +kernel)
    | exact .inl (hfn _)
    | exact .inr (by decide +kernel)
    | exact blk_of ok ⟨rfl, by decide +kernel, by decide +kernel, by decide +kernel, by decide +kernel⟩
    | decide +kernel

end Few.Wk
set_option Elab.async false
set_option linter.all false
set_option maxRecDepth 100000
set_option maxHeartbeats 4000000
namespace Few.Wk
open PySem PySem.Spec PyProof.Rows L2
theorem b16 {G : Gd} {dsc : Nat → Option Dsc} {d : Nat → Dsc} {ec : Nat → Addr} {bmB : List Value} {bs newId initId : String} (F : Fx G dsc d ec bmB bs newId initId) : BodyOk G ["own", "found", "line", "path", "here", "place", "part"] (defScope (top 29)) (defBody (top 29)) Few.Pg.c16 dsc := by
  intro k W X c ok po hst hfr hfn A
  refine (ss_cons (s_par ok rfl rfl ?_ ?_ ?_ (r_lst a_nil) (r_lst (a_cons (r_tup (a_cons (r_tup a_nil) (a_cons (r_var ok rfl ?_ ?_ ?_) a_nil ?_) ?_)) a_nil ?_)) ?_ ?_ ?_ ?_) (ss_cons (s_while po (t_cmp (op := .ne) ok (r_pk ok rfl ?_ ?_ ?_) (r_lst a_nil) ?_) (ss_cons (s_asgT (r_pop ok rfl ?_ ?_ ?_ ?_ ?_) (p_tup (n := 2) ok (pgs_cons (p_nmc ok hfn rfl ?_) (pgs_cons (p_nm ok rfl ?_) pgs_nil ?_) ?_) ?_ ?_) (g_tup (g_cons g_nm (g_cons g_nm g_nil)) ?_) ?_ ?_ ?_) (ss_cons (s_app ok rfl ?_ ?_ ?_ (r_tup (a_cons (r_var ok rfl ?_ ?_ ?_) (a_cons (r_var ok rfl ?_ ?_ ?_) a_nil ?_) ?_)) ?_ ?_ ?_ ?_ ?_ ?_) (ss_one (s_ext ok rfl ?_ ?_ ?_ (r_rev ok (r_lc (own := [("place", 5), ("part", 6)]) (t := (.cons (.nm 5) (.cons (.nm 6) .nil))) (cd := dCon (.bl true)) ok (i_enum ok ?_ F.b_enumerate (r_callD ok A F.f14 ?_ (a_cons (r_var ok rfl ?_ ?_ ?_) a_nil ?_) ?_ ?_ ?_) ?_) ?_ (fun s1 H1 C1 cl1 fp1 => (p_tup (n := 2) (ok_blk ok s1 H1 _ cl1 C1 fp1) (pgs_cons (p_nm (ok_blk ok s1 H1 _ cl1 C1 fp1) rfl ?_) (pgs_cons (p_nm (ok_blk ok s1 H1 _ cl1 C1 fp1) rfl ?_) pgs_nil ?_) ?_) ?_ ?_)) (g_tup (g_cons g_nm (g_cons g_nm g_nil)) ?_) ?_ (fun s1 H1 C1 cl1 fp1 => (pts_of (c := c) (.inl ⟨rfl, rfl⟩))) (fun s1 H1 C1 cl1 fp1 => (r_tup (a_cons (r_tup (a_star (ok_blk ok s1 H1 _ cl1 C1 fp1) (r_var (ok_blk ok s1 H1 _ cl1 C1 fp1) rfl ?_ ?_ ?_) (a_cons (r_var (ok_blk ok s1 H1 _ cl1 C1 fp1) rfl ?_ ?_ ?_) a_nil ?_) ?_)) (a_cons (r_var (ok_blk ok s1 H1 _ cl1 C1 fp1) rfl ?_ ?_ ?_) a_nil ?_) ?_))) ?_)) ?_ ?_ ?_ ?_ ?_ ?_))))) (ss_one (s_retp ok rfl ?_ ?_ ?_))))
  all_goals first
    | rfl
    | (intro _; rfl)
    | (intro _ _; rfl)
    | exact gl ok (by decide +kernel)
    | exact gl (ok_blk ok _ _ _ _ _ _) (by decide +kernel)
    | exact gl (by assumption) (by decide +kernel)
    | exact (sw_env ok).trans rfl
    | exact (sw1_env ok).trans rfl
    | exact .inl (by decide +kernel)
    | exact .inl (hfn _)
    | exact .inr (by decide +kernel)
    | exact blk_of ok ⟨rfl, by decide +kernel, by decide +kernel, by decide +kernel, by decide +kernel⟩
    | decide +kernel

end Few.Wk
set_option Elab.async false
set_option linter.all false
set_option maxRecDepth 100000
set_option maxHeartbeats 4000000
namespace Few.Wk
open PySem PySem.Spec PyProof.Rows L2
theorem b17 {G : Gd} {dsc : Nat → Option Dsc} {d : Nat → Dsc} {ec : Nat → Addr} {bmB : List Value} {bs newId initId : String} (F : Fx G dsc d ec bmB bs newId initId) : BodyOk G ["own", "_", "here"] (defScope (top 30)) (defBody (top 30)) Few.Pg.c17 dsc := by
  intro k W X c ok po hst hfr hfn A
  refine (ss_one (s_ret (r_tuple ok ?_ F.b_tuple (r_sortset ok ?_ F.b_sorted ?_ F.b_set bt_sorted bt_set (r_lc (own := [("_", 1), ("here", 2)]) (t := (.cons (.nm 1) (.cons (.nm 2) .nil))) ok (i_val ok (r_callD ok A F.f16 ?_ (a_cons (r_var ok rfl ?_ ?_ ?_) a_nil ?_) ?_ ?_ ?_)) ?_ (fun s1 H1 C1 cl1 fp1 => (p_tup (n := 2) (ok_blk ok s1 H1 _ cl1 C1 fp1) (pgs_cons (p_nm (ok_blk ok s1 H1 _ cl1 C1 fp1) rfl ?_) (pgs_cons (p_nm (ok_blk ok s1 H1 _ cl1 C1 fp1) rfl ?_) pgs_nil ?_) ?_) ?_ ?_)) (g_tup (g_cons g_nm (g_cons g_nm g_nil)) ?_) ?_ (fun s1 H1 C1 cl1 fp1 => (pts_of (c := c) (.inr ⟨_, rfl, (t_val (ok_blk ok s1 H1 _ cl1 C1 fp1) (r_callD (ok_blk ok s1 H1 _ cl1 C1 fp1) A F.f0 ?_ (a_cons (r_var (ok_blk ok s1 H1 _ cl1 C1 fp1) rfl ?_ ?_ ?_) a_nil ?_) ?_ ?_ ?_) ?_)⟩))) (fun s1 H1 C1 cl1 fp1 => (r_var (ok_blk ok s1 H1 _ cl1 C1 fp1) rfl ?_ ?_ ?_)) ?_) ?_ ?_ ?_ ?_) ?_ ?_)))
  all_goals first
    | rfl
    | (intro _; rfl)
    | (intro _ _; rfl)
    | exact gl ok (by decide +kernel)
    | exact gl (ok_blk ok _ _ _ _ _ _) (by decide +kernel)
    | exact gl (by assumption) (by decide +kernel)
    | exact (sw_env ok).trans rfl
    | exact (sw1_env ok).trans rfl
    | exact .inl (by decide +kernel)
    | exact .inl (hfn _)
    | exact .inr (by decide +kernel)
    | exact blk_of ok ⟨rfl, by decide +kernel, by decide +kernel, by decide +kernel, by decide +kernel⟩
    | decide +kernel

end Few.Wk
set_option Elab.async false
set_option linter.all false
set_option maxRecDepth 100000
set_option maxHeartbeats 4000000
namespace Few.Wk
open PySem PySem.Spec PyProof.Rows L2
theorem b18 {G : Gd} {dsc : Nat → Option Dsc} {d : Nat → Dsc} {ec : Nat → Addr} {bmB : List Value} {bs newId initId : String} (F : Fx G dsc d ec bmB bs newId initId) : BodyOk G ["own", "path", "other", "parts"] (defScope (top 31)) (defBody (top 31)) Few.Pg.c18 dsc := by
  intro k W X c ok po hst hfr hfn A
  refine (ss_cons (s_if (t_cmp (op := .eq) ok (r_pk ok rfl ?_ ?_ ?_) (r_tup a_nil) ?_) (ss_one (s_retp ok rfl ?_ ?_ ?_)) ss_nil) (ss_cons (s_set ok rfl ?_ (r_list ok ?_ F.b_list (r_sub ok (r_pk ok rfl ?_ ?_ ?_) r_int' ?_) ?_ ?_) ?_ ?_) (ss_cons (s_seti ok rfl ?_ ?_ ?_ (r_callD ok A F.f18 ?_ (a_cons (r_sub ok (r_pk ok rfl ?_ ?_ ?_) (r_sub ok (r_pk ok rfl ?_ ?_ ?_) r_int' ?_) ?_) (a_cons (r_slc ok (r_pk ok rfl ?_ ?_ ?_) (.som r_int') .non) (a_cons (r_var ok rfl ?_ ?_ ?_) a_nil ?_) ?_) ?_) ?_ ?_ ?_) (r_sub ok (r_pk ok rfl ?_ ?_ ?_) r_int' ?_) ?_ ?_ ?_ ?_) (ss_one (s_ret (r_tup (a_cons (r_sub ok (r_pk ok rfl ?_ ?_ ?_) r_int' ?_) (a_cons (r_tuple ok ?_ F.b_tuple (r_pk ok rfl ?_ ?_ ?_) ?_ ?_) a_nil ?_) ?_)))))))
  all_goals first
    | rfl
    | (intro _; rfl)
    | (intro _ _; rfl)
    | exact gl ok (by decide +kernel)
    | exact gl (ok_blk ok _ _ _ _ _ _) (by decide +kernel)
    | exact gl (by assumption) (by decide +kernel)
    | exact (sw_env ok).trans rfl
    | exact (sw1_env ok).trans rfl
    | exact .inl (by decide +kernel)
    | exact .inl (hfn _)
    | exact .inr (by decide +kernel)
    | exact blk_of ok ⟨rfl, by decide +kernel, by decide +kernel, by decide +kernel, by decide +kernel⟩
    | decide +kernel

end Few.Wk
set_option Elab.async false
set_option linter.all false
set_option maxRecDepth 100000
set_option maxHeartbeats 4000000
namespace Few.Wk
open PySem PySem.Spec PyProof.Rows L2
theorem b19 {G : Gd} {dsc : Nat → Option Dsc} {d : Nat → Dsc} {ec : Nat → Addr} {bmB : List Value} {bs newId initId : String} (F : Fx G dsc d ec bmB bs newId initId) : BodyOk G ["signs", "own", "behind", "name", "parts", "words", "keys", "part", "key"] (defScope (top 33)) (defBody (top 33)) Few.Pg.c19 dsc := by
  intro k W X c ok po hst hfr hfn A
  refine (ss_cons (s_if (t_val ok (r_callD ok A F.f0 ?_ (a_cons (r_var ok rfl ?_ ?_ ?_) a_nil ?_) ?_ ?_ ?_) ?_) (ss_one (s_ret (r_tup (a_cons r_int' (a_cons r_int' (a_cons (r_var ok rfl ?_ ?_ ?_) a_nil ?_) ?_) ?_)))) ss_nil) (ss_cons (s_asgT (r_var ok rfl ?_ ?_ ?_) (p_tup (n := 2) ok (pgs_cons (p_nmc ok hfn rfl ?_) (pgs_cons (p_nm ok rfl ?_) pgs_nil ?_) ?_) ?_ ?_) (g_tup (g_cons g_nm (g_cons g_nm g_nil)) ?_) ?_ ?_ ?_) (ss_cons (s_par ok rfl rfl ?_ ?_ ?_ (r_callD ok A F.f15 ?_ (a_cons (r_var ok rfl ?_ ?_ ?_) (a_cons (r_var ok rfl ?_ ?_ ?_) a_nil ?_) ?_) ?_ ?_ ?_) (r_lc (own := [("part", 7)]) (t := (.nm 7)) (cd := dCon (.bl true)) ok (i_val ok (r_var ok rfl ?_ ?_ ?_)) ?_ (fun s1 H1 C1 cl1 fp1 => (p_nm (ok_blk ok s1 H1 _ cl1 C1 fp1) rfl ?_)) g_nm ?_ (fun s1 H1 C1 cl1 fp1 => (pts_of (c := c) (.inl ⟨rfl, rfl⟩))) (fun s1 H1 C1 cl1 fp1 => (r_callD (ok_blk ok s1 H1 _ cl1 C1 fp1) A F.f19 ?_ (a_cons (r_var (ok_blk ok s1 H1 _ cl1 C1 fp1) rfl ?_ ?_ ?_) (a_cons (r_var (ok_blk ok s1 H1 _ cl1 C1 fp1) rfl ?_ ?_ ?_) a_nil ?_) ?_) ?_ ?_ ?_)) ?_) ?_ ?_ ?_ ?_) (ss_cons (s_if (t_cmp (op := .ne) ok (r_sub ok (r_sub ok (r_pk ok rfl ?_ ?_ ?_) (r_pk ok rfl ?_ ?_ ?_) ?_) r_int' ?_) (r_globE ok (fun _ _ => .str _) ?_ F.c_BAG ?_) ?_) (ss_one (s_ret (r_tup (a_cons (r_var ok rfl ?_ ?_ ?_) (a_cons r_int' (a_cons (r_var ok rfl ?_ ?_ ?_) (a_cons (r_tuple ok ?_ F.b_tuple (r_pk ok rfl ?_ ?_ ?_) ?_ ?_) a_nil ?_) ?_) ?_) ?_)))) ss_nil) (ss_cons (s_setLc (own := [("key", 8), ("part", 7)]) (t := (.cons (.nm 8) (.cons (.nm 7) .nil))) ok rfl ?_ ?_ (i_zip ok ?_ F.b_zip (r_var ok rfl ?_ ?_ ?_) (r_var ok rfl ?_ ?_ ?_) ?_ ?_ ?_) ?_ (fun s1 H1 C1 cl1 fp1 => (p_tup (n := 2) (ok_blk ok s1 H1 _ cl1 C1 fp1) (pgs_cons (p_nm (ok_blk ok s1 H1 _ cl1 C1 fp1) rfl ?_) (pgs_cons (p_nm (ok_blk ok s1 H1 _ cl1 C1 fp1) rfl ?_) pgs_nil ?_) ?_) ?_ ?_)) (g_tup (g_cons g_nm (g_cons g_nm g_nil)) ?_) ?_ (fun s1 H1 C1 cl1 fp1 => (pts_of (c := c) (.inr ⟨_, rfl, (L2.PW.pt (t_and (t_not (t_val (ok_blk ok s1 H1 _ cl1 C1 fp1) (r_callD (ok_blk ok s1 H1 _ cl1 C1 fp1) A F.f0 ?_ (a_cons (r_var (ok_blk ok s1 H1 _ cl1 C1 fp1) rfl ?_ ?_ ?_) a_nil ?_) ?_ ?_ ?_) ?_)) (t_and1 (t_cmp (op := .gt) (ok_blk ok s1 H1 _ cl1 C1 fp1) (r_sub (ok_blk ok s1 H1 _ cl1 C1 fp1) (r_pk (ok_blk ok s1 H1 _ cl1 C1 fp1) rfl ?_ ?_ ?_) r_int' ?_) (r_pk (ok_blk ok s1 H1 _ cl1 C1 fp1) rfl ?_ ?_ ?_) ?_))))⟩))) (fun s1 H1 C1 cl1 fp1 => (r_var (ok_blk ok s1 H1 _ cl1 C1 fp1) rfl ?_ ?_ ?_)) ?_) (ss_one (s_ret (r_tup (a_cons (r_var ok rfl ?_ ?_ ?_) (a_cons r_int' (a_cons (r_var ok rfl ?_ ?_ ?_) (a_cons (r_tuple ok ?_ F.b_tuple (r_rev ok (r_sorted ok ?_ F.b_sorted bt_sorted (r_pk ok rfl ?_ ?_ ?_) ?_ ?_)) ?_ ?_) (a_cons (r_len ok ?_ F.b_len (r_pk ok rfl ?_ ?_ ?_) ?_ ?_) (a_cons (r_tuple ok ?_ F.b_tuple (r_rev ok (r_sorted ok ?_ F.b_sorted bt_sorted (r_pk ok rfl ?_ ?_ ?_) ?_ ?_)) ?_ ?_) a_nil ?_) ?_) ?_) ?_) ?_) ?_)))))))))
  all_goals first
    | rfl
    | (intro _; rfl)
    | (intro _ _; rfl)
    | exact gl ok (by decide +kernel)
    | exact gl (ok_blk ok _ _ _ _ _ _) (by decide +kernel)
    | exact gl (by assumption) (by decide +kernel)
    | exact (sw_env ok).trans rfl
    | exact (sw1_env ok).trans rfl
    | exact .inl (by decide +kernel)
    | exact .inl (hfn _)
    | exact .inr (by decide +kernel)
    | exact blk_of ok ⟨rfl, by decide +kernel, by decide +kernel, by decide +kernel, by decide +kernel⟩
    | decide +kernel

end Few.Wk
set_option Elab.async false
set_option linter.all false
set_option maxRecDepth 100000
set_option maxHeartbeats 4000000
namespace Few.Wk
open PySem PySem.Spec PyProof.Rows L2
theorem b20 {G : Gd} {dsc : Nat → Option Dsc} {d : Nat → Dsc} {ec : Nat → Addr} {bmB : List Value} {bs newId initId : String} (F : Fx G dsc d ec bmB bs newId initId) : BodyOk G ["book", "own", "sign"] (defScope (top 38)) (defBody (top 38)) Few.Pg.c20 dsc := by
  intro k W X c ok po hst hfr hfn A
  refine (ss_cons (s_set ok rfl ?_ (r_callD ok A F.f9 ?_ (a_cons (r_var ok rfl ?_ ?_ ?_) a_nil ?_) ?_ ?_ ?_) ?_ ?_) (ss_cons (s_ex (r_callD ok A F.f5 ?_ (a_cons (r_and ok (r_all ok ?_ F.b_all bt_all (r_lc (own := [("sign", 2)]) (t := (.nm 2)) (cd := dCon (.bl true)) ok (i_val ok (r_var ok rfl ?_ ?_ ?_)) ?_ (fun s1 H1 C1 cl1 fp1 => (p_nm (ok_blk ok s1 H1 _ cl1 C1 fp1) rfl ?_)) g_nm ?_ (fun s1 H1 C1 cl1 fp1 => (pts_of (c := c) (.inl ⟨rfl, rfl⟩))) (fun s1 H1 C1 cl1 fp1 => (r_cmp (op := .eq) (ok_blk ok s1 H1 _ cl1 C1 fp1) (r_sub (ok_blk ok s1 H1 _ cl1 C1 fp1) (r_pk (ok_blk ok s1 H1 _ cl1 C1 fp1) rfl ?_ ?_ ?_) r_int' ?_) (r_globE (ok_blk ok s1 H1 _ cl1 C1 fp1) (fun _ _ => .str _) ?_ F.c_PLAIN ?_) ?_)) ?_) ?_ ?_) (r_one (r_any ok ?_ F.b_any bt_any (r_lc (own := [("sign", 2)]) (t := (.nm 2)) (cd := dCon (.bl true)) ok (i_val ok (r_var ok rfl ?_ ?_ ?_)) ?_ (fun s1 H1 C1 cl1 fp1 => (p_nm (ok_blk ok s1 H1 _ cl1 C1 fp1) rfl ?_)) g_nm ?_ (fun s1 H1 C1 cl1 fp1 => (pts_of (c := c) (.inl ⟨rfl, rfl⟩))) (fun s1 H1 C1 cl1 fp1 => (r_cmp (op := .eq) (ok_blk ok s1 H1 _ cl1 C1 fp1) (r_sub (ok_blk ok s1 H1 _ cl1 C1 fp1) (r_pk (ok_blk ok s1 H1 _ cl1 C1 fp1) rfl ?_ ?_ ?_) r_int' ?_) r_int' ?_)) ?_) ?_ ?_))) a_nil ?_) ?_ ?_ ?_) ?_) (ss_one (s_retp ok rfl ?_ ?_ ?_))))
  all_goals first
    | rfl
    | (intro _; rfl)
    | (intro _ _; rfl)
    | exact gl ok (by decide +kernel)
    | exact gl (ok_blk ok _ _ _ _ _ _) (by decide +kernel)
    | exact gl (by assumption) (by decide +kernel)
    | exact (sw_env ok).trans rfl
    | exact (sw1_env ok).trans rfl
    | exact .inl (by decide +kernel)
    | exact .inl (hfn _)
    | exact .inr (by decide +kernel)
    | exact blk_of ok ⟨rfl, by decide +kernel, by decide +kernel, by decide +kernel, by decide +kernel⟩
    | decide +kernel

end Few.Wk
set_option Elab.async false
set_option linter.all false
set_option maxRecDepth 100000
set_option maxHeartbeats 4000000
namespace Few.Wk
open PySem PySem.Spec PyProof.Rows L2
theorem b21 {G : Gd} {dsc : Nat → Option Dsc} {d : Nat → Dsc} {ec : Nat → Addr} {bmB : List Value} {bs newId initId : String} (F : Fx G dsc d ec bmB bs newId initId) : BodyOk G ["book", "thing", "_", "here"] (defScope (top 39)) (defBody (top 39)) Few.Pg.c21 dsc := by
  intro k W X c ok po hst hfr hfn A
  refine (ss_cons (s_if (t_not (t_val ok (r_callD ok A F.f12 ?_ (a_cons (r_callD ok A F.f10 ?_ (a_cons (r_var ok rfl ?_ ?_ ?_) a_nil ?_) ?_ ?_ ?_) (a_cons (r_var ok rfl ?_ ?_ ?_) a_nil ?_) ?_) ?_ ?_ ?_) ?_)) (ss_one (s_ret r_bl')) ss_nil) (ss_one (s_ret (r_cmp (op := .eq) ok (r_len ok ?_ F.b_len (r_lc (own := [("_", 2), ("here", 3)]) (t := (.cons (.nm 2) (.cons (.nm 3) .nil))) ok (i_val ok (r_callD ok A F.f16 ?_ (a_cons (r_var ok rfl ?_ ?_ ?_) a_nil ?_) ?_ ?_ ?_)) ?_ (fun s1 H1 C1 cl1 fp1 => (p_tup (n := 2) (ok_blk ok s1 H1 _ cl1 C1 fp1) (pgs_cons (p_nm (ok_blk ok s1 H1 _ cl1 C1 fp1) rfl ?_) (pgs_cons (p_nm (ok_blk ok s1 H1 _ cl1 C1 fp1) rfl ?_) pgs_nil ?_) ?_) ?_ ?_)) (g_tup (g_cons g_nm (g_cons g_nm g_nil)) ?_) ?_ (fun s1 H1 C1 cl1 fp1 => (pts_of (c := c) (.inr ⟨_, rfl, (t_val (ok_blk ok s1 H1 _ cl1 C1 fp1) (r_callD (ok_blk ok s1 H1 _ cl1 C1 fp1) A F.f0 ?_ (a_cons (r_var (ok_blk ok s1 H1 _ cl1 C1 fp1) rfl ?_ ?_ ?_) a_nil ?_) ?_ ?_ ?_) ?_)⟩))) (fun s1 H1 C1 cl1 fp1 => (r_var (ok_blk ok s1 H1 _ cl1 C1 fp1) rfl ?_ ?_ ?_)) ?_) ?_ ?_) (r_len ok ?_ F.b_len (r_callD ok A F.f17 ?_ (a_cons (r_var ok rfl ?_ ?_ ?_) a_nil ?_) ?_ ?_ ?_) ?_ ?_) ?_))))
  all_goals first
    | rfl
    | (intro _; rfl)
    | (intro _ _; rfl)
    | exact gl ok (by decide +kernel)
    | exact gl (ok_blk ok _ _ _ _ _ _) (by decide +kernel)
    | exact gl (by assumption) (by decide +kernel)
    | exact (sw_env ok).trans rfl
    | exact (sw1_env ok).trans rfl
    | exact .inl (by decide +kernel)
    | exact .inl (hfn _)
    | exact .inr (by decide +kernel)
    | exact blk_of ok ⟨rfl, by decide +kernel, by decide +kernel, by decide +kernel, by decide +kernel⟩
    | decide +kernel

end Few.Wk
set_option Elab.async false
set_option linter.all false
set_option maxRecDepth 100000
set_option maxHeartbeats 4000000
namespace Few.Wk
open PySem PySem.Spec PyProof.Rows L2
theorem b22 {G : Gd} {dsc : Nat → Option Dsc} {d : Nat → Dsc} {ec : Nat → Addr} {bmB : List Value} {bs newId initId : String} (F : Fx G dsc d ec bmB bs newId initId) : BodyOk G ["book", "pattern", "own"] (defScope (top 40)) (defBody (top 40)) Few.Pg.c22 dsc := by
  intro k W X c ok po hst hfr hfn A
  refine (ss_cons (s_set ok rfl ?_ (r_callD ok A F.f4 ?_ (a_cons (r_var ok rfl ?_ ?_ ?_) a_nil ?_) ?_ ?_ ?_) ?_ ?_) (ss_cons (s_ex (r_callD ok A F.f5 ?_ (a_cons (r_callD ok A F.f21 ?_ (a_cons (r_var ok rfl ?_ ?_ ?_) (a_cons (r_var ok rfl ?_ ?_ ?_) a_nil ?_) ?_) ?_ ?_ ?_) a_nil ?_) ?_ ?_ ?_) ?_) (ss_one (s_retp ok rfl ?_ ?_ ?_))))
  all_goals first
    | rfl
    | (intro _; rfl)
    | (intro _ _; rfl)
    | exact gl ok (by decide +kernel)
    | exact gl (ok_blk ok _ _ _ _ _ _) (by decide +kernel)
    | exact gl (by assumption) (by decide +kernel)
    | exact (sw_env ok).trans rfl
    | exact (sw1_env ok).trans rfl
    | exact .inl (by decide +kernel)
    | exact .inl (hfn _)
    | exact .inr (by decide +kernel)
    | exact blk_of ok ⟨rfl, by decide +kernel, by decide +kernel, by decide +kernel, by decide +kernel⟩
    | decide +kernel

end Few.Wk
set_option Elab.async false
set_option linter.all false
set_option maxRecDepth 100000
set_option maxHeartbeats 4000000
namespace Few.Wk
open PySem PySem.Spec PyProof.Rows L2
theorem b23 {G : Gd} {dsc : Nat → Option Dsc} {d : Nat → Dsc} {ec : Nat → Addr} {bmB : List Value} {bs newId initId : String} (F : Fx G dsc d ec bmB bs newId initId) : BodyOk G ["book", "patterns", "own", "pattern"] (defScope (top 41)) (defBody (top 41)) Few.Pg.c23 dsc := by
  intro k W X c ok po hst hfr hfn A
  refine (ss_cons (s_set ok rfl ?_ (r_callD ok A F.f4 ?_ (a_cons (r_var ok rfl ?_ ?_ ?_) a_nil ?_) ?_ ?_ ?_) ?_ ?_) (ss_cons (s_ex (r_callD ok A F.f5 ?_ (a_cons (r_and ok (r_isi (t := .tuple) ok ?_ F.b_isinstance bt_isinstance ?_ F.b_tuple boot_tuple ?_ ?_ (r_pk ok rfl ?_ ?_ ?_) ?_ ?_ ?_) (r_and ok (r_cmp (op := .le) ok (r_len ok ?_ F.b_len (r_pk ok rfl ?_ ?_ ?_) ?_ ?_) (r_globE ok (fun _ _ => .int _) ?_ F.c_MOST_PATTERNS ?_) ?_) (r_one (r_all ok ?_ F.b_all bt_all (r_lc (own := [("pattern", 3)]) (t := (.nm 3)) (cd := dCon (.bl true)) ok (i_val ok (r_var ok rfl ?_ ?_ ?_)) ?_ (fun s1 H1 C1 cl1 fp1 => (p_nm (ok_blk ok s1 H1 _ cl1 C1 fp1) rfl ?_)) g_nm ?_ (fun s1 H1 C1 cl1 fp1 => (pts_of (c := c) (.inl ⟨rfl, rfl⟩))) (fun s1 H1 C1 cl1 fp1 => (r_callD (ok_blk ok s1 H1 _ cl1 C1 fp1) A F.f21 ?_ (a_cons (r_var (ok_blk ok s1 H1 _ cl1 C1 fp1) rfl ?_ ?_ ?_) (a_cons (r_var (ok_blk ok s1 H1 _ cl1 C1 fp1) rfl ?_ ?_ ?_) a_nil ?_) ?_) ?_ ?_ ?_)) ?_) ?_ ?_)))) a_nil ?_) ?_ ?_ ?_) ?_) (ss_one (s_retp ok rfl ?_ ?_ ?_))))
  all_goals first
    | rfl
    | (intro _; rfl)
    | (intro _ _; rfl)
    | exact gl ok (by decide +kernel)
    | exact gl (ok_blk ok _ _ _ _ _ _) (by decide +kernel)
    | exact gl (by assumption) (by decide +kernel)
    | exact (sw_env ok).trans rfl
    | exact (sw1_env ok).trans rfl
    | exact .inl (by decide +kernel)
    | exact .inl (hfn _)
    | exact .inr (by decide +kernel)
    | exact blk_of ok ⟨rfl, by decide +kernel, by decide +kernel, by decide +kernel, by decide +kernel⟩
    | decide +kernel

end Few.Wk
set_option Elab.async false
set_option linter.all false
set_option maxRecDepth 100000
set_option maxHeartbeats 4000000
namespace Few.Wk
open PySem PySem.Spec PyProof.Rows L2
theorem b24 {G : Gd} {dsc : Nat → Option Dsc} {d : Nat → Dsc} {ec : Nat → Addr} {bmB : List Value} {bs newId initId : String} (F : Fx G dsc d ec bmB bs newId initId) : BodyOk G ["own", "pattern", "near", "far"] (defScope (top 42)) (defBody (top 42)) Few.Pg.c24 dsc := by
  intro k W X c ok po hst hfr hfn A
  refine (ss_cons (s_if (t_val ok (r_callD ok A F.f0 ?_ (a_cons (r_var ok rfl ?_ ?_ ?_) a_nil ?_) ?_ ?_ ?_) ?_) (ss_one (s_ret r_bl')) ss_nil) (ss_cons (s_if (L2.PW.pt (t_or (t_val ok (r_callD ok A F.f0 ?_ (a_cons (r_var ok rfl ?_ ?_ ?_) a_nil ?_) ?_ ?_ ?_) ?_) (t_or1 (t_cmp (op := .ne) ok (r_sub ok (r_pk ok rfl ?_ ?_ ?_) r_int' ?_) (r_sub ok (r_pk ok rfl ?_ ?_ ?_) r_int' ?_) ?_)))) (ss_one (s_ret r_bl')) ss_nil) (ss_one (s_ret (r_all ok ?_ F.b_all bt_all (r_lc (own := [("near", 2), ("far", 3)]) (t := (.cons (.nm 2) (.cons (.nm 3) .nil))) (cd := dCon (.bl true)) ok (i_zip ok ?_ F.b_zip (r_sub ok (r_pk ok rfl ?_ ?_ ?_) r_int' ?_) (r_sub ok (r_pk ok rfl ?_ ?_ ?_) r_int' ?_) ?_ ?_ ?_) ?_ (fun s1 H1 C1 cl1 fp1 => (p_tup (n := 2) (ok_blk ok s1 H1 _ cl1 C1 fp1) (pgs_cons (p_nm (ok_blk ok s1 H1 _ cl1 C1 fp1) rfl ?_) (pgs_cons (p_nm (ok_blk ok s1 H1 _ cl1 C1 fp1) rfl ?_) pgs_nil ?_) ?_) ?_ ?_)) (g_tup (g_cons g_nm (g_cons g_nm g_nil)) ?_) ?_ (fun s1 H1 C1 cl1 fp1 => (pts_of (c := c) (.inl ⟨rfl, rfl⟩))) (fun s1 H1 C1 cl1 fp1 => (r_callD (ok_blk ok s1 H1 _ cl1 C1 fp1) A F.f24 ?_ (a_cons (r_var (ok_blk ok s1 H1 _ cl1 C1 fp1) rfl ?_ ?_ ?_) (a_cons (r_var (ok_blk ok s1 H1 _ cl1 C1 fp1) rfl ?_ ?_ ?_) a_nil ?_) ?_) ?_ ?_ ?_)) ?_) ?_ ?_)))))
  all_goals first
    | rfl
    | (intro _; rfl)
    | (intro _ _; rfl)
    | exact gl ok (by decide +kernel)
    | exact gl (ok_blk ok _ _ _ _ _ _) (by decide +kernel)
    | exact gl (by assumption) (by decide +kernel)
    | exact (sw_env ok).trans rfl
    | exact (sw1_env ok).trans rfl
    | exact .inl (by decide +kernel)
    | exact .inl (hfn _)
    | exact .inr (by decide +kernel)
    | exact blk_of ok ⟨rfl, by decide +kernel, by decide +kernel, by decide +kernel, by decide +kernel⟩
    | decide +kernel

end Few.Wk
set_option Elab.async false
set_option linter.all false
set_option maxRecDepth 100000
set_option maxHeartbeats 4000000
namespace Few.Wk
open PySem PySem.Spec PyProof.Rows L2
theorem b25 {G : Gd} {dsc : Nat → Option Dsc} {d : Nat → Dsc} {ec : Nat → Addr} {bmB : List Value} {bs newId initId : String} (F : Fx G dsc d ec bmB bs newId initId) : BodyOk G ["one", "other", "near", "far"] (defScope (top 43)) (defBody (top 43)) Few.Pg.c25 dsc := by
  intro k W X c ok po hst hfr hfn A
  refine (ss_cons (s_if (L2.PW.pt (t_or (t_val ok (r_callD ok A F.f0 ?_ (a_cons (r_var ok rfl ?_ ?_ ?_) a_nil ?_) ?_ ?_ ?_) ?_) (t_or1 (t_val ok (r_callD ok A F.f0 ?_ (a_cons (r_var ok rfl ?_ ?_ ?_) a_nil ?_) ?_ ?_ ?_) ?_)))) (ss_one (s_ret r_bl')) ss_nil) (ss_one (s_ret (r_and ok (r_cmp (op := .eq) ok (r_sub ok (r_pk ok rfl ?_ ?_ ?_) r_int' ?_) (r_sub ok (r_pk ok rfl ?_ ?_ ?_) r_int' ?_) ?_) (r_one (r_all ok ?_ F.b_all bt_all (r_lc (own := [("near", 2), ("far", 3)]) (t := (.cons (.nm 2) (.cons (.nm 3) .nil))) (cd := dCon (.bl true)) ok (i_zip ok ?_ F.b_zip (r_sub ok (r_pk ok rfl ?_ ?_ ?_) r_int' ?_) (r_sub ok (r_pk ok rfl ?_ ?_ ?_) r_int' ?_) ?_ ?_ ?_) ?_ (fun s1 H1 C1 cl1 fp1 => (p_tup (n := 2) (ok_blk ok s1 H1 _ cl1 C1 fp1) (pgs_cons (p_nm (ok_blk ok s1 H1 _ cl1 C1 fp1) rfl ?_) (pgs_cons (p_nm (ok_blk ok s1 H1 _ cl1 C1 fp1) rfl ?_) pgs_nil ?_) ?_) ?_ ?_)) (g_tup (g_cons g_nm (g_cons g_nm g_nil)) ?_) ?_ (fun s1 H1 C1 cl1 fp1 => (pts_of (c := c) (.inl ⟨rfl, rfl⟩))) (fun s1 H1 C1 cl1 fp1 => (r_callD (ok_blk ok s1 H1 _ cl1 C1 fp1) A F.f25 ?_ (a_cons (r_var (ok_blk ok s1 H1 _ cl1 C1 fp1) rfl ?_ ?_ ?_) (a_cons (r_var (ok_blk ok s1 H1 _ cl1 C1 fp1) rfl ?_ ?_ ?_) a_nil ?_) ?_) ?_ ?_ ?_)) ?_) ?_ ?_))))))
  all_goals first
    | rfl
    | (intro _; rfl)
    | (intro _ _; rfl)
    | exact gl ok (by decide +kernel)
    | exact gl (ok_blk ok _ _ _ _ _ _) (by decide +kernel)
    | exact gl (by assumption) (by decide +kernel)
    | exact (sw_env ok).trans rfl
    | exact (sw1_env ok).trans rfl
    | exact .inl (by decide +kernel)
    | exact .inl (hfn _)
    | exact .inr (by decide +kernel)
    | exact blk_of ok ⟨rfl, by decide +kernel, by decide +kernel, by decide +kernel, by decide +kernel⟩
    | decide +kernel

end Few.Wk
set_option Elab.async false
set_option linter.all false
set_option maxRecDepth 100000
set_option maxHeartbeats 4000000
namespace Few.Wk
open PySem PySem.Spec PyProof.Rows L2
theorem b26 {G : Gd} {dsc : Nat → Option Dsc} {d : Nat → Dsc} {ec : Nat → Addr} {bmB : List Value} {bs newId initId : String} (F : Fx G dsc d ec bmB bs newId initId) : BodyOk G ["one", "other", "near", "far"] (defScope (top 44)) (defBody (top 44)) Few.Pg.c26 dsc := by
  intro k W X c ok po hst hfr hfn A
  refine (ss_cons (s_if (t_val ok (r_callD ok A F.f0 ?_ (a_cons (r_var ok rfl ?_ ?_ ?_) a_nil ?_) ?_ ?_ ?_) ?_) (ss_one (s_ret (r_callD ok A F.f27 ?_ (a_cons (r_var ok rfl ?_ ?_ ?_) a_nil ?_) ?_ ?_ ?_))) ss_nil) (ss_cons (s_if (t_val ok (r_callD ok A F.f0 ?_ (a_cons (r_var ok rfl ?_ ?_ ?_) a_nil ?_) ?_ ?_ ?_) ?_) (ss_one (s_ret (r_callD ok A F.f27 ?_ (a_cons (r_var ok rfl ?_ ?_ ?_) a_nil ?_) ?_ ?_ ?_))) ss_nil) (ss_one (s_ret (r_tup (a_cons (r_sub ok (r_pk ok rfl ?_ ?_ ?_) r_int' ?_) (a_cons (r_tuple ok ?_ F.b_tuple (r_lc (own := [("near", 2), ("far", 3)]) (t := (.cons (.nm 2) (.cons (.nm 3) .nil))) (cd := dCon (.bl true)) ok (i_zip ok ?_ F.b_zip (r_sub ok (r_pk ok rfl ?_ ?_ ?_) r_int' ?_) (r_sub ok (r_pk ok rfl ?_ ?_ ?_) r_int' ?_) ?_ ?_ ?_) ?_ (fun s1 H1 C1 cl1 fp1 => (p_tup (n := 2) (ok_blk ok s1 H1 _ cl1 C1 fp1) (pgs_cons (p_nm (ok_blk ok s1 H1 _ cl1 C1 fp1) rfl ?_) (pgs_cons (p_nm (ok_blk ok s1 H1 _ cl1 C1 fp1) rfl ?_) pgs_nil ?_) ?_) ?_ ?_)) (g_tup (g_cons g_nm (g_cons g_nm g_nil)) ?_) ?_ (fun s1 H1 C1 cl1 fp1 => (pts_of (c := c) (.inl ⟨rfl, rfl⟩))) (fun s1 H1 C1 cl1 fp1 => (r_callD (ok_blk ok s1 H1 _ cl1 C1 fp1) A F.f26 ?_ (a_cons (r_var (ok_blk ok s1 H1 _ cl1 C1 fp1) rfl ?_ ?_ ?_) (a_cons (r_var (ok_blk ok s1 H1 _ cl1 C1 fp1) rfl ?_ ?_ ?_) a_nil ?_) ?_) ?_ ?_ ?_)) ?_) ?_ ?_) a_nil ?_) ?_))))))
  all_goals first
    | rfl
    | (intro _; rfl)
    | (intro _ _; rfl)
    | exact gl ok (by decide +kernel)
    | exact gl (ok_blk ok _ _ _ _ _ _) (by decide +kernel)
    | exact gl (by assumption) (by decide +kernel)
    | exact (sw_env ok).trans rfl
    | exact (sw1_env ok).trans rfl
    | exact .inl (by decide +kernel)
    | exact .inl (hfn _)
    | exact .inr (by decide +kernel)
    | exact blk_of ok ⟨rfl, by decide +kernel, by decide +kernel, by decide +kernel, by decide +kernel⟩
    | decide +kernel

end Few.Wk
set_option Elab.async false
set_option linter.all false
set_option maxRecDepth 100000
set_option maxHeartbeats 4000000
namespace Few.Wk
open PySem PySem.Spec PyProof.Rows L2
theorem b27 {G : Gd} {dsc : Nat → Option Dsc} {d : Nat → Dsc} {ec : Nat → Addr} {bmB : List Value} {bs newId initId : String} (F : Fx G dsc d ec bmB bs newId initId) : BodyOk G ["own", "part"] (defScope (top 45)) (defBody (top 45)) Few.Pg.c27 dsc := by
  intro k W X c ok po hst hfr hfn A
  refine (ss_one (s_ret (r_ite (t_val ok (r_callD ok A F.f0 ?_ (a_cons (r_var ok rfl ?_ ?_ ?_) a_nil ?_) ?_ ?_ ?_) ?_) r_int' (r_tup (a_cons (r_sub ok (r_pk ok rfl ?_ ?_ ?_) r_int' ?_) (a_cons (r_tuple ok ?_ F.b_tuple (r_lc (own := [("part", 1)]) (t := (.nm 1)) (cd := dCon (.bl true)) ok (i_val ok (r_sub ok (r_pk ok rfl ?_ ?_ ?_) r_int' ?_)) ?_ (fun s1 H1 C1 cl1 fp1 => (p_nm (ok_blk ok s1 H1 _ cl1 C1 fp1) rfl ?_)) g_nm ?_ (fun s1 H1 C1 cl1 fp1 => (pts_of (c := c) (.inl ⟨rfl, rfl⟩))) (fun s1 H1 C1 cl1 fp1 => (r_callD (ok_blk ok s1 H1 _ cl1 C1 fp1) A F.f27 ?_ (a_cons (r_var (ok_blk ok s1 H1 _ cl1 C1 fp1) rfl ?_ ?_ ?_) a_nil ?_) ?_ ?_ ?_)) ?_) ?_ ?_) a_nil ?_) ?_)))))
  all_goals first
    | rfl
    | (intro _; rfl)
    | (intro _ _; rfl)
    | exact gl ok (by decide +kernel)
    | exact gl (ok_blk ok _ _ _ _ _ _) (by decide +kernel)
    | exact gl (by assumption) (by decide +kernel)
    | exact (sw_env ok).trans rfl
    | exact (sw1_env ok).trans rfl
    | exact .inl (by decide +kernel)
    | exact .inl (hfn _)
    | exact .inr (by decide +kernel)
    | exact blk_of ok ⟨rfl, by decide +kernel, by decide +kernel, by decide +kernel, by decide +kernel⟩
    | decide +kernel

end Few.Wk
set_option Elab.async false
set_option linter.all false
set_option maxRecDepth 100000
set_option maxHeartbeats 4000000
namespace Few.Wk
open PySem PySem.Spec PyProof.Rows L2
theorem b28 {G : Gd} {dsc : Nat → Option Dsc} {d : Nat → Dsc} {ec : Nat → Addr} {bmB : List Value} {bs newId initId : String} (F : Fx G dsc d ec bmB bs newId initId) : BodyOk G ["own", "found", "number", "path", "here"] (defScope (top 46)) (defBody (top 46)) Few.Pg.c28 dsc := by
  intro k W X c ok po hst hfr hfn A
  refine (ss_cons (s_par ok rfl rfl ?_ ?_ ?_ (r_var ok rfl ?_ ?_ ?_) r_int' ?_ ?_ ?_ ?_) (ss_cons (s_for ok po (i_val ok (r_callD ok A F.f16 ?_ (a_cons (r_var ok rfl ?_ ?_ ?_) a_nil ?_) ?_ ?_ ?_)) (p_tup (n := 2) ok (pgs_cons (p_nm ok rfl ?_) (pgs_cons (p_nm ok rfl ?_) pgs_nil ?_) ?_) ?_ ?_) (g_tup (g_cons g_nm (g_cons g_nm g_nil)) ?_) (ss_one (s_if (t_val ok (r_callD ok A F.f0 ?_ (a_cons (r_var ok rfl ?_ ?_ ?_) a_nil ?_) ?_ ?_ ?_) ?_) (ss_cons (s_set ok rfl ?_ (r_callD ok A F.f18 ?_ (a_cons (r_var ok rfl ?_ ?_ ?_) (a_cons (r_var ok rfl ?_ ?_ ?_) (a_cons (r_var ok rfl ?_ ?_ ?_) a_nil ?_) ?_) ?_) ?_ ?_ ?_) ?_ ?_) (ss_one (s_set ok rfl ?_ (r_bin (op := .add) ok (r_pk ok rfl ?_ ?_ ?_) r_int') ?_ ?_))) ss_nil)) ?_) (ss_one (s_retp ok rfl ?_ ?_ ?_))))
  all_goals first
    | rfl
    | (intro _; rfl)
    | (intro _ _; rfl)
    | exact gl ok (by decide +kernel)
    | exact gl (ok_blk ok _ _ _ _ _ _) (by decide +kernel)
    | exact gl (by assumption) (by decide +kernel)
    | exact (sw_env ok).trans rfl
    | exact (sw1_env ok).trans rfl
    | exact .inl (by decide +kernel)
    | exact .inl (hfn _)
    | exact .inr (by decide +kernel)
    | exact blk_of ok ⟨rfl, by decide +kernel, by decide +kernel, by decide +kernel, by decide +kernel⟩
    | decide +kernel

end Few.Wk
set_option Elab.async false
set_option linter.all false
set_option maxRecDepth 100000
set_option maxHeartbeats 4000000
namespace Few.Wk
open PySem PySem.Spec PyProof.Rows L2
theorem b29 {G : Gd} {dsc : Nat → Option Dsc} {d : Nat → Dsc} {ec : Nat → Addr} {bmB : List Value} {bs newId initId : String} (F : Fx G dsc d ec bmB bs newId initId) : BodyOk G ["own", "pattern", "line", "pairs", "path", "near", "far", "place", "one", "other"] (defScope (top 47)) (defBody (top 47)) Few.Pg.c29 dsc := by
  intro k W X c ok po hst hfr hfn A
  refine (ss_cons (s_set ok rfl ?_ (r_lst (a_cons (r_tup (a_cons (r_tup a_nil) (a_cons (r_var ok rfl ?_ ?_ ?_) (a_cons (r_var ok rfl ?_ ?_ ?_) a_nil ?_) ?_) ?_)) a_nil ?_)) ?_ ?_) (ss_cons (s_while po (t_cmp (op := .ne) ok (r_pk ok rfl ?_ ?_ ?_) (r_lst a_nil) ?_) (ss_cons (s_asgT (r_pop ok rfl ?_ ?_ ?_ ?_ ?_) (p_tup (n := 3) ok (pgs_cons (p_nmc ok hfn rfl ?_) (pgs_cons (p_nm ok rfl ?_) (pgs_cons (p_nm ok rfl ?_) pgs_nil ?_) ?_) ?_) ?_ ?_) (g_tup (g_cons g_nm (g_cons g_nm (g_cons g_nm g_nil))) ?_) ?_ ?_ ?_) (ss_cons (s_if (t_val ok (r_callD ok A F.f0 ?_ (a_cons (r_var ok rfl ?_ ?_ ?_) a_nil ?_) ?_ ?_ ?_) ?_) (ss_one s_cont) ss_nil) (ss_cons (s_if (t_val ok (r_callD ok A F.f0 ?_ (a_cons (r_var ok rfl ?_ ?_ ?_) a_nil ?_) ?_ ?_ ?_) ?_) (ss_one (s_retp ok rfl ?_ ?_ ?_)) ss_nil) (ss_cons (s_set ok rfl ?_ (r_lsz ok ?_ F.b_list ?_ F.b_zip (r_callD ok A F.f14 ?_ (a_cons (r_var ok rfl ?_ ?_ ?_) a_nil ?_) ?_ ?_ ?_) (r_callD ok A F.f14 ?_ (a_cons (r_var ok rfl ?_ ?_ ?_) a_nil ?_) ?_ ?_ ?_) ?_ ?_ ?_ ?_ ?_) ?_ ?_) (ss_one (s_ext ok rfl ?_ ?_ ?_ (r_rev ok (r_lc (own := [("place", 7), ("one", 8), ("other", 9)]) (t := (.cons (.nm 7) (.cons (.cons (.nm 8) (.cons (.nm 9) .nil)) .nil))) (cd := dCon (.bl true)) ok (i_enum ok ?_ F.b_enumerate (r_var ok rfl ?_ ?_ ?_) ?_) ?_ (fun s1 H1 C1 cl1 fp1 => (p_tup (n := 2) (ok_blk ok s1 H1 _ cl1 C1 fp1) (pgs_cons (p_nm (ok_blk ok s1 H1 _ cl1 C1 fp1) rfl ?_) (pgs_cons (p_tup (n := 2) (ok_blk ok s1 H1 _ cl1 C1 fp1) (pgs_cons (p_nm (ok_blk ok s1 H1 _ cl1 C1 fp1) rfl ?_) (pgs_cons (p_nm (ok_blk ok s1 H1 _ cl1 C1 fp1) rfl ?_) pgs_nil ?_) ?_) ?_ ?_) pgs_nil ?_) ?_) ?_ ?_)) (g_tup (g_cons g_nm (g_cons (g_tup (g_cons g_nm (g_cons g_nm g_nil)) ?_) g_nil)) ?_) ?_ (fun s1 H1 C1 cl1 fp1 => (pts_of (c := c) (.inl ⟨rfl, rfl⟩))) (fun s1 H1 C1 cl1 fp1 => (r_tup (a_cons (r_tup (a_star (ok_blk ok s1 H1 _ cl1 C1 fp1) (r_var (ok_blk ok s1 H1 _ cl1 C1 fp1) rfl ?_ ?_ ?_) (a_cons (r_var (ok_blk ok s1 H1 _ cl1 C1 fp1) rfl ?_ ?_ ?_) a_nil ?_) ?_)) (a_cons (r_var (ok_blk ok s1 H1 _ cl1 C1 fp1) rfl ?_ ?_ ?_) (a_cons (r_var (ok_blk ok s1 H1 _ cl1 C1 fp1) rfl ?_ ?_ ?_) a_nil ?_) ?_) ?_))) ?_)) ?_ ?_ ?_ ?_ ?_ ?_))))))) (ss_one (s_ret r_non))))
  all_goals first
    | rfl
    | (intro _; rfl)
    | (intro _ _; rfl)
    | exact gl ok (by decide +kernel)
    | exact gl (ok_blk ok _ _ _ _ _ _) (by decide +kernel)
    | exact gl (by assumption) (by decide +kernel)
    | exact (sw_env ok).trans rfl
    | exact (sw1_env ok).trans rfl
    | exact .inl (by decide +kernel)
    | exact .inl (hfn _)
    | exact .inr (by decide +kernel)
    | exact blk_of ok ⟨rfl, by decide +kernel, by decide +kernel, by decide +kernel, by decide +kernel⟩
    | decide +kernel

end Few.Wk
set_option Elab.async false
set_option linter.all false
set_option maxRecDepth 100000
set_option maxHeartbeats 4000000
namespace Few.Wk
open PySem PySem.Spec PyProof.Rows L2
theorem b30 {G : Gd} {dsc : Nat → Option Dsc} {d : Nat → Dsc} {ec : Nat → Addr} {bmB : List Value} {bs newId initId : String} (F : Fx G dsc d ec bmB bs newId initId) : BodyOk G ["book", "own", "path", "name", "_", "many"] (defScope (top 48)) (defBody (top 48)) Few.Pg.c30 dsc := by
  intro k W X c ok po hst hfr hfn A
  refine (ss_one (s_ret (r_lc (own := [("name", 3), ("_", 4), ("many", 5)]) (t := (.cons (.nm 3) (.cons (.nm 4) (.cons (.nm 5) .nil)))) (cd := dCon (.bl true)) ok (i_val ok (r_var ok rfl ?_ ?_ ?_)) ?_ (fun s1 H1 C1 cl1 fp1 => (p_tup (n := 3) (ok_blk ok s1 H1 _ cl1 C1 fp1) (pgs_cons (p_nm (ok_blk ok s1 H1 _ cl1 C1 fp1) rfl ?_) (pgs_cons (p_nm (ok_blk ok s1 H1 _ cl1 C1 fp1) rfl ?_) (pgs_cons (p_nm (ok_blk ok s1 H1 _ cl1 C1 fp1) rfl ?_) pgs_nil ?_) ?_) ?_) ?_ ?_)) (g_tup (g_cons g_nm (g_cons g_nm (g_cons g_nm g_nil))) ?_) ?_ (fun s1 H1 C1 cl1 fp1 => (pts_of (c := c) (.inl ⟨rfl, rfl⟩))) (fun s1 H1 C1 cl1 fp1 => (r_callD (ok_blk ok s1 H1 _ cl1 C1 fp1) A F.f18 ?_ (a_cons (r_var (ok_blk ok s1 H1 _ cl1 C1 fp1) rfl ?_ ?_ ?_) (a_cons (r_var (ok_blk ok s1 H1 _ cl1 C1 fp1) rfl ?_ ?_ ?_) (a_cons (r_tup (a_cons (r_var (ok_blk ok s1 H1 _ cl1 C1 fp1) rfl ?_ ?_ ?_) (a_cons (r_bin (op := .mul) (ok_blk ok s1 H1 _ cl1 C1 fp1) (r_tup (a_cons r_int' a_nil ?_)) (r_pk (ok_blk ok s1 H1 _ cl1 C1 fp1) rfl ?_ ?_ ?_)) a_nil ?_) ?_)) a_nil ?_) ?_) ?_) ?_ ?_ ?_)) ?_)))
  all_goals first
    | rfl
    | (intro _; rfl)
    | (intro _ _; rfl)
    | exact gl ok (by decide +kernel)
    | exact gl (ok_blk ok _ _ _ _ _ _) (by decide +kernel)
    | exact gl (by assumption) (by decide +kernel)
    | exact (sw_env ok).trans rfl
    | exact (sw1_env ok).trans rfl
    | exact .inl (by decide +kernel)
    | exact .inl (hfn _)
    | exact .inr (by decide +kernel)
    | exact blk_of ok ⟨rfl, by decide +kernel, by decide +kernel, by decide +kernel, by decide +kernel⟩
    | decide +kernel

end Few.Wk
set_option Elab.async false
set_option linter.all false
set_option maxRecDepth 100000
set_option maxHeartbeats 4000000
namespace Few.Wk
open PySem PySem.Spec PyProof.Rows L2
theorem b31 {G : Gd} {dsc : Nat → Option Dsc} {d : Nat → Dsc} {ec : Nat → Addr} {bmB : List Value} {bs newId initId : String} (F : Fx G dsc d ec bmB bs newId initId) : BodyOk G ["book", "own", "patterns", "some", "found", "part", "pattern"] (defScope (top 49)) (defBody (top 49)) Few.Pg.c31 dsc := by
  intro k W X c ok po hst hfr hfn A
  refine (ss_cons (s_if (t_val ok (r_any ok ?_ F.b_any bt_any (r_lc (own := [("pattern", 6)]) (t := (.nm 6)) (cd := dCon (.bl true)) ok (i_val ok (r_var ok rfl ?_ ?_ ?_)) ?_ (fun s1 H1 C1 cl1 fp1 => (p_nm (ok_blk ok s1 H1 _ cl1 C1 fp1) rfl ?_)) g_nm ?_ (fun s1 H1 C1 cl1 fp1 => (pts_of (c := c) (.inl ⟨rfl, rfl⟩))) (fun s1 H1 C1 cl1 fp1 => (r_callD (ok_blk ok s1 H1 _ cl1 C1 fp1) A F.f24 ?_ (a_cons (r_var (ok_blk ok s1 H1 _ cl1 C1 fp1) rfl ?_ ?_ ?_) (a_cons (r_var (ok_blk ok s1 H1 _ cl1 C1 fp1) rfl ?_ ?_ ?_) a_nil ?_) ?_) ?_ ?_ ?_)) ?_) ?_ ?_) ?_) (ss_one (s_ret (r_lst a_nil))) ss_nil) (ss_cons (s_setLc (own := [("pattern", 6)]) (t := (.nm 6)) ok rfl ?_ ?_ (i_val ok (r_var ok rfl ?_ ?_ ?_)) ?_ (fun s1 H1 C1 cl1 fp1 => (p_nm (ok_blk ok s1 H1 _ cl1 C1 fp1) rfl ?_)) g_nm ?_ (fun s1 H1 C1 cl1 fp1 => (pts_of (c := c) (.inr ⟨_, rfl, (t_val (ok_blk ok s1 H1 _ cl1 C1 fp1) (r_callD (ok_blk ok s1 H1 _ cl1 C1 fp1) A F.f25 ?_ (a_cons (r_var (ok_blk ok s1 H1 _ cl1 C1 fp1) rfl ?_ ?_ ?_) (a_cons (r_var (ok_blk ok s1 H1 _ cl1 C1 fp1) rfl ?_ ?_ ?_) a_nil ?_) ?_) ?_ ?_ ?_) ?_)⟩))) (fun s1 H1 C1 cl1 fp1 => (r_var (ok_blk ok s1 H1 _ cl1 C1 fp1) rfl ?_ ?_ ?_)) ?_) (ss_cons (s_if (t_cmp (op := .eq) ok (r_pk ok rfl ?_ ?_ ?_) (r_lst a_nil) ?_) (ss_one (s_ret (r_lst (a_cons (r_var ok rfl ?_ ?_ ?_) a_nil ?_)))) ss_nil) (ss_cons (s_set ok rfl ?_ (r_lst a_nil) ?_ ?_) (ss_cons (s_for ok po (i_val ok (r_callD ok A F.f30 ?_ (a_cons (r_var ok rfl ?_ ?_ ?_) (a_cons (r_var ok rfl ?_ ?_ ?_) (a_cons (r_callD ok A F.f29 ?_ (a_cons (r_var ok rfl ?_ ?_ ?_) (a_cons (r_sub ok (r_pk ok rfl ?_ ?_ ?_) r_int' ?_) a_nil ?_) ?_) ?_ ?_ ?_) a_nil ?_) ?_) ?_) ?_ ?_ ?_)) (p_nm ok rfl ?_) g_nm (ss_one (s_ext ok rfl ?_ ?_ ?_ (r_callD ok A F.f31 ?_ (a_cons (r_var ok rfl ?_ ?_ ?_) (a_cons (r_var ok rfl ?_ ?_ ?_) (a_cons (r_var ok rfl ?_ ?_ ?_) a_nil ?_) ?_) ?_) ?_ ?_ ?_) ?_ ?_ ?_ ?_ ?_ ?_)) ?_) (ss_one (s_retp ok rfl ?_ ?_ ?_)))))))
  all_goals first
    | rfl
    | (intro _; rfl)
    | (intro _ _; rfl)
    | exact gl ok (by decide +kernel)
    | exact gl (ok_blk ok _ _ _ _ _ _) (by decide +kernel)
    | exact gl (by assumption) (by decide +kernel)
    | exact (sw_env ok).trans rfl
    | exact (sw1_env ok).trans rfl
    | exact .inl (by decide +kernel)
    | exact .inl (hfn _)
    | exact .inr (by decide +kernel)
    | exact blk_of ok ⟨rfl, by decide +kernel, by decide +kernel, by decide +kernel, by decide +kernel⟩
    | decide +kernel

end Few.Wk
set_option Elab.async false
set_option linter.all false
set_option maxRecDepth 100000
set_option maxHeartbeats 4000000
namespace Few.Wk
open PySem PySem.Spec PyProof.Rows L2
theorem b32 {G : Gd} {dsc : Nat → Option Dsc} {d : Nat → Dsc} {ec : Nat → Addr} {bmB : List Value} {bs newId initId : String} (F : Fx G dsc d ec bmB bs newId initId) : BodyOk G ["book", "patterns", "own"] (defScope (top 50)) (defBody (top 50)) Few.Pg.c32 dsc := by
  intro k W X c ok po hst hfr hfn A
  refine (ss_one (s_ret (r_lc (own := [("own", 2)]) (t := (.nm 2)) (cd := dCon (.bl true)) ok (i_val ok (r_callD ok A F.f31 ?_ (a_cons (r_var ok rfl ?_ ?_ ?_) (a_cons r_int' (a_cons (r_var ok rfl ?_ ?_ ?_) a_nil ?_) ?_) ?_) ?_ ?_ ?_)) ?_ (fun s1 H1 C1 cl1 fp1 => (p_nm (ok_blk ok s1 H1 _ cl1 C1 fp1) rfl ?_)) g_nm ?_ (fun s1 H1 C1 cl1 fp1 => (pts_of (c := c) (.inl ⟨rfl, rfl⟩))) (fun s1 H1 C1 cl1 fp1 => (r_callD (ok_blk ok s1 H1 _ cl1 C1 fp1) A F.f28 ?_ (a_cons (r_var (ok_blk ok s1 H1 _ cl1 C1 fp1) rfl ?_ ?_ ?_) a_nil ?_) ?_ ?_ ?_)) ?_)))
  all_goals first
    | rfl
    | (intro _; rfl)
    | (intro _ _; rfl)
    | exact gl ok (by decide +kernel)
    | exact gl (ok_blk ok _ _ _ _ _ _) (by decide +kernel)
    | exact gl (by assumption) (by decide +kernel)
    | exact (sw_env ok).trans rfl
    | exact (sw1_env ok).trans rfl
    | exact .inl (by decide +kernel)
    | exact .inl (hfn _)
    | exact .inr (by decide +kernel)
    | exact blk_of ok ⟨rfl, by decide +kernel, by decide +kernel, by decide +kernel, by decide +kernel⟩
    | decide +kernel

end Few.Wk
set_option Elab.async false
set_option linter.all false
set_option maxRecDepth 100000
set_option maxHeartbeats 4000000
namespace Few.Wk
open PySem PySem.Spec PyProof.Rows L2
theorem b33 {G : Gd} {dsc : Nat → Option Dsc} {d : Nat → Dsc} {ec : Nat → Addr} {bmB : List Value} {bs newId initId : String} (F : Fx G dsc d ec bmB bs newId initId) : BodyOk G ["book", "patterns", "own"] (defScope (top 51)) (defBody (top 51)) Few.Pg.c33 dsc := by
  intro k W X c ok po hst hfr hfn A
  refine (ss_cons (s_set ok rfl ?_ (r_callD ok A F.f20 ?_ (a_cons (r_var ok rfl ?_ ?_ ?_) a_nil ?_) ?_ ?_ ?_) ?_ ?_) (ss_one (s_ret (r_cmp (op := .eq) ok (r_callD ok A F.f31 ?_ (a_cons (r_var ok rfl ?_ ?_ ?_) (a_cons r_int' (a_cons (r_callD ok A F.f23 ?_ (a_cons (r_var ok rfl ?_ ?_ ?_) (a_cons (r_var ok rfl ?_ ?_ ?_) a_nil ?_) ?_) ?_ ?_ ?_) a_nil ?_) ?_) ?_) ?_ ?_ ?_) (r_lst a_nil) ?_))))
  all_goals first
    | rfl
    | (intro _; rfl)
    | (intro _ _; rfl)
    | exact gl ok (by decide +kernel)
    | exact gl (ok_blk ok _ _ _ _ _ _) (by decide +kernel)
    | exact gl (by assumption) (by decide +kernel)
    | exact (sw_env ok).trans rfl
    | exact (sw1_env ok).trans rfl
    | exact .inl (by decide +kernel)
    | exact .inl (hfn _)
    | exact .inr (by decide +kernel)
    | exact blk_of ok ⟨rfl, by decide +kernel, by decide +kernel, by decide +kernel, by decide +kernel⟩
    | decide +kernel

end Few.Wk
set_option Elab.async false
set_option linter.all false
set_option maxRecDepth 100000
set_option maxHeartbeats 4000000
namespace Few.Wk
open PySem PySem.Spec PyProof.Rows L2
theorem b34 {G : Gd} {dsc : Nat → Option Dsc} {d : Nat → Dsc} {ec : Nat → Addr} {bmB : List Value} {bs newId initId : String} (F : Fx G dsc d ec bmB bs newId initId) : BodyOk G ["book", "patterns", "own"] (defScope (top 52)) (defBody (top 52)) Few.Pg.c34 dsc := by
  intro k W X c ok po hst hfr hfn A
  refine (ss_cons (s_set ok rfl ?_ (r_callD ok A F.f20 ?_ (a_cons (r_var ok rfl ?_ ?_ ?_) a_nil ?_) ?_ ?_ ?_) ?_ ?_) (ss_one (s_ret (r_callD ok A F.f32 ?_ (a_cons (r_var ok rfl ?_ ?_ ?_) (a_cons (r_callD ok A F.f23 ?_ (a_cons (r_var ok rfl ?_ ?_ ?_) (a_cons (r_var ok rfl ?_ ?_ ?_) a_nil ?_) ?_) ?_ ?_ ?_) a_nil ?_) ?_) ?_ ?_ ?_))))
  all_goals first
    | rfl
    | (intro _; rfl)
    | (intro _ _; rfl)
    | exact gl ok (by decide +kernel)
    | exact gl (ok_blk ok _ _ _ _ _ _) (by decide +kernel)
    | exact gl (by assumption) (by decide +kernel)
    | exact (sw_env ok).trans rfl
    | exact (sw1_env ok).trans rfl
    | exact .inl (by decide +kernel)
    | exact .inl (hfn _)
    | exact .inr (by decide +kernel)
    | exact blk_of ok ⟨rfl, by decide +kernel, by decide +kernel, by decide +kernel, by decide +kernel⟩
    | decide +kernel

end Few.Wk
set_option Elab.async false
set_option linter.all false
set_option maxRecDepth 100000
set_option maxHeartbeats 4000000
namespace Few.Wk
open PySem PySem.Spec PyProof.Rows L2
theorem b35 {G : Gd} {dsc : Nat → Option Dsc} {d : Nat → Dsc} {ec : Nat → Addr} {bmB : List Value} {bs newId initId : String} (F : Fx G dsc d ec bmB bs newId initId) : BodyOk G ["book", "name", "_", "many"] (defScope (top 53)) (defBody (top 53)) Few.Pg.c35 dsc := by
  intro k W X c ok po hst hfr hfn A
  refine (ss_one (s_ret (r_sub ok (r_lc (own := [("name", 1), ("_", 2), ("many", 3)]) (t := (.cons (.nm 1) (.cons (.nm 2) (.cons (.nm 3) .nil)))) ok (i_val ok (r_var ok rfl ?_ ?_ ?_)) ?_ (fun s1 H1 C1 cl1 fp1 => (p_tup (n := 3) (ok_blk ok s1 H1 _ cl1 C1 fp1) (pgs_cons (p_nm (ok_blk ok s1 H1 _ cl1 C1 fp1) rfl ?_) (pgs_cons (p_nm (ok_blk ok s1 H1 _ cl1 C1 fp1) rfl ?_) (pgs_cons (p_nm (ok_blk ok s1 H1 _ cl1 C1 fp1) rfl ?_) pgs_nil ?_) ?_) ?_) ?_ ?_)) (g_tup (g_cons g_nm (g_cons g_nm (g_cons g_nm g_nil))) ?_) ?_ (fun s1 H1 C1 cl1 fp1 => (pts_of (c := c) (.inr ⟨_, rfl, (t_cmp (op := .eq) (ok_blk ok s1 H1 _ cl1 C1 fp1) (r_pk (ok_blk ok s1 H1 _ cl1 C1 fp1) rfl ?_ ?_ ?_) r_int' ?_)⟩))) (fun s1 H1 C1 cl1 fp1 => (r_tup (a_cons (r_var (ok_blk ok s1 H1 _ cl1 C1 fp1) rfl ?_ ?_ ?_) (a_cons (r_tup a_nil) a_nil ?_) ?_))) ?_) r_int' ?_)))
  all_goals first
    | rfl
    | (intro _; rfl)
    | (intro _ _; rfl)
    | exact gl ok (by decide +kernel)
    | exact gl (ok_blk ok _ _ _ _ _ _) (by decide +kernel)
    | exact gl (by assumption) (by decide +kernel)
    | exact (sw_env ok).trans rfl
    | exact (sw1_env ok).trans rfl
    | exact .inl (by decide +kernel)
    | exact .inl (hfn _)
    | exact .inr (by decide +kernel)
    | exact blk_of ok ⟨rfl, by decide +kernel, by decide +kernel, by decide +kernel, by decide +kernel⟩
    | decide +kernel

end Few.Wk
set_option Elab.async false
set_option linter.all false
set_option maxRecDepth 100000
set_option maxHeartbeats 4000000
namespace Few.Wk
open PySem PySem.Spec PyProof.Rows L2
theorem b36 {G : Gd} {dsc : Nat → Option Dsc} {d : Nat → Dsc} {ec : Nat → Addr} {bmB : List Value} {bs newId initId : String} (F : Fx G dsc d ec bmB bs newId initId) : BodyOk G ["own", "least", "part"] (defScope (top 54)) (defBody (top 54)) Few.Pg.c36 dsc := by
  intro k W X c ok po hst hfr hfn A
  refine (ss_one (s_ret (r_ite (t_val ok (r_callD ok A F.f0 ?_ (a_cons (r_var ok rfl ?_ ?_ ?_) a_nil ?_) ?_ ?_ ?_) ?_) (r_var ok rfl ?_ ?_ ?_) (r_tup (a_cons (r_sub ok (r_pk ok rfl ?_ ?_ ?_) r_int' ?_) (a_cons (r_tuple ok ?_ F.b_tuple (r_lc (own := [("part", 2)]) (t := (.nm 2)) (cd := dCon (.bl true)) ok (i_val ok (r_sub ok (r_pk ok rfl ?_ ?_ ?_) r_int' ?_)) ?_ (fun s1 H1 C1 cl1 fp1 => (p_nm (ok_blk ok s1 H1 _ cl1 C1 fp1) rfl ?_)) g_nm ?_ (fun s1 H1 C1 cl1 fp1 => (pts_of (c := c) (.inl ⟨rfl, rfl⟩))) (fun s1 H1 C1 cl1 fp1 => (r_callD (ok_blk ok s1 H1 _ cl1 C1 fp1) A F.f36 ?_ (a_cons (r_var (ok_blk ok s1 H1 _ cl1 C1 fp1) rfl ?_ ?_ ?_) (a_cons (r_var (ok_blk ok s1 H1 _ cl1 C1 fp1) rfl ?_ ?_ ?_) a_nil ?_) ?_) ?_ ?_ ?_)) ?_) ?_ ?_) a_nil ?_) ?_)))))
  all_goals first
    | rfl
    | (intro _; rfl)
    | (intro _ _; rfl)
    | exact gl ok (by decide +kernel)
    | exact gl (ok_blk ok _ _ _ _ _ _) (by decide +kernel)
    | exact gl (by assumption) (by decide +kernel)
    | exact (sw_env ok).trans rfl
    | exact (sw1_env ok).trans rfl
    | exact .inl (by decide +kernel)
    | exact .inl (hfn _)
    | exact .inr (by decide +kernel)
    | exact blk_of ok ⟨rfl, by decide +kernel, by decide +kernel, by decide +kernel, by decide +kernel⟩
    | decide +kernel

end Few.Wk
set_option Elab.async false
set_option linter.all false
set_option maxRecDepth 100000
set_option maxHeartbeats 4000000
namespace Few.Wk
open PySem PySem.Spec PyProof.Rows L2
theorem b37 {G : Gd} {dsc : Nat → Option Dsc} {d : Nat → Dsc} {ec : Nat → Addr} {bmB : List Value} {bs newId initId : String} (F : Fx G dsc d ec bmB bs newId initId) : BodyOk G ["book", "patterns", "own", "found", "signs", "least", "pattern", "term"] (defScope (top 55)) (defBody (top 55)) Few.Pg.c37 dsc := by
  intro k W X c ok po hst hfr hfn A
  refine (ss_cons (s_set ok rfl ?_ (r_callD ok A F.f20 ?_ (a_cons (r_var ok rfl ?_ ?_ ?_) a_nil ?_) ?_ ?_ ?_) ?_ ?_) (ss_cons (s_asgT (r_tup (a_cons (r_callD ok A F.f10 ?_ (a_cons (r_var ok rfl ?_ ?_ ?_) a_nil ?_) ?_ ?_ ?_) (a_cons (r_callD ok A F.f35 ?_ (a_cons (r_var ok rfl ?_ ?_ ?_) a_nil ?_) ?_ ?_ ?_) a_nil ?_) ?_)) (p_tup (n := 2) ok (pgs_cons (p_nmc ok hfn rfl ?_) (pgs_cons (p_nmc ok hfn rfl ?_) pgs_nil ?_) ?_) ?_ ?_) (g_tup (g_cons g_nm (g_cons g_nm g_nil)) ?_) ?_ ?_ ?_) (ss_cons (s_setLc (own := [("pattern", 6)]) (t := (.nm 6)) (cd := dCon (.bl true)) ok rfl ?_ ?_ (i_val ok (r_callD ok A F.f32 ?_ (a_cons (r_var ok rfl ?_ ?_ ?_) (a_cons (r_callD ok A F.f23 ?_ (a_cons (r_var ok rfl ?_ ?_ ?_) (a_cons (r_var ok rfl ?_ ?_ ?_) a_nil ?_) ?_) ?_ ?_ ?_) a_nil ?_) ?_) ?_ ?_ ?_)) ?_ (fun s1 H1 C1 cl1 fp1 => (p_nm (ok_blk ok s1 H1 _ cl1 C1 fp1) rfl ?_)) g_nm ?_ (fun s1 H1 C1 cl1 fp1 => (pts_of (c := c) (.inl ⟨rfl, rfl⟩))) (fun s1 H1 C1 cl1 fp1 => (r_callD (ok_blk ok s1 H1 _ cl1 C1 fp1) A F.f36 ?_ (a_cons (r_var (ok_blk ok s1 H1 _ cl1 C1 fp1) rfl ?_ ?_ ?_) (a_cons (r_var (ok_blk ok s1 H1 _ cl1 C1 fp1) rfl ?_ ?_ ?_) a_nil ?_) ?_) ?_ ?_ ?_)) ?_) (ss_cons (s_if (t_cmp (op := .eq) ok (r_pk ok rfl ?_ ?_ ?_) (r_lst a_nil) ?_) (ss_one (s_raise0 ok F.eb F.e1.q F.e1.x F.e1.g F.e1.k F.e1.s F.e1.t ?_ ?_)) ss_nil) (ss_one (s_ret (r_sub ok (r_sub ok (r_sorted ok ?_ F.b_sorted bt_sorted (r_lc (own := [("term", 7)]) (t := (.nm 7)) (cd := dCon (.bl true)) ok (i_val ok (r_var ok rfl ?_ ?_ ?_)) ?_ (fun s1 H1 C1 cl1 fp1 => (p_nm (ok_blk ok s1 H1 _ cl1 C1 fp1) rfl ?_)) g_nm ?_ (fun s1 H1 C1 cl1 fp1 => (pts_of (c := c) (.inl ⟨rfl, rfl⟩))) (fun s1 H1 C1 cl1 fp1 => (r_tup (a_cons (r_callD (ok_blk ok s1 H1 _ cl1 C1 fp1) A F.f19 ?_ (a_cons (r_var (ok_blk ok s1 H1 _ cl1 C1 fp1) rfl ?_ ?_ ?_) (a_cons (r_var (ok_blk ok s1 H1 _ cl1 C1 fp1) rfl ?_ ?_ ?_) a_nil ?_) ?_) ?_ ?_ ?_) (a_cons (r_var (ok_blk ok s1 H1 _ cl1 C1 fp1) rfl ?_ ?_ ?_) a_nil ?_) ?_))) ?_) ?_ ?_) r_int' ?_) r_int' ?_)))))))
  all_goals first
    | rfl
    | (intro _; rfl)
    | (intro _ _; rfl)
    | exact gl ok (by decide +kernel)
    | exact gl (ok_blk ok _ _ _ _ _ _) (by decide +kernel)
    | exact gl (by assumption) (by decide +kernel)
    | exact (sw_env ok).trans rfl
    | exact (sw1_env ok).trans rfl
    | exact .inl (by decide +kernel)
    | exact .inl (hfn _)
    | exact .inr (by decide +kernel)
    | exact blk_of ok ⟨rfl, by decide +kernel, by decide +kernel, by decide +kernel, by decide +kernel⟩
    | decide +kernel

end Few.Wk
set_option Elab.async false
set_option linter.all false
set_option maxRecDepth 100000
set_option maxHeartbeats 4000000
namespace Few.Wk
open PySem PySem.Spec PyProof.Rows L2
theorem b38 {G : Gd} {dsc : Nat → Option Dsc} {d : Nat → Dsc} {ec : Nat → Addr} {bmB : List Value} {bs newId initId : String} (F : Fx G dsc d ec bmB bs newId initId) : BodyOk G ["book", "patterns", "thing", "own", "some", "pattern"] (defScope (top 56)) (defBody (top 56)) Few.Pg.c38 dsc := by
  intro k W X c ok po hst hfr hfn A
  refine (ss_cons (s_set ok rfl ?_ (r_callD ok A F.f20 ?_ (a_cons (r_var ok rfl ?_ ?_ ?_) a_nil ?_) ?_ ?_ ?_) ?_ ?_) (ss_cons (s_set ok rfl ?_ (r_callD ok A F.f23 ?_ (a_cons (r_var ok rfl ?_ ?_ ?_) (a_cons (r_var ok rfl ?_ ?_ ?_) a_nil ?_) ?_) ?_ ?_ ?_) ?_ ?_) (ss_cons (s_if (L2.PW.pt (t_or (t_not (t_val ok (r_callD ok A F.f12 ?_ (a_cons (r_callD ok A F.f10 ?_ (a_cons (r_var ok rfl ?_ ?_ ?_) a_nil ?_) ?_ ?_ ?_) (a_cons (r_var ok rfl ?_ ?_ ?_) a_nil ?_) ?_) ?_ ?_ ?_) ?_)) (t_or1 (t_cmp (op := .ne) ok (r_callD ok A F.f17 ?_ (a_cons (r_var ok rfl ?_ ?_ ?_) a_nil ?_) ?_ ?_ ?_) (r_tup a_nil) ?_)))) (ss_one (s_ret r_bl')) ss_nil) (ss_one (s_ret (r_not ok (r_any ok ?_ F.b_any bt_any (r_lc (own := [("pattern", 5)]) (t := (.nm 5)) (cd := dCon (.bl true)) ok (i_val ok (r_var ok rfl ?_ ?_ ?_)) ?_ (fun s1 H1 C1 cl1 fp1 => (p_nm (ok_blk ok s1 H1 _ cl1 C1 fp1) rfl ?_)) g_nm ?_ (fun s1 H1 C1 cl1 fp1 => (pts_of (c := c) (.inl ⟨rfl, rfl⟩))) (fun s1 H1 C1 cl1 fp1 => (r_callD (ok_blk ok s1 H1 _ cl1 C1 fp1) A F.f24 ?_ (a_cons (r_var (ok_blk ok s1 H1 _ cl1 C1 fp1) rfl ?_ ?_ ?_) (a_cons (r_var (ok_blk ok s1 H1 _ cl1 C1 fp1) rfl ?_ ?_ ?_) a_nil ?_) ?_) ?_ ?_ ?_)) ?_) ?_ ?_)))))))
  all_goals first
    | rfl
    | (intro _; rfl)
    | (intro _ _; rfl)
    | exact gl ok (by decide +kernel)
    | exact gl (ok_blk ok _ _ _ _ _ _) (by decide +kernel)
    | exact gl (by assumption) (by decide +kernel)
    | exact (sw_env ok).trans rfl
    | exact (sw1_env ok).trans rfl
    | exact .inl (by decide +kernel)
    | exact .inl (hfn _)
    | exact .inr (by decide +kernel)
    | exact blk_of ok ⟨rfl, by decide +kernel, by decide +kernel, by decide +kernel, by decide +kernel⟩
    | decide +kernel

end Few.Wk
set_option Elab.async false
set_option linter.all false
set_option maxRecDepth 100000
set_option maxHeartbeats 4000000
namespace Few.Wk
open PySem PySem.Spec PyProof.Rows L2
theorem b39 {G : Gd} {dsc : Nat → Option Dsc} {d : Nat → Dsc} {ec : Nat → Addr} {bmB : List Value} {bs newId initId : String} (F : Fx G dsc d ec bmB bs newId initId) : BodyOk G ["book", "own", "patterns", "some", "path", "trees", "place", "pattern", "part"] (defScope (top 57)) (defBody (top 57)) Few.Pg.c39 dsc := by
  intro k W X c ok po hst hfr hfn A
  refine (ss_cons (s_for ok po (i_enum ok ?_ F.b_enumerate (r_var ok rfl ?_ ?_ ?_) ?_) (p_tup (n := 2) ok (pgs_cons (p_nm ok rfl ?_) (pgs_cons (p_nm ok rfl ?_) pgs_nil ?_) ?_) ?_ ?_) (g_tup (g_cons g_nm (g_cons g_nm g_nil)) ?_) (ss_one (s_if (t_val ok (r_callD ok A F.f24 ?_ (a_cons (r_var ok rfl ?_ ?_ ?_) (a_cons (r_var ok rfl ?_ ?_ ?_) a_nil ?_) ?_) ?_ ?_ ?_) ?_) (ss_one (s_ret (r_tup (a_cons (r_globE ok (fun _ _ => .str _) ?_ F.c_BY ?_) (a_cons (r_var ok rfl ?_ ?_ ?_) a_nil ?_) ?_)))) ss_nil)) ?_) (ss_cons (s_setLc (own := [("pattern", 7)]) (t := (.nm 7)) ok rfl ?_ ?_ (i_val ok (r_var ok rfl ?_ ?_ ?_)) ?_ (fun s1 H1 C1 cl1 fp1 => (p_nm (ok_blk ok s1 H1 _ cl1 C1 fp1) rfl ?_)) g_nm ?_ (fun s1 H1 C1 cl1 fp1 => (pts_of (c := c) (.inr ⟨_, rfl, (t_val (ok_blk ok s1 H1 _ cl1 C1 fp1) (r_callD (ok_blk ok s1 H1 _ cl1 C1 fp1) A F.f25 ?_ (a_cons (r_var (ok_blk ok s1 H1 _ cl1 C1 fp1) rfl ?_ ?_ ?_) (a_cons (r_var (ok_blk ok s1 H1 _ cl1 C1 fp1) rfl ?_ ?_ ?_) a_nil ?_) ?_) ?_ ?_ ?_) ?_)⟩))) (fun s1 H1 C1 cl1 fp1 => (r_var (ok_blk ok s1 H1 _ cl1 C1 fp1) rfl ?_ ?_ ?_)) ?_) (ss_cons (s_if (t_cmp (op := .eq) ok (r_pk ok rfl ?_ ?_ ?_) (r_lst a_nil) ?_) (ss_one (s_ret r_non)) ss_nil) (ss_cons (s_set ok rfl ?_ (r_callD ok A F.f29 ?_ (a_cons (r_var ok rfl ?_ ?_ ?_) (a_cons (r_sub ok (r_pk ok rfl ?_ ?_ ?_) r_int' ?_) a_nil ?_) ?_) ?_ ?_ ?_) ?_ ?_) (ss_cons (s_setLc (own := [("part", 8)]) (t := (.nm 8)) (cd := dCon (.bl true)) ok rfl ?_ ?_ (i_val ok (r_callD ok A F.f30 ?_ (a_cons (r_var ok rfl ?_ ?_ ?_) (a_cons (r_var ok rfl ?_ ?_ ?_) (a_cons (r_var ok rfl ?_ ?_ ?_) a_nil ?_) ?_) ?_) ?_ ?_ ?_)) ?_ (fun s1 H1 C1 cl1 fp1 => (p_nm (ok_blk ok s1 H1 _ cl1 C1 fp1) rfl ?_)) g_nm ?_ (fun s1 H1 C1 cl1 fp1 => (pts_of (c := c) (.inl ⟨rfl, rfl⟩))) (fun s1 H1 C1 cl1 fp1 => (r_callD (ok_blk ok s1 H1 _ cl1 C1 fp1) A F.f39 ?_ (a_cons (r_var (ok_blk ok s1 H1 _ cl1 C1 fp1) rfl ?_ ?_ ?_) (a_cons (r_var (ok_blk ok s1 H1 _ cl1 C1 fp1) rfl ?_ ?_ ?_) (a_cons (r_var (ok_blk ok s1 H1 _ cl1 C1 fp1) rfl ?_ ?_ ?_) a_nil ?_) ?_) ?_) ?_ ?_ ?_)) ?_) (ss_one (s_ret (r_ite (t_cmp (op := .isin) ok r_non (r_pk ok rfl ?_ ?_ ?_) ?_) r_non (r_tup (a_cons (r_globE ok (fun _ _ => .str _) ?_ F.c_PART ?_) (a_cons (r_var ok rfl ?_ ?_ ?_) (a_cons (r_tuple ok ?_ F.b_tuple (r_pk ok rfl ?_ ?_ ?_) ?_ ?_) a_nil ?_) ?_) ?_))))))))))
  all_goals first
    | rfl
    | (intro _; rfl)
    | (intro _ _; rfl)
    | exact gl ok (by decide +kernel)
    | exact gl (ok_blk ok _ _ _ _ _ _) (by decide +kernel)
    | exact gl (by assumption) (by decide +kernel)
    | exact (sw_env ok).trans rfl
    | exact (sw1_env ok).trans rfl
    | exact .inl (by decide +kernel)
    | exact .inl (hfn _)
    | exact .inr (by decide +kernel)
    | exact blk_of ok ⟨rfl, by decide +kernel, by decide +kernel, by decide +kernel, by decide +kernel⟩
    | decide +kernel

end Few.Wk
set_option Elab.async false
set_option linter.all false
set_option maxRecDepth 100000
set_option maxHeartbeats 4000000
namespace Few.Wk
open PySem PySem.Spec PyProof.Rows L2
theorem b40 {G : Gd} {dsc : Nat → Option Dsc} {d : Nat → Dsc} {ec : Nat → Addr} {bmB : List Value} {bs newId initId : String} (F : Fx G dsc d ec bmB bs newId initId) : BodyOk G ["book", "patterns", "own", "found"] (defScope (top 58)) (defBody (top 58)) Few.Pg.c40 dsc := by
  intro k W X c ok po hst hfr hfn A
  refine (ss_cons (s_set ok rfl ?_ (r_callD ok A F.f20 ?_ (a_cons (r_var ok rfl ?_ ?_ ?_) a_nil ?_) ?_ ?_ ?_) ?_ ?_) (ss_cons (s_set ok rfl ?_ (r_callD ok A F.f39 ?_ (a_cons (r_var ok rfl ?_ ?_ ?_) (a_cons r_int' (a_cons (r_callD ok A F.f23 ?_ (a_cons (r_var ok rfl ?_ ?_ ?_) (a_cons (r_var ok rfl ?_ ?_ ?_) a_nil ?_) ?_) ?_ ?_ ?_) a_nil ?_) ?_) ?_) ?_ ?_ ?_) ?_ ?_) (ss_cons (s_if (t_cmp (op := .isn) ok (r_pk ok rfl ?_ ?_ ?_) r_non ?_) (ss_one (s_raise0 ok F.eb F.e1.q F.e1.x F.e1.g F.e1.k F.e1.s F.e1.t ?_ ?_)) ss_nil) (ss_one (s_retp ok rfl ?_ ?_ ?_)))))
  all_goals first
    | rfl
    | (intro _; rfl)
    | (intro _ _; rfl)
    | exact gl ok (by decide +kernel)
    | exact gl (ok_blk ok _ _ _ _ _ _) (by decide +kernel)
    | exact gl (by assumption) (by decide +kernel)
    | exact (sw_env ok).trans rfl
    | exact (sw1_env ok).trans rfl
    | exact .inl (by decide +kernel)
    | exact .inl (hfn _)
    | exact .inr (by decide +kernel)
    | exact blk_of ok ⟨rfl, by decide +kernel, by decide +kernel, by decide +kernel, by decide +kernel⟩
    | decide +kernel

end Few.Wk
set_option Elab.async false
set_option linter.all false
set_option maxRecDepth 100000
set_option maxHeartbeats 4000000
namespace Few.Wk
open PySem PySem.Spec PyProof.Rows L2
theorem b41 {G : Gd} {dsc : Nat → Option Dsc} {d : Nat → Dsc} {ec : Nat → Addr} {bmB : List Value} {bs newId initId : String} (F : Fx G dsc d ec bmB bs newId initId) : BodyOk G ["book", "own", "patterns", "thing", "here", "parts", "path", "part", "tree"] (defScope (top 59)) (defBody (top 59)) Few.Pg.c41 dsc := by
  intro k W X c ok po hst hfr hfn A
  refine (ss_cons (s_if (L2.PW.pt (t_and (t_val ok (r_callD ok A F.f3 ?_ (a_cons (r_var ok rfl ?_ ?_ ?_) (a_cons r_int' a_nil ?_) ?_) ?_ ?_ ?_) ?_) (t_and (t_val ok (r_isi (t := .str) ok ?_ F.b_isinstance bt_isinstance ?_ F.b_str boot_str ?_ ?_ (r_sub ok (r_pk ok rfl ?_ ?_ ?_) r_int' ?_) ?_ ?_ ?_) ?_) (t_and1 (t_cmp (op := .eq) ok (r_sub ok (r_pk ok rfl ?_ ?_ ?_) r_int' ?_) (r_globE ok (fun _ _ => .str _) ?_ F.c_BY ?_) ?_))))) (ss_one (s_ret (r_and ok (r_callD ok A F.f2 ?_ (a_cons (r_sub ok (r_pk ok rfl ?_ ?_ ?_) r_int' ?_) (a_cons (r_len ok ?_ F.b_len (r_pk ok rfl ?_ ?_ ?_) ?_ ?_) a_nil ?_) ?_) ?_ ?_ ?_) (r_one (r_callD ok A F.f24 ?_ (a_cons (r_var ok rfl ?_ ?_ ?_) (a_cons (r_sub ok (r_pk ok rfl ?_ ?_ ?_) (r_sub ok (r_pk ok rfl ?_ ?_ ?_) r_int' ?_) ?_) a_nil ?_) ?_) ?_ ?_ ?_))))) ss_nil) (ss_cons (s_if (L2.PW.pt (t_or (t_not (t_val ok (r_callD ok A F.f3 ?_ (a_cons (r_var ok rfl ?_ ?_ ?_) (a_cons r_int' a_nil ?_) ?_) ?_ ?_ ?_) ?_)) (t_or (t_not (t_val ok (r_isi (t := .str) ok ?_ F.b_isinstance bt_isinstance ?_ F.b_str boot_str ?_ ?_ (r_sub ok (r_pk ok rfl ?_ ?_ ?_) r_int' ?_) ?_ ?_ ?_) ?_)) (t_or (t_cmp (op := .ne) ok (r_sub ok (r_pk ok rfl ?_ ?_ ?_) r_int' ?_) (r_globE ok (fun _ _ => .str _) ?_ F.c_PART ?_) ?_) (t_or1 (t_not (t_val ok (r_callD ok A F.f13 ?_ (a_cons (r_sub ok (r_pk ok rfl ?_ ?_ ?_) r_int' ?_) a_nil ?_) ?_ ?_ ?_) ?_))))))) (ss_one (s_ret r_bl')) ss_nil) (ss_cons (s_setLc (own := [("path", 6), ("part", 7)]) (t := (.cons (.nm 6) (.cons (.nm 7) .nil))) ok rfl ?_ ?_ (i_val ok (r_callD ok A F.f16 ?_ (a_cons (r_var ok rfl ?_ ?_ ?_) a_nil ?_) ?_ ?_ ?_)) ?_ (fun s1 H1 C1 cl1 fp1 => (p_tup (n := 2) (ok_blk ok s1 H1 _ cl1 C1 fp1) (pgs_cons (p_nm (ok_blk ok s1 H1 _ cl1 C1 fp1) rfl ?_) (pgs_cons (p_nm (ok_blk ok s1 H1 _ cl1 C1 fp1) rfl ?_) pgs_nil ?_) ?_) ?_ ?_)) (g_tup (g_cons g_nm (g_cons g_nm g_nil)) ?_) ?_ (fun s1 H1 C1 cl1 fp1 => (pts_of (c := c) (.inr ⟨_, rfl, (t_cmp (op := .eq) (ok_blk ok s1 H1 _ cl1 C1 fp1) (r_pk (ok_blk ok s1 H1 _ cl1 C1 fp1) rfl ?_ ?_ ?_) (r_sub (ok_blk ok s1 H1 _ cl1 C1 fp1) (r_pk (ok_blk ok s1 H1 _ cl1 C1 fp1) rfl ?_ ?_ ?_) r_int' ?_) ?_)⟩))) (fun s1 H1 C1 cl1 fp1 => (r_var (ok_blk ok s1 H1 _ cl1 C1 fp1) rfl ?_ ?_ ?_)) ?_) (ss_cons (s_if (L2.PW.pt (t_or (t_cmp (op := .eq) ok (r_pk ok rfl ?_ ?_ ?_) (r_lst a_nil) ?_) (t_or (t_not (t_val ok (r_callD ok A F.f0 ?_ (a_cons (r_sub ok (r_pk ok rfl ?_ ?_ ?_) r_int' ?_) a_nil ?_) ?_ ?_ ?_) ?_)) (t_or1 (t_not (t_val ok (r_callD ok A F.f3 ?_ (a_cons (r_sub ok (r_pk ok rfl ?_ ?_ ?_) r_int' ?_) (a_cons (r_len ok ?_ F.b_len (r_pk ok rfl ?_ ?_ ?_) ?_ ?_) a_nil ?_) ?_) ?_ ?_ ?_) ?_)))))) (ss_one (s_ret r_bl')) ss_nil) (ss_cons (s_set ok rfl ?_ (r_callD ok A F.f30 ?_ (a_cons (r_var ok rfl ?_ ?_ ?_) (a_cons (r_var ok rfl ?_ ?_ ?_) (a_cons (r_sub ok (r_pk ok rfl ?_ ?_ ?_) r_int' ?_) a_nil ?_) ?_) ?_) ?_ ?_ ?_) ?_ ?_) (ss_one (s_ret (r_all ok ?_ F.b_all bt_all (r_lc (own := [("part", 7), ("tree", 8)]) (t := (.cons (.nm 7) (.cons (.nm 8) .nil))) (cd := dCon (.bl true)) ok (i_zip ok ?_ F.b_zip (r_var ok rfl ?_ ?_ ?_) (r_sub ok (r_pk ok rfl ?_ ?_ ?_) r_int' ?_) ?_ ?_ ?_) ?_ (fun s1 H1 C1 cl1 fp1 => (p_tup (n := 2) (ok_blk ok s1 H1 _ cl1 C1 fp1) (pgs_cons (p_nm (ok_blk ok s1 H1 _ cl1 C1 fp1) rfl ?_) (pgs_cons (p_nm (ok_blk ok s1 H1 _ cl1 C1 fp1) rfl ?_) pgs_nil ?_) ?_) ?_ ?_)) (g_tup (g_cons g_nm (g_cons g_nm g_nil)) ?_) ?_ (fun s1 H1 C1 cl1 fp1 => (pts_of (c := c) (.inl ⟨rfl, rfl⟩))) (fun s1 H1 C1 cl1 fp1 => (r_callD (ok_blk ok s1 H1 _ cl1 C1 fp1) A F.f41 ?_ (a_cons (r_var (ok_blk ok s1 H1 _ cl1 C1 fp1) rfl ?_ ?_ ?_) (a_cons (r_var (ok_blk ok s1 H1 _ cl1 C1 fp1) rfl ?_ ?_ ?_) (a_cons (r_var (ok_blk ok s1 H1 _ cl1 C1 fp1) rfl ?_ ?_ ?_) (a_cons (r_var (ok_blk ok s1 H1 _ cl1 C1 fp1) rfl ?_ ?_ ?_) a_nil ?_) ?_) ?_) ?_) ?_ ?_ ?_)) ?_) ?_ ?_))))))))
  all_goals first
    | rfl
    | (intro _; rfl)
    | (intro _ _; rfl)
    | exact gl ok (by decide +kernel)
    | exact gl (ok_blk ok _ _ _ _ _ _) (by decide +kernel)
    | exact gl (by assumption) (by decide +kernel)
    | exact (sw_env ok).trans rfl
    | exact (sw1_env ok).trans rfl
    | exact .inl (by decide +kernel)
    | exact .inl (hfn _)
    | exact .inr (by decide +kernel)
    | exact blk_of ok ⟨rfl, by decide +kernel, by decide +kernel, by decide +kernel, by decide +kernel⟩
    | decide +kernel

end Few.Wk
set_option Elab.async false
set_option linter.all false
set_option maxRecDepth 100000
set_option maxHeartbeats 4000000
namespace Few.Wk
open PySem PySem.Spec PyProof.Rows L2
theorem b42 {G : Gd} {dsc : Nat → Option Dsc} {d : Nat → Dsc} {ec : Nat → Addr} {bmB : List Value} {bs newId initId : String} (F : Fx G dsc d ec bmB bs newId initId) : BodyOk G ["book", "patterns", "thing", "own"] (defScope (top 60)) (defBody (top 60)) Few.Pg.c42 dsc := by
  intro k W X c ok po hst hfr hfn A
  refine (ss_cons (s_set ok rfl ?_ (r_callD ok A F.f20 ?_ (a_cons (r_var ok rfl ?_ ?_ ?_) a_nil ?_) ?_ ?_ ?_) ?_ ?_) (ss_one (s_ret (r_callD ok A F.f41 ?_ (a_cons (r_var ok rfl ?_ ?_ ?_) (a_cons r_int' (a_cons (r_callD ok A F.f23 ?_ (a_cons (r_var ok rfl ?_ ?_ ?_) (a_cons (r_var ok rfl ?_ ?_ ?_) a_nil ?_) ?_) ?_ ?_ ?_) (a_cons (r_var ok rfl ?_ ?_ ?_) a_nil ?_) ?_) ?_) ?_) ?_ ?_ ?_))))
  all_goals first
    | rfl
    | (intro _; rfl)
    | (intro _ _; rfl)
    | exact gl ok (by decide +kernel)
    | exact gl (ok_blk ok _ _ _ _ _ _) (by decide +kernel)
    | exact gl (by assumption) (by decide +kernel)
    | exact (sw_env ok).trans rfl
    | exact (sw1_env ok).trans rfl
    | exact .inl (by decide +kernel)
    | exact .inl (hfn _)
    | exact .inr (by decide +kernel)
    | exact blk_of ok ⟨rfl, by decide +kernel, by decide +kernel, by decide +kernel, by decide +kernel⟩
    | decide +kernel

end Few.Wk
set_option Elab.async false
set_option linter.all false
set_option maxRecDepth 100000
set_option maxHeartbeats 4000000
namespace Few.Wk
open PySem PySem.Spec PyProof.Rows L2
theorem b43 {G : Gd} {dsc : Nat → Option Dsc} {d : Nat → Dsc} {ec : Nat → Addr} {bmB : List Value} {bs newId initId : String} (F : Fx G dsc d ec bmB bs newId initId) : BodyOk G ["book", "patterns", "own", "some", "place"] (defScope (top 61)) (defBody (top 61)) Few.Pg.c43 dsc := by
  intro k W X c ok po hst hfr hfn A
  refine (ss_cons (s_set ok rfl ?_ (r_callD ok A F.f20 ?_ (a_cons (r_var ok rfl ?_ ?_ ?_) a_nil ?_) ?_ ?_ ?_) ?_ ?_) (ss_cons (s_set ok rfl ?_ (r_callD ok A F.f23 ?_ (a_cons (r_var ok rfl ?_ ?_ ?_) (a_cons (r_var ok rfl ?_ ?_ ?_) a_nil ?_) ?_) ?_ ?_ ?_) ?_ ?_) (ss_one (s_ret (r_tuple ok ?_ F.b_tuple (r_lc (own := [("place", 4)]) (t := (.nm 4)) ok (i_range1 ok ?_ F.b_range (r_len ok ?_ F.b_len (r_pk ok rfl ?_ ?_ ?_) ?_ ?_) ?_) ?_ (fun s1 H1 C1 cl1 fp1 => (p_nm (ok_blk ok s1 H1 _ cl1 C1 fp1) rfl ?_)) g_nm ?_ (fun s1 H1 C1 cl1 fp1 => (pts_of (c := c) (.inr ⟨_, rfl, (t_cmp (op := .eq) (ok_blk ok s1 H1 _ cl1 C1 fp1) (r_callD (ok_blk ok s1 H1 _ cl1 C1 fp1) A F.f31 ?_ (a_cons (r_var (ok_blk ok s1 H1 _ cl1 C1 fp1) rfl ?_ ?_ ?_) (a_cons (r_callD (ok_blk ok s1 H1 _ cl1 C1 fp1) A F.f27 ?_ (a_cons (r_sub (ok_blk ok s1 H1 _ cl1 C1 fp1) (r_pk (ok_blk ok s1 H1 _ cl1 C1 fp1) rfl ?_ ?_ ?_) (r_pk (ok_blk ok s1 H1 _ cl1 C1 fp1) rfl ?_ ?_ ?_) ?_) a_nil ?_) ?_ ?_ ?_) (a_cons (r_slc (ok_blk ok s1 H1 _ cl1 C1 fp1) (r_pk (ok_blk ok s1 H1 _ cl1 C1 fp1) rfl ?_ ?_ ?_) .non (.som (r_var (ok_blk ok s1 H1 _ cl1 C1 fp1) rfl ?_ ?_ ?_))) a_nil ?_) ?_) ?_) ?_ ?_ ?_) (r_lst a_nil) ?_)⟩))) (fun s1 H1 C1 cl1 fp1 => (r_var (ok_blk ok s1 H1 _ cl1 C1 fp1) rfl ?_ ?_ ?_)) ?_) ?_ ?_)))))
  all_goals first
    | rfl
    | (intro _; rfl)
    | (intro _ _; rfl)
    | exact gl ok (by decide +kernel)
    | exact gl (ok_blk ok _ _ _ _ _ _) (by decide +kernel)
    | exact gl (by assumption) (by decide +kernel)
    | exact (sw_env ok).trans rfl
    | exact (sw1_env ok).trans rfl
    | exact .inl (by decide +kernel)
    | exact .inl (hfn _)
    | exact .inr (by decide +kernel)
    | exact blk_of ok ⟨rfl, by decide +kernel, by decide +kernel, by decide +kernel, by decide +kernel⟩
    | decide +kernel

end Few.Wk
set_option Elab.async false
set_option linter.all false
set_option maxRecDepth 100000
set_option maxHeartbeats 4000000
namespace Few.Wk
open PySem PySem.Spec PyProof.Rows L2
theorem b44 {G : Gd} {dsc : Nat → Option Dsc} {d : Nat → Dsc} {ec : Nat → Addr} {bmB : List Value} {bs newId initId : String} (F : Fx G dsc d ec bmB bs newId initId) : BodyOk G ["book", "one", "other", "own", "near", "far"] (defScope (top 62)) (defBody (top 62)) Few.Pg.c44 dsc := by
  intro k W X c ok po hst hfr hfn A
  refine (ss_cons (s_set ok rfl ?_ (r_callD ok A F.f20 ?_ (a_cons (r_var ok rfl ?_ ?_ ?_) a_nil ?_) ?_ ?_ ?_) ?_ ?_) (ss_cons (s_set ok rfl ?_ (r_callD ok A F.f22 ?_ (a_cons (r_var ok rfl ?_ ?_ ?_) (a_cons (r_var ok rfl ?_ ?_ ?_) a_nil ?_) ?_) ?_ ?_ ?_) ?_ ?_) (ss_cons (s_set ok rfl ?_ (r_callD ok A F.f22 ?_ (a_cons (r_var ok rfl ?_ ?_ ?_) (a_cons (r_var ok rfl ?_ ?_ ?_) a_nil ?_) ?_) ?_ ?_ ?_) ?_ ?_) (ss_cons (s_if (t_not (t_val ok (r_callD ok A F.f25 ?_ (a_cons (r_var ok rfl ?_ ?_ ?_) (a_cons (r_var ok rfl ?_ ?_ ?_) a_nil ?_) ?_) ?_ ?_ ?_) ?_)) (ss_one (s_raise0 ok F.eb F.e1.q F.e1.x F.e1.g F.e1.k F.e1.s F.e1.t ?_ ?_)) ss_nil) (ss_one (s_ret (r_callD ok A F.f28 ?_ (a_cons (r_callD ok A F.f26 ?_ (a_cons (r_var ok rfl ?_ ?_ ?_) (a_cons (r_var ok rfl ?_ ?_ ?_) a_nil ?_) ?_) ?_ ?_ ?_) a_nil ?_) ?_ ?_ ?_)))))))
  all_goals first
    | rfl
    | (intro _; rfl)
    | (intro _ _; rfl)
    | exact gl ok (by decide +kernel)
    | exact gl (ok_blk ok _ _ _ _ _ _) (by decide +kernel)
    | exact gl (by assumption) (by decide +kernel)
    | exact (sw_env ok).trans rfl
    | exact (sw1_env ok).trans rfl
    | exact .inl (by decide +kernel)
    | exact .inl (hfn _)
    | exact .inr (by decide +kernel)
    | exact blk_of ok ⟨rfl, by decide +kernel, by decide +kernel, by decide +kernel, by decide +kernel⟩
    | decide +kernel

end Few.Wk
set_option Elab.async false
set_option linter.all false
set_option maxRecDepth 100000
set_option maxHeartbeats 4000000
namespace Few.Wk
open PySem PySem.Spec PyProof.Rows L2
theorem b45 {G : Gd} {dsc : Nat → Option Dsc} {d : Nat → Dsc} {ec : Nat → Addr} {bmB : List Value} {bs newId initId : String} (F : Fx G dsc d ec bmB bs newId initId) : BodyOk G ["book", "one", "other", "own", "near", "pattern"] (defScope (top 63)) (defBody (top 63)) Few.Pg.c45 dsc := by
  intro k W X c ok po hst hfr hfn A
  refine (ss_cons (s_set ok rfl ?_ (r_callD ok A F.f20 ?_ (a_cons (r_var ok rfl ?_ ?_ ?_) a_nil ?_) ?_ ?_ ?_) ?_ ?_) (ss_cons (s_set ok rfl ?_ (r_callD ok A F.f22 ?_ (a_cons (r_var ok rfl ?_ ?_ ?_) (a_cons (r_var ok rfl ?_ ?_ ?_) a_nil ?_) ?_) ?_ ?_ ?_) ?_ ?_) (ss_one (s_ret (r_lc (own := [("pattern", 5)]) (t := (.nm 5)) (cd := dCon (.bl true)) ok (i_val ok (r_callD ok A F.f31 ?_ (a_cons (r_var ok rfl ?_ ?_ ?_) (a_cons (r_callD ok A F.f27 ?_ (a_cons (r_var ok rfl ?_ ?_ ?_) a_nil ?_) ?_ ?_ ?_) (a_cons (r_tup (a_cons (r_callD ok A F.f22 ?_ (a_cons (r_var ok rfl ?_ ?_ ?_) (a_cons (r_var ok rfl ?_ ?_ ?_) a_nil ?_) ?_) ?_ ?_ ?_) a_nil ?_)) a_nil ?_) ?_) ?_) ?_ ?_ ?_)) ?_ (fun s1 H1 C1 cl1 fp1 => (p_nm (ok_blk ok s1 H1 _ cl1 C1 fp1) rfl ?_)) g_nm ?_ (fun s1 H1 C1 cl1 fp1 => (pts_of (c := c) (.inl ⟨rfl, rfl⟩))) (fun s1 H1 C1 cl1 fp1 => (r_callD (ok_blk ok s1 H1 _ cl1 C1 fp1) A F.f28 ?_ (a_cons (r_var (ok_blk ok s1 H1 _ cl1 C1 fp1) rfl ?_ ?_ ?_) a_nil ?_) ?_ ?_ ?_)) ?_)))))
  all_goals first
    | rfl
    | (intro _; rfl)
    | (intro _ _; rfl)
    | exact gl ok (by decide +kernel)
    | exact gl (ok_blk ok _ _ _ _ _ _) (by decide +kernel)
    | exact gl (by assumption) (by decide +kernel)
    | exact (sw_env ok).trans rfl
    | exact (sw1_env ok).trans rfl
    | exact .inl (by decide +kernel)
    | exact .inl (hfn _)
    | exact .inr (by decide +kernel)
    | exact blk_of ok ⟨rfl, by decide +kernel, by decide +kernel, by decide +kernel, by decide +kernel⟩
    | decide +kernel

end Few.Wk
set_option Elab.async false
set_option linter.all false
set_option maxRecDepth 100000
set_option maxHeartbeats 4000000
namespace Few.Wk
open PySem PySem.Spec PyProof.Rows L2
theorem b46 {G : Gd} {dsc : Nat → Option Dsc} {d : Nat → Dsc} {ec : Nat → Addr} {bmB : List Value} {bs newId initId : String} (F : Fx G dsc d ec bmB bs newId initId) : BodyOk G ["book", "words", "found", "size", "whole", "_", "many"] (defScope (top 64)) (defBody (top 64)) Few.Pg.c46 dsc := by
  intro k W X c ok po hst hfr hfn A
  refine (ss_cons (s_set ok rfl ?_ (r_lstc (a_cons r_int' a_nil ?_)) ?_ ?_) (ss_cons (s_for ok po (i_range2 ok ?_ F.b_range r_int' (r_bin (op := .add) ok (r_pk ok rfl ?_ ?_ ?_) r_int') ?_ ?_) (p_nm ok rfl ?_) g_nm (ss_cons (s_set ok rfl ?_ r_int' ?_ ?_) (ss_cons (s_for ok po (i_val ok (r_var ok rfl ?_ ?_ ?_)) (p_tup (n := 3) ok (pgs_cons (p_nm ok rfl ?_) (pgs_cons (p_nm ok rfl ?_) (pgs_cons (p_nm ok rfl ?_) pgs_nil ?_) ?_) ?_) ?_ ?_) (g_tup (g_cons g_nm (g_cons g_nm (g_cons g_nm g_nil))) ?_) (ss_one (s_set ok rfl ?_ (r_bin (op := .add) ok (r_pk ok rfl ?_ ?_ ?_) (r_callD ok A F.f47 ?_ (a_cons (r_var ok rfl ?_ ?_ ?_) (a_cons (r_var ok rfl ?_ ?_ ?_) (a_cons (r_bin (op := .sub) ok (r_pk ok rfl ?_ ?_ ?_) r_int') a_nil ?_) ?_) ?_) ?_ ?_ ?_)) ?_ ?_)) ?_) (ss_one (s_appc ok (r_var ok rfl ?_ ?_ ?_) (r_var ok rfl ?_ ?_ ?_) ?_ ?_ ?_ ?_ ?_ ?_)))) ?_) (ss_one (s_retp ok rfl ?_ ?_ ?_))))
  all_goals first
    | rfl
    | (intro _; rfl)
    | (intro _ _; rfl)
    | exact gl ok (by decide +kernel)
    | exact gl (ok_blk ok _ _ _ _ _ _) (by decide +kernel)
    | exact gl (by assumption) (by decide +kernel)
    | exact (sw_env ok).trans rfl
    | exact (sw1_env ok).trans rfl
    | exact .inl (by decide +kernel)
    | exact .inl (hfn _)
    | exact .inr (by decide +kernel)
    | exact blk_of ok ⟨rfl, by decide +kernel, by decide +kernel, by decide +kernel, by decide +kernel⟩
    | decide +kernel

end Few.Wk
set_option Elab.async false
set_option linter.all false
set_option maxRecDepth 100000
set_option maxHeartbeats 4000000
namespace Few.Wk
open PySem PySem.Spec PyProof.Rows L2
theorem b47 {G : Gd} {dsc : Nat → Option Dsc} {d : Nat → Dsc} {ec : Nat → Addr} {bmB : List Value} {bs newId initId : String} (F : Fx G dsc d ec bmB bs newId initId) : BodyOk G ["counts", "many", "words", "found", "_", "later", "size", "own", "more"] (defScope (top 65)) (defBody (top 65)) Few.Pg.c47 dsc := by
  intro k W X c ok po hst hfr hfn A
  refine (ss_cons (s_set ok rfl ?_ (r_bin (op := .add) ok (r_lst (a_cons r_int' a_nil ?_)) (r_bin (op := .mul) ok (r_lst (a_cons r_int' a_nil ?_)) (r_pk ok rfl ?_ ?_ ?_))) ?_ ?_) (ss_cons (s_for ok po (i_range1 ok ?_ F.b_range (r_var ok rfl ?_ ?_ ?_) ?_) (p_nm ok rfl ?_) g_nm (ss_cons (s_set ok rfl ?_ (r_bin (op := .mul) ok (r_lst (a_cons r_int' a_nil ?_)) (r_bin (op := .add) ok (r_pk ok rfl ?_ ?_ ?_) r_int')) ?_ ?_) (ss_cons (s_for ok po (i_enum ok ?_ F.b_enumerate (r_var ok rfl ?_ ?_ ?_) ?_) (p_tup (n := 2) ok (pgs_cons (p_nm ok rfl ?_) (pgs_cons (p_nm ok rfl ?_) pgs_nil ?_) ?_) ?_ ?_) (g_tup (g_cons g_nm (g_cons g_nm g_nil)) ?_) (ss_one (s_for ok po (i_range2 ok ?_ F.b_range r_int' (r_bin (op := .add) ok (r_min ok ?_ F.b_min bt_min (r_bin (op := .sub) ok (r_len ok ?_ F.b_len (r_pk ok rfl ?_ ?_ ?_) ?_ ?_) r_int') (r_bin (op := .sub) ok (r_pk ok rfl ?_ ?_ ?_) (r_pk ok rfl ?_ ?_ ?_)) ?_ ?_ ?_) r_int') ?_ ?_) (p_nm ok rfl ?_) g_nm (ss_one (s_seti ok rfl ?_ ?_ ?_ (r_bin (op := .add) ok (r_sub ok (r_pk ok rfl ?_ ?_ ?_) (r_bin (op := .add) ok (r_pk ok rfl ?_ ?_ ?_) (r_pk ok rfl ?_ ?_ ?_)) ?_) (r_bin (op := .mul) ok (r_pk ok rfl ?_ ?_ ?_) (r_sub ok (r_pk ok rfl ?_ ?_ ?_) (r_pk ok rfl ?_ ?_ ?_) ?_))) (r_bin (op := .add) ok (r_pk ok rfl ?_ ?_ ?_) (r_pk ok rfl ?_ ?_ ?_)) ?_ ?_ ?_ ?_)) ?_)) ?_) (ss_one (s_set ok rfl ?_ (r_var ok rfl ?_ ?_ ?_) ?_ ?_)))) ?_) (ss_one (s_ret (r_sub ok (r_pk ok rfl ?_ ?_ ?_) (r_pk ok rfl ?_ ?_ ?_) ?_)))))
  all_goals first
    | rfl
    | (intro _; rfl)
    | (intro _ _; rfl)
    | exact gl ok (by decide +kernel)
    | exact gl (ok_blk ok _ _ _ _ _ _) (by decide +kernel)
    | exact gl (by assumption) (by decide +kernel)
    | exact (sw_env ok).trans rfl
    | exact (sw1_env ok).trans rfl
    | exact .inl (by decide +kernel)
    | exact .inl (hfn _)
    | exact .inr (by decide +kernel)
    | exact blk_of ok ⟨rfl, by decide +kernel, by decide +kernel, by decide +kernel, by decide +kernel⟩
    | decide +kernel

end Few.Wk
set_option Elab.async false
set_option linter.all false
set_option maxRecDepth 100000
set_option maxHeartbeats 4000000
namespace Few.Wk
open PySem PySem.Spec PyProof.Rows L2
theorem b48 {G : Gd} {dsc : Nat → Option Dsc} {d : Nat → Dsc} {ec : Nat → Addr} {bmB : List Value} {bs newId initId : String} (F : Fx G dsc d ec bmB bs newId initId) : BodyOk G ["counts", "own", "words", "open_so", "told", "_", "here"] (defScope (top 66)) (defBody (top 66)) Few.Pg.c48 dsc := by
  intro k W X c ok po hst hfr hfn A
  refine (ss_cons (s_set ok rfl ?_ (r_len ok ?_ F.b_len (r_lc (own := [("_", 5), ("here", 6)]) (t := (.cons (.nm 5) (.cons (.nm 6) .nil))) ok (i_val ok (r_callD ok A F.f16 ?_ (a_cons (r_var ok rfl ?_ ?_ ?_) a_nil ?_) ?_ ?_ ?_)) ?_ (fun s1 H1 C1 cl1 fp1 => (p_tup (n := 2) (ok_blk ok s1 H1 _ cl1 C1 fp1) (pgs_cons (p_nm (ok_blk ok s1 H1 _ cl1 C1 fp1) rfl ?_) (pgs_cons (p_nm (ok_blk ok s1 H1 _ cl1 C1 fp1) rfl ?_) pgs_nil ?_) ?_) ?_ ?_)) (g_tup (g_cons g_nm (g_cons g_nm g_nil)) ?_) ?_ (fun s1 H1 C1 cl1 fp1 => (pts_of (c := c) (.inr ⟨_, rfl, (t_val (ok_blk ok s1 H1 _ cl1 C1 fp1) (r_callD (ok_blk ok s1 H1 _ cl1 C1 fp1) A F.f0 ?_ (a_cons (r_var (ok_blk ok s1 H1 _ cl1 C1 fp1) rfl ?_ ?_ ?_) a_nil ?_) ?_ ?_ ?_) ?_)⟩))) (fun s1 H1 C1 cl1 fp1 => (r_var (ok_blk ok s1 H1 _ cl1 C1 fp1) rfl ?_ ?_ ?_)) ?_) ?_ ?_) ?_ ?_) (ss_cons (s_set ok rfl ?_ (r_bin (op := .sub) ok (r_len ok ?_ F.b_len (r_callD ok A F.f16 ?_ (a_cons (r_var ok rfl ?_ ?_ ?_) a_nil ?_) ?_ ?_ ?_) ?_ ?_) (r_pk ok rfl ?_ ?_ ?_)) ?_ ?_) (ss_one (s_ret (r_ite (t_cmp (op := .ge) ok (r_pk ok rfl ?_ ?_ ?_) (r_pk ok rfl ?_ ?_ ?_) ?_) (r_callD ok A F.f47 ?_ (a_cons (r_var ok rfl ?_ ?_ ?_) (a_cons (r_var ok rfl ?_ ?_ ?_) (a_cons (r_bin (op := .sub) ok (r_pk ok rfl ?_ ?_ ?_) (r_pk ok rfl ?_ ?_ ?_)) a_nil ?_) ?_) ?_) ?_ ?_ ?_) r_int')))))
  all_goals first
    | rfl
    | (intro _; rfl)
    | (intro _ _; rfl)
    | exact gl ok (by decide +kernel)
    | exact gl (ok_blk ok _ _ _ _ _ _) (by decide +kernel)
    | exact gl (by assumption) (by decide +kernel)
    | exact (sw_env ok).trans rfl
    | exact (sw1_env ok).trans rfl
    | exact .inl (by decide +kernel)
    | exact .inl (hfn _)
    | exact .inr (by decide +kernel)
    | exact blk_of ok ⟨rfl, by decide +kernel, by decide +kernel, by decide +kernel, by decide +kernel⟩
    | decide +kernel

end Few.Wk
set_option Elab.async false
set_option linter.all false
set_option maxRecDepth 100000
set_option maxHeartbeats 4000000
namespace Few.Wk
open PySem PySem.Spec PyProof.Rows L2
theorem b49 {G : Gd} {dsc : Nat → Option Dsc} {d : Nat → Dsc} {ec : Nat → Addr} {bmB : List Value} {bs newId initId : String} (F : Fx G dsc d ec bmB bs newId initId) : BodyOk G ["book", "words", "own"] (defScope (top 67)) (defBody (top 67)) Few.Pg.c49 dsc := by
  intro k W X c ok po hst hfr hfn A
  refine (ss_cons (s_set ok rfl ?_ (r_callD ok A F.f20 ?_ (a_cons (r_var ok rfl ?_ ?_ ?_) a_nil ?_) ?_ ?_ ?_) ?_ ?_) (ss_cons (s_ex (r_callD ok A F.f5 ?_ (a_cons (r_callD ok A F.f1 ?_ (a_cons (r_var ok rfl ?_ ?_ ?_) (a_cons r_int' a_nil ?_) ?_) ?_ ?_ ?_) a_nil ?_) ?_ ?_ ?_) ?_) (ss_one (s_ret (r_sub ok (r_callD ok A F.f46 ?_ (a_cons (r_var ok rfl ?_ ?_ ?_) (a_cons (r_var ok rfl ?_ ?_ ?_) a_nil ?_) ?_) ?_ ?_ ?_) (r_pk ok rfl ?_ ?_ ?_) ?_)))))
  all_goals first
    | rfl
    | (intro _; rfl)
    | (intro _ _; rfl)
    | exact gl ok (by decide +kernel)
    | exact gl (ok_blk ok _ _ _ _ _ _) (by decide +kernel)
    | exact gl (by assumption) (by decide +kernel)
    | exact (sw_env ok).trans rfl
    | exact (sw1_env ok).trans rfl
    | exact .inl (by decide +kernel)
    | exact .inl (hfn _)
    | exact .inr (by decide +kernel)
    | exact blk_of ok ⟨rfl, by decide +kernel, by decide +kernel, by decide +kernel, by decide +kernel⟩
    | decide +kernel

end Few.Wk
set_option Elab.async false
set_option linter.all false
set_option maxRecDepth 100000
set_option maxHeartbeats 4000000
namespace Few.Wk
open PySem PySem.Spec PyProof.Rows L2
theorem b50 {G : Gd} {dsc : Nat → Option Dsc} {d : Nat → Dsc} {ec : Nat → Addr} {bmB : List Value} {bs newId initId : String} (F : Fx G dsc d ec bmB bs newId initId) : BodyOk G ["book", "patterns", "words", "own", "some", "counts", "pattern"] (defScope (top 68)) (defBody (top 68)) Few.Pg.c50 dsc := by
  intro k W X c ok po hst hfr hfn A
  refine (ss_cons (s_set ok rfl ?_ (r_callD ok A F.f20 ?_ (a_cons (r_var ok rfl ?_ ?_ ?_) a_nil ?_) ?_ ?_ ?_) ?_ ?_) (ss_cons (s_set ok rfl ?_ (r_callD ok A F.f23 ?_ (a_cons (r_var ok rfl ?_ ?_ ?_) (a_cons (r_var ok rfl ?_ ?_ ?_) a_nil ?_) ?_) ?_ ?_ ?_) ?_ ?_) (ss_cons (s_ex (r_callD ok A F.f5 ?_ (a_cons (r_callD ok A F.f1 ?_ (a_cons (r_var ok rfl ?_ ?_ ?_) (a_cons r_int' a_nil ?_) ?_) ?_ ?_ ?_) a_nil ?_) ?_ ?_ ?_) ?_) (ss_cons (s_set ok rfl ?_ (r_callD ok A F.f46 ?_ (a_cons (r_var ok rfl ?_ ?_ ?_) (a_cons (r_var ok rfl ?_ ?_ ?_) a_nil ?_) ?_) ?_ ?_ ?_) ?_ ?_) (ss_one (s_ret (r_bin (op := .sub) ok (r_sub ok (r_pk ok rfl ?_ ?_ ?_) (r_pk ok rfl ?_ ?_ ?_) ?_) (r_sum ok ?_ F.b_sum bt_sum (r_lc (own := [("pattern", 6)]) (t := (.nm 6)) (cd := dCon (.bl true)) ok (i_val ok (r_callD ok A F.f31 ?_ (a_cons (r_var ok rfl ?_ ?_ ?_) (a_cons r_int' (a_cons (r_var ok rfl ?_ ?_ ?_) a_nil ?_) ?_) ?_) ?_ ?_ ?_)) ?_ (fun s1 H1 C1 cl1 fp1 => (p_nm (ok_blk ok s1 H1 _ cl1 C1 fp1) rfl ?_)) g_nm ?_ (fun s1 H1 C1 cl1 fp1 => (pts_of (c := c) (.inl ⟨rfl, rfl⟩))) (fun s1 H1 C1 cl1 fp1 => (r_callD (ok_blk ok s1 H1 _ cl1 C1 fp1) A F.f48 ?_ (a_cons (r_var (ok_blk ok s1 H1 _ cl1 C1 fp1) rfl ?_ ?_ ?_) (a_cons (r_var (ok_blk ok s1 H1 _ cl1 C1 fp1) rfl ?_ ?_ ?_) (a_cons (r_var (ok_blk ok s1 H1 _ cl1 C1 fp1) rfl ?_ ?_ ?_) a_nil ?_) ?_) ?_) ?_ ?_ ?_)) ?_) ?_ ?_))))))))
  all_goals first
    | rfl
    | (intro _; rfl)
    | (intro _ _; rfl)
    | exact gl ok (by decide +kernel)
    | exact gl (ok_blk ok _ _ _ _ _ _) (by decide +kernel)
    | exact gl (by assumption) (by decide +kernel)
    | exact (sw_env ok).trans rfl
    | exact (sw1_env ok).trans rfl
    | exact .inl (by decide +kernel)
    | exact .inl (hfn _)
    | exact .inr (by decide +kernel)
    | exact blk_of ok ⟨rfl, by decide +kernel, by decide +kernel, by decide +kernel, by decide +kernel⟩
    | decide +kernel

end Few.Wk
set_option Elab.async false
set_option linter.all false
set_option maxRecDepth 100000
set_option maxHeartbeats 4000000
namespace Few.Wk
open PySem PySem.Spec PyProof.Rows L2
theorem b51 {G : Gd} {dsc : Nat → Option Dsc} {d : Nat → Dsc} {ec : Nat → Addr} {bmB : List Value} {bs newId initId : String} (F : Fx G dsc d ec bmB bs newId initId) : BodyOk G ["script", "k", "cell"] (defScope (top 70)) (defBody (top 70)) Few.Pg.c51 dsc := by
  intro k W X c ok po hst hfr hfn A
  refine (ss_cons (s_set ok rfl ?_ (r_ite (t_cmp (op := .lt) ok (r_pk ok rfl ?_ ?_ ?_) (r_len ok ?_ F.b_len (r_pk ok rfl ?_ ?_ ?_) ?_ ?_) ?_) (r_sub ok (r_pk ok rfl ?_ ?_ ?_) (r_pk ok rfl ?_ ?_ ?_) ?_) r_int') ?_ ?_) (ss_one (s_ret (r_lstc (a_cons (r_bin (op := .mul) ok (r_abs ok ?_ F.b_abs bt_abs (r_pk ok rfl ?_ ?_ ?_) ?_ ?_) (r_int ok ?_ F.b_int (r_cmp (op := .ge) ok (r_abs ok ?_ F.b_abs bt_abs (r_pk ok rfl ?_ ?_ ?_) ?_ ?_) (r_bin (op := .pow) ok r_int' r_int') ?_) ?_ ?_)) (a_cons (r_bin (op := .add) ok (r_bin (op := .add) ok (r_bin (op := .mod) ok (r_int ok ?_ F.b_int (r_pk ok rfl ?_ ?_ ?_) ?_ ?_) r_int') (r_bin (op := .mul) ok r_int' (r_pk ok rfl ?_ ?_ ?_))) r_int') (a_cons r_int' a_nil ?_) ?_) ?_)))))
  all_goals first
    | rfl
    | (intro _; rfl)
    | (intro _ _; rfl)
    | exact gl ok (by decide +kernel)
    | exact gl (ok_blk ok _ _ _ _ _ _) (by decide +kernel)
    | exact gl (by assumption) (by decide +kernel)
    | exact (sw_env ok).trans rfl
    | exact (sw1_env ok).trans rfl
    | exact .inl (by decide +kernel)
    | exact .inl (hfn _)
    | exact .inr (by decide +kernel)
    | exact blk_of ok ⟨rfl, by decide +kernel, by decide +kernel, by decide +kernel, by decide +kernel⟩
    | decide +kernel

end Few.Wk
set_option Elab.async false
set_option linter.all false
set_option maxRecDepth 100000
set_option maxHeartbeats 4000000
namespace Few.Wk
open PySem PySem.Spec PyProof.Rows L2
theorem b52 {G : Gd} {dsc : Nat → Option Dsc} {d : Nat → Dsc} {ec : Nat → Addr} {bmB : List Value} {bs newId initId : String} (F : Fx G dsc d ec bmB bs newId initId) : BodyOk G ["urn", "below", "once", "far", "twice", "drawn"] (defScope (top 71)) (defBody (top 71)) Few.Pg.c52 dsc := by
  intro k W X c ok po hst hfr hfn A
  refine (ss_cons (s_if (t_cmp (op := .gt) ok (r_sub ok (r_pk ok rfl ?_ ?_ ?_) r_int' ?_) r_int' ?_) (ss_cons (s_set ok rfl ?_ (r_bin (op := .mod) ok (r_int ok ?_ F.b_int (r_sub ok (r_pk ok rfl ?_ ?_ ?_) r_int' ?_) ?_ ?_) (r_pk ok rfl ?_ ?_ ?_)) ?_ ?_) (ss_cons (s_setc ok (r_var ok rfl ?_ ?_ ?_) (r_bin (op := .fdiv) ok (r_sub ok (r_pk ok rfl ?_ ?_ ?_) r_int' ?_) (r_pk ok rfl ?_ ?_ ?_)) r_int' ?_ ?_ ?_ ?_) (ss_one (s_retp ok rfl ?_ ?_ ?_)))) ss_nil) (ss_cons (s_setc ok (r_var ok rfl ?_ ?_ ?_) (r_bin (op := .add) ok (r_sub ok (r_pk ok rfl ?_ ?_ ?_) r_int' ?_) r_int') r_int' ?_ ?_ ?_ ?_) (ss_cons (s_set ok rfl ?_ (r_bin (op := .mod) ok (r_int ok ?_ F.b_int (r_bin (op := .mul) ok (r_bin (op := .add) ok (r_sub ok (r_pk ok rfl ?_ ?_ ?_) r_int' ?_) (r_bin (op := .mul) ok r_int' (r_sub ok (r_pk ok rfl ?_ ?_ ?_) r_int' ?_))) (r_bin (op := .add) ok r_int' (r_sub ok (r_pk ok rfl ?_ ?_ ?_) r_int' ?_))) ?_ ?_) r_int') ?_ ?_) (ss_cons (s_set ok rfl ?_ (r_bin (op := .add) ok (r_bin (op := .mod) ok (r_int ok ?_ F.b_int (r_pk ok rfl ?_ ?_ ?_) ?_ ?_) r_int') r_int') ?_ ?_) (ss_cons (s_set ok rfl ?_ (r_bin (op := .mod) ok (r_int ok ?_ F.b_int (r_bin (op := .mul) ok (r_bin (op := .add) ok (r_bin (op := .add) ok (r_pk ok rfl ?_ ?_ ?_) (r_sub ok (r_pk ok rfl ?_ ?_ ?_) r_int' ?_)) (r_bin (op := .fdiv) ok (r_sub ok (r_pk ok rfl ?_ ?_ ?_) r_int' ?_) r_int')) (r_pk ok rfl ?_ ?_ ?_)) ?_ ?_) r_int') ?_ ?_) (ss_one (s_ret (r_bin (op := .mod) ok (r_int ok ?_ F.b_int (r_bin (op := .fdiv) ok (r_bin (op := .mod) ok (r_int ok ?_ F.b_int (r_bin (op := .add) ok (r_bin (op := .mul) ok (r_pk ok rfl ?_ ?_ ?_) r_int') (r_pk ok rfl ?_ ?_ ?_)) ?_ ?_) r_int') r_int') ?_ ?_) (r_pk ok rfl ?_ ?_ ?_)))))))))
  all_goals first
    | rfl
    | (intro _; rfl)
    | (intro _ _; rfl)
    | exact gl ok (by decide +kernel)
    | exact gl (ok_blk ok _ _ _ _ _ _) (by decide +kernel)
    | exact gl (by assumption) (by decide +kernel)
    | exact (sw_env ok).trans rfl
    | exact (sw1_env ok).trans rfl
    | exact .inl (by decide +kernel)
    | exact .inl (hfn _)
    | exact .inr (by decide +kernel)
    | exact blk_of ok ⟨rfl, by decide +kernel, by decide +kernel, by decide +kernel, by decide +kernel⟩
    | decide +kernel

end Few.Wk
set_option Elab.async false
set_option linter.all false
set_option maxRecDepth 100000
set_option maxHeartbeats 4000000
namespace Few.Wk
open PySem PySem.Spec PyProof.Rows L2
theorem b53 {G : Gd} {dsc : Nat → Option Dsc} {d : Nat → Dsc} {ec : Nat → Addr} {bmB : List Value} {bs newId initId : String} (F : Fx G dsc d ec bmB bs newId initId) : BodyOk G ["script", "many", "cells", "k", "cell", "at"] (defScope (top 72)) (defBody (top 72)) Few.Pg.c53 dsc := by
  intro k W X c ok po hst hfr hfn A
  refine (ss_cons (s_set ok rfl ?_ (r_or ok (r_list ok ?_ F.b_list (r_slc ok (r_pk ok rfl ?_ ?_ ?_) .non (.som (r_var ok rfl ?_ ?_ ?_))) ?_ ?_) (r_one (r_lst (a_cons r_int' a_nil ?_)))) ?_ ?_) (ss_cons (s_for ok po (i_enum ok ?_ F.b_enumerate (r_slc ok (r_pk ok rfl ?_ ?_ ?_) (.som (r_var ok rfl ?_ ?_ ?_)) (.som r_int')) ?_) (p_tup (n := 2) ok (pgs_cons (p_nm ok rfl ?_) (pgs_cons (p_nm ok rfl ?_) pgs_nil ?_) ?_) ?_ ?_) (g_tup (g_cons g_nm (g_cons g_nm g_nil)) ?_) (ss_cons (s_set ok rfl ?_ (r_bin (op := .mod) ok (r_int ok ?_ F.b_int (r_pk ok rfl ?_ ?_ ?_) ?_ ?_) (r_pk ok rfl ?_ ?_ ?_)) ?_ ?_) (ss_one (s_seti ok rfl ?_ ?_ ?_ (r_bin (op := .add) ok (r_sub ok (r_pk ok rfl ?_ ?_ ?_) (r_pk ok rfl ?_ ?_ ?_) ?_) (r_bin (op := .mul) ok (r_pk ok rfl ?_ ?_ ?_) (r_bin (op := .add) ok (r_pk ok rfl ?_ ?_ ?_) r_int'))) (r_var ok rfl ?_ ?_ ?_) ?_ ?_ ?_ ?_))) ?_) (ss_one (s_retp ok rfl ?_ ?_ ?_))))
  all_goals first
    | rfl
    | (intro _; rfl)
    | (intro _ _; rfl)
    | exact gl ok (by decide +kernel)
    | exact gl (ok_blk ok _ _ _ _ _ _) (by decide +kernel)
    | exact gl (by assumption) (by decide +kernel)
    | exact (sw_env ok).trans rfl
    | exact (sw1_env ok).trans rfl
    | exact .inl (by decide +kernel)
    | exact .inl (hfn _)
    | exact .inr (by decide +kernel)
    | exact blk_of ok ⟨rfl, by decide +kernel, by decide +kernel, by decide +kernel, by decide +kernel⟩
    | decide +kernel

end Few.Wk
set_option Elab.async false
set_option linter.all false
set_option maxRecDepth 100000
set_option maxHeartbeats 4000000
namespace Few.Wk
open PySem PySem.Spec PyProof.Rows L2
theorem b54 {G : Gd} {dsc : Nat → Option Dsc} {d : Nat → Dsc} {ec : Nat → Addr} {bmB : List Value} {bs newId initId : String} (F : Fx G dsc d ec bmB bs newId initId) : BodyOk G ["got", "due", "mine", "own"] (defScope (top 73)) (defBody (top 73)) Few.Pg.c54 dsc := by
  intro k W X c ok po hst hfr hfn A
  refine (ss_cons (s_if (t_val ok (r_isi2 (t := .list) (u := .tuple) ok ?_ F.b_isinstance bt_isinstance ?_ F.b_list boot_list ?_ ?_ ?_ F.b_tuple boot_tuple ?_ ?_ (r_pk ok rfl ?_ ?_ ?_) ?_ ?_ ?_ ?_ ?_) ?_) (ss_cons (s_if (L2.PW.pt (t_or (t_cmp (op := .ne) ok (r_isi (t := .list) ok ?_ F.b_isinstance bt_isinstance ?_ F.b_list boot_list ?_ ?_ (r_pk ok rfl ?_ ?_ ?_) ?_ ?_ ?_) (r_isi (t := .list) ok ?_ F.b_isinstance bt_isinstance ?_ F.b_list boot_list ?_ ?_ (r_pk ok rfl ?_ ?_ ?_) ?_ ?_ ?_) ?_) (t_or1 (t_cmp (op := .ne) ok (r_isi (t := .tuple) ok ?_ F.b_isinstance bt_isinstance ?_ F.b_tuple boot_tuple ?_ ?_ (r_pk ok rfl ?_ ?_ ?_) ?_ ?_ ?_) (r_isi (t := .tuple) ok ?_ F.b_isinstance bt_isinstance ?_ F.b_tuple boot_tuple ?_ ?_ (r_pk ok rfl ?_ ?_ ?_) ?_ ?_ ?_) ?_)))) (ss_one (s_ret r_bl')) ss_nil) (ss_one (s_ret (r_and ok (r_cmp (op := .eq) ok (r_len ok ?_ F.b_len (r_pk ok rfl ?_ ?_ ?_) ?_ ?_) (r_len ok ?_ F.b_len (r_pk ok rfl ?_ ?_ ?_) ?_ ?_) ?_) (r_one (r_all ok ?_ F.b_all bt_all (r_lc (own := [("mine", 2), ("own", 3)]) (t := (.cons (.nm 2) (.cons (.nm 3) .nil))) (cd := dCon (.bl true)) ok (i_zip ok ?_ F.b_zip (r_var ok rfl ?_ ?_ ?_) (r_var ok rfl ?_ ?_ ?_) ?_ ?_ ?_) ?_ (fun s1 H1 C1 cl1 fp1 => (p_tup (n := 2) (ok_blk ok s1 H1 _ cl1 C1 fp1) (pgs_cons (p_nm (ok_blk ok s1 H1 _ cl1 C1 fp1) rfl ?_) (pgs_cons (p_nm (ok_blk ok s1 H1 _ cl1 C1 fp1) rfl ?_) pgs_nil ?_) ?_) ?_ ?_)) (g_tup (g_cons g_nm (g_cons g_nm g_nil)) ?_) ?_ (fun s1 H1 C1 cl1 fp1 => (pts_of (c := c) (.inl ⟨rfl, rfl⟩))) (fun s1 H1 C1 cl1 fp1 => (r_callD (ok_blk ok s1 H1 _ cl1 C1 fp1) A F.f54 ?_ (a_cons (r_var (ok_blk ok s1 H1 _ cl1 C1 fp1) rfl ?_ ?_ ?_) (a_cons (r_var (ok_blk ok s1 H1 _ cl1 C1 fp1) rfl ?_ ?_ ?_) a_nil ?_) ?_) ?_ ?_ ?_)) ?_) ?_ ?_)))))) ss_nil) (ss_cons (s_if (L2.PW.pt (t_or (t_cmp (op := .isn) ok (r_pk ok rfl ?_ ?_ ?_) r_non ?_) (t_or1 (t_val ok (r_isi2 (t := .bool) (u := .str) ok ?_ F.b_isinstance bt_isinstance ?_ F.b_bool boot_bool ?_ ?_ ?_ F.b_str boot_str ?_ ?_ (r_pk ok rfl ?_ ?_ ?_) ?_ ?_ ?_ ?_ ?_) ?_)))) (ss_one (s_ret (r_and ok (r_cmp (op := .eq) ok (r_isi (t := .str) ok ?_ F.b_isinstance bt_isinstance ?_ F.b_str boot_str ?_ ?_ (r_pk ok rfl ?_ ?_ ?_) ?_ ?_ ?_) (r_isi (t := .str) ok ?_ F.b_isinstance bt_isinstance ?_ F.b_str boot_str ?_ ?_ (r_pk ok rfl ?_ ?_ ?_) ?_ ?_ ?_) ?_) (r_and ok (r_cmp (op := .eq) ok (r_isi (t := .bool) ok ?_ F.b_isinstance bt_isinstance ?_ F.b_bool boot_bool ?_ ?_ (r_pk ok rfl ?_ ?_ ?_) ?_ ?_ ?_) (r_isi (t := .bool) ok ?_ F.b_isinstance bt_isinstance ?_ F.b_bool boot_bool ?_ ?_ (r_pk ok rfl ?_ ?_ ?_) ?_ ?_ ?_) ?_) (r_and ok (r_cmp (op := .eq) ok (r_cmp (op := .isn) ok (r_pk ok rfl ?_ ?_ ?_) r_non ?_) (r_cmp (op := .isn) ok (r_pk ok rfl ?_ ?_ ?_) r_non ?_) ?_) (r_one (r_cmp (op := .eq) ok (r_pk ok rfl ?_ ?_ ?_) (r_pk ok rfl ?_ ?_ ?_) ?_))))))) ss_nil) (ss_one (s_ret (r_and ok (r_isi (t := .int) ok ?_ F.b_isinstance bt_isinstance ?_ F.b_int boot_int ?_ ?_ (r_pk ok rfl ?_ ?_ ?_) ?_ ?_ ?_) (r_and ok (r_not ok (r_isi (t := .bool) ok ?_ F.b_isinstance bt_isinstance ?_ F.b_bool boot_bool ?_ ?_ (r_pk ok rfl ?_ ?_ ?_) ?_ ?_ ?_)) (r_one (r_cmp (op := .eq) ok (r_pk ok rfl ?_ ?_ ?_) (r_pk ok rfl ?_ ?_ ?_) ?_))))))))
  all_goals first
    | rfl
    | (intro _; rfl)
    | (intro _ _; rfl)
    | exact gl ok (by decide +kernel)
    | exact gl (ok_blk ok _ _ _ _ _ _) (by decide +kernel)
    | exact gl (by assumption) (by decide +kernel)
    | exact (sw_env ok).trans rfl
    | exact (sw1_env ok).trans rfl
    | exact .inl (by decide +kernel)
    | exact .inl (hfn _)
    | exact .inr (by decide +kernel)
    | exact blk_of ok ⟨rfl, by decide +kernel, by decide +kernel, by decide +kernel, by decide +kernel⟩
    | decide +kernel

end Few.Wk
set_option Elab.async false
set_option linter.all false
set_option maxRecDepth 100000
set_option maxHeartbeats 4000000
namespace Few.Wk
open PySem PySem.Spec PyProof.Rows L2
theorem b55 {G : Gd} {dsc : Nat → Option Dsc} {d : Nat → Dsc} {ec : Nat → Addr} {bmB : List Value} {bs newId initId : String} (F : Fx G dsc d ec bmB bs newId initId) : BodyOk G ["matter", "own"] (defScope (top 74)) (defBody (top 74)) Few.Pg.c55 dsc := by
  intro k W X c ok po hst hfr hfn A
  refine (ss_one (s_ret (r_ite (t_val ok (r_isi2 (t := .list) (u := .tuple) ok ?_ F.b_isinstance bt_isinstance ?_ F.b_list boot_list ?_ ?_ ?_ F.b_tuple boot_tuple ?_ ?_ (r_pk ok rfl ?_ ?_ ?_) ?_ ?_ ?_ ?_ ?_) ?_) (r_lc (own := [("own", 1)]) (t := (.nm 1)) (cd := dCon (.bl true)) ok (i_val ok (r_var ok rfl ?_ ?_ ?_)) ?_ (fun s1 H1 C1 cl1 fp1 => (p_nm (ok_blk ok s1 H1 _ cl1 C1 fp1) rfl ?_)) g_nm ?_ (fun s1 H1 C1 cl1 fp1 => (pts_of (c := c) (.inl ⟨rfl, rfl⟩))) (fun s1 H1 C1 cl1 fp1 => (r_callD (ok_blk ok s1 H1 _ cl1 C1 fp1) A F.f55 ?_ (a_cons (r_var (ok_blk ok s1 H1 _ cl1 C1 fp1) rfl ?_ ?_ ?_) a_nil ?_) ?_ ?_ ?_)) ?_) (r_var ok rfl ?_ ?_ ?_))))
  all_goals first
    | rfl
    | (intro _; rfl)
    | (intro _ _; rfl)
    | exact gl ok (by decide +kernel)
    | exact gl (ok_blk ok _ _ _ _ _ _) (by decide +kernel)
    | exact gl (by assumption) (by decide +kernel)
    | exact (sw_env ok).trans rfl
    | exact (sw1_env ok).trans rfl
    | exact .inl (by decide +kernel)
    | exact .inl (hfn _)
    | exact .inr (by decide +kernel)
    | exact blk_of ok ⟨rfl, by decide +kernel, by decide +kernel, by decide +kernel, by decide +kernel⟩
    | decide +kernel

end Few.Wk
set_option Elab.async false
set_option linter.all false
set_option maxRecDepth 100000
set_option maxHeartbeats 4000000
namespace Few.Wk
open PySem PySem.Spec PyProof.Rows L2
theorem b56 {G : Gd} {dsc : Nat → Option Dsc} {d : Nat → Dsc} {ec : Nat → Addr} {bmB : List Value} {bs newId initId : String} (F : Fx G dsc d ec bmB bs newId initId) : BodyOk G [] (defScope (top 75)) (defBody (top 75)) Few.Pg.c56 dsc := by
  intro k W X c ok po hst hfr hfn A
  refine (ss_one (s_ret (r_tup (a_cons (r_tup (a_cons (r_str ?_) (a_cons (r_str ?_) (a_cons r_int' a_nil ?_) ?_) ?_)) (a_cons (r_tup (a_cons (r_str ?_) (a_cons (r_str ?_) (a_cons r_int' a_nil ?_) ?_) ?_)) (a_cons (r_tup (a_cons (r_str ?_) (a_cons (r_str ?_) (a_cons r_int' a_nil ?_) ?_) ?_)) (a_cons (r_tup (a_cons (r_str ?_) (a_cons (r_str ?_) (a_cons r_int' a_nil ?_) ?_) ?_)) a_nil ?_) ?_) ?_) ?_))))
  all_goals first
    | rfl
    | (intro _; rfl)
    | (intro _ _; rfl)
    | exact gl ok (by decide +kernel)
    | exact gl (ok_blk ok _ _ _ _ _ _) (by decide +kernel)
    | exact gl (by assumption) (by decide +kernel)
    | exact (sw_env ok).trans rfl
    | exact (sw1_env ok).trans rfl
    | exact .inl (by decide +kernel)
    | exact .inl (hfn _)
    | exact .inr (by decide +kernel)
    | exact blk_of ok ⟨rfl, by decide +kernel, by decide +kernel, by decide +kernel, by decide +kernel⟩
    | decide +kernel

end Few.Wk
set_option Elab.async false
set_option linter.all false
set_option maxRecDepth 100000
set_option maxHeartbeats 4000000
namespace Few.Wk
open PySem PySem.Spec PyProof.Rows L2
theorem b57 {G : Gd} {dsc : Nat → Option Dsc} {d : Nat → Dsc} {ec : Nat → Addr} {bmB : List Value} {bs newId initId : String} (F : Fx G dsc d ec bmB bs newId initId) : BodyOk G ["door", "book", "one", "two", "caught"] (defScope (top 76)) (defBody (top 76)) Few.Pg.c57 dsc := by
  intro k W X c ok po hst hfr hfn A
  refine (ss_one (s_try ok hst hfr (fun W1 X1 ok1 po1 he1 hf1 => (ss_cons (s_if (t_cmp (op := .lt) ok1 (r_pk ok1 rfl ?_ ?_ ?_) r_int' ?_) (ss_one (s_ret (r_ite (t_cmp (op := .eq) ok1 (r_pk ok1 rfl ?_ ?_ ?_) r_int' ?_) (r_callD ok1 A F.f33 ?_ (a_cons (r_var ok1 rfl ?_ ?_ ?_) (a_cons (r_var ok1 rfl ?_ ?_ ?_) a_nil ?_) ?_) ?_ ?_ ?_) (r_ite (t_cmp (op := .eq) ok1 (r_pk ok1 rfl ?_ ?_ ?_) r_int' ?_) (r_callD ok1 A F.f34 ?_ (a_cons (r_var ok1 rfl ?_ ?_ ?_) (a_cons (r_var ok1 rfl ?_ ?_ ?_) a_nil ?_) ?_) ?_ ?_ ?_) (r_ite (t_cmp (op := .eq) ok1 (r_pk ok1 rfl ?_ ?_ ?_) r_int' ?_) (r_callD ok1 A F.f37 ?_ (a_cons (r_var ok1 rfl ?_ ?_ ?_) (a_cons (r_var ok1 rfl ?_ ?_ ?_) a_nil ?_) ?_) ?_ ?_ ?_) (r_callD ok1 A F.f40 ?_ (a_cons (r_var ok1 rfl ?_ ?_ ?_) (a_cons (r_var ok1 rfl ?_ ?_ ?_) a_nil ?_) ?_) ?_ ?_ ?_)))))) ss_nil) (ss_cons (s_if (t_cmp (op := .lt) ok1 (r_pk ok1 rfl ?_ ?_ ?_) r_int' ?_) (ss_one (s_ret (r_ite (t_cmp (op := .eq) ok1 (r_pk ok1 rfl ?_ ?_ ?_) r_int' ?_) (r_callD ok1 A F.f38 ?_ (a_cons (r_var ok1 rfl ?_ ?_ ?_) (a_cons (r_var ok1 rfl ?_ ?_ ?_) (a_cons (r_var ok1 rfl ?_ ?_ ?_) a_nil ?_) ?_) ?_) ?_ ?_ ?_) (r_ite (t_cmp (op := .eq) ok1 (r_pk ok1 rfl ?_ ?_ ?_) r_int' ?_) (r_callD ok1 A F.f42 ?_ (a_cons (r_var ok1 rfl ?_ ?_ ?_) (a_cons (r_var ok1 rfl ?_ ?_ ?_) (a_cons (r_var ok1 rfl ?_ ?_ ?_) a_nil ?_) ?_) ?_) ?_ ?_ ?_) (r_ite (t_cmp (op := .eq) ok1 (r_pk ok1 rfl ?_ ?_ ?_) r_int' ?_) (r_callD ok1 A F.f43 ?_ (a_cons (r_var ok1 rfl ?_ ?_ ?_) (a_cons (r_var ok1 rfl ?_ ?_ ?_) a_nil ?_) ?_) ?_ ?_ ?_) (r_callD ok1 A F.f44 ?_ (a_cons (r_var ok1 rfl ?_ ?_ ?_) (a_cons (r_var ok1 rfl ?_ ?_ ?_) (a_cons (r_var ok1 rfl ?_ ?_ ?_) a_nil ?_) ?_) ?_) ?_ ?_ ?_)))))) ss_nil) (ss_one (s_ret (r_ite (t_cmp (op := .eq) ok1 (r_pk ok1 rfl ?_ ?_ ?_) r_int' ?_) (r_callD ok1 A F.f45 ?_ (a_cons (r_var ok1 rfl ?_ ?_ ?_) (a_cons (r_var ok1 rfl ?_ ?_ ?_) (a_cons (r_var ok1 rfl ?_ ?_ ?_) a_nil ?_) ?_) ?_) ?_ ?_ ?_) (r_ite (t_cmp (op := .eq) ok1 (r_pk ok1 rfl ?_ ?_ ?_) r_int' ?_) (r_callD ok1 A F.f50 ?_ (a_cons (r_var ok1 rfl ?_ ?_ ?_) (a_cons (r_var ok1 rfl ?_ ?_ ?_) (a_cons (r_var ok1 rfl ?_ ?_ ?_) a_nil ?_) ?_) ?_) ?_ ?_ ?_) (r_callD ok1 A F.f49 ?_ (a_cons (r_var ok1 rfl ?_ ?_ ?_) (a_cons (r_var ok1 rfl ?_ ?_ ?_) a_nil ?_) ?_) ?_ ?_ ?_)))))))) (.cons (z := ⟨.ref (ec 1), 4, tTold (ec 1) 4 (txt [99, 97, 110]) true false⟩) (nm_exc ok ?_ F.e1.g ?_) (by rw [ok.eN]; rfl) (kind_loc ok ?_) (told_ok ok F.z1 rfl ?_ ?_ ?_ ?_ F.b_isinstance bt_isinstance ?_ F.b_ValueError bt_ValueError ?_ ?_ ?_ F.e0.g ?_ F.v1 F.n1_0 ?_ ?_ ?_ ?_ ?_ ?_ ?_ ?_) (.cons (z := ⟨.ref (ec 0), 4, tTold (ec 0) 4 (txt [117, 110, 102, 105, 116]) true false⟩) (nm_exc ok ?_ F.e0.g ?_) (by rw [ok.eN]; rfl) (kind_loc ok ?_) (told_ok ok F.z0 rfl ?_ ?_ ?_ ?_ F.b_isinstance bt_isinstance ?_ F.b_ValueError bt_ValueError ?_ ?_ ?_ F.e1.g ?_ F.v0 F.n0_1 ?_ ?_ ?_ ?_ ?_ ?_ ?_ ?_) .nil)) (.cons (told_read F.x1 one_of (by rw [F.e1.x]; exact F.e1.g)) (.cons (told_read F.x0 one_of (by rw [F.e0.x]; exact F.e0.g)) .nil))))
  all_goals first
    | rfl
    | (intro _; rfl)
    | (intro _ _; rfl)
    | exact gl ok (by decide +kernel)
    | exact gl (ok_blk ok _ _ _ _ _ _) (by decide +kernel)
    | exact gl (by assumption) (by decide +kernel)
    | exact (sw_env ok).trans rfl
    | exact (sw1_env ok).trans rfl
    | exact .inl (by decide +kernel)
    | exact .inl (hfn _)
    | exact .inr (by decide +kernel)
    | exact blk_of ok ⟨rfl, by decide +kernel, by decide +kernel, by decide +kernel, by decide +kernel⟩
    | decide +kernel

end Few.Wk
set_option Elab.async false
set_option linter.all false
set_option maxRecDepth 100000
set_option maxHeartbeats 4000000
namespace Few.Wk
open PySem PySem.Spec PyProof.Rows L2
theorem b58 {G : Gd} {dsc : Nat → Option Dsc} {d : Nat → Dsc} {ec : Nat → Addr} {bmB : List Value} {bs newId initId : String} (F : Fx G dsc d ec bmB bs newId initId) : BodyOk G ["soft", "told", "lots", "both", "got", "due", "some", "things", "book", "n", "o", "patterns", "covered", "left", "given", "thing"] (defScope (top 77)) (defBody (top 77)) Few.Pg.c58 dsc := by
  intro k W X c ok po hst hfr hfn A
  refine (ss_cons (s_par3 ok rfl rfl rfl ?_ ?_ ?_ ?_ ?_ ?_ (a_cons (r_callD0 ok A F.f56 ?_ ?_) (a_cons (r_tup (a_cons (r_str ?_) (a_cons (r_tup a_nil) a_nil ?_) ?_)) (a_cons (r_tup (a_cons (r_str ?_) (a_cons (r_tup a_nil) a_nil ?_) ?_)) a_nil ?_) ?_) ?_) ?_ ?_) (ss_cons (s_set ok rfl ?_ (r_ite (t_val ok (r_pk ok rfl ?_ ?_ ?_) ?_) (r_callD ok A F.f55 ?_ (a_cons (r_var ok rfl ?_ ?_ ?_) a_nil ?_) ?_ ?_ ?_) (r_var ok rfl ?_ ?_ ?_)) ?_ ?_) (ss_cons (s_set ok rfl ?_ (r_lst (a_cons (r_tup (a_cons (r_tup a_nil) (a_cons r_bl' (a_cons (r_lst (a_cons r_int' a_nil ?_)) a_nil ?_) ?_) ?_)) (a_cons (r_tup (a_cons (r_tup (a_cons r_int' a_nil ?_)) (a_cons r_bl' (a_cons (r_lst a_nil) a_nil ?_) ?_) ?_)) (a_cons (r_tup (a_cons (r_tup (a_cons (r_var ok rfl ?_ ?_ ?_) (a_cons (r_var ok rfl ?_ ?_ ?_) (a_cons (r_tup (a_cons (r_str ?_) (a_cons (r_tup (a_cons r_int' a_nil ?_)) a_nil ?_) ?_)) (a_cons (r_tup (a_cons (r_str ?_) (a_cons (r_tup (a_cons r_int' (a_cons r_int' a_nil ?_) ?_)) a_nil ?_) ?_)) a_nil ?_) ?_) ?_) ?_)) (a_cons r_bl' (a_cons (r_lst a_nil) a_nil ?_) ?_) ?_)) a_nil ?_) ?_) ?_)) ?_ ?_) (ss_cons (s_set ok rfl ?_ (r_bin (op := .add) ok (r_pk ok rfl ?_ ?_ ?_) (r_lst (a_cons (r_tup (a_cons (r_tup (a_cons (r_var ok rfl ?_ ?_ ?_) (a_cons (r_tup (a_cons (r_str ?_) (a_cons (r_tup (a_cons (r_var ok rfl ?_ ?_ ?_) a_nil ?_)) a_nil ?_) ?_)) (a_cons (r_tup (a_cons (r_str ?_) (a_cons (r_tup (a_cons r_int' (a_cons (r_tup (a_cons (r_str ?_) (a_cons (r_tup (a_cons r_int' a_nil ?_)) a_nil ?_) ?_)) a_nil ?_) ?_)) a_nil ?_) ?_)) a_nil ?_) ?_) ?_)) (a_cons r_bl' (a_cons (r_lst (a_cons (r_tup (a_cons (r_str ?_) (a_cons (r_tup (a_cons r_int' (a_cons (r_tup (a_cons (r_str ?_) (a_cons (r_tup (a_cons r_int' (a_cons r_int' a_nil ?_) ?_)) a_nil ?_) ?_)) a_nil ?_) ?_)) a_nil ?_) ?_)) (a_cons (r_tup (a_cons (r_str ?_) (a_cons (r_tup (a_cons r_int' (a_cons (r_var ok rfl ?_ ?_ ?_) a_nil ?_) ?_)) a_nil ?_) ?_)) (a_cons (r_tup (a_cons (r_str ?_) (a_cons (r_tup (a_cons r_int' (a_cons (r_var ok rfl ?_ ?_ ?_) a_nil ?_) ?_)) a_nil ?_) ?_)) (a_cons (r_tup (a_cons (r_str ?_) (a_cons (r_tup (a_cons (r_tup (a_cons (r_str ?_) (a_cons (r_tup (a_cons r_int' (a_cons r_int' a_nil ?_) ?_)) a_nil ?_) ?_)) a_nil ?_)) a_nil ?_) ?_)) (a_cons (r_tup (a_cons (r_str ?_) (a_cons (r_tup (a_cons (r_tup (a_cons (r_str ?_) (a_cons (r_tup (a_cons r_int' a_nil ?_)) a_nil ?_) ?_)) a_nil ?_)) a_nil ?_) ?_)) (a_cons (r_tup (a_cons (r_str ?_) (a_cons (r_tup (a_cons (r_var ok rfl ?_ ?_ ?_) a_nil ?_)) a_nil ?_) ?_)) (a_cons (r_var ok rfl ?_ ?_ ?_) a_nil ?_) ?_) ?_) ?_) ?_) ?_) ?_)) a_nil ?_) ?_) ?_)) a_nil ?_))) ?_ ?_) (ss_cons (s_set ok rfl ?_ (r_lst (a_cons (r_tup (a_cons (r_str ?_) (a_cons (r_tup (a_cons (r_tup (a_cons (r_str ?_) (a_cons (r_tup (a_cons r_int' (a_cons r_int' a_nil ?_) ?_)) a_nil ?_) ?_)) (a_cons (r_tup (a_cons (r_str ?_) (a_cons (r_tup (a_cons r_int' (a_cons r_int' a_nil ?_) ?_)) a_nil ?_) ?_)) a_nil ?_) ?_)) a_nil ?_) ?_)) (a_cons (r_tup (a_cons (r_str ?_) (a_cons (r_tup (a_cons (r_tup (a_cons (r_str ?_) (a_cons (r_tup (a_cons r_int' (a_cons r_int' a_nil ?_) ?_)) a_nil ?_) ?_)) (a_cons (r_tup (a_cons (r_str ?_) (a_cons (r_tup (a_cons r_int' a_nil ?_)) a_nil ?_) ?_)) a_nil ?_) ?_)) a_nil ?_) ?_)) (a_cons (r_tup (a_cons (r_str ?_) (a_cons (r_tup (a_cons (r_tup (a_cons (r_str ?_) (a_cons (r_tup (a_cons r_int' (a_cons r_int' a_nil ?_) ?_)) a_nil ?_) ?_)) (a_cons (r_var ok rfl ?_ ?_ ?_) a_nil ?_) ?_)) a_nil ?_) ?_)) (a_cons (r_tup (a_cons (r_str ?_) (a_cons (r_tup (a_cons (r_tup (a_cons (r_str ?_) (a_cons (r_tup (a_cons r_int' a_nil ?_)) a_nil ?_) ?_)) (a_cons (r_tup (a_cons (r_str ?_) (a_cons (r_tup (a_cons r_int' (a_cons r_int' a_nil ?_) ?_)) a_nil ?_) ?_)) a_nil ?_) ?_)) a_nil ?_) ?_)) (a_cons (r_tup (a_cons (r_str ?_) (a_cons (r_tup (a_cons (r_tup (a_cons (r_str ?_) (a_cons (r_tup (a_cons r_int' a_nil ?_)) a_nil ?_) ?_)) (a_cons (r_tup (a_cons (r_str ?_) (a_cons (r_tup (a_cons r_int' a_nil ?_)) a_nil ?_) ?_)) a_nil ?_) ?_)) a_nil ?_) ?_)) a_nil ?_) ?_) ?_) ?_) ?_)) ?_ ?_) (ss_cons (s_set ok rfl ?_ (r_bin (op := .add) ok (r_pk ok rfl ?_ ?_ ?_) (r_lst (a_cons (r_tup (a_cons (r_str ?_) (a_cons (r_tup (a_cons (r_tup (a_cons (r_str ?_) (a_cons (r_tup (a_cons r_int' a_nil ?_)) a_nil ?_) ?_)) (a_cons (r_var ok rfl ?_ ?_ ?_) a_nil ?_) ?_)) a_nil ?_) ?_)) (a_cons (r_tup (a_cons (r_str ?_) (a_cons (r_tup (a_cons (r_var ok rfl ?_ ?_ ?_) (a_cons (r_tup (a_cons (r_str ?_) (a_cons (r_tup (a_cons r_int' (a_cons r_int' a_nil ?_) ?_)) a_nil ?_) ?_)) a_nil ?_) ?_)) a_nil ?_) ?_)) (a_cons (r_tup (a_cons (r_str ?_) (a_cons (r_tup (a_cons (r_var ok rfl ?_ ?_ ?_) (a_cons (r_tup (a_cons (r_str ?_) (a_cons (r_tup (a_cons r_int' a_nil ?_)) a_nil ?_) ?_)) a_nil ?_) ?_)) a_nil ?_) ?_)) (a_cons (r_tup (a_cons (r_str ?_) (a_cons (r_tup (a_cons (r_var ok rfl ?_ ?_ ?_) (a_cons (r_var ok rfl ?_ ?_ ?_) a_nil ?_) ?_)) a_nil ?_) ?_)) (a_cons (r_tup (a_cons (r_str ?_) (a_cons (r_tup (a_cons r_int' a_nil ?_)) a_nil ?_) ?_)) (a_cons (r_var ok rfl ?_ ?_ ?_) (a_cons (r_var ok rfl ?_ ?_ ?_) a_nil ?_) ?_) ?_) ?_) ?_) ?_) ?_))) ?_ ?_) (ss_cons (s_set ok rfl ?_ (r_bin (op := .add) ok (r_pk ok rfl ?_ ?_ ?_) (r_lst (a_cons (r_tup (a_cons (r_tup (a_cons (r_tup (a_cons (r_str ?_) (a_cons (r_tup (a_cons (r_var ok rfl ?_ ?_ ?_) (a_cons r_int' a_nil ?_) ?_)) a_nil ?_) ?_)) (a_cons (r_tup (a_cons (r_str ?_) (a_cons (r_tup (a_cons r_int' (a_cons (r_var ok rfl ?_ ?_ ?_) a_nil ?_) ?_)) a_nil ?_) ?_)) a_nil ?_) ?_)) (a_cons r_bl' (a_cons (r_var ok rfl ?_ ?_ ?_) a_nil ?_) ?_) ?_)) a_nil ?_))) ?_ ?_) (ss_cons (s_par ok rfl rfl ?_ ?_ ?_ (r_lst a_nil) (r_lst a_nil) ?_ ?_ ?_ ?_) (ss_cons (s_for ok po (i_val ok (r_var ok rfl ?_ ?_ ?_)) (p_tup (n := 3) ok (pgs_cons (p_nm ok rfl ?_) (pgs_cons (p_nm ok rfl ?_) (pgs_cons (p_nm ok rfl ?_) pgs_nil ?_) ?_) ?_) ?_ ?_) (g_tup (g_cons g_nm (g_cons g_nm (g_cons g_nm g_nil))) ?_) (ss_cons (s_set ok rfl ?_ (r_ite (t_val ok (r_pk ok rfl ?_ ?_ ?_) ?_) (r_callD ok A F.f55 ?_ (a_cons (r_var ok rfl ?_ ?_ ?_) a_nil ?_) ?_ ?_ ?_) (r_var ok rfl ?_ ?_ ?_)) ?_ ?_) (ss_cons (s_set ok rfl ?_ (r_bin (op := .add) ok (r_pk ok rfl ?_ ?_ ?_) (r_lst (a_cons (r_callD ok A F.f33 ?_ (a_cons (r_var ok rfl ?_ ?_ ?_) (a_cons (r_var ok rfl ?_ ?_ ?_) a_nil ?_) ?_) ?_ ?_ ?_) (a_cons (r_callD ok A F.f34 ?_ (a_cons (r_var ok rfl ?_ ?_ ?_) (a_cons (r_var ok rfl ?_ ?_ ?_) a_nil ?_) ?_) ?_ ?_ ?_) (a_cons (r_callD ok A F.f57 ?_ (a_cons (r_ite (t_cmp (op := .ne) ok (r_pk ok rfl ?_ ?_ ?_) (r_lst a_nil) ?_) r_int' r_int') (a_cons (r_var ok rfl ?_ ?_ ?_) (a_cons (r_var ok rfl ?_ ?_ ?_) (a_cons r_non a_nil ?_) ?_) ?_) ?_) ?_ ?_ ?_) a_nil ?_) ?_) ?_))) ?_ ?_) (ss_one (s_set ok rfl ?_ (r_bin (op := .add) ok (r_pk ok rfl ?_ ?_ ?_) (r_lst (a_cons (r_var ok rfl ?_ ?_ ?_) (a_cons (r_var ok rfl ?_ ?_ ?_) (a_cons (r_lst (a_cons (r_str ?_) (a_cons r_bl' a_nil ?_) ?_)) a_nil ?_) ?_) ?_))) ?_ ?_)))) ?_) (ss_cons (s_set ok rfl ?_ (r_bin (op := .add) ok (r_pk ok rfl ?_ ?_ ?_) (r_lst (a_cons (r_callD ok A F.f37 ?_ (a_cons (r_var ok rfl ?_ ?_ ?_) (a_cons (r_tup a_nil) a_nil ?_) ?_) ?_ ?_ ?_) (a_cons (r_callD ok A F.f37 ?_ (a_cons (r_var ok rfl ?_ ?_ ?_) (a_cons (r_tup (a_cons (r_var ok rfl ?_ ?_ ?_) a_nil ?_)) a_nil ?_) ?_) ?_ ?_ ?_) (a_cons (r_callD ok A F.f37 ?_ (a_cons (r_var ok rfl ?_ ?_ ?_) (a_cons (r_tup (a_cons (r_var ok rfl ?_ ?_ ?_) (a_cons (r_var ok rfl ?_ ?_ ?_) a_nil ?_) ?_)) a_nil ?_) ?_) ?_ ?_ ?_) (a_cons (r_callD ok A F.f37 ?_ (a_cons (r_var ok rfl ?_ ?_ ?_) (a_cons (r_tup (a_cons (r_var ok rfl ?_ ?_ ?_) (a_cons (r_var ok rfl ?_ ?_ ?_) (a_cons (r_tup (a_cons (r_str ?_) (a_cons (r_tup (a_cons r_int' a_nil ?_)) a_nil ?_) ?_)) a_nil ?_) ?_) ?_)) a_nil ?_) ?_) ?_ ?_ ?_) (a_cons (r_callD ok A F.f37 ?_ (a_cons (r_var ok rfl ?_ ?_ ?_) (a_cons (r_tup (a_cons (r_var ok rfl ?_ ?_ ?_) (a_cons (r_var ok rfl ?_ ?_ ?_) (a_cons (r_tup (a_cons (r_str ?_) (a_cons (r_tup (a_cons (r_var ok rfl ?_ ?_ ?_) a_nil ?_)) a_nil ?_) ?_)) a_nil ?_) ?_) ?_)) a_nil ?_) ?_) ?_ ?_ ?_) a_nil ?_) ?_) ?_) ?_) ?_))) ?_ ?_) (ss_cons (s_set ok rfl ?_ (r_bin (op := .add) ok (r_pk ok rfl ?_ ?_ ?_) (r_lst (a_cons (r_callDk (ks := ["patterns", "book"]) (perm := [1, 0]) ok A F.f37 ?_ F.k37_patterns_book (k_cons (r_tup (a_cons (r_var ok rfl ?_ ?_ ?_) (a_cons (r_var ok rfl ?_ ?_ ?_) (a_cons (r_tup (a_cons (r_str ?_) (a_cons (r_tup (a_cons r_int' a_nil ?_)) a_nil ?_) ?_)) (a_cons (r_tup (a_cons (r_str ?_) (a_cons (r_tup (a_cons (r_var ok rfl ?_ ?_ ?_) (a_cons r_int' a_nil ?_) ?_)) a_nil ?_) ?_)) a_nil ?_) ?_) ?_) ?_)) (k_cons (r_var ok rfl ?_ ?_ ?_) k_nil)) ?_ ?_ ?_ ?_ ?_) a_nil ?_))) ?_ ?_) (ss_cons (s_set ok rfl ?_ (r_bin (op := .add) ok (r_pk ok rfl ?_ ?_ ?_) (r_lst (a_cons (r_var ok rfl ?_ ?_ ?_) (a_cons (r_var ok rfl ?_ ?_ ?_) (a_cons (r_tup (a_cons (r_str ?_) (a_cons (r_tup (a_cons (r_var ok rfl ?_ ?_ ?_) a_nil ?_)) a_nil ?_) ?_)) (a_cons (r_tup (a_cons (r_str ?_) (a_cons (r_tup (a_cons (r_var ok rfl ?_ ?_ ?_) (a_cons (r_var ok rfl ?_ ?_ ?_) a_nil ?_) ?_)) a_nil ?_) ?_)) (a_cons (r_tup (a_cons (r_str ?_) (a_cons (r_tup (a_cons (r_var ok rfl ?_ ?_ ?_) a_nil ?_)) a_nil ?_) ?_)) (a_cons (r_tup (a_cons (r_str ?_) (a_cons (r_tup (a_cons (r_var ok rfl ?_ ?_ ?_) (a_cons (r_var ok rfl ?_ ?_ ?_) a_nil ?_) ?_)) a_nil ?_) ?_)) a_nil ?_) ?_) ?_) ?_) ?_) ?_))) ?_ ?_) (ss_cons (s_set ok rfl ?_ (r_tup (a_cons (r_var ok rfl ?_ ?_ ?_) (a_cons (r_tup (a_cons (r_str ?_) (a_cons (r_tup (a_cons (r_var ok rfl ?_ ?_ ?_) a_nil ?_)) a_nil ?_) ?_)) (a_cons (r_tup (a_cons (r_str ?_) (a_cons (r_tup (a_cons r_int' (a_cons (r_tup (a_cons (r_str ?_) (a_cons (r_tup (a_cons r_int' a_nil ?_)) a_nil ?_) ?_)) a_nil ?_) ?_)) a_nil ?_) ?_)) a_nil ?_) ?_) ?_)) ?_ ?_) (ss_cons (s_set ok rfl ?_ (r_lst (a_cons (r_var ok rfl ?_ ?_ ?_) (a_cons (r_var ok rfl ?_ ?_ ?_) (a_cons (r_tup (a_cons (r_str ?_) (a_cons (r_tup (a_cons (r_var ok rfl ?_ ?_ ?_) a_nil ?_)) a_nil ?_) ?_)) (a_cons (r_tup (a_cons (r_str ?_) (a_cons (r_tup (a_cons (r_var ok rfl ?_ ?_ ?_) a_nil ?_)) a_nil ?_) ?_)) (a_cons (r_tup (a_cons (r_str ?_) (a_cons (r_tup (a_cons (r_var ok rfl ?_ ?_ ?_) (a_cons (r_tup (a_cons (r_str ?_) (a_cons (r_tup (a_cons (r_var ok rfl ?_ ?_ ?_) a_nil ?_)) a_nil ?_) ?_)) a_nil ?_) ?_)) a_nil ?_) ?_)) (a_cons (r_tup (a_cons (r_str ?_) (a_cons (r_tup (a_cons (r_var ok rfl ?_ ?_ ?_) (a_cons (r_var ok rfl ?_ ?_ ?_) a_nil ?_) ?_)) a_nil ?_) ?_)) (a_cons (r_tup (a_cons (r_str ?_) (a_cons (r_tup (a_cons r_int' a_nil ?_)) a_nil ?_) ?_)) (a_cons r_int' (a_cons (r_tup (a_cons (r_str ?_) (a_cons (r_tup a_nil) a_nil ?_) ?_)) (a_cons (r_lst (a_cons (r_str ?_) (a_cons (r_tup (a_cons (r_var ok rfl ?_ ?_ ?_) a_nil ?_)) a_nil ?_) ?_)) (a_cons r_non a_nil ?_) ?_) ?_) ?_) ?_) ?_) ?_) ?_) ?_) ?_) ?_)) ?_ ?_) (ss_cons (s_set ok rfl ?_ (r_bin (op := .add) ok (r_pk ok rfl ?_ ?_ ?_) (r_lst (a_cons (r_lc (own := [("thing", 15)]) (t := (.nm 15)) (cd := dCon (.bl true)) ok (i_val ok (r_var ok rfl ?_ ?_ ?_)) ?_ (fun s1 H1 C1 cl1 fp1 => (p_nm (ok_blk ok s1 H1 _ cl1 C1 fp1) rfl ?_)) g_nm ?_ (fun s1 H1 C1 cl1 fp1 => (pts_of (c := c) (.inl ⟨rfl, rfl⟩))) (fun s1 H1 C1 cl1 fp1 => (r_callD (ok_blk ok s1 H1 _ cl1 C1 fp1) A F.f38 ?_ (a_cons (r_var (ok_blk ok s1 H1 _ cl1 C1 fp1) rfl ?_ ?_ ?_) (a_cons (r_var (ok_blk ok s1 H1 _ cl1 C1 fp1) rfl ?_ ?_ ?_) (a_cons (r_var (ok_blk ok s1 H1 _ cl1 C1 fp1) rfl ?_ ?_ ?_) a_nil ?_) ?_) ?_) ?_ ?_ ?_)) ?_) (a_cons (r_callDk (ks := ["thing", "patterns", "book"]) (perm := [2, 1, 0]) ok A F.f38 ?_ F.k38_thing_patterns_book (k_cons (r_var ok rfl ?_ ?_ ?_) (k_cons (r_var ok rfl ?_ ?_ ?_) (k_cons (r_var ok rfl ?_ ?_ ?_) k_nil))) ?_ ?_ ?_ ?_ ?_) (a_cons (r_callD ok A F.f43 ?_ (a_cons (r_var ok rfl ?_ ?_ ?_) (a_cons (r_tup (a_cons (r_var ok rfl ?_ ?_ ?_) (a_cons r_int' (a_cons (r_var ok rfl ?_ ?_ ?_) a_nil ?_) ?_) ?_)) a_nil ?_) ?_) ?_ ?_ ?_) a_nil ?_) ?_) ?_))) ?_ ?_) (ss_cons (s_set ok rfl ?_ (r_bin (op := .add) ok (r_pk ok rfl ?_ ?_ ?_) (r_lst (a_cons (r_callD ok A F.f43 ?_ (a_cons (r_var ok rfl ?_ ?_ ?_) (a_cons (r_tup (a_cons (r_tup (a_cons (r_str ?_) (a_cons (r_tup (a_cons (r_var ok rfl ?_ ?_ ?_) a_nil ?_)) a_nil ?_) ?_)) (a_cons (r_tup (a_cons (r_str ?_) (a_cons (r_tup (a_cons (r_var ok rfl ?_ ?_ ?_) a_nil ?_)) a_nil ?_) ?_)) (a_cons (r_tup (a_cons (r_str ?_) (a_cons (r_tup (a_cons (r_tup (a_cons (r_str ?_) (a_cons (r_tup (a_cons r_int' a_nil ?_)) a_nil ?_) ?_)) a_nil ?_)) a_nil ?_) ?_)) (a_cons (r_tup (a_cons (r_str ?_) (a_cons (r_tup (a_cons (r_tup (a_cons (r_str ?_) (a_cons (r_tup (a_cons r_int' (a_cons r_int' a_nil ?_) ?_)) a_nil ?_) ?_)) a_nil ?_)) a_nil ?_) ?_)) (a_cons (r_tup (a_cons (r_str ?_) (a_cons (r_tup (a_cons r_int' a_nil ?_)) a_nil ?_) ?_)) (a_cons (r_tup (a_cons (r_str ?_) (a_cons (r_tup (a_cons (r_var ok rfl ?_ ?_ ?_) (a_cons (r_var ok rfl ?_ ?_ ?_) a_nil ?_) ?_)) a_nil ?_) ?_)) (a_cons (r_tup (a_cons (r_str ?_) (a_cons (r_tup (a_cons r_int' (a_cons (r_var ok rfl ?_ ?_ ?_) a_nil ?_) ?_)) a_nil ?_) ?_)) a_nil ?_) ?_) ?_) ?_) ?_) ?_) ?_)) a_nil ?_) ?_) ?_ ?_ ?_) a_nil ?_))) ?_ ?_) (ss_cons (s_set ok rfl ?_ (r_bin (op := .add) ok (r_pk ok rfl ?_ ?_ ?_) (r_lst (a_cons (r_callDk (ks := ["patterns", "book"]) (perm := [1, 0]) ok A F.f43 ?_ F.k43_patterns_book (k_cons (r_tup (a_cons (r_var ok rfl ?_ ?_ ?_) (a_cons (r_var ok rfl ?_ ?_ ?_) (a_cons (r_var ok rfl ?_ ?_ ?_) a_nil ?_) ?_) ?_)) (k_cons (r_var ok rfl ?_ ?_ ?_) k_nil)) ?_ ?_ ?_ ?_ ?_) a_nil ?_))) ?_ ?_) (ss_cons (s_set ok rfl ?_ (r_bin (op := .add) ok (r_pk ok rfl ?_ ?_ ?_) (r_lst (a_cons (r_bin (op := .add) ok (r_lst (a_cons r_bl' (a_cons r_bl' (a_cons r_bl' (a_cons r_bl' (a_cons r_bl' (a_cons r_bl' a_nil ?_) ?_) ?_) ?_) ?_) ?_)) (r_bin (op := .mul) ok (r_lst (a_cons r_bl' a_nil ?_)) r_int')) (a_cons r_bl' (a_cons (r_tup (a_cons r_int' a_nil ?_)) (a_cons (r_tup (a_cons r_int' a_nil ?_)) (a_cons (r_tup (a_cons r_int' (a_cons r_int' a_nil ?_) ?_)) a_nil ?_) ?_) ?_) ?_) ?_))) ?_ ?_) (ss_one (s_ret (r_callD ok A F.f54 ?_ (a_cons (r_var ok rfl ?_ ?_ ?_) (a_cons (r_var ok rfl ?_ ?_ ?_) a_nil ?_) ?_) ?_ ?_ ?_)))))))))))))))))))))
  all_goals first
    | rfl
    | (intro _; rfl)
    | (intro _ _; rfl)
    | exact gl ok (by decide +kernel)
    | exact gl (ok_blk ok _ _ _ _ _ _) (by decide +kernel)
    | exact gl (by assumption) (by decide +kernel)
    | exact (sw_env ok).trans rfl
    | exact (sw1_env ok).trans rfl
    | exact .inl (by decide +kernel)
    | exact .inl (hfn _)
    | exact .inr (by decide +kernel)
    | exact blk_of ok ⟨rfl, by decide +kernel, by decide +kernel, by decide +kernel, by decide +kernel⟩
    | decide +kernel

end Few.Wk
set_option Elab.async false
set_option linter.all false
set_option maxRecDepth 100000
set_option maxHeartbeats 4000000
namespace Few.Wk
open PySem PySem.Spec PyProof.Rows L2
theorem b59 {G : Gd} {dsc : Nat → Option Dsc} {d : Nat → Dsc} {ec : Nat → Addr} {bmB : List Value} {bs newId initId : String} (F : Fx G dsc d ec bmB bs newId initId) : BodyOk G ["soft", "told", "patterns", "given", "tree", "long_so", "things", "got", "due", "pairs", "counts", "book", "n", "o", "words", "thing", "one", "other", "both"] (defScope (top 78)) (defBody (top 78)) Few.Pg.c59 dsc := by
  intro k W X c ok po hst hfr hfn A
  refine (ss_cons (s_asgT (r_tup (a_cons (r_callD0 ok A F.f56 ?_ ?_) (a_cons (r_tup (a_cons (r_str ?_) (a_cons (r_tup a_nil) a_nil ?_) ?_)) (a_cons (r_tup (a_cons (r_str ?_) (a_cons (r_tup a_nil) a_nil ?_) ?_)) a_nil ?_) ?_) ?_)) (p_tup (n := 3) ok (pgs_cons (p_nm ok rfl ?_) (pgs_cons (p_nmc ok hfn rfl ?_) (pgs_cons (p_nm ok rfl ?_) pgs_nil ?_) ?_) ?_) ?_ ?_) (g_tup (g_cons g_nm (g_cons g_nm (g_cons g_nm g_nil))) ?_) ?_ ?_ ?_) (ss_cons (s_set ok rfl ?_ (r_ite (t_val ok (r_pk ok rfl ?_ ?_ ?_) ?_) (r_callD ok A F.f55 ?_ (a_cons (r_var ok rfl ?_ ?_ ?_) a_nil ?_) ?_ ?_ ?_) (r_var ok rfl ?_ ?_ ?_)) ?_ ?_) (ss_cons (s_set ok rfl ?_ (r_tup (a_cons (r_var ok rfl ?_ ?_ ?_) (a_cons (r_var ok rfl ?_ ?_ ?_) (a_cons (r_tup (a_cons (r_str ?_) (a_cons (r_tup (a_cons r_int' a_nil ?_)) a_nil ?_) ?_)) (a_cons (r_tup (a_cons (r_str ?_) (a_cons (r_tup (a_cons r_int' (a_cons (r_var ok rfl ?_ ?_ ?_) a_nil ?_) ?_)) a_nil ?_) ?_)) (a_cons (r_tup (a_cons (r_str ?_) (a_cons (r_tup (a_cons r_int' (a_cons r_int' a_nil ?_) ?_)) a_nil ?_) ?_)) a_nil ?_) ?_) ?_) ?_) ?_)) ?_ ?_) (ss_cons (s_set ok rfl ?_ (r_ite (t_val ok (r_pk ok rfl ?_ ?_ ?_) ?_) (r_callD ok A F.f55 ?_ (a_cons (r_var ok rfl ?_ ?_ ?_) a_nil ?_) ?_ ?_ ?_) (r_var ok rfl ?_ ?_ ?_)) ?_ ?_) (ss_cons (s_set ok rfl ?_ (r_tup (a_cons (r_str ?_) (a_cons (r_tup a_nil) (a_cons (r_tup (a_cons (r_tup (a_cons (r_str ?_) (a_cons r_int' a_nil ?_) ?_)) (a_cons (r_tup (a_cons (r_str ?_) (a_cons r_int' a_nil ?_) ?_)) (a_cons (r_tup (a_cons (r_str ?_) (a_cons r_int' a_nil ?_) ?_)) (a_cons (r_tup (a_cons (r_str ?_) (a_cons r_int' a_nil ?_) ?_)) a_nil ?_) ?_) ?_) ?_)) a_nil ?_) ?_) ?_)) ?_ ?_) (ss_cons (s_set ok rfl ?_ (r_tup (a_cons (r_str ?_) (a_cons (r_tup a_nil) (a_cons (r_tup (a_cons (r_tup (a_cons (r_str ?_) (a_cons (r_tup (a_cons r_int' a_nil ?_)) (a_cons (r_tup (a_cons (r_tup (a_cons (r_str ?_) (a_cons r_int' a_nil ?_) ?_)) (a_cons (r_tup (a_cons (r_str ?_) (a_cons r_int' a_nil ?_) ?_)) (a_cons (r_tup (a_cons (r_str ?_) (a_cons r_int' a_nil ?_) ?_)) (a_cons (r_tup (a_cons (r_str ?_) (a_cons r_int' a_nil ?_) ?_)) a_nil ?_) ?_) ?_) ?_)) a_nil ?_) ?_) ?_)) (a_cons (r_tup (a_cons (r_str ?_) (a_cons (r_tup (a_cons r_int' a_nil ?_)) (a_cons (r_bin (op := .mul) ok (r_tup (a_cons (r_tup (a_cons (r_str ?_) (a_cons r_int' a_nil ?_) ?_)) a_nil ?_)) r_int') a_nil ?_) ?_) ?_)) (a_cons (r_tup (a_cons (r_str ?_) (a_cons r_int' a_nil ?_) ?_)) (a_cons (r_tup (a_cons (r_str ?_) (a_cons r_int' a_nil ?_) ?_)) a_nil ?_) ?_) ?_) ?_)) a_nil ?_) ?_) ?_)) ?_ ?_) (ss_cons (s_set ok rfl ?_ (r_lst (a_cons (r_var ok rfl ?_ ?_ ?_) (a_cons (r_var ok rfl ?_ ?_ ?_) (a_cons (r_tup (a_cons (r_str ?_) (a_cons r_int' a_nil ?_) ?_)) (a_cons (r_tup (a_cons (r_str ?_) (a_cons (r_tup a_nil) (a_cons (r_tup (a_cons (r_tup (a_cons (r_str ?_) (a_cons r_int' a_nil ?_) ?_)) (a_cons (r_tup (a_cons (r_str ?_) (a_cons r_int' a_nil ?_) ?_)) (a_cons (r_tup (a_cons (r_str ?_) (a_cons r_int' a_nil ?_) ?_)) a_nil ?_) ?_) ?_)) a_nil ?_) ?_) ?_)) (a_cons (r_tup (a_cons (r_str ?_) (a_cons (r_tup a_nil) (a_cons (r_tup (a_cons (r_tup (a_cons (r_str ?_) (a_cons r_int' a_nil ?_) ?_)) (a_cons (r_tup (a_cons (r_str ?_) (a_cons r_int' a_nil ?_) ?_)) (a_cons (r_tup (a_cons (r_str ?_) (a_cons r_int' a_nil ?_) ?_)) (a_cons (r_tup (a_cons (r_str ?_) (a_cons r_int' a_nil ?_) ?_)) a_nil ?_) ?_) ?_) ?_)) a_nil ?_) ?_) ?_)) a_nil ?_) ?_) ?_) ?_) ?_)) ?_ ?_) (ss_cons (s_set ok rfl ?_ (r_bin (op := .add) ok (r_pk ok rfl ?_ ?_ ?_) (r_lst (a_cons (r_tup (a_cons (r_str ?_) (a_cons (r_tup (a_cons r_int' a_nil ?_)) (a_cons (r_bin (op := .mul) ok (r_tup (a_cons (r_tup (a_cons (r_str ?_) (a_cons r_int' a_nil ?_) ?_)) a_nil ?_)) r_int') a_nil ?_) ?_) ?_)) (a_cons (r_tup (a_cons (r_str ?_) (a_cons (r_tup a_nil) (a_cons (r_lst (a_cons (r_tup (a_cons (r_str ?_) (a_cons r_int' a_nil ?_) ?_)) (a_cons (r_tup (a_cons (r_str ?_) (a_cons r_int' a_nil ?_) ?_)) (a_cons (r_tup (a_cons (r_str ?_) (a_cons r_int' a_nil ?_) ?_)) (a_cons (r_tup (a_cons (r_str ?_) (a_cons r_int' a_nil ?_) ?_)) a_nil ?_) ?_) ?_) ?_)) a_nil ?_) ?_) ?_)) (a_cons (r_lst (a_cons (r_str ?_) (a_cons r_int' a_nil ?_) ?_)) (a_cons (r_tup (a_cons (r_str ?_) (a_cons r_int' a_nil ?_) ?_)) (a_cons (r_tup (a_cons (r_str ?_) (a_cons (r_neg ok r_int') a_nil ?_) ?_)) (a_cons (r_tup (a_cons (r_str ?_) (a_cons r_bl' a_nil ?_) ?_)) (a_cons r_non a_nil ?_) ?_) ?_) ?_) ?_) ?_) ?_))) ?_ ?_) (ss_cons (s_set ok rfl ?_ (r_bin (op := .add) ok (r_pk ok rfl ?_ ?_ ?_) (r_lst (a_cons (r_tup (a_cons (r_str ?_) (a_cons (r_tup a_nil) (a_cons (r_tup (a_cons (r_tup (a_cons (r_str ?_) (a_cons (r_tup a_nil) (a_cons (r_bin (op := .mul) ok (r_tup (a_cons (r_tup (a_cons (r_str ?_) (a_cons r_int' a_nil ?_) ?_)) a_nil ?_)) r_int') a_nil ?_) ?_) ?_)) (a_cons (r_tup (a_cons (r_str ?_) (a_cons r_int' a_nil ?_) ?_)) (a_cons (r_tup (a_cons (r_str ?_) (a_cons r_int' a_nil ?_) ?_)) (a_cons (r_tup (a_cons (r_str ?_) (a_cons r_int' a_nil ?_) ?_)) a_nil ?_) ?_) ?_) ?_)) a_nil ?_) ?_) ?_)) (a_cons (r_tup (a_cons (r_str ?_) (a_cons (r_tup a_nil) (a_cons (r_sub ok (r_pk ok rfl ?_ ?_ ?_) r_int' ?_) a_nil ?_) ?_) ?_)) a_nil ?_) ?_))) ?_ ?_) (ss_cons (s_set ok rfl ?_ (r_lst (a_cons (r_lc (own := [("thing", 15)]) (t := (.nm 15)) (cd := dCon (.bl true)) ok (i_val ok (r_var ok rfl ?_ ?_ ?_)) ?_ (fun s1 H1 C1 cl1 fp1 => (p_nm (ok_blk ok s1 H1 _ cl1 C1 fp1) rfl ?_)) g_nm ?_ (fun s1 H1 C1 cl1 fp1 => (pts_of (c := c) (.inl ⟨rfl, rfl⟩))) (fun s1 H1 C1 cl1 fp1 => (r_callD (ok_blk ok s1 H1 _ cl1 C1 fp1) A F.f42 ?_ (a_cons (r_var (ok_blk ok s1 H1 _ cl1 C1 fp1) rfl ?_ ?_ ?_) (a_cons (r_var (ok_blk ok s1 H1 _ cl1 C1 fp1) rfl ?_ ?_ ?_) (a_cons (r_var (ok_blk ok s1 H1 _ cl1 C1 fp1) rfl ?_ ?_ ?_) a_nil ?_) ?_) ?_) ?_ ?_ ?_)) ?_) (a_cons (r_callDk (ks := ["thing", "patterns", "book"]) (perm := [2, 1, 0]) ok A F.f42 ?_ F.k42_thing_patterns_book (k_cons (r_var ok rfl ?_ ?_ ?_) (k_cons (r_var ok rfl ?_ ?_ ?_) (k_cons (r_var ok rfl ?_ ?_ ?_) k_nil))) ?_ ?_ ?_ ?_ ?_) (a_cons (r_callD ok A F.f42 ?_ (a_cons (r_var ok rfl ?_ ?_ ?_) (a_cons (r_var ok rfl ?_ ?_ ?_) (a_cons (r_callD ok A F.f40 ?_ (a_cons (r_var ok rfl ?_ ?_ ?_) (a_cons (r_var ok rfl ?_ ?_ ?_) a_nil ?_) ?_) ?_ ?_ ?_) a_nil ?_) ?_) ?_) ?_ ?_ ?_) a_nil ?_) ?_) ?_)) ?_ ?_) (ss_cons (s_set ok rfl ?_ (r_bin (op := .add) ok (r_pk ok rfl ?_ ?_ ?_) (r_lst (a_cons (r_callDk (ks := ["patterns", "book"]) (perm := [1, 0]) ok A F.f40 ?_ F.k40_patterns_book (k_cons (r_tup (a_cons r_int' a_nil ?_)) (k_cons (r_var ok rfl ?_ ?_ ?_) k_nil)) ?_ ?_ ?_ ?_ ?_) (a_cons (r_callD ok A F.f42 ?_ (a_cons (r_var ok rfl ?_ ?_ ?_) (a_cons (r_tup (a_cons r_int' (a_cons (r_var ok rfl ?_ ?_ ?_) a_nil ?_) ?_)) (a_cons (r_tup (a_cons (r_str ?_) (a_cons r_int' a_nil ?_) ?_)) a_nil ?_) ?_) ?_) ?_ ?_ ?_) (a_cons (r_callD ok A F.f42 ?_ (a_cons (r_var ok rfl ?_ ?_ ?_) (a_cons (r_tup (a_cons r_int' (a_cons (r_var ok rfl ?_ ?_ ?_) a_nil ?_) ?_)) (a_cons (r_tup (a_cons (r_str ?_) (a_cons r_int' a_nil ?_) ?_)) a_nil ?_) ?_) ?_) ?_ ?_ ?_) a_nil ?_) ?_) ?_))) ?_ ?_) (ss_cons (s_set ok rfl ?_ (r_lst (a_cons (r_bin (op := .add) ok (r_lst (a_cons r_bl' (a_cons r_bl' a_nil ?_) ?_)) (r_bin (op := .mul) ok (r_lst (a_cons r_bl' a_nil ?_)) r_int')) (a_cons r_bl' (a_cons r_bl' (a_cons (r_tup (a_cons (r_str ?_) (a_cons r_int' a_nil ?_) ?_)) (a_cons r_bl' (a_cons r_bl' a_nil ?_) ?_) ?_) ?_) ?_) ?_)) ?_ ?_) (ss_cons (s_set ok rfl ?_ (r_lst (a_cons (r_tup (a_cons (r_tup (a_cons (r_str ?_) (a_cons (r_tup (a_cons r_int' (a_cons (r_var ok rfl ?_ ?_ ?_) a_nil ?_) ?_)) a_nil ?_) ?_)) (a_cons (r_tup (a_cons (r_str ?_) (a_cons (r_tup (a_cons (r_tup (a_cons (r_str ?_) (a_cons (r_tup (a_cons r_int' a_nil ?_)) a_nil ?_) ?_)) (a_cons r_int' a_nil ?_) ?_)) a_nil ?_) ?_)) (a_cons (r_tup (a_cons (r_str ?_) (a_cons (r_tup (a_cons (r_tup (a_cons (r_str ?_) (a_cons (r_tup (a_cons r_int' a_nil ?_)) a_nil ?_) ?_)) (a_cons (r_var ok rfl ?_ ?_ ?_) a_nil ?_) ?_)) a_nil ?_) ?_)) a_nil ?_) ?_) ?_)) (a_cons (r_tup (a_cons r_int' (a_cons r_int' (a_cons r_int' a_nil ?_) ?_) ?_)) (a_cons (r_tup (a_cons (r_tup (a_cons (r_str ?_) (a_cons (r_tup (a_cons r_int' a_nil ?_)) a_nil ?_) ?_)) (a_cons r_int' (a_cons (r_tup (a_cons (r_str ?_) (a_cons (r_tup (a_cons r_int' a_nil ?_)) a_nil ?_) ?_)) a_nil ?_) ?_) ?_)) (a_cons (r_tup (a_cons (r_var ok rfl ?_ ?_ ?_) (a_cons r_int' (a_cons (r_var ok rfl ?_ ?_ ?_) a_nil ?_) ?_) ?_)) a_nil ?_) ?_) ?_) ?_)) ?_ ?_) (ss_cons (s_set ok rfl ?_ (r_bin (op := .add) ok (r_pk ok rfl ?_ ?_ ?_) (r_lst (a_cons (r_tup (a_cons (r_tup (a_cons (r_str ?_) (a_cons (r_tup (a_cons r_int' (a_cons r_int' a_nil ?_) ?_)) a_nil ?_) ?_)) (a_cons (r_tup (a_cons (r_str ?_) (a_cons (r_tup (a_cons (r_tup (a_cons (r_str ?_) (a_cons (r_tup (a_cons r_int' (a_cons r_int' a_nil ?_) ?_)) a_nil ?_) ?_)) (a_cons r_int' a_nil ?_) ?_)) a_nil ?_) ?_)) (a_cons (r_tup (a_cons (r_str ?_) (a_cons (r_tup (a_cons (r_tup (a_cons (r_str ?_) (a_cons (r_tup (a_cons r_int' (a_cons r_int' a_nil ?_) ?_)) a_nil ?_) ?_)) (a_cons r_int' a_nil ?_) ?_)) a_nil ?_) ?_)) a_nil ?_) ?_) ?_)) a_nil ?_))) ?_ ?_) (ss_cons (s_set ok rfl ?_ (r_bin (op := .add) ok (r_pk ok rfl ?_ ?_ ?_) (r_lst (a_cons (r_lc (own := [("one", 16), ("other", 17), ("both", 18)]) (t := (.cons (.nm 16) (.cons (.nm 17) (.cons (.nm 18) .nil)))) (cd := dCon (.bl true)) ok (i_val ok (r_var ok rfl ?_ ?_ ?_)) ?_ (fun s1 H1 C1 cl1 fp1 => (p_tup (n := 3) (ok_blk ok s1 H1 _ cl1 C1 fp1) (pgs_cons (p_nm (ok_blk ok s1 H1 _ cl1 C1 fp1) rfl ?_) (pgs_cons (p_nm (ok_blk ok s1 H1 _ cl1 C1 fp1) rfl ?_) (pgs_cons (p_nm (ok_blk ok s1 H1 _ cl1 C1 fp1) rfl ?_) pgs_nil ?_) ?_) ?_) ?_ ?_)) (g_tup (g_cons g_nm (g_cons g_nm (g_cons g_nm g_nil))) ?_) ?_ (fun s1 H1 C1 cl1 fp1 => (pts_of (c := c) (.inl ⟨rfl, rfl⟩))) (fun s1 H1 C1 cl1 fp1 => (r_callD (ok_blk ok s1 H1 _ cl1 C1 fp1) A F.f44 ?_ (a_cons (r_var (ok_blk ok s1 H1 _ cl1 C1 fp1) rfl ?_ ?_ ?_) (a_cons (r_ite (t_val (ok_blk ok s1 H1 _ cl1 C1 fp1) (r_pk (ok_blk ok s1 H1 _ cl1 C1 fp1) rfl ?_ ?_ ?_) ?_) (r_callD (ok_blk ok s1 H1 _ cl1 C1 fp1) A F.f55 ?_ (a_cons (r_var (ok_blk ok s1 H1 _ cl1 C1 fp1) rfl ?_ ?_ ?_) a_nil ?_) ?_ ?_ ?_) (r_var (ok_blk ok s1 H1 _ cl1 C1 fp1) rfl ?_ ?_ ?_)) (a_cons (r_var (ok_blk ok s1 H1 _ cl1 C1 fp1) rfl ?_ ?_ ?_) a_nil ?_) ?_) ?_) ?_ ?_ ?_)) ?_) (a_cons (r_callDk (ks := ["other", "one", "book"]) (perm := [2, 1, 0]) ok A F.f44 ?_ F.k44_other_one_book (k_cons (r_var ok rfl ?_ ?_ ?_) (k_cons r_int' (k_cons (r_var ok rfl ?_ ?_ ?_) k_nil))) ?_ ?_ ?_ ?_ ?_) (a_cons (r_callD ok A F.f57 ?_ (a_cons r_int' (a_cons (r_var ok rfl ?_ ?_ ?_) (a_cons (r_var ok rfl ?_ ?_ ?_) (a_cons (r_var ok rfl ?_ ?_ ?_) a_nil ?_) ?_) ?_) ?_) ?_ ?_ ?_) a_nil ?_) ?_) ?_))) ?_ ?_) (ss_cons (s_set ok rfl ?_ (r_bin (op := .add) ok (r_pk ok rfl ?_ ?_ ?_) (r_lst (a_cons (r_callD ok A F.f57 ?_ (a_cons r_int' (a_cons (r_var ok rfl ?_ ?_ ?_) (a_cons (r_tup (a_cons (r_str ?_) (a_cons (r_tup (a_cons r_int' (a_cons (r_var ok rfl ?_ ?_ ?_) a_nil ?_) ?_)) a_nil ?_) ?_)) (a_cons (r_tup (a_cons (r_str ?_) (a_cons (r_tup (a_cons r_int' (a_cons (r_tup (a_cons (r_str ?_) (a_cons (r_tup (a_cons r_int' a_nil ?_)) a_nil ?_) ?_)) a_nil ?_) ?_)) a_nil ?_) ?_)) a_nil ?_) ?_) ?_) ?_) ?_ ?_ ?_) a_nil ?_))) ?_ ?_) (ss_cons (s_set ok rfl ?_ (r_bin (op := .add) ok (r_pk ok rfl ?_ ?_ ?_) (r_lst (a_cons (r_lc (own := [("one", 16), ("other", 17), ("both", 18)]) (t := (.cons (.nm 16) (.cons (.nm 17) (.cons (.nm 18) .nil)))) (cd := dCon (.bl true)) ok (i_val ok (r_var ok rfl ?_ ?_ ?_)) ?_ (fun s1 H1 C1 cl1 fp1 => (p_tup (n := 3) (ok_blk ok s1 H1 _ cl1 C1 fp1) (pgs_cons (p_nm (ok_blk ok s1 H1 _ cl1 C1 fp1) rfl ?_) (pgs_cons (p_nm (ok_blk ok s1 H1 _ cl1 C1 fp1) rfl ?_) (pgs_cons (p_nm (ok_blk ok s1 H1 _ cl1 C1 fp1) rfl ?_) pgs_nil ?_) ?_) ?_) ?_ ?_)) (g_tup (g_cons g_nm (g_cons g_nm (g_cons g_nm g_nil))) ?_) ?_ (fun s1 H1 C1 cl1 fp1 => (pts_of (c := c) (.inl ⟨rfl, rfl⟩))) (fun s1 H1 C1 cl1 fp1 => (r_var (ok_blk ok s1 H1 _ cl1 C1 fp1) rfl ?_ ?_ ?_)) ?_) (a_cons (r_var ok rfl ?_ ?_ ?_) (a_cons (r_lst (a_cons (r_str ?_) (a_cons r_bl' a_nil ?_) ?_)) (a_cons (r_lst (a_cons (r_str ?_) (a_cons r_bl' a_nil ?_) ?_)) a_nil ?_) ?_) ?_) ?_))) ?_ ?_) (ss_cons (s_set ok rfl ?_ (r_bin (op := .add) ok (r_pk ok rfl ?_ ?_ ?_) (r_lst (a_cons (r_callD ok A F.f45 ?_ (a_cons (r_var ok rfl ?_ ?_ ?_) (a_cons r_int' (a_cons (r_var ok rfl ?_ ?_ ?_) a_nil ?_) ?_) ?_) ?_ ?_ ?_) (a_cons (r_callD ok A F.f45 ?_ (a_cons (r_var ok rfl ?_ ?_ ?_) (a_cons (r_tup (a_cons (r_str ?_) (a_cons (r_tup (a_cons r_int' a_nil ?_)) a_nil ?_) ?_)) (a_cons (r_tup (a_cons (r_str ?_) (a_cons (r_tup (a_cons (r_tup (a_cons (r_str ?_) (a_cons (r_tup (a_cons r_int' a_nil ?_)) a_nil ?_) ?_)) a_nil ?_)) a_nil ?_) ?_)) a_nil ?_) ?_) ?_) ?_ ?_ ?_) (a_cons (r_callD ok A F.f45 ?_ (a_cons (r_var ok rfl ?_ ?_ ?_) (a_cons (r_var ok rfl ?_ ?_ ?_) (a_cons r_int' a_nil ?_) ?_) ?_) ?_ ?_ ?_) (a_cons (r_callD ok A F.f45 ?_ (a_cons (r_var ok rfl ?_ ?_ ?_) (a_cons (r_tup (a_cons (r_str ?_) (a_cons (r_tup (a_cons r_int' (a_cons (r_var ok rfl ?_ ?_ ?_) a_nil ?_) ?_)) a_nil ?_) ?_)) (a_cons (r_var ok rfl ?_ ?_ ?_) a_nil ?_) ?_) ?_) ?_ ?_ ?_) a_nil ?_) ?_) ?_) ?_))) ?_ ?_) (ss_cons (s_set ok rfl ?_ (r_bin (op := .add) ok (r_pk ok rfl ?_ ?_ ?_) (r_lst (a_cons (r_slc ok (r_callDk (ks := ["other", "one", "book"]) (perm := [2, 1, 0]) ok A F.f45 ?_ F.k45_other_one_book (k_cons (r_tup (a_cons (r_str ?_) (a_cons (r_tup (a_cons (r_var ok rfl ?_ ?_ ?_) (a_cons (r_var ok rfl ?_ ?_ ?_) a_nil ?_) ?_)) a_nil ?_) ?_)) (k_cons (r_tup (a_cons (r_str ?_) (a_cons (r_tup (a_cons r_int' (a_cons r_int' a_nil ?_) ?_)) a_nil ?_) ?_)) (k_cons (r_var ok rfl ?_ ?_ ?_) k_nil))) ?_ ?_ ?_ ?_ ?_) (.som (r_neg ok r_int')) .non) a_nil ?_))) ?_ ?_) (ss_cons (s_set ok rfl ?_ (r_bin (op := .add) ok (r_pk ok rfl ?_ ?_ ?_) (r_lst (a_cons (r_lst (a_cons (r_tup (a_cons (r_str ?_) (a_cons (r_tup (a_cons r_int' (a_cons r_int' a_nil ?_) ?_)) a_nil ?_) ?_)) (a_cons (r_tup (a_cons (r_str ?_) (a_cons (r_tup (a_cons r_int' a_nil ?_)) a_nil ?_) ?_)) (a_cons (r_var ok rfl ?_ ?_ ?_) a_nil ?_) ?_) ?_)) (a_cons (r_lst (a_cons (r_tup (a_cons (r_str ?_) (a_cons (r_tup (a_cons (r_tup (a_cons (r_str ?_) (a_cons (r_tup (a_cons r_int' (a_cons r_int' a_nil ?_) ?_)) a_nil ?_) ?_)) a_nil ?_)) a_nil ?_) ?_)) (a_cons (r_tup (a_cons (r_str ?_) (a_cons (r_tup (a_cons (r_var ok rfl ?_ ?_ ?_) a_nil ?_)) a_nil ?_) ?_)) (a_cons (r_tup (a_cons (r_str ?_) (a_cons (r_tup (a_cons (r_var ok rfl ?_ ?_ ?_) a_nil ?_)) a_nil ?_) ?_)) a_nil ?_) ?_) ?_)) (a_cons (r_lst a_nil) (a_cons (r_lst (a_cons (r_tup (a_cons (r_str ?_) (a_cons (r_tup (a_cons r_int' (a_cons (r_var ok rfl ?_ ?_ ?_) a_nil ?_) ?_)) a_nil ?_) ?_)) a_nil ?_)) (a_cons (r_lst (a_cons (r_tup (a_cons (r_str ?_) (a_cons (r_tup (a_cons (r_var ok rfl ?_ ?_ ?_) (a_cons r_int' a_nil ?_) ?_)) a_nil ?_) ?_)) a_nil ?_)) a_nil ?_) ?_) ?_) ?_) ?_))) ?_ ?_) (ss_cons (s_setLc (own := [("words", 14)]) (t := (.nm 14)) (cd := dCon (.bl true)) ok rfl ?_ ?_ (i_range1 ok ?_ F.b_range r_int' ?_) ?_ (fun s1 H1 C1 cl1 fp1 => (p_nm (ok_blk ok s1 H1 _ cl1 C1 fp1) rfl ?_)) g_nm ?_ (fun s1 H1 C1 cl1 fp1 => (pts_of (c := c) (.inl ⟨rfl, rfl⟩))) (fun s1 H1 C1 cl1 fp1 => (r_callD (ok_blk ok s1 H1 _ cl1 C1 fp1) A F.f49 ?_ (a_cons (r_var (ok_blk ok s1 H1 _ cl1 C1 fp1) rfl ?_ ?_ ?_) (a_cons (r_var (ok_blk ok s1 H1 _ cl1 C1 fp1) rfl ?_ ?_ ?_) a_nil ?_) ?_) ?_ ?_ ?_)) ?_) (ss_cons (s_set ok rfl ?_ (r_bin (op := .add) ok (r_pk ok rfl ?_ ?_ ?_) (r_lst (a_cons (r_var ok rfl ?_ ?_ ?_) (a_cons (r_callDk (ks := ["words", "book"]) (perm := [1, 0]) ok A F.f49 ?_ F.k49_words_book (k_cons r_int' (k_cons (r_var ok rfl ?_ ?_ ?_) k_nil)) ?_ ?_ ?_ ?_ ?_) (a_cons (r_lc (own := [("words", 14)]) (t := (.nm 14)) (cd := dCon (.bl true)) ok (i_range1 ok ?_ F.b_range r_int' ?_) ?_ (fun s1 H1 C1 cl1 fp1 => (p_nm (ok_blk ok s1 H1 _ cl1 C1 fp1) rfl ?_)) g_nm ?_ (fun s1 H1 C1 cl1 fp1 => (pts_of (c := c) (.inl ⟨rfl, rfl⟩))) (fun s1 H1 C1 cl1 fp1 => (r_callD (ok_blk ok s1 H1 _ cl1 C1 fp1) A F.f50 ?_ (a_cons (r_var (ok_blk ok s1 H1 _ cl1 C1 fp1) rfl ?_ ?_ ?_) (a_cons (r_var (ok_blk ok s1 H1 _ cl1 C1 fp1) rfl ?_ ?_ ?_) (a_cons (r_var (ok_blk ok s1 H1 _ cl1 C1 fp1) rfl ?_ ?_ ?_) a_nil ?_) ?_) ?_) ?_ ?_ ?_)) ?_) a_nil ?_) ?_) ?_))) ?_ ?_) (ss_cons (s_set ok rfl ?_ (r_bin (op := .add) ok (r_pk ok rfl ?_ ?_ ?_) (r_lst (a_cons (r_lc (own := [("words", 14)]) (t := (.nm 14)) (cd := dCon (.bl true)) ok (i_range1 ok ?_ F.b_range r_int' ?_) ?_ (fun s1 H1 C1 cl1 fp1 => (p_nm (ok_blk ok s1 H1 _ cl1 C1 fp1) rfl ?_)) g_nm ?_ (fun s1 H1 C1 cl1 fp1 => (pts_of (c := c) (.inl ⟨rfl, rfl⟩))) (fun s1 H1 C1 cl1 fp1 => (r_callD (ok_blk ok s1 H1 _ cl1 C1 fp1) A F.f50 ?_ (a_cons (r_var (ok_blk ok s1 H1 _ cl1 C1 fp1) rfl ?_ ?_ ?_) (a_cons (r_tup (a_cons (r_var (ok_blk ok s1 H1 _ cl1 C1 fp1) rfl ?_ ?_ ?_) (a_cons (r_tup (a_cons (r_str ?_) (a_cons (r_tup (a_cons r_int' a_nil ?_)) a_nil ?_) ?_)) a_nil ?_) ?_)) (a_cons (r_var (ok_blk ok s1 H1 _ cl1 C1 fp1) rfl ?_ ?_ ?_) a_nil ?_) ?_) ?_) ?_ ?_ ?_)) ?_) (a_cons (r_lc (own := [("words", 14)]) (t := (.nm 14)) (cd := dCon (.bl true)) ok (i_range1 ok ?_ F.b_range r_int' ?_) ?_ (fun s1 H1 C1 cl1 fp1 => (p_nm (ok_blk ok s1 H1 _ cl1 C1 fp1) rfl ?_)) g_nm ?_ (fun s1 H1 C1 cl1 fp1 => (pts_of (c := c) (.inl ⟨rfl, rfl⟩))) (fun s1 H1 C1 cl1 fp1 => (r_callD (ok_blk ok s1 H1 _ cl1 C1 fp1) A F.f50 ?_ (a_cons (r_var (ok_blk ok s1 H1 _ cl1 C1 fp1) rfl ?_ ?_ ?_) (a_cons (r_tup (a_cons (r_tup (a_cons (r_str ?_) (a_cons (r_tup (a_cons r_int' (a_cons (r_var (ok_blk ok s1 H1 _ cl1 C1 fp1) rfl ?_ ?_ ?_) a_nil ?_) ?_)) a_nil ?_) ?_)) a_nil ?_)) (a_cons (r_var (ok_blk ok s1 H1 _ cl1 C1 fp1) rfl ?_ ?_ ?_) a_nil ?_) ?_) ?_) ?_ ?_ ?_)) ?_) a_nil ?_) ?_))) ?_ ?_) (ss_cons (s_set ok rfl ?_ (r_bin (op := .add) ok (r_pk ok rfl ?_ ?_ ?_) (r_lst (a_cons (r_callDk (ks := ["words", "patterns", "book"]) (perm := [2, 1, 0]) ok A F.f50 ?_ F.k50_words_patterns_book (k_cons r_int' (k_cons (r_tup a_nil) (k_cons (r_var ok rfl ?_ ?_ ?_) k_nil))) ?_ ?_ ?_ ?_ ?_) a_nil ?_))) ?_ ?_) (ss_cons (s_set ok rfl ?_ (r_bin (op := .add) ok (r_pk ok rfl ?_ ?_ ?_) (r_lst (a_cons (r_lst (a_cons r_int' (a_cons r_int' (a_cons r_int' (a_cons r_int' (a_cons r_int' (a_cons r_int' a_nil ?_) ?_) ?_) ?_) ?_) ?_)) (a_cons r_int' (a_cons (r_lst (a_cons r_int' (a_cons r_int' (a_cons r_int' (a_cons r_int' (a_cons r_int' a_nil ?_) ?_) ?_) ?_) ?_)) (a_cons (r_lst (a_cons r_int' (a_cons r_int' (a_cons r_int' (a_cons r_int' (a_cons r_int' a_nil ?_) ?_) ?_) ?_) ?_)) (a_cons (r_lst (a_cons r_int' (a_cons r_int' (a_cons r_int' (a_cons r_int' (a_cons r_int' (a_cons r_int' a_nil ?_) ?_) ?_) ?_) ?_) ?_)) (a_cons r_int' a_nil ?_) ?_) ?_) ?_) ?_) ?_))) ?_ ?_) (ss_one (s_ret (r_callD ok A F.f54 ?_ (a_cons (r_var ok rfl ?_ ?_ ?_) (a_cons (r_var ok rfl ?_ ?_ ?_) a_nil ?_) ?_) ?_ ?_ ?_))))))))))))))))))))))))))))
  all_goals first
    | rfl
    | (intro _; rfl)
    | (intro _ _; rfl)
    | exact gl ok (by decide +kernel)
    | exact gl (ok_blk ok _ _ _ _ _ _) (by decide +kernel)
    | exact gl (by assumption) (by decide +kernel)
    | exact (sw_env ok).trans rfl
    | exact (sw1_env ok).trans rfl
    | exact .inl (by decide +kernel)
    | exact .inl (hfn _)
    | exact .inr (by decide +kernel)
    | exact blk_of ok ⟨rfl, by decide +kernel, by decide +kernel, by decide +kernel, by decide +kernel⟩
    | decide +kernel

end Few.Wk
set_option Elab.async false
set_option linter.all false
set_option maxRecDepth 100000
set_option maxHeartbeats 4000000
namespace Few.Wk
open PySem PySem.Spec PyProof.Rows L2
theorem b60 {G : Gd} {dsc : Nat → Option Dsc} {d : Nat → Dsc} {ec : Nat → Addr} {bmB : List Value} {bs newId initId : String} (F : Fx G dsc d ec bmB bs newId initId) : BodyOk G ["script", "urn", "bad", "got", "due", "soft", "part", "book", "n", "o", "door"] (defScope (top 79)) (defBody (top 79)) Few.Pg.c60 dsc := by
  intro k W X c ok po hst hfr hfn A
  refine (ss_cons (s_set ok rfl ?_ (r_callD ok A F.f51 ?_ (a_cons (r_callD ok A F.f53 ?_ (a_cons (r_var ok rfl ?_ ?_ ?_) (a_cons r_int' a_nil ?_) ?_) ?_ ?_ ?_) (a_cons r_int' a_nil ?_) ?_) ?_ ?_ ?_) ?_ ?_) (ss_cons (s_par ok rfl rfl ?_ ?_ ?_ (r_cmp (op := .eq) ok (r_callD ok A F.f52 ?_ (a_cons (r_var ok rfl ?_ ?_ ?_) (a_cons r_int' a_nil ?_) ?_) ?_ ?_ ?_) r_int' ?_) (r_callD ok A F.f52 ?_ (a_cons (r_var ok rfl ?_ ?_ ?_) (a_cons r_int' a_nil ?_) ?_) ?_ ?_ ?_) ?_ ?_ ?_ ?_) (ss_cons (s_if (t_cmp (op := .lt) ok (r_pk ok rfl ?_ ?_ ?_) r_int' ?_) (ss_one (s_ret (r_ite (t_cmp (op := .eq) ok (r_pk ok rfl ?_ ?_ ?_) r_int' ?_) (r_callD ok A F.f58 ?_ (a_cons (r_var ok rfl ?_ ?_ ?_) a_nil ?_) ?_ ?_ ?_) (r_callD ok A F.f59 ?_ (a_cons (r_var ok rfl ?_ ?_ ?_) a_nil ?_) ?_ ?_ ?_)))) ss_nil) (ss_cons (s_asgT (r_tup (a_cons (r_callD0 ok A F.f56 ?_ ?_) (a_cons (r_tup (a_cons (r_str ?_) (a_cons (r_tup a_nil) a_nil ?_) ?_)) (a_cons (r_tup (a_cons (r_str ?_) (a_cons (r_tup a_nil) a_nil ?_) ?_)) a_nil ?_) ?_) ?_)) (p_tup (n := 3) ok (pgs_cons (p_nmc ok hfn rfl ?_) (pgs_cons (p_nmc ok hfn rfl ?_) (pgs_cons (p_nm ok rfl ?_) pgs_nil ?_) ?_) ?_) ?_ ?_) (g_tup (g_cons g_nm (g_cons g_nm (g_cons g_nm g_nil))) ?_) ?_ ?_ ?_) (ss_cons (s_par ok rfl rfl ?_ ?_ ?_ (r_lst a_nil) (r_lst a_nil) ?_ ?_ ?_ ?_) (ss_cons (s_for ok po (i_val ok (r_tup (a_cons r_non (a_cons (r_tup a_nil) (a_cons (r_tup (a_cons (r_tup (a_cons (r_str ?_) (a_cons (r_str ?_) (a_cons r_int' a_nil ?_) ?_) ?_)) a_nil ?_)) (a_cons (r_tup (a_cons (r_tup (a_cons (r_str ?_) (a_cons (r_str ?_) (a_cons r_int' a_nil ?_) ?_) ?_)) (a_cons (r_tup (a_cons (r_str ?_) (a_cons (r_str ?_) (a_cons r_int' a_nil ?_) ?_) ?_)) a_nil ?_) ?_)) (a_cons (r_tup (a_cons (r_tup (a_cons (r_str ?_) (a_cons (r_str ?_) (a_cons r_int' a_nil ?_) ?_) ?_)) (a_cons (r_tup (a_cons (r_str ?_) (a_cons (r_str ?_) (a_cons r_int' a_nil ?_) ?_) ?_)) a_nil ?_) ?_)) (a_cons (r_tup (a_cons (r_tup (a_cons (r_str ?_) (a_cons (r_str ?_) (a_cons r_int' a_nil ?_) ?_) ?_)) (a_cons (r_tup (a_cons (r_str ?_) (a_cons (r_str ?_) (a_cons r_int' a_nil ?_) ?_) ?_)) a_nil ?_) ?_)) a_nil ?_) ?_) ?_) ?_) ?_) ?_))) (p_nmc ok hfn rfl ?_) g_nm (ss_cons (s_set ok rfl ?_ (r_bin (op := .add) ok (r_pk ok rfl ?_ ?_ ?_) (r_lc (own := [("door", 10)]) (t := (.nm 10)) (cd := dCon (.bl true)) ok (i_range1 ok ?_ F.b_range r_int' ?_) ?_ (fun s1 H1 C1 cl1 fp1 => (p_nm (ok_blk ok s1 H1 _ cl1 C1 fp1) rfl ?_)) g_nm ?_ (fun s1 H1 C1 cl1 fp1 => (pts_of (c := c) (.inl ⟨rfl, rfl⟩))) (fun s1 H1 C1 cl1 fp1 => (r_callD (ok_blk ok s1 H1 _ cl1 C1 fp1) A F.f57 ?_ (a_cons (r_var (ok_blk ok s1 H1 _ cl1 C1 fp1) rfl ?_ ?_ ?_) (a_cons (r_var (ok_blk ok s1 H1 _ cl1 C1 fp1) rfl ?_ ?_ ?_) (a_cons (r_ite (t_cmp (op := .isin) (ok_blk ok s1 H1 _ cl1 C1 fp1) (r_pk (ok_blk ok s1 H1 _ cl1 C1 fp1) rfl ?_ ?_ ?_) (r_tup (a_cons r_int' (a_cons r_int' a_nil ?_) ?_)) ?_) r_int' (r_ite (t_cmp (op := .eq) (ok_blk ok s1 H1 _ cl1 C1 fp1) (r_pk (ok_blk ok s1 H1 _ cl1 C1 fp1) rfl ?_ ?_ ?_) r_int' ?_) r_int' (r_tup (a_cons (r_var (ok_blk ok s1 H1 _ cl1 C1 fp1) rfl ?_ ?_ ?_) a_nil ?_)))) (a_cons (r_ite (t_cmp (op := .isin) (ok_blk ok s1 H1 _ cl1 C1 fp1) (r_pk (ok_blk ok s1 H1 _ cl1 C1 fp1) rfl ?_ ?_ ?_) (r_tup (a_cons r_int' (a_cons r_int' a_nil ?_) ?_)) ?_) r_int' r_int') a_nil ?_) ?_) ?_) ?_) ?_ ?_ ?_)) ?_)) ?_ ?_) (ss_one (s_set ok rfl ?_ (r_bin (op := .add) ok (r_pk ok rfl ?_ ?_ ?_) (r_bin (op := .mul) ok (r_lst (a_cons (r_lst (a_cons (r_str ?_) (a_cons r_bl' a_nil ?_) ?_)) a_nil ?_)) r_int')) ?_ ?_))) ?_) (ss_cons (s_for ok po (i_val ok (r_tup (a_cons r_non (a_cons (r_tup (a_cons (r_tup (a_cons (r_str ?_) (a_cons (r_tup (a_cons r_int' (a_cons r_int' a_nil ?_) ?_)) a_nil ?_) ?_)) a_nil ?_)) (a_cons (r_tup (a_cons (r_tup (a_cons (r_str ?_) (a_cons (r_tup a_nil) a_nil ?_) ?_)) a_nil ?_)) (a_cons (r_tup (a_cons (r_tup (a_cons (r_str ?_) (a_cons (r_tup (a_cons r_int' a_nil ?_)) a_nil ?_) ?_)) a_nil ?_)) (a_cons (r_bin (op := .mul) ok (r_tup (a_cons (r_var ok rfl ?_ ?_ ?_) a_nil ?_)) r_int') (a_cons (r_var ok rfl ?_ ?_ ?_) a_nil ?_) ?_) ?_) ?_) ?_) ?_))) (p_nmc ok hfn rfl ?_) g_nm (ss_cons (s_set ok rfl ?_ (r_bin (op := .add) ok (r_pk ok rfl ?_ ?_ ?_) (r_lc (own := [("door", 10)]) (t := (.nm 10)) (cd := dCon (.bl true)) ok (i_val ok (r_tup (a_cons r_int' (a_cons r_int' (a_cons r_int' (a_cons r_int' (a_cons r_int' (a_cons r_int' (a_cons r_int' (a_cons r_int' a_nil ?_) ?_) ?_) ?_) ?_) ?_) ?_) ?_))) ?_ (fun s1 H1 C1 cl1 fp1 => (p_nm (ok_blk ok s1 H1 _ cl1 C1 fp1) rfl ?_)) g_nm ?_ (fun s1 H1 C1 cl1 fp1 => (pts_of (c := c) (.inl ⟨rfl, rfl⟩))) (fun s1 H1 C1 cl1 fp1 => (r_callD (ok_blk ok s1 H1 _ cl1 C1 fp1) A F.f57 ?_ (a_cons (r_var (ok_blk ok s1 H1 _ cl1 C1 fp1) rfl ?_ ?_ ?_) (a_cons (r_var (ok_blk ok s1 H1 _ cl1 C1 fp1) rfl ?_ ?_ ?_) (a_cons (r_var (ok_blk ok s1 H1 _ cl1 C1 fp1) rfl ?_ ?_ ?_) (a_cons r_int' a_nil ?_) ?_) ?_) ?_) ?_ ?_ ?_)) ?_)) ?_ ?_) (ss_one (s_set ok rfl ?_ (r_bin (op := .add) ok (r_pk ok rfl ?_ ?_ ?_) (r_bin (op := .mul) ok (r_lst (a_cons (r_lst (a_cons (r_str ?_) (a_cons r_bl' a_nil ?_) ?_)) a_nil ?_)) r_int')) ?_ ?_))) ?_) (ss_cons (s_set ok rfl ?_ (r_bin (op := .add) ok (r_pk ok rfl ?_ ?_ ?_) (r_lst (a_cons (r_callD ok A F.f57 ?_ (a_cons r_int' (a_cons (r_var ok rfl ?_ ?_ ?_) (a_cons (r_tup (a_cons (r_str ?_) (a_cons (r_tup (a_cons r_int' (a_cons r_int' a_nil ?_) ?_)) a_nil ?_) ?_)) (a_cons (r_var ok rfl ?_ ?_ ?_) a_nil ?_) ?_) ?_) ?_) ?_ ?_ ?_) (a_cons (r_callD ok A F.f57 ?_ (a_cons r_int' (a_cons (r_var ok rfl ?_ ?_ ?_) (a_cons (r_var ok rfl ?_ ?_ ?_) (a_cons r_non a_nil ?_) ?_) ?_) ?_) ?_ ?_ ?_) (a_cons (r_callD ok A F.f57 ?_ (a_cons r_int' (a_cons (r_var ok rfl ?_ ?_ ?_) (a_cons r_non (a_cons (r_var ok rfl ?_ ?_ ?_) a_nil ?_) ?_) ?_) ?_) ?_ ?_ ?_) (a_cons (r_callD ok A F.f57 ?_ (a_cons r_int' (a_cons (r_var ok rfl ?_ ?_ ?_) (a_cons (r_var ok rfl ?_ ?_ ?_) (a_cons (r_tup (a_cons (r_str ?_) (a_cons (r_tup (a_cons r_int' (a_cons r_int' a_nil ?_) ?_)) a_nil ?_) ?_)) a_nil ?_) ?_) ?_) ?_) ?_ ?_ ?_) (a_cons (r_callD ok A F.f57 ?_ (a_cons r_int' (a_cons (r_var ok rfl ?_ ?_ ?_) (a_cons (r_tup (a_cons (r_var ok rfl ?_ ?_ ?_) a_nil ?_)) (a_cons (r_neg ok r_int') a_nil ?_) ?_) ?_) ?_) ?_ ?_ ?_) a_nil ?_) ?_) ?_) ?_) ?_))) ?_ ?_) (ss_cons (s_set ok rfl ?_ (r_bin (op := .add) ok (r_pk ok rfl ?_ ?_ ?_) (r_lst (a_cons (r_callD ok A F.f57 ?_ (a_cons r_int' (a_cons (r_var ok rfl ?_ ?_ ?_) (a_cons (r_tup (a_cons (r_var ok rfl ?_ ?_ ?_) a_nil ?_)) (a_cons r_non a_nil ?_) ?_) ?_) ?_) ?_ ?_ ?_) (a_cons (r_callD ok A F.f57 ?_ (a_cons r_int' (a_cons (r_var ok rfl ?_ ?_ ?_) (a_cons (r_neg ok r_int') (a_cons r_non a_nil ?_) ?_) ?_) ?_) ?_ ?_ ?_) (a_cons (r_callD ok A F.f57 ?_ (a_cons r_int' (a_cons (r_var ok rfl ?_ ?_ ?_) (a_cons r_non (a_cons r_non a_nil ?_) ?_) ?_) ?_) ?_ ?_ ?_) a_nil ?_) ?_) ?_))) ?_ ?_) (ss_cons (s_set ok rfl ?_ (r_bin (op := .add) ok (r_pk ok rfl ?_ ?_ ?_) (r_bin (op := .mul) ok (r_lst (a_cons (r_lst (a_cons (r_str ?_) (a_cons r_bl' a_nil ?_) ?_)) a_nil ?_)) r_int')) ?_ ?_) (ss_one (s_ret (r_callD ok A F.f54 ?_ (a_cons (r_bin (op := .add) ok (r_pk ok rfl ?_ ?_ ?_) (r_lst (a_cons (r_callD ok A F.f57 ?_ (a_cons r_int' (a_cons (r_var ok rfl ?_ ?_ ?_) (a_cons (r_tup (a_cons r_int' a_nil ?_)) (a_cons r_non a_nil ?_) ?_) ?_) ?_) ?_ ?_ ?_) (a_cons (r_callD ok A F.f57 ?_ (a_cons r_int' (a_cons (r_var ok rfl ?_ ?_ ?_) (a_cons (r_tup (a_cons (r_var ok rfl ?_ ?_ ?_) (a_cons (r_var ok rfl ?_ ?_ ?_) a_nil ?_) ?_)) (a_cons r_non a_nil ?_) ?_) ?_) ?_) ?_ ?_ ?_) a_nil ?_) ?_))) (a_cons (r_bin (op := .add) ok (r_pk ok rfl ?_ ?_ ?_) (r_bin (op := .mul) ok (r_lst (a_cons (r_lst (a_cons (r_str ?_) (a_cons r_bl' a_nil ?_) ?_)) a_nil ?_)) r_int')) a_nil ?_) ?_) ?_ ?_ ?_)))))))))))))
  all_goals first
    | rfl
    | (intro _; rfl)
    | (intro _ _; rfl)
    | exact gl ok (by decide +kernel)
    | exact gl (ok_blk ok _ _ _ _ _ _) (by decide +kernel)
    | exact gl (by assumption) (by decide +kernel)
    | exact (sw_env ok).trans rfl
    | exact (sw1_env ok).trans rfl
    | exact .inl (by decide +kernel)
    | exact .inl (hfn _)
    | exact .inr (by decide +kernel)
    | exact blk_of ok ⟨rfl, by decide +kernel, by decide +kernel, by decide +kernel, by decide +kernel⟩
    | decide +kernel

end Few.Wk
set_option Elab.async false
set_option linter.all false
set_option maxRecDepth 100000
set_option maxHeartbeats 0
/-! ### the head of fewanswers_k80_patterns_by_hand_and_refu -/
namespace Few.Wk
open PySem PySem.Spec PyProof.Rows L2
def rows : List Row := [mkRow "is_number" ["thing"] (top 4),
  mkRow "is_from" ["thing", "least"] (top 5),
  mkRow "is_below" ["thing", "many"] (top 6),
  mkRow "is_tuple_of" ["thing", "many"] (top 7),
  mkRow "tuple_of" ["thing"] (top 8),
  mkRow "sure" ["good"] (top 9),
  mkRow "is_sign_name" ["thing"] (top 19),
  mkRow "is_sign" ["thing"] (top 20),
  mkRow "is_book" ["thing"] (top 21),
  mkRow "sure_book" ["book"] (top 22),
  mkRow "signs_of" ["book"] (top 23),
  mkRow "parts_fit" ["signs", "thing"] (top 24),
  mkRow "is_term_by" ["signs", "thing"] (top 25),
  mkRow "is_path" ["thing"] (top 26),
  mkRow "parts_in" ["own"] (top 27),
  mkRow "words_in" ["signs", "own"] (top 28),
  mkRow "walked" ["own"] (top 29),
  mkRow "unknowns_in" ["own"] (top 30),
  mkRow "put_told_at" ["own", "path", "other"] (top 31),
  mkRow "key_of" ["signs", "own"] (top 33),
  mkRow "sure_plain_book" ["book"] (top 38),
  mkRow "is_pattern" ["book", "thing"] (top 39),
  mkRow "sure_pattern" ["book", "pattern"] (top 40),
  mkRow "sure_patterns" ["book", "patterns"] (top 41),
  mkRow "is_of" ["own", "pattern"] (top 42),
  mkRow "have_one" ["one", "other"] (top 43),
  mkRow "merged" ["one", "other"] (top 44),
  mkRow "bare" ["own"] (top 45),
  mkRow "by_number" ["own"] (top 46),
  mkRow "spot_of" ["own", "pattern"] (top 47),
  mkRow "parted_at" ["book", "own", "path"] (top 48),
  mkRow "left_of" ["book", "own", "patterns"] (top 49),
  mkRow "missing_in" ["book", "patterns"] (top 50),
  mkRow "are_covered" ["book", "patterns"] (top 51),
  mkRow "missing" ["book", "patterns"] (top 52),
  mkRow "least_bare" ["book"] (top 53),
  mkRow "closed_by" ["own", "least"] (top 54),
  mkRow "least_missing" ["book", "patterns"] (top 55),
  mkRow "is_missing" ["book", "patterns", "thing"] (top 56),
  mkRow "tree_of" ["book", "own", "patterns"] (top 57),
  mkRow "cover_tree" ["book", "patterns"] (top 58),
  mkRow "is_tree_at" ["book", "own", "patterns", "thing"] (top 59),
  mkRow "is_cover_tree" ["book", "patterns", "thing"] (top 60),
  mkRow "needless" ["book", "patterns"] (top 61),
  mkRow "of_both" ["book", "one", "other"] (top 62),
  mkRow "without" ["book", "one", "other"] (top 63),
  mkRow "closed_counts" ["book", "words"] (top 64),
  mkRow "ways" ["counts", "many", "words"] (top 65),
  mkRow "instances" ["counts", "own", "words"] (top 66),
  mkRow "how_many_closed" ["book", "words"] (top 67),
  mkRow "how_many_covered" ["book", "patterns", "words"] (top 68),
  mkRow "_law_box" ["script", "k"] (top 70),
  mkRow "_law_take" ["urn", "below"] (top 71),
  mkRow "_law_cells" ["script", "many"] (top 72),
  mkRow "_law_same" ["got", "due"] (top 73),
  mkRow "_law_lists" ["matter"] (top 74),
  mkRow "_law_signs" [] (top 75),
  mkRow "_law_heard" ["door", "book", "one", "two"] (top 76),
  mkRow "_law_covers_right" ["soft"] (top 77),
  mkRow "_law_trees_right" ["soft"] (top 78),
  mkRow "law" ["script"] (top 79)]
def fx : List Fact := [(He.Fa.glo "is_number").ok,
  (He.Fa.glo "is_from").ok,
  (He.Fa.glo "is_below").ok,
  (He.Fa.glo "is_tuple_of").ok,
  (He.Fa.glo "tuple_of").ok,
  (He.Fa.glo "sure").ok,
  (He.Fa.glo "is_sign_name").ok,
  (He.Fa.glo "is_sign").ok,
  (He.Fa.glo "is_book").ok,
  (He.Fa.glo "sure_book").ok,
  (He.Fa.glo "signs_of").ok,
  (He.Fa.glo "parts_fit").ok,
  (He.Fa.glo "is_term_by").ok,
  (He.Fa.glo "is_path").ok,
  (He.Fa.glo "parts_in").ok,
  (He.Fa.glo "words_in").ok,
  (He.Fa.glo "walked").ok,
  (He.Fa.glo "unknowns_in").ok,
  (He.Fa.glo "put_told_at").ok,
  (He.Fa.glo "key_of").ok,
  (He.Fa.glo "sure_plain_book").ok,
  (He.Fa.glo "is_pattern").ok,
  (He.Fa.glo "sure_pattern").ok,
  (He.Fa.glo "sure_patterns").ok,
  (He.Fa.glo "is_of").ok,
  (He.Fa.glo "have_one").ok,
  (He.Fa.glo "merged").ok,
  (He.Fa.glo "bare").ok,
  (He.Fa.glo "by_number").ok,
  (He.Fa.glo "spot_of").ok,
  (He.Fa.glo "parted_at").ok,
  (He.Fa.glo "left_of").ok,
  (He.Fa.glo "missing_in").ok,
  (He.Fa.glo "are_covered").ok,
  (He.Fa.glo "missing").ok,
  (He.Fa.glo "least_bare").ok,
  (He.Fa.glo "closed_by").ok,
  (He.Fa.glo "least_missing").ok,
  (He.Fa.glo "is_missing").ok,
  (He.Fa.glo "tree_of").ok,
  (He.Fa.glo "cover_tree").ok,
  (He.Fa.glo "is_tree_at").ok,
  (He.Fa.glo "is_cover_tree").ok,
  (He.Fa.glo "needless").ok,
  (He.Fa.glo "of_both").ok,
  (He.Fa.glo "without").ok,
  (He.Fa.glo "closed_counts").ok,
  (He.Fa.glo "ways").ok,
  (He.Fa.glo "instances").ok,
  (He.Fa.glo "how_many_closed").ok,
  (He.Fa.glo "how_many_covered").ok,
  (He.Fa.glo "_law_box").ok,
  (He.Fa.glo "_law_take").ok,
  (He.Fa.glo "_law_cells").ok,
  (He.Fa.glo "_law_same").ok,
  (He.Fa.glo "_law_lists").ok,
  (He.Fa.glo "_law_signs").ok,
  (He.Fa.glo "_law_heard").ok,
  (He.Fa.glo "_law_covers_right").ok,
  (He.Fa.glo "_law_trees_right").ok,
  (He.Fa.glo "law").ok,
  (He.Fa.free "range").ok,
  (He.Fa.free "enumerate").ok,
  (He.Fa.free "zip").ok,
  (He.Fa.free "isinstance").ok,
  (He.Fa.free "int").ok,
  (He.Fa.free "bool").ok,
  (He.Fa.free "str").ok,
  (He.Fa.free "tuple").ok,
  (He.Fa.free "list").ok,
  (He.Fa.free "len").ok,
  (He.Fa.free "sum").ok,
  (He.Fa.free "all").ok,
  (He.Fa.free "any").ok,
  (He.Fa.free "abs").ok,
  (He.Fa.free "sorted").ok,
  (He.Fa.free "min").ok,
  (He.Fa.free "set").ok,
  (He.Fa.free "ValueError").ok,
  (He.Fa.free "no name").ok,
  (He.Fa.str "PLAIN" (txt [112, 108, 97, 105, 110])).ok,
  (He.Fa.str "SWAP" (txt [115, 119, 97, 112])).ok,
  (He.Fa.str "BAG" (txt [98, 97, 103])).ok,
  (He.Fa.int "MOST_SIGNS" 8).ok,
  (He.Fa.int "MOST_NAME" 8).ok,
  (He.Fa.int "MOST_PLAIN" 3).ok,
  (He.Fa.int "MOST_UNKNOWN" 100).ok,
  (He.Fa.str "SMALL" (txt [97, 98, 99, 100, 101, 102, 103, 104, 105, 106, 107, 108, 109, 110, 111, 112, 113, 114, 115, 116, 117, 118, 119, 120, 121, 122])).ok,
  (He.Fa.str "BY" (txt [98, 121])).ok,
  (He.Fa.str "PART" (txt [112, 97, 114, 116])).ok,
  (He.Fa.int "MOST_PATTERNS" 8).ok,
  (He.Fa.exc "Unfit").ok,
  (He.Fa.exc "CanNot").ok,
  (He.Fa.glo "Unfit").ok,
  excCB "Unfit",
  kitB1 "Unfit" "ValueError",
  (He.Fa.exm "Unfit" "Unfit" true).ok,
  (He.Fa.exm "CanNot" "Unfit" false).ok,
  (He.Fa.glo "CanNot").ok,
  excCB "CanNot",
  kitB1 "CanNot" "ValueError",
  (He.Fa.exm "Unfit" "CanNot" false).ok,
  (He.Fa.exm "CanNot" "CanNot" true).ok,
  kitB2 "Unfit" "CanNot",
  kitB2 "CanNot" "Unfit"]
def loose : List PySem.Str := (["Unfit", "CanNot", "is_number", "is_from", "is_below", "is_tuple_of", "tuple_of", "sure", "PLAIN", "SWAP", "BAG", "MOST_SIGNS", "MOST_NAME", "MOST_PLAIN", "MOST_UNKNOWN", "SMALL", "is_sign_name", "is_sign", "is_book", "sure_book", "signs_of", "parts_fit", "is_term_by", "is_path", "parts_in", "words_in", "walked", "unknowns_in", "put_told_at", "key_of"] : List PySem.Str) ++ (["BY", "PART", "MOST_PATTERNS", "sure_plain_book", "is_pattern", "sure_pattern", "sure_patterns", "is_of", "have_one", "merged", "bare", "by_number", "spot_of", "parted_at", "left_of", "missing_in", "are_covered", "missing", "least_bare", "closed_by", "least_missing", "is_missing", "tree_of", "cover_tree", "is_tree_at", "is_cover_tree", "needless", "of_both", "without", "closed_counts"] : List PySem.Str) ++ (["ways", "instances", "how_many_closed", "how_many_covered", "_law_box", "_law_take", "_law_cells", "_law_same", "_law_lists", "_law_signs", "_law_heard", "_law_covers_right", "_law_trees_right"] : List PySem.Str)
abbrev R : PySem.W.OpenRow := PySem.W.OpenLaw.row PySem.Challenge.rw_fewanswers_k80_patterns_by_hand_and_refu
abbrev hk : PySem.W.Hook := hookF 3 fx (rows.map Row.d)
def ob (s : PySem.W.SharedT) : He.AlD := obsFG 3 fx (rows.map Row.d) (HandSHeadRun.getT s)
theorem ob_eq (s : PySem.W.SharedT) : ob s = hk.obs s.abs := obsFG_eq (HandSHeadRun.getT_eq s)
theorem run (w : World) : HandSHeadRun.RunEq R (PySem.W.view R.prog [79]) hk ob 20000 loose w := by
  intro os
  kernel_rfl
end Few.Wk
set_option Elab.async false
set_option linter.all false
set_option maxRecDepth 100000
set_option maxHeartbeats 4000000
namespace Few.Wk
open PySem PySem.Spec PyProof.Rows L2
def xn : Nat → PySem.Str
  | 0 => "Unfit"
  | 1 => "CanNot"
  | _ => "no name"
def ecn (K : PySem.W.Frag) : Nat → Addr
  | 0 => He.ga K "Unfit"
  | 1 => He.ga K "CanNot"
  | _ => 0
section
variable {P : Program} {w : World} {K : PySem.W.Frag} {h base : Heap} {mg : PySem.Str → Option Value}
abbrev gd (P : Program) (w : World) (K : PySem.W.Frag) (mg : PySem.Str → Option Value) (base : Heap) : Gd := ⟨P, w, K, mg, base, xn⟩
set_option maxHeartbeats 4000000 in
theorem fx_ok (X : K.In h) (Gn : h.Ns mainGlobals mg) (c : SaysF fx (rows.map Row.d) K) (d0 : Dsc) : Fx (gd P w K mg base) (dsc c) (dOf c d0) (ecn K) He.veBase "ValueError" "ValueError.__new__" "ValueError.__init__" where
  b_range := He.free_ok X Gn (c.fact 61 rfl)
  b_enumerate := He.free_ok X Gn (c.fact 62 rfl)
  b_zip := He.free_ok X Gn (c.fact 63 rfl)
  b_isinstance := He.free_ok X Gn (c.fact 64 rfl)
  b_int := He.free_ok X Gn (c.fact 65 rfl)
  b_bool := He.free_ok X Gn (c.fact 66 rfl)
  b_str := He.free_ok X Gn (c.fact 67 rfl)
  b_tuple := He.free_ok X Gn (c.fact 68 rfl)
  b_list := He.free_ok X Gn (c.fact 69 rfl)
  b_len := He.free_ok X Gn (c.fact 70 rfl)
  b_sum := He.free_ok X Gn (c.fact 71 rfl)
  b_all := He.free_ok X Gn (c.fact 72 rfl)
  b_any := He.free_ok X Gn (c.fact 73 rfl)
  b_abs := He.free_ok X Gn (c.fact 74 rfl)
  b_sorted := He.free_ok X Gn (c.fact 75 rfl)
  b_min := He.free_ok X Gn (c.fact 76 rfl)
  b_set := He.free_ok X Gn (c.fact 77 rfl)
  f0 := df_of (base := base) (h := h) c d0 rfl X Gn rfl (c.fact 0 rfl) fun _ _ _ _ _ _ us hl => match us, hl with | [_], _ => rfl
  f1 := df_of (base := base) (h := h) c d0 rfl X Gn rfl (c.fact 1 rfl) fun _ _ _ _ _ _ us hl => match us, hl with | [_, _], _ => rfl
  f2 := df_of (base := base) (h := h) c d0 rfl X Gn rfl (c.fact 2 rfl) fun _ _ _ _ _ _ us hl => match us, hl with | [_, _], _ => rfl
  f3 := df_of (base := base) (h := h) c d0 rfl X Gn rfl (c.fact 3 rfl) fun _ _ _ _ _ _ us hl => match us, hl with | [_, _], _ => rfl
  f4 := df_of (base := base) (h := h) c d0 rfl X Gn rfl (c.fact 4 rfl) fun _ _ _ _ _ _ us hl => match us, hl with | [_], _ => rfl
  f5 := df_of (base := base) (h := h) c d0 rfl X Gn rfl (c.fact 5 rfl) fun _ _ _ _ _ _ us hl => match us, hl with | [_], _ => rfl
  f6 := df_of (base := base) (h := h) c d0 rfl X Gn rfl (c.fact 6 rfl) fun _ _ _ _ _ _ us hl => match us, hl with | [_], _ => rfl
  f7 := df_of (base := base) (h := h) c d0 rfl X Gn rfl (c.fact 7 rfl) fun _ _ _ _ _ _ us hl => match us, hl with | [_], _ => rfl
  f8 := df_of (base := base) (h := h) c d0 rfl X Gn rfl (c.fact 8 rfl) fun _ _ _ _ _ _ us hl => match us, hl with | [_], _ => rfl
  f9 := df_of (base := base) (h := h) c d0 rfl X Gn rfl (c.fact 9 rfl) fun _ _ _ _ _ _ us hl => match us, hl with | [_], _ => rfl
  f10 := df_of (base := base) (h := h) c d0 rfl X Gn rfl (c.fact 10 rfl) fun _ _ _ _ _ _ us hl => match us, hl with | [_], _ => rfl
  f11 := df_of (base := base) (h := h) c d0 rfl X Gn rfl (c.fact 11 rfl) fun _ _ _ _ _ _ us hl => match us, hl with | [_, _], _ => rfl
  f12 := df_of (base := base) (h := h) c d0 rfl X Gn rfl (c.fact 12 rfl) fun _ _ _ _ _ _ us hl => match us, hl with | [_, _], _ => rfl
  f13 := df_of (base := base) (h := h) c d0 rfl X Gn rfl (c.fact 13 rfl) fun _ _ _ _ _ _ us hl => match us, hl with | [_], _ => rfl
  f14 := df_of (base := base) (h := h) c d0 rfl X Gn rfl (c.fact 14 rfl) fun _ _ _ _ _ _ us hl => match us, hl with | [_], _ => rfl
  f15 := df_of (base := base) (h := h) c d0 rfl X Gn rfl (c.fact 15 rfl) fun _ _ _ _ _ _ us hl => match us, hl with | [_, _], _ => rfl
  f16 := df_of (base := base) (h := h) c d0 rfl X Gn rfl (c.fact 16 rfl) fun _ _ _ _ _ _ us hl => match us, hl with | [_], _ => rfl
  f17 := df_of (base := base) (h := h) c d0 rfl X Gn rfl (c.fact 17 rfl) fun _ _ _ _ _ _ us hl => match us, hl with | [_], _ => rfl
  f18 := df_of (base := base) (h := h) c d0 rfl X Gn rfl (c.fact 18 rfl) fun _ _ _ _ _ _ us hl => match us, hl with | [_, _, _], _ => rfl
  f19 := df_of (base := base) (h := h) c d0 rfl X Gn rfl (c.fact 19 rfl) fun _ _ _ _ _ _ us hl => match us, hl with | [_, _], _ => rfl
  f20 := df_of (base := base) (h := h) c d0 rfl X Gn rfl (c.fact 20 rfl) fun _ _ _ _ _ _ us hl => match us, hl with | [_], _ => rfl
  f21 := df_of (base := base) (h := h) c d0 rfl X Gn rfl (c.fact 21 rfl) fun _ _ _ _ _ _ us hl => match us, hl with | [_, _], _ => rfl
  f22 := df_of (base := base) (h := h) c d0 rfl X Gn rfl (c.fact 22 rfl) fun _ _ _ _ _ _ us hl => match us, hl with | [_, _], _ => rfl
  f23 := df_of (base := base) (h := h) c d0 rfl X Gn rfl (c.fact 23 rfl) fun _ _ _ _ _ _ us hl => match us, hl with | [_, _], _ => rfl
  f24 := df_of (base := base) (h := h) c d0 rfl X Gn rfl (c.fact 24 rfl) fun _ _ _ _ _ _ us hl => match us, hl with | [_, _], _ => rfl
  f25 := df_of (base := base) (h := h) c d0 rfl X Gn rfl (c.fact 25 rfl) fun _ _ _ _ _ _ us hl => match us, hl with | [_, _], _ => rfl
  f26 := df_of (base := base) (h := h) c d0 rfl X Gn rfl (c.fact 26 rfl) fun _ _ _ _ _ _ us hl => match us, hl with | [_, _], _ => rfl
  f27 := df_of (base := base) (h := h) c d0 rfl X Gn rfl (c.fact 27 rfl) fun _ _ _ _ _ _ us hl => match us, hl with | [_], _ => rfl
  f28 := df_of (base := base) (h := h) c d0 rfl X Gn rfl (c.fact 28 rfl) fun _ _ _ _ _ _ us hl => match us, hl with | [_], _ => rfl
  f29 := df_of (base := base) (h := h) c d0 rfl X Gn rfl (c.fact 29 rfl) fun _ _ _ _ _ _ us hl => match us, hl with | [_, _], _ => rfl
  f30 := df_of (base := base) (h := h) c d0 rfl X Gn rfl (c.fact 30 rfl) fun _ _ _ _ _ _ us hl => match us, hl with | [_, _, _], _ => rfl
  f31 := df_of (base := base) (h := h) c d0 rfl X Gn rfl (c.fact 31 rfl) fun _ _ _ _ _ _ us hl => match us, hl with | [_, _, _], _ => rfl
  f32 := df_of (base := base) (h := h) c d0 rfl X Gn rfl (c.fact 32 rfl) fun _ _ _ _ _ _ us hl => match us, hl with | [_, _], _ => rfl
  f33 := df_of (base := base) (h := h) c d0 rfl X Gn rfl (c.fact 33 rfl) fun _ _ _ _ _ _ us hl => match us, hl with | [_, _], _ => rfl
  f34 := df_of (base := base) (h := h) c d0 rfl X Gn rfl (c.fact 34 rfl) fun _ _ _ _ _ _ us hl => match us, hl with | [_, _], _ => rfl
  f35 := df_of (base := base) (h := h) c d0 rfl X Gn rfl (c.fact 35 rfl) fun _ _ _ _ _ _ us hl => match us, hl with | [_], _ => rfl
  f36 := df_of (base := base) (h := h) c d0 rfl X Gn rfl (c.fact 36 rfl) fun _ _ _ _ _ _ us hl => match us, hl with | [_, _], _ => rfl
  f37 := df_of (base := base) (h := h) c d0 rfl X Gn rfl (c.fact 37 rfl) fun _ _ _ _ _ _ us hl => match us, hl with | [_, _], _ => rfl
  f38 := df_of (base := base) (h := h) c d0 rfl X Gn rfl (c.fact 38 rfl) fun _ _ _ _ _ _ us hl => match us, hl with | [_, _, _], _ => rfl
  f39 := df_of (base := base) (h := h) c d0 rfl X Gn rfl (c.fact 39 rfl) fun _ _ _ _ _ _ us hl => match us, hl with | [_, _, _], _ => rfl
  f40 := df_of (base := base) (h := h) c d0 rfl X Gn rfl (c.fact 40 rfl) fun _ _ _ _ _ _ us hl => match us, hl with | [_, _], _ => rfl
  f41 := df_of (base := base) (h := h) c d0 rfl X Gn rfl (c.fact 41 rfl) fun _ _ _ _ _ _ us hl => match us, hl with | [_, _, _, _], _ => rfl
  f42 := df_of (base := base) (h := h) c d0 rfl X Gn rfl (c.fact 42 rfl) fun _ _ _ _ _ _ us hl => match us, hl with | [_, _, _], _ => rfl
  f43 := df_of (base := base) (h := h) c d0 rfl X Gn rfl (c.fact 43 rfl) fun _ _ _ _ _ _ us hl => match us, hl with | [_, _], _ => rfl
  f44 := df_of (base := base) (h := h) c d0 rfl X Gn rfl (c.fact 44 rfl) fun _ _ _ _ _ _ us hl => match us, hl with | [_, _, _], _ => rfl
  f45 := df_of (base := base) (h := h) c d0 rfl X Gn rfl (c.fact 45 rfl) fun _ _ _ _ _ _ us hl => match us, hl with | [_, _, _], _ => rfl
  f46 := df_of (base := base) (h := h) c d0 rfl X Gn rfl (c.fact 46 rfl) fun _ _ _ _ _ _ us hl => match us, hl with | [_, _], _ => rfl
  f47 := df_of (base := base) (h := h) c d0 rfl X Gn rfl (c.fact 47 rfl) fun _ _ _ _ _ _ us hl => match us, hl with | [_, _, _], _ => rfl
  f48 := df_of (base := base) (h := h) c d0 rfl X Gn rfl (c.fact 48 rfl) fun _ _ _ _ _ _ us hl => match us, hl with | [_, _, _], _ => rfl
  f49 := df_of (base := base) (h := h) c d0 rfl X Gn rfl (c.fact 49 rfl) fun _ _ _ _ _ _ us hl => match us, hl with | [_, _], _ => rfl
  f50 := df_of (base := base) (h := h) c d0 rfl X Gn rfl (c.fact 50 rfl) fun _ _ _ _ _ _ us hl => match us, hl with | [_, _, _], _ => rfl
  f51 := df_of (base := base) (h := h) c d0 rfl X Gn rfl (c.fact 51 rfl) fun _ _ _ _ _ _ us hl => match us, hl with | [_, _], _ => rfl
  f52 := df_of (base := base) (h := h) c d0 rfl X Gn rfl (c.fact 52 rfl) fun _ _ _ _ _ _ us hl => match us, hl with | [_, _], _ => rfl
  f53 := df_of (base := base) (h := h) c d0 rfl X Gn rfl (c.fact 53 rfl) fun _ _ _ _ _ _ us hl => match us, hl with | [_, _], _ => rfl
  f54 := df_of (base := base) (h := h) c d0 rfl X Gn rfl (c.fact 54 rfl) fun _ _ _ _ _ _ us hl => match us, hl with | [_, _], _ => rfl
  f55 := df_of (base := base) (h := h) c d0 rfl X Gn rfl (c.fact 55 rfl) fun _ _ _ _ _ _ us hl => match us, hl with | [_], _ => rfl
  f56 := df_of (base := base) (h := h) c d0 rfl X Gn rfl (c.fact 56 rfl) fun _ _ _ _ _ _ us hl => match us, hl with | [], _ => rfl
  f57 := df_of (base := base) (h := h) c d0 rfl X Gn rfl (c.fact 57 rfl) fun _ _ _ _ _ _ us hl => match us, hl with | [_, _, _, _], _ => rfl
  f58 := df_of (base := base) (h := h) c d0 rfl X Gn rfl (c.fact 58 rfl) fun _ _ _ _ _ _ us hl => match us, hl with | [_], _ => rfl
  f59 := df_of (base := base) (h := h) c d0 rfl X Gn rfl (c.fact 59 rfl) fun _ _ _ _ _ _ us hl => match us, hl with | [_], _ => rfl
  f60 := df_of (base := base) (h := h) c d0 rfl X Gn rfl (c.fact 60 rfl) fun _ _ _ _ _ _ us hl => match us, hl with | [_], _ => rfl
  c_PLAIN := let ⟨t, e⟩ := He.str_ok X Gn (c.fact 80 rfl); ⟨_, e, ⟨t, rfl⟩⟩
  c_SWAP := let ⟨t, e⟩ := He.str_ok X Gn (c.fact 81 rfl); ⟨_, e, ⟨t, rfl⟩⟩
  c_BAG := let ⟨t, e⟩ := He.str_ok X Gn (c.fact 82 rfl); ⟨_, e, ⟨t, rfl⟩⟩
  c_MOST_SIGNS := let ⟨t, e⟩ := He.int_ok X Gn (c.fact 83 rfl); ⟨_, e, ⟨t, rfl⟩⟩
  c_MOST_NAME := let ⟨t, e⟩ := He.int_ok X Gn (c.fact 84 rfl); ⟨_, e, ⟨t, rfl⟩⟩
  c_MOST_PLAIN := let ⟨t, e⟩ := He.int_ok X Gn (c.fact 85 rfl); ⟨_, e, ⟨t, rfl⟩⟩
  c_MOST_UNKNOWN := let ⟨t, e⟩ := He.int_ok X Gn (c.fact 86 rfl); ⟨_, e, ⟨t, rfl⟩⟩
  c_SMALL := let ⟨t, e⟩ := He.str_ok X Gn (c.fact 87 rfl); ⟨_, e, ⟨t, rfl⟩⟩
  c_BY := let ⟨t, e⟩ := He.str_ok X Gn (c.fact 88 rfl); ⟨_, e, ⟨t, rfl⟩⟩
  c_PART := let ⟨t, e⟩ := He.str_ok X Gn (c.fact 89 rfl); ⟨_, e, ⟨t, rfl⟩⟩
  c_MOST_PATTERNS := let ⟨t, e⟩ := He.int_ok X Gn (c.fact 90 rfl); ⟨_, e, ⟨t, rfl⟩⟩
  k37_patterns_book := kp_of c d0 rfl fun _ _ _ _ _ _ us ws hp hl hw => match us, hl with | [u0, u1], _ => by cases hp; rfl
  k38_thing_patterns_book := kp_of c d0 rfl fun _ _ _ _ _ _ us ws hp hl hw => match us, hl with | [u0, u1, u2], _ => by cases hp; rfl
  k40_patterns_book := kp_of c d0 rfl fun _ _ _ _ _ _ us ws hp hl hw => match us, hl with | [u0, u1], _ => by cases hp; rfl
  k42_thing_patterns_book := kp_of c d0 rfl fun _ _ _ _ _ _ us ws hp hl hw => match us, hl with | [u0, u1, u2], _ => by cases hp; rfl
  k43_patterns_book := kp_of c d0 rfl fun _ _ _ _ _ _ us ws hp hl hw => match us, hl with | [u0, u1], _ => by cases hp; rfl
  k44_other_one_book := kp_of c d0 rfl fun _ _ _ _ _ _ us ws hp hl hw => match us, hl with | [u0, u1, u2], _ => by cases hp; rfl
  k45_other_one_book := kp_of c d0 rfl fun _ _ _ _ _ _ us ws hp hl hw => match us, hl with | [u0, u1, u2], _ => by cases hp; rfl
  k49_words_book := kp_of c d0 rfl fun _ _ _ _ _ _ us ws hp hl hw => match us, hl with | [u0, u1], _ => by cases hp; rfl
  k50_words_patterns_book := kp_of c d0 rfl fun _ _ _ _ _ _ us ws hp hl hw => match us, hl with | [u0, u1, u2], _ => by cases hp; rfl
  eb := PySem.F.excBase_ValueError
  e0 := let ⟨q, k, s, t⟩ := He.exc_ok (c.fact 91 rfl); ⟨q, He.glo_ok X Gn (c.fact 93 rfl), k, s, t, rfl⟩
  e1 := let ⟨q, k, s, t⟩ := He.exc_ok (c.fact 92 rfl); ⟨q, He.glo_ok X Gn (c.fact 98 rfl), k, s, t, rfl⟩
  b_ValueError := He.free_ok X Gn (c.fact 78 rfl)
  z0 := excCB_ok (c.fact 94 rfl)
  v0 := of_decide_eq_true (c.fact 95 rfl)
  x0 := fun y cls e => match y, e with
    | 0, e => by cases (He.glo_ok X Gn (c.fact 93 rfl)).symm.trans e; exact He.exm_ok (c.fact 96 rfl)
    | 1, e => by cases (He.glo_ok X Gn (c.fact 98 rfl)).symm.trans e; exact He.exm_ok (c.fact 97 rfl)
    | _ + 2, e => absurd ((He.free_ok X Gn (c.fact 79 rfl)).symm.trans e) (by simp)
  z1 := excCB_ok (c.fact 99 rfl)
  v1 := of_decide_eq_true (c.fact 100 rfl)
  x1 := fun y cls e => match y, e with
    | 0, e => by cases (He.glo_ok X Gn (c.fact 93 rfl)).symm.trans e; exact He.exm_ok (c.fact 101 rfl)
    | 1, e => by cases (He.glo_ok X Gn (c.fact 98 rfl)).symm.trans e; exact He.exm_ok (c.fact 102 rfl)
    | _ + 2, e => absurd ((He.free_ok X Gn (c.fact 79 rfl)).symm.trans e) (by simp)
  n0_1 := of_decide_eq_true (c.fact 103 rfl)
  n1_0 := of_decide_eq_true (c.fact 104 rfl)
theorem defs_ok (X : K.In h) (Gn : h.Ns mainGlobals mg) (c : SaysF fx (rows.map Row.d) K) (d0 : Dsc) : ∀ i, i < 61 → ∀ d, dsc c i = some d → DefOk (gd P w K mg base) Few.Pg.tab (dsc c) i d :=
  have F : Fx (gd P w K mg base) (dsc c) (dOf c d0) (ecn K) He.veBase "ValueError" "ValueError.__new__" "ValueError.__init__" := fx_ok (h := h) X Gn c d0
  fun i hi d hd => match i, hi, hd with
  | 0, _, hd => defok_of (N := ["thing"]) c rfl hd rfl ⟨rfl, rfl, rfl, by decide +kernel, rfl, by decide +kernel, by decide +kernel⟩ rfl rfl rfl (b0 F)
  | 1, _, hd => defok_of (N := ["thing", "least"]) c rfl hd rfl ⟨rfl, rfl, rfl, by decide +kernel, rfl, by decide +kernel, by decide +kernel⟩ rfl rfl rfl (b1 F)
  | 2, _, hd => defok_of (N := ["thing", "many"]) c rfl hd rfl ⟨rfl, rfl, rfl, by decide +kernel, rfl, by decide +kernel, by decide +kernel⟩ rfl rfl rfl (b2 F)
  | 3, _, hd => defok_of (N := ["thing", "many"]) c rfl hd rfl ⟨rfl, rfl, rfl, by decide +kernel, rfl, by decide +kernel, by decide +kernel⟩ rfl rfl rfl (b3 F)
  | 4, _, hd => defok_of (N := ["thing", "part"]) c rfl hd rfl ⟨rfl, rfl, rfl, by decide +kernel, rfl, by decide +kernel, by decide +kernel⟩ rfl rfl rfl (b4 F)
  | 5, _, hd => defok_of (N := ["good"]) c rfl hd rfl ⟨rfl, rfl, rfl, by decide +kernel, rfl, by decide +kernel, by decide +kernel⟩ rfl rfl rfl (b5 F)
  | 6, _, hd => defok_of (N := ["thing", "own"]) c rfl hd rfl ⟨rfl, rfl, rfl, by decide +kernel, rfl, by decide +kernel, by decide +kernel⟩ rfl rfl rfl (b6 F)
  | 7, _, hd => defok_of (N := ["thing"]) c rfl hd rfl ⟨rfl, rfl, rfl, by decide +kernel, rfl, by decide +kernel, by decide +kernel⟩ rfl rfl rfl (b7 F)
  | 8, _, hd => defok_of (N := ["thing", "near", "far", "own"]) c rfl hd rfl ⟨rfl, rfl, rfl, by decide +kernel, rfl, by decide +kernel, by decide +kernel⟩ rfl rfl rfl (b8 F)
  | 9, _, hd => defok_of (N := ["book", "own"]) c rfl hd rfl ⟨rfl, rfl, rfl, by decide +kernel, rfl, by decide +kernel, by decide +kernel⟩ rfl rfl rfl (b9 F)
  | 10, _, hd => defok_of (N := ["book", "name", "kind", "many"]) c rfl hd rfl ⟨rfl, rfl, rfl, by decide +kernel, rfl, by decide +kernel, by decide +kernel⟩ rfl rfl rfl (b10 F)
  | 11, _, hd => defok_of (N := ["signs", "thing", "good", "kind", "many"]) c rfl hd rfl ⟨rfl, rfl, rfl, by decide +kernel, rfl, by decide +kernel, by decide +kernel⟩ rfl rfl rfl (b11 F)
  | 12, _, hd => defok_of (N := ["signs", "thing", "line", "parts"]) c rfl hd rfl ⟨rfl, rfl, rfl, by decide +kernel, rfl, by decide +kernel, by decide +kernel⟩ rfl rfl rfl (b12 F)
  | 13, _, hd => defok_of (N := ["thing", "own"]) c rfl hd rfl ⟨rfl, rfl, rfl, by decide +kernel, rfl, by decide +kernel, by decide +kernel⟩ rfl rfl rfl (b13 F)
  | 14, _, hd => defok_of (N := ["own"]) c rfl hd rfl ⟨rfl, rfl, rfl, by decide +kernel, rfl, by decide +kernel, by decide +kernel⟩ rfl rfl rfl (b14 F)
  | 15, _, hd => defok_of (N := ["signs", "own", "below", "part"]) c rfl hd rfl ⟨rfl, rfl, rfl, by decide +kernel, rfl, by decide +kernel, by decide +kernel⟩ rfl rfl rfl (b15 F)
  | 16, _, hd => defok_of (N := ["own", "found", "line", "path", "here", "place", "part"]) c rfl hd rfl ⟨rfl, rfl, rfl, by decide +kernel, rfl, by decide +kernel, by decide +kernel⟩ rfl rfl rfl (b16 F)
  | 17, _, hd => defok_of (N := ["own", "_", "here"]) c rfl hd rfl ⟨rfl, rfl, rfl, by decide +kernel, rfl, by decide +kernel, by decide +kernel⟩ rfl rfl rfl (b17 F)
  | 18, _, hd => defok_of (N := ["own", "path", "other", "parts"]) c rfl hd rfl ⟨rfl, rfl, rfl, by decide +kernel, rfl, by decide +kernel, by decide +kernel⟩ rfl rfl rfl (b18 F)
  | 19, _, hd => defok_of (N := ["signs", "own", "behind", "name", "parts", "words", "keys", "part", "key"]) c rfl hd rfl ⟨rfl, rfl, rfl, by decide +kernel, rfl, by decide +kernel, by decide +kernel⟩ rfl rfl rfl (b19 F)
  | 20, _, hd => defok_of (N := ["book", "own", "sign"]) c rfl hd rfl ⟨rfl, rfl, rfl, by decide +kernel, rfl, by decide +kernel, by decide +kernel⟩ rfl rfl rfl (b20 F)
  | 21, _, hd => defok_of (N := ["book", "thing", "_", "here"]) c rfl hd rfl ⟨rfl, rfl, rfl, by decide +kernel, rfl, by decide +kernel, by decide +kernel⟩ rfl rfl rfl (b21 F)
  | 22, _, hd => defok_of (N := ["book", "pattern", "own"]) c rfl hd rfl ⟨rfl, rfl, rfl, by decide +kernel, rfl, by decide +kernel, by decide +kernel⟩ rfl rfl rfl (b22 F)
  | 23, _, hd => defok_of (N := ["book", "patterns", "own", "pattern"]) c rfl hd rfl ⟨rfl, rfl, rfl, by decide +kernel, rfl, by decide +kernel, by decide +kernel⟩ rfl rfl rfl (b23 F)
  | 24, _, hd => defok_of (N := ["own", "pattern", "near", "far"]) c rfl hd rfl ⟨rfl, rfl, rfl, by decide +kernel, rfl, by decide +kernel, by decide +kernel⟩ rfl rfl rfl (b24 F)
  | 25, _, hd => defok_of (N := ["one", "other", "near", "far"]) c rfl hd rfl ⟨rfl, rfl, rfl, by decide +kernel, rfl, by decide +kernel, by decide +kernel⟩ rfl rfl rfl (b25 F)
  | 26, _, hd => defok_of (N := ["one", "other", "near", "far"]) c rfl hd rfl ⟨rfl, rfl, rfl, by decide +kernel, rfl, by decide +kernel, by decide +kernel⟩ rfl rfl rfl (b26 F)
  | 27, _, hd => defok_of (N := ["own", "part"]) c rfl hd rfl ⟨rfl, rfl, rfl, by decide +kernel, rfl, by decide +kernel, by decide +kernel⟩ rfl rfl rfl (b27 F)
  | 28, _, hd => defok_of (N := ["own", "found", "number", "path", "here"]) c rfl hd rfl ⟨rfl, rfl, rfl, by decide +kernel, rfl, by decide +kernel, by decide +kernel⟩ rfl rfl rfl (b28 F)
  | 29, _, hd => defok_of (N := ["own", "pattern", "line", "pairs", "path", "near", "far", "place", "one", "other"]) c rfl hd rfl ⟨rfl, rfl, rfl, by decide +kernel, rfl, by decide +kernel, by decide +kernel⟩ rfl rfl rfl (b29 F)
  | 30, _, hd => defok_of (N := ["book", "own", "path", "name", "_", "many"]) c rfl hd rfl ⟨rfl, rfl, rfl, by decide +kernel, rfl, by decide +kernel, by decide +kernel⟩ rfl rfl rfl (b30 F)
  | 31, _, hd => defok_of (N := ["book", "own", "patterns", "some", "found", "part", "pattern"]) c rfl hd rfl ⟨rfl, rfl, rfl, by decide +kernel, rfl, by decide +kernel, by decide +kernel⟩ rfl rfl rfl (b31 F)
  | 32, _, hd => defok_of (N := ["book", "patterns", "own"]) c rfl hd rfl ⟨rfl, rfl, rfl, by decide +kernel, rfl, by decide +kernel, by decide +kernel⟩ rfl rfl rfl (b32 F)
  | 33, _, hd => defok_of (N := ["book", "patterns", "own"]) c rfl hd rfl ⟨rfl, rfl, rfl, by decide +kernel, rfl, by decide +kernel, by decide +kernel⟩ rfl rfl rfl (b33 F)
  | 34, _, hd => defok_of (N := ["book", "patterns", "own"]) c rfl hd rfl ⟨rfl, rfl, rfl, by decide +kernel, rfl, by decide +kernel, by decide +kernel⟩ rfl rfl rfl (b34 F)
  | 35, _, hd => defok_of (N := ["book", "name", "_", "many"]) c rfl hd rfl ⟨rfl, rfl, rfl, by decide +kernel, rfl, by decide +kernel, by decide +kernel⟩ rfl rfl rfl (b35 F)
  | 36, _, hd => defok_of (N := ["own", "least", "part"]) c rfl hd rfl ⟨rfl, rfl, rfl, by decide +kernel, rfl, by decide +kernel, by decide +kernel⟩ rfl rfl rfl (b36 F)
  | 37, _, hd => defok_of (N := ["book", "patterns", "own", "found", "signs", "least", "pattern", "term"]) c rfl hd rfl ⟨rfl, rfl, rfl, by decide +kernel, rfl, by decide +kernel, by decide +kernel⟩ rfl rfl rfl (b37 F)
  | 38, _, hd => defok_of (N := ["book", "patterns", "thing", "own", "some", "pattern"]) c rfl hd rfl ⟨rfl, rfl, rfl, by decide +kernel, rfl, by decide +kernel, by decide +kernel⟩ rfl rfl rfl (b38 F)
  | 39, _, hd => defok_of (N := ["book", "own", "patterns", "some", "path", "trees", "place", "pattern", "part"]) c rfl hd rfl ⟨rfl, rfl, rfl, by decide +kernel, rfl, by decide +kernel, by decide +kernel⟩ rfl rfl rfl (b39 F)
  | 40, _, hd => defok_of (N := ["book", "patterns", "own", "found"]) c rfl hd rfl ⟨rfl, rfl, rfl, by decide +kernel, rfl, by decide +kernel, by decide +kernel⟩ rfl rfl rfl (b40 F)
  | 41, _, hd => defok_of (N := ["book", "own", "patterns", "thing", "here", "parts", "path", "part", "tree"]) c rfl hd rfl ⟨rfl, rfl, rfl, by decide +kernel, rfl, by decide +kernel, by decide +kernel⟩ rfl rfl rfl (b41 F)
  | 42, _, hd => defok_of (N := ["book", "patterns", "thing", "own"]) c rfl hd rfl ⟨rfl, rfl, rfl, by decide +kernel, rfl, by decide +kernel, by decide +kernel⟩ rfl rfl rfl (b42 F)
  | 43, _, hd => defok_of (N := ["book", "patterns", "own", "some", "place"]) c rfl hd rfl ⟨rfl, rfl, rfl, by decide +kernel, rfl, by decide +kernel, by decide +kernel⟩ rfl rfl rfl (b43 F)
  | 44, _, hd => defok_of (N := ["book", "one", "other", "own", "near", "far"]) c rfl hd rfl ⟨rfl, rfl, rfl, by decide +kernel, rfl, by decide +kernel, by decide +kernel⟩ rfl rfl rfl (b44 F)
  | 45, _, hd => defok_of (N := ["book", "one", "other", "own", "near", "pattern"]) c rfl hd rfl ⟨rfl, rfl, rfl, by decide +kernel, rfl, by decide +kernel, by decide +kernel⟩ rfl rfl rfl (b45 F)
  | 46, _, hd => defok_of (N := ["book", "words", "found", "size", "whole", "_", "many"]) c rfl hd rfl ⟨rfl, rfl, rfl, by decide +kernel, rfl, by decide +kernel, by decide +kernel⟩ rfl rfl rfl (b46 F)
  | 47, _, hd => defok_of (N := ["counts", "many", "words", "found", "_", "later", "size", "own", "more"]) c rfl hd rfl ⟨rfl, rfl, rfl, by decide +kernel, rfl, by decide +kernel, by decide +kernel⟩ rfl rfl rfl (b47 F)
  | 48, _, hd => defok_of (N := ["counts", "own", "words", "open_so", "told", "_", "here"]) c rfl hd rfl ⟨rfl, rfl, rfl, by decide +kernel, rfl, by decide +kernel, by decide +kernel⟩ rfl rfl rfl (b48 F)
  | 49, _, hd => defok_of (N := ["book", "words", "own"]) c rfl hd rfl ⟨rfl, rfl, rfl, by decide +kernel, rfl, by decide +kernel, by decide +kernel⟩ rfl rfl rfl (b49 F)
  | 50, _, hd => defok_of (N := ["book", "patterns", "words", "own", "some", "counts", "pattern"]) c rfl hd rfl ⟨rfl, rfl, rfl, by decide +kernel, rfl, by decide +kernel, by decide +kernel⟩ rfl rfl rfl (b50 F)
  | 51, _, hd => defok_of (N := ["script", "k", "cell"]) c rfl hd rfl ⟨rfl, rfl, rfl, by decide +kernel, rfl, by decide +kernel, by decide +kernel⟩ rfl rfl rfl (b51 F)
  | 52, _, hd => defok_of (N := ["urn", "below", "once", "far", "twice", "drawn"]) c rfl hd rfl ⟨rfl, rfl, rfl, by decide +kernel, rfl, by decide +kernel, by decide +kernel⟩ rfl rfl rfl (b52 F)
  | 53, _, hd => defok_of (N := ["script", "many", "cells", "k", "cell", "at"]) c rfl hd rfl ⟨rfl, rfl, rfl, by decide +kernel, rfl, by decide +kernel, by decide +kernel⟩ rfl rfl rfl (b53 F)
  | 54, _, hd => defok_of (N := ["got", "due", "mine", "own"]) c rfl hd rfl ⟨rfl, rfl, rfl, by decide +kernel, rfl, by decide +kernel, by decide +kernel⟩ rfl rfl rfl (b54 F)
  | 55, _, hd => defok_of (N := ["matter", "own"]) c rfl hd rfl ⟨rfl, rfl, rfl, by decide +kernel, rfl, by decide +kernel, by decide +kernel⟩ rfl rfl rfl (b55 F)
  | 56, _, hd => defok_of (N := []) c rfl hd rfl ⟨rfl, rfl, rfl, by decide +kernel, rfl, by decide +kernel, by decide +kernel⟩ rfl rfl rfl (b56 F)
  | 57, _, hd => defok_of (N := ["door", "book", "one", "two", "caught"]) c rfl hd rfl ⟨rfl, rfl, rfl, by decide +kernel, rfl, by decide +kernel, by decide +kernel⟩ rfl rfl rfl (b57 F)
  | 58, _, hd => defok_of (N := ["soft", "told", "lots", "both", "got", "due", "some", "things", "book", "n", "o", "patterns", "covered", "left", "given", "thing"]) c rfl hd rfl ⟨rfl, rfl, rfl, by decide +kernel, rfl, by decide +kernel, by decide +kernel⟩ rfl rfl rfl (b58 F)
  | 59, _, hd => defok_of (N := ["soft", "told", "patterns", "given", "tree", "long_so", "things", "got", "due", "pairs", "counts", "book", "n", "o", "words", "thing", "one", "other", "both"]) c rfl hd rfl ⟨rfl, rfl, rfl, by decide +kernel, rfl, by decide +kernel, by decide +kernel⟩ rfl rfl rfl (b59 F)
  | 60, _, hd => defok_of (N := ["script", "urn", "bad", "got", "due", "soft", "part", "book", "n", "o", "door"]) c rfl hd rfl ⟨rfl, rfl, rfl, by decide +kernel, rfl, by decide +kernel, by decide +kernel⟩ rfl rfl rfl (b60 F)
  | _ + 61, hi, _ => absurd hi (by omega)
theorem law_ok (X : K.In h) (Gn : h.Ns mainGlobals mg) (c : SaysF fx (rows.map Row.d) K) (d0 : Dsc) (hl : ∀ ns : List Int, ns.length ≤ 63 → ∃ ih, callK Few.Pg.tab 200 60 [.lst (ns.map .int)] [] = .ok ih (.v (.bl true))) :
    ∃ fd, dsc c 60 = some ⟨He.ga K "law", fd, ["script"]⟩ ∧ FunD K "law" "law" (defArgs (top 79)) (defBody (top 79)) (defScope (top 79)) [] [] (He.ga K "law") fd ∧ FnOk P w K mg base (L2.CX P w) 200 (He.ga K "law") fd ["script"] spLaw := by
  obtain ⟨fd, e, F⟩ := dsc_at c (i := 60) (r := mkRow "law" ["script"] (top 79)) rfl
  have A := all_ok (G := gd P w K mg base) (tab := Few.Pg.tab) (dsc := dsc c) (fun i d hd => by
    obtain ⟨r, hr⟩ := dsc_none c hd
    exact defs_ok (h := h) X Gn c d0 i (List.getElem?_eq_some_iff.mp hr).1 d hd) 200
  exact ⟨fd, e, F, law_fn (G := gd P w K mg base) (A.fn 60 _ e) hl⟩
end
end Few.Wk
set_option Elab.async false
set_option linter.all false
set_option maxRecDepth 1000000
set_option maxHeartbeats 0
/-! ### the runs -/
namespace Few.Wk
open Few.Pg PySem
def restOf : S → S
  | .seq _ (.seq _ r) => r
  | s => s
theorem r0t : ∀ (a : Few.D) (cl : Cell), isT (endC (denS (restOf c60) (callK tab 199) none (setN (setN (.fz a :: .fz (.obj 0) :: List.replicate 9 .un) 5 (.fz (.bl true))) 6 (.fz (.int (.ofNat 0)))) [cl])) = true := by
  intro a cl
  kernel_rfl
theorem r0f : ∀ (a : Few.D) (cl : Cell), isT (endC (denS (restOf c60) (callK tab 199) none (setN (setN (.fz a :: .fz (.obj 0) :: List.replicate 9 .un) 5 (.fz (.bl false))) 6 (.fz (.int (.ofNat 0)))) [cl])) = true := by
  intro a cl
  kernel_rfl
theorem r1t : ∀ (a : Few.D) (cl : Cell), isT (endC (denS (restOf c60) (callK tab 199) none (setN (setN (.fz a :: .fz (.obj 0) :: List.replicate 9 .un) 5 (.fz (.bl true))) 6 (.fz (.int (.ofNat 1)))) [cl])) = true := by
  intro a cl
  kernel_rfl
theorem r1f : ∀ (a : Few.D) (cl : Cell), isT (endC (denS (restOf c60) (callK tab 199) none (setN (setN (.fz a :: .fz (.obj 0) :: List.replicate 9 .un) 5 (.fz (.bl false))) 6 (.fz (.int (.ofNat 1)))) [cl])) = true := by
  intro a cl
  kernel_rfl
theorem r2t : ∀ (a : Few.D) (cl : Cell), isT (endC (denS (restOf c60) (callK tab 199) none (setN (setN (.fz a :: .fz (.obj 0) :: List.replicate 9 .un) 5 (.fz (.bl true))) 6 (.fz (.int (.ofNat 2)))) [cl])) = true := by
  intro a cl
  kernel_rfl
theorem r2f : ∀ (a : Few.D) (cl : Cell), isT (endC (denS (restOf c60) (callK tab 199) none (setN (setN (.fz a :: .fz (.obj 0) :: List.replicate 9 .un) 5 (.fz (.bl false))) 6 (.fz (.int (.ofNat 2)))) [cl])) = true := by
  intro a cl
  kernel_rfl
theorem runs : ∀ ns : List Int, ns.length ≤ 63 → ∃ ih, callK tab 200 60 [.lst (ns.map .int)] [] = .ok ih (.v (.bl true)) :=
  law_all (tab := tab) (k := 198) (law := 60) (box := 51) (take := 52) (cells := 53) (M := 3) (i := 5) (j := 6) (m := 9) (rest := restOf c60) rfl rfl rfl rfl (by omega) (by omega) fun s d a cl hd => match s, d, hd with
    | true, 0, _ => r0t a cl
    | false, 0, _ => r0f a cl
    | true, 1, _ => r1t a cl
    | false, 1, _ => r1f a cl
    | true, 2, _ => r2t a cl
    | false, 2, _ => r2f a cl
    | _, _ + 3, hd => absurd hd (by omega)
end Few.Wk
set_option Elab.async false
set_option linter.all false
set_option maxRecDepth 100000
set_option maxHeartbeats 0
open PySem PySem.W PySem.Calls PyProof.Rows
theorem PySem.Challenge.cw_fewanswers_k80_patterns_by_hand_and_refu_holds : PySem.Challenge.rw_fewanswers_k80_patterns_by_hand_and_refu.Holds := by
  w_on; o_law
  refine HandSHeadRun.head_any (r := OpenLaw.row PySem.Challenge.rw_fewanswers_k80_patterns_by_hand_and_refu) (q := view (OpenLaw.row PySem.Challenge.rw_fewanswers_k80_patterns_by_hand_and_refu).prog [79]) (H := Few.Wk.hk) (ob := Few.Wk.ob) (M := 20000) (loose := Few.Wk.loose) (d := HandSHeadRun.topDef (OpenLaw.row PySem.Challenge.rw_fewanswers_k80_patterns_by_hand_and_refu).prog 79) (kwd := []) Few.Wk.ob_eq
    (by kernel_rfl) (fun s => by kernel_rfl) Few.Wk.run (by kernel_rfl) (by kernel_rfl) (by kernel_rfl) (by rfl) (by first | assumption | decide +kernel) (by decide +kernel) ⟨rfl, rfl, rfl, rfl, rfl, by decide +kernel⟩ ?hw ?hc
  case hw => w_witness2
  case hc =>
    refine L2.walk_ofE (l := PySem.Challenge.rw_fewanswers_k80_patterns_by_hand_and_refu) (n := 63) (k := 200) (x := "script") (CX := L2.CX0) rfl (by decide) (by kernel_rfl) ⟨rfl, by decide, by decide⟩ ?F (fun _ _ _ _ z => z)
    intro w mg fa h Y G hmg0
    obtain ⟨K, KX, nl, c⟩ := Y
    have hmg : mg ("law" : PySem.Str) = some (.ref fa) := by
      have e : (HandSHeadRun.topDef (OpenLaw.row PySem.Challenge.rw_fewanswers_k80_patterns_by_hand_and_refu).prog 79).name = ("law" : PySem.Str) := by kernel_rfl
      rw [← e]
      exact hmg0
    have e := hmg.symm.trans (He.glo_ok KX G (c.fact 60 rfl))
    cases e
    obtain ⟨fd, e, F⟩ := Few.dsc_at c (i := 60) (r := Few.mkRow "law" ["script"] (Few.Wk.top 79)) rfl
    refine ⟨K, fd, Few.spLaw, KX, fun s u => L2.FunD.bindsA (ps := ["script"]) F (fun _ _ _ _ _ _ us hl => match us, hl with | [_], _ => rfl) s [u] rfl, fun H a ns hl hO hS => Few.law_sp nl hO hS hl, fun base _ _ => ?_⟩
    obtain ⟨fd', e', _, Fn⟩ := Few.Wk.law_ok (P := (PySem.Challenge.rw_fewanswers_k80_patterns_by_hand_and_refu).prog) (w := w) (h := h) (base := base) KX G c ⟨0, fd, []⟩ Few.Wk.runs
    cases e.symm.trans e'
    exact Few.to_plain Fn
