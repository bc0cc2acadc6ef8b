import PyProof.Rows.All
import Wide.All
import OpenK.AllK
import Wide.FinOn
import HandS.ForMost
import HandS.Exc
import HandS.TryOnly
import HandS.ExcOwn
import HandS.WordsExc
import KE.KDictKeyed
import HandS.TupAny
import HandS.TupMul
import HandS.Conv
import HandS.Strs
import HandS.Deep
import HandS.IsInst
import HandS.Wide
import HandS.SetKeys
import HandS.SortInts
import HandS.ExcIs
import HandS.Zip
import HandS.Flow
import HandS.Iter
import KE.GoesMore
import HandS.Style
import HandS.Defaults
import HandS.Codes
import HandS.HeadHook1
import HandS.HeadHook2
import HandS.HeadHook3
import HandS.HeadHook4
import PyProof.ExcBaseAll.ValueError
import HandS.Head0
import HandS.Head1
import HandS.Head2
import HandS.HeadEnd
import HandS.EndBits
import PySem.Challenge.RW_letterhand_k83_chains_of_rooms
set_option Elab.async false
set_option linter.all false
/-! R0: a small Python: values, expressions, statements, and what they do. Plain Lean, no program in sight. -/
namespace MP

/-- values: tuples, frozen lists and dicts, instances that never change, by their content; ref: a shared object -/
inductive U where
  | non
  | bl (b : Bool)
  | int (i : Int)
  | str (s : List Nat)
  | tup (us : List U)
  | prs (us : List U)          -- what enumerate, zip, divmod hand out: to be taken apart at once
  | lst (us : List U)
  | dic (ks vs : List U)
  | obj (c : Nat) (fs : List U)
  | exc (c : Nat) (fs : List U)
  | ref (n : Nat)
  | fn (f : Nat)
  | clo (k : Nat) (vs : List U)
  | hole                       -- a field that is not set
  | scr (us : List U)          -- the law's script: a list that is read alone
  deriving Inhabited, Repr

mutual
def eqU : U → U → Bool
  | .non, .non => true
  | .bl a, .bl b => a == b
  | .bl a, .int j => (if a then 1 else 0) == j
  | .int i, .bl b => i == (if b then 1 else 0)
  | .int i, .int j => i == j
  | .str a, .str b => a == b
  | .tup a, .tup b => eqUs a b
  | .lst a, .lst b => eqUs a b
  | .scr a, .lst b => eqUs a b
  | .lst a, .scr b => eqUs a b
  | .scr a, .scr b => eqUs a b
  | _, _ => false
def eqUs : List U → List U → Bool
  | [], [] => true
  | a :: as, b :: bs => eqU a b && eqUs as bs
  | _, _ => false
end

/-- a text of signs -/
def strU (s : List Nat) : Bool := decide (s.length ≤ 16777216) && s.all fun c => decide (c < 55296)

mutual
/-- the very same -/
def sameU : U → U → Bool
  | .non, .non => true
  | .bl a, .bl b => a == b
  | .int i, .int j => i == j
  | .str a, .str b => a == b
  | .tup a, .tup b => sameUs a b
  | .lst a, .lst b => sameUs a b
  | .dic a b, .dic c d => sameUs a c && sameUs b d
  | .obj a b, .obj c d => a == c && sameUs b d
  | .exc a b, .exc c d => a == c && sameUs b d
  | .ref a, .ref b => a == b
  | .fn a, .fn b => a == b
  | .clo a b, .clo c d => a == c && sameUs b d
  | .scr a, .scr b => sameUs a b
  | _, _ => false
def sameUs : List U → List U → Bool
  | [], [] => true
  | a :: as, b :: bs => sameU a b && sameUs as bs
  | _, _ => false
end

mutual
/-- plain data to a depth, of which == is by content (no dict, no instance, no shared object) -/
def deepU : Nat → U → Bool
  | _, .non | _, .bl _ | _, .int _ => true
  | _, .str s => strU s
  | n + 1, .tup us => deepUs n us
  | n + 1, .lst us => deepUs n us
  | n + 1, .scr us => deepUs n us
  | _, _ => false
def deepUs : Nat → List U → Bool
  | _, [] => true
  | n, u :: us => deepU n u && deepUs n us
end
abbrev U.plain (u : U) : Bool := deepU 7 u
abbrev plains (us : List U) : Bool := deepUs 6 us

/-! keys of dicts: ints and texts, or tuples of these, of truths, of such tuples -/
def isIS : U → Bool
  | .int _ | .str _ => true
  | _ => false
def isTupU : U → Bool
  | .tup _ => true
  | _ => false
mutual
def keyT : Nat → U → Bool
  | _, .bl _ | _, .int _ | _, .str _ => true
  | n + 1, .tup us => keyTs n us
  | _, _ => false
def keyTs : Nat → List U → Bool
  | _, [] => true
  | n, u :: us => keyT n u && keyTs n us
end
def kOk (ks : List U) (a : U) : Bool := (isIS a && ks.all isIS) || (isTupU a && keyT 7 a && ks.all isTupU)

/-- what stands in a name: nothing, a value, or a list, dict, instance of the frame's own -/
inductive Slt where
  | no
  | val (u : U)
  | own (u : U)
  deriving Inhabited, Repr

/-- names' slots, shared objects -/
structure Sta where
  r : List Slt
  m : List U
  deriving Inhabited, Repr

inductive Rs (α : Type) where
  | ok (a : α) (s : Sta)
  | exc (e : U) (s : Sta)
  | stuck
  deriving Inhabited, Repr

/-- what a call comes to -/
inductive RC where
  | ok (u : U) (m : List U)
  | exc (e : U) (m : List U)
  | stuck
  deriving Inhabited, Repr

namespace Rs
def bind {α β : Type} (x : Rs α) (f : α → Sta → Rs β) : Rs β :=
  match x with
  | .ok a s => f a s
  | .exc e s => .exc e s
  | .stuck => .stuck
end Rs

def bToI (b : Bool) : Int := if b then 1 else 0

/-! ### operations that read -/
inductive Opr where
  | add | sub | mul | fdiv | mod | pow | neg | abs
  | eq | ne | lt | le | gt | ge | isN | notN | inn | notin
  | ix | slice (lo hi : Bool) | rev
  | tup | lst | dict (n : Nat)
  | len | tupOf | lstOf | sorted | max1 | max2 | min2 | all | any | sum
  | isi (ts : List Nat)   -- 0 int 1 bool 2 tuple 3 list 4 str 5 dict; 10 + c: the class c
  | tupR1 | tupR2 | lstR1 | lstR2
  | index | get1 | get2 | divmod | lenSet
  | dictOf
  | fld (f : Nat)
  deriving Repr, Inhabited, DecidableEq

/-- a shared object's content -/
def cont (m : List U) : U → U
  | .ref n => m.getD n .non
  | u => u

def items? : U → Option (List U)
  | .tup us => some us
  | .lst us => some us
  | _ => none

def atI (us : List U) (i : Int) : Option U :=
  if 0 ≤ i then us[i.toNat]? else if 0 ≤ i + us.length then us[(i + us.length).toNat]? else none

def cut (us : List U) (lo hi : Option Int) : List U :=
  let n : Int := us.length
  let f := fun (i : Int) => if i < 0 then Max.max (i + n) 0 else Min.min i n
  let a := match lo with | some i => f i | none => 0
  let b := match hi with | some i => f i | none => n
  (us.take b.toNat).drop a.toNat

def ltI : List U → List U → Option Bool
  | [], [] => some false
  | [], _ => some true
  | _, [] => some false
  | .int a :: as, .int b :: bs => if a == b then ltI as bs else some (decide (a < b))
  | _, _ => none

def ltU : U → U → Option Bool
  | .int i, .int j => some (decide (i < j))
  | .str a, .str b => some (decide (a < b))
  | .tup a, .tup b => ltI a b
  | _, _ => none

def insU (x : U) : List U → Option (List U)
  | [] => some [x]
  | y :: ys => match ltU x y with
    | some true => some (x :: y :: ys)
    | some false => (insU x ys).map (y :: ·)
    | none => none
def sortU : List U → Option (List U)
  | [] => some []
  | x :: xs => (sortU xs).bind (insU x)

def insI (x : Int) : List Int → List Int
  | [] => [x]
  | y :: ys => if x ≤ y then x :: y :: ys else y :: insI x ys
def sortI : List Int → List Int
  | [] => []
  | x :: xs => insI x (sortI xs)

def memU (x : U) (us : List U) : Bool := us.any (fun y => eqU y x)
def idxU (x : U) : List U → Option Nat
  | [] => none
  | y :: ys => if eqU y x then some 0 else (idxU x ys).map (· + 1)
def dget (ks vs : List U) (k : U) : Option U :=
  match ks, vs with
  | k' :: ks, v :: vs => if eqU k' k then some v else dget ks vs k
  | _, _ => none
def dput (ks vs : List U) (k v : U) : List U × List U :=
  if memU k ks then (ks, List.zipWith (fun k' w => if eqU k' k then v else w) ks vs) else (ks ++ [k], vs ++ [v])
def ints? : List U → Option (List Int)
  | [] => some []
  | .int i :: us => (ints? us).map (i :: ·)
  | _ => none
def maxI : List Int → Option Int
  | [] => none
  | a :: as => match maxI as with
    | none => some a
    | some b => some (Max.max a b)
/-- each once -/
def stepI (acc : List Int) (k : Int) : List Int := if acc.any (· == k) then acc else acc ++ [k]
def onceI (is : List Int) : List Int := is.foldl stepI []
def line : Nat := 16777216
def truthy : U → Option Bool
  | .non => some false
  | .bl b => some b
  | .int i => some (i != 0)
  | .str s => if s.length ≤ line then some (s != []) else none
  | .tup us => some (!us.isEmpty)
  | .lst us => some (!us.isEmpty)
  | .dic ks _ => if ks.all isIS then some (!ks.isEmpty) else none
  | _ => none
def allT : List U → Option Bool
  | [] => some true
  | .bl b :: us => (allT us).map (b && ·)
  | _ => none
def anyT : List U → Option Bool
  | [] => some false
  | .bl b :: us => (anyT us).map (b || ·)
  | _ => none
def isK (u : U) : Nat → Bool
  | 0 => match u with | .int _ => true | .bl _ => true | _ => false
  | 1 => match u with | .bl _ => true | _ => false
  | 2 => match u with | .tup _ => true | _ => false
  | 3 => match u with | .lst _ => true | _ => false
  | 4 => match u with | .str _ => true | _ => false
  | 5 => match u with | .dic _ _ => true | _ => false
  | _ => false
def rng (a b : Int) : List U := (List.range (b - a).toNat).map fun (k : Nat) => U.int (a + (k : Int))
def bound : Int := 4611686018427387904
def small (i : Int) : Bool := decide (-bound ≤ i ∧ i < bound)
def two64 : Int := 18446744073709551616

/-! ### the static part -/
/-- defs by number; a class's methods; the classes' order; globals; how often a while may turn -/
structure Gst where
  call : Nat → List U → List U → RC
  meth : Nat → Nat → List U → List U → RC
  sub : Nat → Nat → Bool
  attr : Nat → Nat → Option Nat
  clo : Nat → List U → List U → RC
  turns : Nat
  excs : List Nat

def isT (g : Gst) (u : U) (t : Nat) : Bool :=
  if t < 10 then isK u t else match u with
    | .obj c _ => g.sub c (t - 10)
    | .exc c _ => g.sub c (t - 10)
    | _ => false

def okL (us : List U) : Option U := if us.length ≤ line then some (.lst us) else none
def okT (us : List U) : Option U := if us.length ≤ line then some (.tup us) else none
def pairsOf : List U → List U → List U
  | k :: ks, v :: vs => .tup [k, v] :: pairsOf ks vs
  | _, _ => []
def mkDic : List U → List U → List U → Option U
  | k :: v :: r, ks, vs => if kOk ks k then mkDic r (dput ks vs k v).1 (dput ks vs k v).2 else none
  | [], ks, vs => some (.dic ks vs)
  | _, _, _ => none
def repN (us : List U) : Nat → List U
  | 0 => []
  | n + 1 => us ++ repN us n

def opAdd (us : List U) : Option U :=
  match us with
  | [.int i, .int j] => some (.int (i + j))
  | [.tup a, .tup b] => okT (a ++ b)
  | [.lst a, .lst b] => okL (a ++ b)
  | [.str a, .str b] => if a.length + b.length ≤ line then some (.str (a ++ b)) else none
  | _ => none
def opSub (us : List U) : Option U :=
  match us with
  | [.int i, .int j] => some (.int (i - j))
  | _ => none
def opMul (us : List U) : Option U :=
  match us with
  | [.int i, .int j] => if decide (i.natAbs < 2 ^ 9000 ∧ j.natAbs < 2 ^ 9000) then some (.int (i * j)) else none
  | [.tup a, .int n] => if decide (-1000 ≤ n ∧ n ≤ 1000 ∧ a.length ≤ 1000 ∧ a.length ≠ 0) then some (.tup (repN a n.toNat)) else none
  | [.lst a, .int n] => if decide (-1000 ≤ n ∧ n ≤ 1000000 ∧ a.length * n.toNat ≤ line) then some (.lst (repN a n.toNat)) else none
  | _ => none
def opFdiv (us : List U) : Option U :=
  match us with
  | [.int i, .int j] => if decide (0 < j ∧ j.natAbs < 2 ^ 9000) then some (.int (i / j)) else none
  | _ => none
def opMod (us : List U) : Option U :=
  match us with
  | [.int i, .int j] => if decide (0 < j) then some (.int (i % j)) else none
  | _ => none
def opPow (us : List U) : Option U :=
  match us with
  | [.int i, .int j] => if decide (0 ≤ j ∧ j ≤ 64 ∧ i.natAbs < 2 ^ 64) then some (.int (i ^ j.toNat)) else none
  | _ => none
def opNeg (us : List U) : Option U :=
  match us with
  | [.int i] => some (.int (-i))
  | _ => none
def opAbs (us : List U) : Option U :=
  match us with
  | [.int i] => some (.int i.natAbs)
  | _ => none
def opEq (us : List U) : Option U :=
  match us with
  | [a, b] => if a.plain && b.plain then some (.bl (eqU a b)) else none
  | _ => none
def opNe (us : List U) : Option U :=
  match us with
  | [a, b] => if a.plain && b.plain then some (.bl (!eqU a b)) else none
  | _ => none
def opLt (us : List U) : Option U :=
  match us with
  | [.int i, .int j] => some (.bl (decide (i < j)))
  | _ => none
def opLe (us : List U) : Option U :=
  match us with
  | [.int i, .int j] => some (.bl (decide (i ≤ j)))
  | _ => none
def opGt (us : List U) : Option U :=
  match us with
  | [.int i, .int j] => some (.bl (decide (j < i)))
  | _ => none
def opGe (us : List U) : Option U :=
  match us with
  | [.int i, .int j] => some (.bl (decide (j ≤ i)))
  | _ => none
def opIsN (us : List U) : Option U :=
  match us with
  | [a] => some (.bl (match a with | .non => true | _ => false))
  | _ => none
def opNotN (us : List U) : Option U :=
  match us with
  | [a] => some (.bl (match a with | .non => false | _ => true))
  | _ => none
def opInn (us : List U) : Option U :=
  match us with
  | [a, .lst us] => if a.plain && plains us then some (.bl (memU a us)) else none
  | [a, .dic ks _] => if kOk ks a then some (.bl (memU a ks)) else none
  | _ => none
def opNotin (us : List U) : Option U :=
  match us with
  | [a, .lst us] => if a.plain && plains us then some (.bl (!memU a us)) else none
  | [a, .dic ks _] => if kOk ks a then some (.bl (!memU a ks)) else none
  | _ => none
def opIx (us : List U) : Option U :=
  match us with
  | [.tup us, .int i] => atI us i
  | [.lst us, .int i] => atI us i
  | [.scr us, .int i] => atI us i
  | [.dic ks vs, k] => if kOk ks k then dget ks vs k else none
  | _ => none
def opSlice (a b : Bool) (us : List U) : Option U :=
  match us with
  | .tup us :: r => match a, b, r with
    | false, false, [] => some (.tup us)
    | true, false, [.int i] => some (.tup (cut us (some i) none))
    | false, true, [.int j] => some (.tup (cut us none (some j)))
    | true, true, [.int i, .int j] => some (.tup (cut us (some i) (some j)))
    | _, _, _ => none
  | .lst us :: r => match a, b, r with
    | false, false, [] => some (.lst us)
    | true, false, [.int i] => some (.lst (cut us (some i) none))
    | false, true, [.int j] => some (.lst (cut us none (some j)))
    | true, true, [.int i, .int j] => some (.lst (cut us (some i) (some j)))
    | _, _, _ => none
  | _ => none
def opRev (us : List U) : Option U :=
  match us with
  | [.tup us] => some (.tup us.reverse)
  | [.lst us] => some (.lst us.reverse)
  | _ => none
def opTup (us : List U) : Option U :=
  match us with
  | us => okT us
def opLst (us : List U) : Option U :=
  match us with
  | us => okL us
def opDict (n : Nat) (us : List U) : Option U :=
  match us with
  | us => if us.length == 2 * n then mkDic us [] [] else none
def opLen (us : List U) : Option U :=
  match us with
  | [.tup us] => some (.int us.length)
  | [.lst us] => some (.int us.length)
  | [.scr us] => some (.int us.length)
  | [.dic ks _] => some (.int ks.length)
  | [.str s] => if s.length ≤ line then some (.int s.length) else none
  | _ => none
def opTupOf (us : List U) : Option U :=
  match us with
  | [.tup us] => some (.tup us)
  | [.lst us] => some (.tup us)
  | _ => none
def opLstOf (us : List U) : Option U :=
  match us with
  | [.tup us] => some (.lst us)
  | [.lst us] => some (.lst us)
  | _ => none
def opSorted (us : List U) : Option U :=
  match us with
  | [.tup us] => (ints? us).map fun is => .lst ((sortI is).map .int)
  | [.lst us] => (ints? us).map fun is => .lst ((sortI is).map .int)
  | _ => none
def opMax1 (us : List U) : Option U :=
  match us with
  | [.lst us] => ((ints? us).bind maxI).map .int
  | _ => none
def opMax2 (us : List U) : Option U :=
  match us with
  | [.int a, .int b] => some (.int (Max.max a b))
  | _ => none
def opMin2 (us : List U) : Option U :=
  match us with
  | [.int a, .int b] => some (.int (Min.min a b))
  | _ => none
def opAll (us : List U) : Option U :=
  match us with
  | [.lst us] => (allT us).map .bl
  | _ => none
def opAny (us : List U) : Option U :=
  match us with
  | [.lst us] => (anyT us).map .bl
  | _ => none
def opSum (us : List U) : Option U :=
  match us with
  | [.lst us] => (ints? us).map fun is => .int is.sum
  | _ => none
def isiOk (g : Gst) : U → Bool
  | .non => true
  | .bl _ => true
  | .int _ => true
  | .str _ => true
  | .tup _ => true
  | .lst _ => true
  | .exc c _ => g.excs.contains c
  | _ => false
def opIsi (g : Gst) (ts : List Nat) (us : List U) : Option U :=
  match us with
  | [a] => if isiOk g a then some (.bl (ts.any (isT g a))) else none
  | _ => none
def opTupR1 (us : List U) : Option U :=
  match us with
  | [.int n] => if small n && decide (n.toNat ≤ line) then some (.tup (rng 0 n)) else none
  | _ => none
def opTupR2 (us : List U) : Option U :=
  match us with
  | [.int a, .int b] => if small a && small b && decide ((b - a).toNat ≤ line) then some (.tup (rng a b)) else none
  | _ => none
def opLstR1 (us : List U) : Option U :=
  match us with
  | [.int n] => if small n && decide (n.toNat ≤ line) then some (.lst (rng 0 n)) else none
  | _ => none
def opLstR2 (us : List U) : Option U :=
  match us with
  | [.int a, .int b] => if small a && small b && decide ((b - a).toNat ≤ line) then some (.lst (rng a b)) else none
  | _ => none
def opIndex (us : List U) : Option U :=
  match us with
  | [.lst us, a] => if a.plain && plains us then (idxU a us).map fun k => .int k else none
  | [.tup us, a] => if a.plain && plains us then (idxU a us).map fun k => .int k else none
  | _ => none
def opGet1 (us : List U) : Option U :=
  match us with
  | [.dic ks vs, k] => if kOk ks k then some ((dget ks vs k).getD .non) else none
  | _ => none
def opGet2 (us : List U) : Option U :=
  match us with
  | [.dic ks vs, k, d] => if kOk ks k && d.plain then some ((dget ks vs k).getD d) else none
  | _ => none
def opDivmod (us : List U) : Option U :=
  match us with
  | [.int i, .int j] => if decide (0 < j ∧ j.natAbs < 2 ^ 9000) then some (.prs [.int (i / j), .int (i % j)]) else none
  | _ => none
def opLenSet (us : List U) : Option U :=
  match us with
  | [.lst us] => (ints? us).bind fun is => if is.length ≤ 4000 then some (.int (onceI is).length) else none
  | _ => none
def opDictOf (us : List U) : Option U :=
  match us with
  | [.dic ks vs] => some (.dic ks vs)
  | _ => none
def opFld (g : Gst) (f : Nat) (us : List U) : Option U :=
  match us with
  | [.obj c fs] => match (g.attr c f).bind (fs[·]?) with
    | some .hole => none
    | r => r
  | [.exc c fs] => (g.attr c f).bind (fs[·]?)
  | _ => none
def opSem (g : Gst) (o : Opr) (us : List U) : Option U :=
  match o with
  | .add => opAdd us
  | .sub => opSub us
  | .mul => opMul us
  | .fdiv => opFdiv us
  | .mod => opMod us
  | .pow => opPow us
  | .neg => opNeg us
  | .abs => opAbs us
  | .eq => opEq us
  | .ne => opNe us
  | .lt => opLt us
  | .le => opLe us
  | .gt => opGt us
  | .ge => opGe us
  | .isN => opIsN us
  | .notN => opNotN us
  | .inn => opInn us
  | .notin => opNotin us
  | .ix => opIx us
  | .slice a b => opSlice a b us
  | .rev => opRev us
  | .tup => opTup us
  | .lst => opLst us
  | .dict n => opDict n us
  | .len => opLen us
  | .tupOf => opTupOf us
  | .lstOf => opLstOf us
  | .sorted => opSorted us
  | .max1 => opMax1 us
  | .max2 => opMax2 us
  | .min2 => opMin2 us
  | .all => opAll us
  | .any => opAny us
  | .sum => opSum us
  | .isi ts => opIsi g ts us
  | .tupR1 => opTupR1 us
  | .tupR2 => opTupR2 us
  | .lstR1 => opLstR1 us
  | .lstR2 => opLstR2 us
  | .index => opIndex us
  | .get1 => opGet1 us
  | .get2 => opGet2 us
  | .divmod => opDivmod us
  | .lenSet => opLenSet us
  | .dictOf => opDictOf us
  | .fld f => opFld g f us

/-! ### operations that change a list or a dict, and what they hand back -/
inductive Mop where
  | append | extend | pop | popAt | setIx | setdefault | remove | insert | dpop | reverse
  deriving Repr, Inhabited, DecidableEq

def muAppend (c : U) (us : List U) : Option (U × U) :=
  match c, us with
  | .lst xs, [a] => if xs.length < line then some (.lst (xs ++ [a]), .non) else none
  | _, _ => none
def muExtend (c : U) (us : List U) : Option (U × U) :=
  match c, us with
  | .lst xs, [.lst ys] => if xs.length + ys.length ≤ line then some (.lst (xs ++ ys), .non) else none
  | _, _ => none
def muPop (c : U) (us : List U) : Option (U × U) :=
  match c, us with
  | .lst xs, [] => match xs.getLast? with
    | some a => some (.lst xs.dropLast, a)
    | none => none
  | _, _ => none
def muPopAt (c : U) (us : List U) : Option (U × U) :=
  match c, us with
  | .lst xs, [.int i] => if 0 ≤ i ∧ i < bound then (match xs[i.toNat]? with
    | some a => some (.lst (xs.eraseIdx i.toNat), a)
    | none => none) else none
  | _, _ => none
def muSetIx (c : U) (us : List U) : Option (U × U) :=
  match c, us with
  | .lst xs, [.int i, a] => if 0 ≤ i then (if i.toNat < xs.length then some (.lst (xs.set i.toNat a), .non) else none)
      else if 0 ≤ i + xs.length then some (.lst (xs.set (i + xs.length).toNat a), .non) else none
  | .dic ks vs, [k, v] => if kOk ks k && decide (ks.length < line) then (let (a, b) := dput ks vs k v; some (.dic a b, .non)) else none
  | _, _ => none
def muSetdefault (c : U) (us : List U) : Option (U × U) :=
  match c, us with
  | .dic ks vs, [k, v] => if kOk ks k && decide (ks.length < line) then (match dget ks vs k with
    | some w => some (.dic ks vs, w)
    | none => some (.dic (ks ++ [k]) (vs ++ [v]), v)) else none
  | _, _ => none
def muRemove (c : U) (us : List U) : Option (U × U) :=
  match c, us with
  | .lst xs, [a] => if a.plain && plains xs then (match idxU a xs with
    | some k => some (.lst (xs.eraseIdx k), .non)
    | none => none) else none
  | _, _ => none
def mutSem (o : Mop) (c : U) (us : List U) : Option (U × U) :=
  match o with
  | .append => muAppend c us
  | .extend => muExtend c us
  | .pop => muPop c us
  | .popAt => muPopAt c us
  | .setIx => muSetIx c us
  | .setdefault => muSetdefault c us
  | .remove => muRemove c us
  | _ => none

/-! ### the syntax -/
inductive Tg where
  | one (i : Nat)
  | tup (ts : List Tg)
  deriving Inhabited, Repr

inductive ME where
  | var (i : Nat)          -- a value in a name
  | mv (i : Nat)           -- the name's own list, handed on and changed no more
  | lit (u : U)
  | glo (x : Nat) (u : U)
  | op (o : Opr) (as : List ME)
  | and (es : List ME)
  | or (es : List ME)
  | not (e : ME)
  | ifx (c a b : ME)
  | chain (o o' : Opr) (a b c : ME)
  | call (f : Nat) (as : List ME)
  | callv (i : Nat) (as : List ME)
  | meth (o : ME) (m : Nat) (as : List ME)
  | lam (k : Nat) (as : List Nat)
  | mut (o : Mop) (c : ME) (as : List ME)
  | share (e : ME)
  | comp (e : ME) (t : Tg) (k : Nat) (its : List ME) (own : List Nat) (cond : Option ME)
  deriving Inhabited, Repr

inductive MS where
  | set (t : Tg) (e : ME)
  | own (i : Nat) (e : ME)
  | par (i j : Nat) (a b : ME)
  | aug (i : Nat) (o : Opr) (e : ME)
  | augIx (c ix : ME) (o : Opr) (e : ME)
  | setFld (o : ME) (f : Nat) (e : ME)
  | setIx (c ix e : ME)
  | expr (e : ME)
  | ret (e : ME)
  | ife (c : ME) (a b : List MS)
  | whil (c : ME) (b : List MS)
  | forr (t : Tg) (k : Nat) (its : List ME) (b : List MS)
  | brk | cont | pass
  | raise (c : Nat) (as : List ME)
  | tri (b : List MS) (hs : List (Nat × Option Nat × List MS))
  deriving Inhabited, Repr

inductive Fl where
  | next | brk | cont
  | ret (u : U)
  deriving Inhabited, Repr

/-! ### what it does -/
def slot (s : Sta) (i : Nat) : Slt := s.r.getD i .no
def Sta.put (s : Sta) (i : Nat) (x : Slt) : Sta := { s with r := s.r.set i x }

/-! targets -/
mutual
def bindT : Tg → U → Sta → Option Sta
  | .one i, u, s => some (s.put i (.val u))
  | .tup ts, .tup us, s => bindTs ts us s
  | .tup ts, .prs us, s => bindTs ts us s
  | _, _, _ => none
def bindTs : List Tg → List U → Sta → Option Sta
  | [], [], s => some s
  | t :: ts, u :: us, s => match bindT t u s with
    | some s => bindTs ts us s
    | none => none
  | _, _, _ => none
end

/-- an argument: a value, or a name's own list, read when all are there -/
inductive AV where
  | v (u : U)
  | own (i : Nat)
def AV.get (s : Sta) : AV → U
  | .v u => cont s.m u
  | .own i => match slot s i with
    | .own u => u
    | _ => .non
/-- is it still there to be read? -/
def AV.ok (s : Sta) : AV → Bool
  | .v _ => true
  | .own i => match slot s i with
    | .own _ => true
    | _ => false
/-- a list (1), a tuple (2), a dict (3) -/
def kindN : U → Nat
  | .lst _ => 1
  | .tup _ => 2
  | .dic _ _ => 3
  | _ => 0
/-- a method, called on its first argument -/
def Opr.meth : Opr → Bool
  | .index => true
  | _ => false
def Mop.kind : Mop → Nat
  | .setdefault | .dpop => 3
  | _ => 1
/-- does the operation hold its arguments as they are (and does not look into them)? -/
def Opr.holds : Opr → Bool
  | .tup | .lst | .dict _ => true
  | _ => false

/-- what is walked -/
def walk (k : Nat) (us : List U) : Option (List U) :=
  match k, us with
  | 0, [.tup xs] => some xs
  | 0, [.lst xs] => some xs
  | 1, [.int n] => if small n then some (rng 0 n) else none
  | 2, [.int a, .int b] => if small a && small b then some (rng a b) else none
  | 3, [.tup xs] => some (xs.mapIdx fun i x => .prs [.int i, x])
  | 3, [.lst xs] => some (xs.mapIdx fun i x => .prs [.int i, x])
  | 4, [.tup xs, .tup ys] => some (List.zipWith (fun a b => .prs [a, b]) xs ys)
  | 4, [.lst xs, .lst ys] => some (List.zipWith (fun a b => .prs [a, b]) xs ys)
  | 5, [.tup xs] => some xs.reverse
  | 5, [.lst xs] => some xs.reverse
  | 7, [.dic _ vs] => some vs
  | 8, [.dic ks vs] => some (pairsOf ks vs)
  | 9, [.str cs] => some (cs.map fun c => .str [c])
  | _, _ => none

def walkA (k : Nat) (avs : List AV) (s : Sta) : Option (List U) := if avs.all (AV.ok s) then walk k (avs.map (AV.get s)) else none
def lookS (s : Sta) : List Nat → Option (List U)
  | [] => some []
  | i :: is => match slot s i, lookS s is with
    | .val u, some us => some (u :: us)
    | _, _ => none

def wipeS (s : Sta) : List Nat → Sta
  | [] => s
  | i :: is => (wipeS s is).put i .no
/-- behind a comprehension: its own names are as they were -/
def backS (s0 s : Sta) : List Nat → Sta
  | [] => s
  | i :: is => (backS s0 s is).put i (slot s0 i)

/-- a comprehension's turns -/
def turnsC (f : U → Sta → Rs (Option U)) : List U → Sta → Rs (List U)
  | [], s => .ok [] s
  | x :: xs, s => (f x s).bind fun o s => (turnsC f xs s).bind fun ys s => .ok (match o with | some y => y :: ys | none => ys) s

/-- the walked list, where it may be changed, stays as it is through a turn -/
def stillIs (s s' : Sta) : List AV → Bool
  | [] => true
  | .own i :: r => AV.ok s' (.own i) && sameU ((AV.own i).get s) ((AV.own i).get s') && stillIs s s' r
  | .v (.ref n) :: r => sameU (cont s.m (.ref n)) (cont s'.m (.ref n)) && stillIs s s' r
  | .v _ :: r => stillIs s s' r

def opT (g : Gst) (o : Opr) (a b : U) (s : Sta) : Rs U := match opSem g o [a, b] with
  | some u => .ok u s
  | none => .stuck

def isOwn (s : Sta) : ME → Option Nat
  | .var i => match slot s i with
    | .own _ => some i
    | _ => none
  | _ => none
/-- a container that is changed: the name's own, or a shared one -/
def setC (s : Sta) (a : AV) (c : U) : Option Sta :=
  match a with
  | .own i => some (s.put i (.own c))
  | .v (.ref n) => if n < s.m.length then some { s with m := s.m.set n c } else none
  | _ => none

def rc (r : List Slt) : RC → Rs U
  | .ok u m => .ok u ⟨r, m⟩
  | .exc e m => .exc e ⟨r, m⟩
  | .stuck => .stuck

/-- a list, a dict -/
def isLD : U → Bool
  | .lst _ => true
  | .dic _ _ => true
  | _ => false
def newOf (r : Rs U) : Rs U := r.bind fun u s => if isLD u then .ok u s else .stuck
/-- a container's method: it changes the container, and tells -/
def mutF (o : Mop) (av : AV) (us : List U) (s : Sta) : Rs U := match mutSem o (av.get s) us with
  | some (c', u) => match setC s av c' with
    | some s => .ok u s
    | none => .stuck
  | none => .stuck
/-- an expression as an argument -/
def argOf (f : Sta → Rs U) (e : ME) (s : Sta) : Rs AV :=
  match isOwn s e with
  | some i => .ok (.own i) s
  | none => (f s).bind fun u s => .ok (.v u) s

mutual
def evalE (g : Gst) : ME → Sta → Rs U
  | .var i, s => match slot s i with
    | .val u => .ok u s
    | _ => .stuck
  | .mv i, s => match slot s i with
    | .own u => .ok u (s.put i (.val u))
    | .val u => .ok u s
    | .no => .stuck
  | .lit u, s => .ok u s
  | .glo _ u, s => .ok u s
  | .op o as, s => if o.holds then ((evalEs g as s).bind fun us s => match opSem g o us with
      | some u => .ok u s
      | none => .stuck)
    else (if o.meth then evalRecv g as s else evalAs g as s).bind fun avs s => if avs.all (AV.ok s) then (match opSem g o (avs.map (AV.get s)) with
      | some u => .ok u s
      | none => .stuck) else .stuck
  | .and es, s => evalAnd g es s
  | .or es, s => evalOr g es s
  | .not e, s => (argOf (fun s => evalE g e s) e s).bind fun av s => match truthy (av.get s) with
      | some b => .ok (.bl (!b)) s
      | none => .stuck
  | .ifx c a b, s => (argOf (fun s => evalE g c s) c s).bind fun av s => match truthy (av.get s) with
      | some true => evalE g a s
      | some false => evalE g b s
      | none => .stuck
  | .chain o o' a b c, s => (evalE g a s).bind fun x s => (evalE g b s).bind fun y s => match opSem g o [x, y] with
      | some (.bl true) => (evalE g c s).bind fun z s => match opSem g o' [y, z] with
        | some u => .ok u s
        | none => .stuck
      | some (.bl false) => .ok (.bl false) s
      | _ => .stuck
  | .call f as, s => (evalEs g as s).bind fun us s => rc s.r (g.call f us s.m)
  | .callv i as, s => (evalEs g as s).bind fun us s => match slot s i with
      | .val (.fn f) => rc s.r (g.call f us s.m)
      | .val (.clo k vs) => if us.isEmpty then rc s.r (g.clo k vs s.m) else rc s.r (g.clo k (us ++ vs) s.m)
      | _ => .stuck
  | .meth o m as, s => (evalE g o s).bind fun u s => (evalEs g as s).bind fun us s => match cont s.m u with
      | .obj c _ => rc s.r (g.meth c m (u :: us) s.m)
      | _ => .stuck
  | .lam k is, s => match lookS s is with
      | some us => .ok (.clo k us) s
      | none => .stuck
  | .mut o c as, s => (argOf (fun s => evalE g c s) c s).bind fun av s => if kindN (av.get s) != o.kind then .stuck else
      if o == .extend then (evalAs g as s).bind fun avs s => if avs.all (AV.ok s) then mutF o av (avs.map (AV.get s)) s else .stuck
      else (evalEs g as s).bind fun us s => mutF o av us s
  | .share e, s => (newOf (evalE g e s)).bind fun u s => .ok (.ref s.m.length) { s with m := s.m ++ [u] }
  | .comp e t k its own cond, s => (evalAs g its s).bind fun avs s1 => match walkA k avs s1 with
      | some xs => if stillIs s1 (wipeS s1 own) avs && own.all (fun j => !(AV.own j).ok s1) then
          (match turnsC (fun x s => match bindT t x (wipeS s own) with
            | some sb => (match cond with
              | none => Rs.ok true sb
              | some c => (argOf (fun s => evalE g c s) c sb).bind fun av s => match truthy (av.get s) with
                | some b => .ok b s
                | none => .stuck).bind fun b sc => if b then (evalE g e sc).bind fun u se => (if stillIs s1 se avs then .ok (some u) se else .stuck)
                  else (if stillIs s1 sc avs then .ok none sc else .stuck)
            | none => .stuck) xs s1 with
          | .ok us s' => if us.length ≤ line then .ok (.lst us) (backS s1 s' own) else .stuck
          | _ => .stuck) else .stuck
      | none => .stuck
def evalEs (g : Gst) : List ME → Sta → Rs (List U)
  | [], s => .ok [] s
  | e :: es, s => (evalE g e s).bind fun u s => (evalEs g es s).bind fun us s => .ok (u :: us) s
def evalAs (g : Gst) : List ME → Sta → Rs (List AV)
  | [], s => .ok [] s
  | e :: es, s => (argOf (fun s => evalE g e s) e s).bind fun u s => (evalAs g es s).bind fun us s => .ok (u :: us) s
def evalRecv (g : Gst) : List ME → Sta → Rs (List AV)
  | [], _ => .stuck
  | e :: es, s => (argOf (fun s => evalE g e s) e s).bind fun av s1 => if kindN (av.get s1) != 1 && kindN (av.get s1) != 2 then .stuck else (evalAs g es s1).bind fun us s2 =>
      if kindN (av.get s2) != kindN (av.get s1) then .stuck else .ok (av :: us) s2
def evalAnd (g : Gst) : List ME → Sta → Rs U
  | [], _ => .stuck
  | [e], s => evalE g e s
  | e :: es, s => (evalE g e s).bind fun u s => match u with
      | .bl true => evalAnd g es s
      | .bl false => .ok (.bl false) s
      | _ => .stuck
def evalOr (g : Gst) : List ME → Sta → Rs U
  | [], _ => .stuck
  | [e], s => evalE g e s
  | e :: es, s => (evalE g e s).bind fun u s => match u with
      | .bl true => .ok (.bl true) s
      | .bl false => evalOr g es s
      | _ => .stuck
end


/-! ### statements -/
/-- a loop's turns over given things -/
def turnsF (f : U → Sta → Rs Fl) : List U → Sta → Rs Fl
  | [], s => .ok .next s
  | x :: xs, s => (f x s).bind fun fl s => match fl with
    | .next => turnsF f xs s
    | .cont => turnsF f xs s
    | .brk => .ok .next s
    | .ret u => .ok (.ret u) s
def turnsW (c : Sta → Rs Bool) (f : Sta → Rs Fl) : Nat → Sta → Rs Fl
  | 0, _ => .stuck
  | n + 1, s => (c s).bind fun b s => if b then (f s).bind fun fl s => (match fl with
    | .next => turnsW c f n s
    | .cont => turnsW c f n s
    | .brk => .ok .next s
    | .ret u => .ok (.ret u) s) else .ok .next s
/-- x op= y: ints, and texts -/
def opAug (o : Opr) (x y : U) (s : Sta) : Rs U := match o, x, y with
  | .add, .int i, .int j => .ok (.int (i + j)) s
  | .sub, .int i, .int j => .ok (.int (i - j)) s
  | .mul, .int i, .int j => if i.natAbs < two64.natAbs then .ok (.int (i * j)) s else .stuck
  | .fdiv, .int i, .int j => if 0 < j ∧ j < 1073741824 then .ok (.int (i / j)) s else .stuck
  | .mod, .int i, .int j => if 0 < j then .ok (.int (i % j)) s else .stuck
  | .add, .str a, .str b => if a.length + b.length ≤ line then .ok (.str (a ++ b)) s else .stuck
  | _, _, _ => .stuck
def condOf (f : Sta → Rs U) (e : ME) (s : Sta) : Rs Bool := (argOf f e s).bind fun av s => match truthy (av.get s) with
  | some b => .ok b s
  | none => .stuck
/-- a field of an instance is set: the name's own, or a shared one -/
def setFldC (g : Gst) (s : Sta) (a : AV) (f : Nat) (u : U) : Option Sta := match a.get s with
  | .obj c fs => match g.attr c f with
    | some k => if k < fs.length then setC s a (.obj c (fs.set k u)) else none
    | none => none
  | _ => none

/-- is it an exception of that class? -/
def isX (g : Gst) (e : U) (c : Nat) : Option Bool := match e with
  | .exc d _ => if g.excs.contains d then some (g.sub d c) else none
  | _ => none

mutual
def execS (g : Gst) : MS → Sta → Rs Fl
  | .set t e, s => (evalE g e s).bind fun u s => match bindT t u s with
    | some s => .ok .next s
    | none => .stuck
  | .own i e, s => (newOf (evalE g e s)).bind fun u s => .ok .next (s.put i (.own u))
  | .par i j a b, s => (evalE g a s).bind fun x s => (evalE g b s).bind fun y s => .ok .next ((s.put j (.val y)).put i (.val x))
  | .aug i o e, s => match slot s i with
    | .val x => (evalE g e s).bind fun y s => (opAug o x y s).bind fun u s => .ok .next (s.put i (.val u))
    | .own _ => if o == .add then (argOf (fun s => evalE g e s) e s).bind fun av s => if av.ok s then (mutF .extend (.own i) [av.get s] s).bind fun _ s => .ok .next s else .stuck
      else .stuck
    | .no => .stuck
  | .augIx c ix o e, s => (argOf (fun s => evalE g c s) c s).bind fun av s => (evalE g ix s).bind fun k s =>
      match opSem g .ix [av.get s, k] with
      | some x => (evalE g e s).bind fun y s => (opAug o x y s).bind fun u s => match mutSem .setIx (av.get s) [k, u] with
        | some (c', _) => match setC s av c' with
          | some s => .ok .next s
          | none => .stuck
        | none => .stuck
      | none => .stuck
  | .setIx c ix e, s => (evalE g e s).bind fun u s => (argOf (fun s => evalE g c s) c s).bind fun av s => (evalE g ix s).bind fun k s =>
      match mutSem .setIx (av.get s) [k, u] with
      | some (c', _) => match setC s av c' with
        | some s => .ok .next s
        | none => .stuck
      | none => .stuck
  | .setFld o f e, s => (evalE g e s).bind fun u s => (argOf (fun s => evalE g o s) o s).bind fun av s => match setFldC g s av f u with
    | some s => .ok .next s
    | none => .stuck
  | .expr e, s => (evalE g e s).bind fun _ s => .ok .next s
  | .ret e, s => (evalE g e s).bind fun u s => .ok (.ret u) s
  | .ife c a b, s => (condOf (fun s => evalE g c s) c s).bind fun x s => if x then execs g a s else execs g b s
  | .whil c b, s => turnsW (fun s => condOf (fun s => evalE g c s) c s) (fun s => execs g b s) g.turns s
  | .forr t k its b, s => (evalAs g its s).bind fun avs s => match walkA k avs s with
    | some xs => turnsF (fun x s1 => match bindT t x s1 with
      | some s2 => (execs g b s2).bind fun fl s3 => if stillIs s s3 avs then .ok fl s3 else .stuck
      | none => .stuck) xs s
    | none => .stuck
  | .brk, s => .ok .brk s
  | .cont, s => .ok .cont s
  | .pass, s => .ok .next s
  | .raise c as, s => (evalEs g as s).bind fun us s => .exc (.exc c us) s
  | .tri b hs, s => match execs g b s with
    | .exc e s => handle g hs e s
    | r => r
def execs (g : Gst) : List MS → Sta → Rs Fl
  | [], s => .ok .next s
  | x :: xs, s => (execS g x s).bind fun fl s => match fl with
    | .next => execs g xs s
    | _ => .ok fl s
def handle (g : Gst) : List (Nat × Option Nat × List MS) → U → Sta → Rs Fl
  | [], e, s => .exc e s
  | (c, n, b) :: hs, e, s => match isX g e c with
    | some true => (match n with
      | some i => (execs g b (s.put i (.val e))).bind fun fl s => .ok fl (s.put i .no)
      | none => execs g b s)
    | some false => handle g hs e s
    | none => .stuck
end

/-! ### programs -/
structure MDef where
  params : Nat
  slots : Nat
  body : List MS
  deriving Inhabited, Repr

/-- what a program has: defs by number; a class's constructor is a def with the class's number: kind 1 keeps, kind 2 shares what it makes -/
structure Prg where
  def_ : Nat → Option MDef
  ctor : Nat → Option (Nat × Nat × Nat × Nat)    -- class, fields, the def of __init__, 1 | 2
  meth : Nat → Nat → Option Nat                  -- class, name: the def
  sub : Nat → Nat → Bool
  attr : Nat → Nat → Option Nat                  -- class, name of an attribute: its place
  lam : Nat → Option MDef
  turns : Nat
  excs : List Nat

def slots0 (us : List U) (n : Nat) : List Slt := us.map Slt.val ++ List.replicate (n - us.length) .no

def runDef (g : Gst) (d : MDef) (us m : List U) : RC :=
  if us.length == d.params then (match execs g d.body ⟨slots0 us d.slots, m⟩ with
    | .ok (.ret u) s => .ok u s.m
    | .ok .next s => .ok .non s.m
    | .ok _ _ => .stuck
    | .exc e s => .exc e s.m
    | .stuck => .stuck) else .stuck
/-- __init__: the instance stands in slot 0 -/
def runInit (g : Gst) (d : MDef) (c n : Nat) (us m : List U) : RC :=
  if us.length + 1 == d.params then (match execs g d.body ⟨.own (.obj c (List.replicate n .hole)) :: slots0 us (d.slots - 1), m⟩ with
    | .ok _ s => (match slot s 0 with
      | .own u => .ok u s.m
      | _ => .stuck)
    | .exc e s => .exc e s.m
    | .stuck => .stuck) else .stuck

def stOf (p : Prg) : Nat → Gst
  | 0 => { call := fun _ _ _ => .stuck, meth := fun _ _ _ _ => .stuck, sub := p.sub, attr := p.attr, clo := fun _ _ _ => .stuck, turns := p.turns, excs := p.excs }
  | n + 1 =>
    let g := stOf p n
    let call := fun f us m => match p.ctor f with
      | some (c, k, i, kind) => (match p.def_ i with
        | some d => (match runInit g d c k us m with
          | .ok u m => if kind == 1 then .ok u m else .ok (.ref m.length) (m ++ [u])
          | r => r)
        | none => .stuck)
      | none => (match p.def_ f with
        | some d => runDef g d us m
        | none => .stuck)
    { call := call
      meth := fun c x us m => match p.meth c x with
        | some f => call f us m
        | none => .stuck
      sub := p.sub
      attr := p.attr
      clo := fun k us m => match p.lam k with
        | some d => runDef g d us m
        | none => .stuck
      turns := p.turns
      excs := p.excs }

end MP
/-! M1: numbers for things, in the order in which they come (plain Lean). -/
namespace MM
section
variable {α β : Type} [DecidableEq α] [DecidableEq β]

def keys (ks : List α) : List α → List α
  | [] => ks
  | x :: xs => if x ∈ ks then keys ks xs else keys (ks ++ [x]) xs
def num (ks : List α) : List α → List Nat
  | [] => []
  | x :: xs => if x ∈ ks then ks.idxOf x :: num ks xs else ks.length :: num (ks ++ [x]) xs

theorem mem_keys : ∀ (xs ks : List α) (a : α), a ∈ keys ks xs ↔ a ∈ ks ∨ a ∈ xs
  | [], ks, a => by simp [keys]
  | x :: xs, ks, a => by
    simp only [keys]
    split
    · rename_i h
      rw [mem_keys xs ks a]
      simp only [List.mem_cons]
      constructor
      · rintro (h1 | h1)
        · exact .inl h1
        · exact .inr (.inr h1)
      · rintro (h1 | rfl | h1)
        · exact .inl h1
        · exact .inl h
        · exact .inr h1
    · rw [mem_keys xs (ks ++ [x]) a]
      simp only [List.mem_cons, List.mem_append, List.not_mem_nil, or_false]
      constructor
      · rintro ((h1 | h1) | h1)
        · exact .inl h1
        · exact .inr (.inl h1)
        · exact .inr (.inr h1)
      · rintro (h1 | h1 | h1)
        · exact .inl (.inl h1)
        · exact .inl (.inr h1)
        · exact .inr h1
theorem keys_pre : ∀ (xs ks : List α), ∃ r, keys ks xs = ks ++ r
  | [], ks => ⟨[], by simp [keys]⟩
  | x :: xs, ks => by
    simp only [keys]
    split
    · exact keys_pre xs ks
    · obtain ⟨r, h⟩ := keys_pre xs (ks ++ [x])
      exact ⟨x :: r, by rw [h]; simp⟩
theorem keys_nodup : ∀ (xs ks : List α), ks.Nodup → (keys ks xs).Nodup
  | [], ks, h => h
  | x :: xs, ks, h => by
    simp only [keys]
    split
    · exact keys_nodup xs ks h
    · rename_i hx
      refine keys_nodup xs _ ?_
      rw [List.nodup_append]
      refine ⟨h, by simp, ?_⟩
      intro a ha b hb
      simp only [List.mem_singleton] at hb
      subst hb
      rintro rfl
      exact hx ha
theorem idxOf_pre {ks r : List α} {a : α} (h : a ∈ ks) : (ks ++ r).idxOf a = ks.idxOf a := by
  rw [List.idxOf_append, if_pos h]
theorem num_eq : ∀ (xs ks : List α), num ks xs = xs.map (fun x => (keys ks xs).idxOf x)
  | [], ks => by simp [num]
  | x :: xs, ks => by
    simp only [num, keys]
    split
    · rename_i h
      rw [num_eq xs ks, List.map_cons]
      obtain ⟨r, hr⟩ := keys_pre xs ks
      rw [hr, idxOf_pre h]
    · rename_i h
      rw [num_eq xs (ks ++ [x]), List.map_cons]
      obtain ⟨r, hr⟩ := keys_pre xs (ks ++ [x])
      rw [hr, idxOf_pre (by simp)]
      rw [List.idxOf_append, if_neg h]
      simp
theorem num_len (xs ks : List α) : (num ks xs).length = xs.length := by rw [num_eq]; simp
theorem keys_len (xs : List α) : ∀ ks : List α, (keys ks xs).length ≤ ks.length + xs.length := by
  induction xs with
  | nil => intro ks; simp [keys]
  | cons x xs ih =>
    intro ks
    simp only [keys]
    split
    · have := ih ks; simp; omega
    · have := ih (ks ++ [x]); simp at this ⊢; omega
theorem idxOf_inj {ks : List α} {a b : α} (ha : a ∈ ks) (h : ks.idxOf a = ks.idxOf b) : a = b := by
  have hl := List.idxOf_lt_length_of_mem ha
  have h1 : ks[ks.idxOf a]'hl = a := List.getElem_idxOf hl
  have hl2 : ks.idxOf b < ks.length := by omega
  have h2 : ks[ks.idxOf b]'hl2 = b := List.getElem_idxOf hl2
  rw [← h1, ← h2]
  congr 1
/-- like numbers just for like things -/
theorem num_iff {xs : List α} {i j : Nat} (hi : i < xs.length) (hj : j < xs.length) : ((num [] xs).getD i 0 = (num [] xs).getD j 0) ↔ xs[i] = xs[j] := by
  rw [num_eq]
  simp only [List.getD_eq_getElem?_getD, List.getElem?_map, List.getElem?_eq_getElem hi, List.getElem?_eq_getElem hj, Option.map_some, Option.getD_some]
  constructor
  · intro h
    exact idxOf_inj ((mem_keys xs [] _).2 (.inr (List.getElem_mem hi))) h
  · intro h; rw [h]
def cnt (xs : List α) : Nat := (keys [] xs).length
theorem num_lt {xs : List α} {a : Nat} (h : a ∈ num [] xs) : a < cnt xs := by
  rw [num_eq] at h
  simp only [List.mem_map] at h
  obtain ⟨x, hx, rfl⟩ := h
  exact List.idxOf_lt_length_of_mem ((mem_keys xs [] x).2 (.inr hx))
theorem idxOf_at {l : List α} (nd : l.Nodup) {i : Nat} (h : i < l.length) : l.idxOf l[i] = i := List.Nodup.idxOf_getElem nd i h
/-- every number below the count comes -/
theorem num_all {xs : List α} {a : Nat} (h : a < cnt xs) : a ∈ num [] xs := by
  rw [num_eq]
  simp only [List.mem_map]
  have hm : (keys [] xs)[a]'h ∈ xs := by
    rcases (mem_keys xs [] _).1 (List.getElem_mem h) with q | q
    · cases q
    · exact q
  exact ⟨_, hm, idxOf_at (keys_nodup xs [] (by simp)) h⟩
theorem cnt_le (xs : List α) : cnt xs ≤ xs.length := by have := keys_len xs []; simpa [cnt] using this
theorem cnt_pos {xs : List α} (h : xs ≠ []) : 0 < cnt xs := by
  cases xs with
  | nil => exact absurd rfl h
  | cons x xs =>
    have : x ∈ keys [] (x :: xs) := (mem_keys _ [] _).2 (.inr (by simp))
    exact List.length_pos_of_mem this
/-- lists without twins -/
theorem sub_len : ∀ (l l' : List α), l.Nodup → (∀ a ∈ l, a ∈ l') → l.length ≤ l'.length
  | [], _, _, _ => by simp
  | x :: l, l', nd, hs => by
    rw [List.nodup_cons] at nd
    have hx := hs x (by simp)
    have := sub_len l (l'.erase x) nd.2 fun a ha => by
      have h1 := hs a (by simp [ha])
      refine (List.mem_erase_of_ne ?_).2 h1
      rintro rfl
      exact nd.1 ha
    rw [List.length_erase_of_mem hx] at this
    have := List.length_pos_of_mem hx
    simp only [List.length_cons]
    omega
theorem nodup_of_len : ∀ (l l' : List α), l'.Nodup → (∀ a ∈ l', a ∈ l) → l.length ≤ l'.length → l.Nodup
  | [], _, _, _, _ => by simp
  | x :: l, l', nd, hs, hl => by
    rw [List.nodup_cons]
    by_cases hx : x ∈ l
    · exfalso
      have := sub_len l' l nd fun a ha => by
        have := hs a ha
        simp only [List.mem_cons] at this
        rcases this with rfl | h
        · exact hx
        · exact h
      simp only [List.length_cons] at hl
      omega
    · refine ⟨hx, nodup_of_len l (l'.erase x) (nd.erase x) ?_ ?_⟩
      · intro a ha
        have h1 := List.mem_of_mem_erase ha
        have := hs a h1
        simp only [List.mem_cons] at this
        rcases this with rfl | h
        · exact absurd ha (List.Nodup.not_mem_erase nd)
        · exact h
      · rw [List.length_erase]
        simp only [List.length_cons] at hl
        split <;> omega
theorem inj_of_nodup {l : List α} {f : α → β} (h : (l.map f).Nodup) {a b : α} (ha : a ∈ l) (hb : b ∈ l) (e : f a = f b) : a = b := by
  induction l with
  | nil => cases ha
  | cons x l ih =>
    rw [List.map_cons, List.nodup_cons] at h
    simp only [List.mem_cons] at ha hb
    rcases ha with rfl | ha <;> rcases hb with rfl | hb
    · rfl
    · exact absurd (List.mem_map.2 ⟨b, hb, e.symm⟩) h.1
    · exact absurd (List.mem_map.2 ⟨a, ha, e⟩) h.1
    · exact ih h.2 ha hb
/-- marks of finer things: as many at least; if not more, the finer part no more -/
theorem cnt_map_le (f : α → β) (xs : List α) : cnt (xs.map f) ≤ cnt xs := by
  have := sub_len (keys [] (xs.map f)) ((keys [] xs).map f) (keys_nodup _ _ (by simp)) fun a ha => by
    rcases (mem_keys _ _ _).1 ha with q | q
    · cases q
    · obtain ⟨x, hx, rfl⟩ := List.mem_map.1 q
      exact List.mem_map.2 ⟨x, (mem_keys _ _ _).2 (.inr hx), rfl⟩
  simpa [cnt] using this
theorem cnt_map_eq {f : α → β} {xs : List α} (h : cnt xs ≤ cnt (xs.map f)) {a b : α} (ha : a ∈ xs) (hb : b ∈ xs) (e : f a = f b) : a = b := by
  have nd : ((keys [] xs).map f).Nodup := nodup_of_len _ (keys [] (xs.map f)) (keys_nodup _ _ (by simp)) (fun a ha => by
    rcases (mem_keys _ _ _).1 ha with q | q
    · cases q
    · obtain ⟨x, hx, rfl⟩ := List.mem_map.1 q
      exact List.mem_map.2 ⟨x, (mem_keys _ _ _).2 (.inr hx), rfl⟩) (by simpa [cnt] using h)
  exact inj_of_nodup nd ((mem_keys _ _ _).2 (.inr ha)) ((mem_keys _ _ _).2 (.inr hb)) e
end
end MM
/-! M2: machines, marks, the least machine (plain Lean). -/
namespace MM
abbrev Room := List Nat × List Nat
abbrev Mach := List Room
def tn (M : Mach) (i : Nat) : List Nat := (M.getD i ([], [])).1
def rs (M : Mach) (i : Nat) : List Nat := (M.getD i ([], [])).2
def to (M : Mach) (i l : Nat) : Nat := (rs M i).getD l 0
def go (M : Mach) (i : Nat) (row : List Nat) : Nat := row.foldl (to M) i
/-- a turn of k letters -/
def IsTurn (k : Nat) (t : List Nat) : Prop := t.Perm (List.range k)
structure Good (k : Nat) (M : Mach) : Prop where
  turn : ∀ r ∈ M, IsTurn k r.1
  many : ∀ r ∈ M, r.2.length = k
  rest : ∀ r ∈ M, ∀ j ∈ r.2, j < M.length
/-- begun in i, the one does what the other does, begun in j -/
def Eqv (k : Nat) (M M' : Mach) (i j : Nat) : Prop := ∀ row, (∀ l ∈ row, l < k) → tn M (go M i row) = tn M' (go M' j row)
section
variable {k : Nat} {M M' M'' : Mach} {i j l : Nat}
theorem Eqv.refl : Eqv k M M i i := fun _ _ => rfl
theorem Eqv.symm (h : Eqv k M M' i j) : Eqv k M' M j i := fun row hr => (h row hr).symm
theorem Eqv.trans {m : Nat} (h : Eqv k M M' i j) (h' : Eqv k M' M'' j m) : Eqv k M M'' i m := fun row hr => (h row hr).trans (h' row hr)
theorem Eqv.tn (h : Eqv k M M' i j) : tn M i = tn M' j := h [] (by simp)
theorem Eqv.to (h : Eqv k M M' i j) (hl : l < k) : Eqv k M M' (to M i l) (to M' j l) := fun row hr => h (l :: row) (by
  intro x hx
  rcases List.mem_cons.1 hx with rfl | hx
  · exact hl
  · exact hr x hx)
theorem Eqv.of (R : Nat → Nat → Prop) (ht : ∀ i j, R i j → MM.tn M i = MM.tn M' j) (hs : ∀ i j, R i j → ∀ l, l < k → R (MM.to M i l) (MM.to M' j l)) (h : R i j) : Eqv k M M' i j := by
  intro row
  induction row generalizing i j with
  | nil => intro _; exact ht i j h
  | cons l row ih => intro hr; exact ih (hs i j h l (hr l (by simp))) fun x hx => hr x (by simp [hx])
theorem Eqv.go {row : List Nat} (h : Eqv k M M' i j) (hr : ∀ l ∈ row, l < k) : Eqv k M M' (go M i row) (go M' j row) := by
  intro r2 h2
  have := h (row ++ r2) (by intro x hx; rcases List.mem_append.1 hx with q | q; exact hr x q; exact h2 x q)
  simpa [MM.go, List.foldl_append] using this
theorem Good.at (g : Good k M) (hi : i < M.length) : M.getD i ([], []) ∈ M := by
  rw [List.getD_eq_getElem?_getD, List.getElem?_eq_getElem hi]
  exact List.getElem_mem hi
theorem Good.tn (g : Good k M) (hi : i < M.length) : IsTurn k (tn M i) := g.turn _ (g.at hi)
theorem Good.rsl (g : Good k M) (hi : i < M.length) : (rs M i).length = k := g.many _ (g.at hi)
theorem Good.mem (g : Good k M) (hi : i < M.length) {x : Nat} (hx : x ∈ rs M i) : x < M.length := g.rest _ (g.at hi) x hx
theorem to_mem (g : Good k M) (hi : i < M.length) (hl : l < k) : to M i l ∈ rs M i := by
  unfold MM.to
  have := g.rsl hi
  rw [List.getD_eq_getElem?_getD, List.getElem?_eq_getElem (by omega)]
  exact List.getElem_mem _
theorem Good.to (g : Good k M) (hi : i < M.length) (hl : l < k) : to M i l < M.length := g.mem hi (to_mem g hi hl)
theorem Good.go (g : Good k M) {row : List Nat} (hr : ∀ l ∈ row, l < k) (hi : i < M.length) : go M i row < M.length := by
  induction row generalizing i with
  | nil => exact hi
  | cons l row ih => exact ih (fun x hx => hr x (by simp [hx])) (g.to hi (hr l (by simp)))
theorem rs_eq (g : Good k M) (hi : i < M.length) : rs M i = (List.range k).map (MM.to M i) := by
  apply List.ext_getElem
  · simp [g.rsl hi]
  · intro n h1 h2
    simp only [List.getElem_map, List.getElem_range]
    unfold MM.to
    rw [List.getD_eq_getElem?_getD, List.getElem?_eq_getElem h1]
    rfl
end

/-! ### marks -/
def sig (M : Mach) (mk : List Nat) : List (Nat × List Nat) := M.mapIdx fun i r => (mk.getD i 0, r.2.map fun j => mk.getD j 0)
def marksL (M : Mach) : Nat → Nat → Nat → List Nat → List Nat
  | 0, _, _, mk => mk
  | n + 1, known, c, mk => if known < c then marksL M n c (cnt (sig M mk)) (num [] (sig M mk)) else mk
def marks (M : Mach) : List Nat := marksL M (M.length + 2) 0 (cnt (M.map (·.1))) (num [] (M.map (·.1)))

theorem sig_len (M : Mach) (mk : List Nat) : (sig M mk).length = M.length := by simp [sig]
theorem sig_at {M : Mach} {mk : List Nat} {i : Nat} (h : i < M.length) : (sig M mk)[i]'(by rw [sig_len]; exact h) = (mk.getD i 0, (rs M i).map fun j => mk.getD j 0) := by
  simp [sig, rs, List.getD_eq_getElem?_getD, List.getElem?_eq_getElem h]
theorem sig_fst {M : Mach} {mk : List Nat} (h : mk.length = M.length) : (sig M mk).map (·.1) = mk := by
  apply List.ext_getElem
  · simp [sig, h]
  · intro n h1 h2
    simp [sig, List.getD_eq_getElem?_getD, List.getElem?_eq_getElem h2]
theorem cnt_inj {α β : Type} [DecidableEq α] [DecidableEq β] {f : α → β} {xs : List α} (hf : ∀ a ∈ xs, ∀ b ∈ xs, f a = f b → a = b) : cnt (xs.map f) = cnt xs := by
  apply Nat.le_antisymm (cnt_map_le f xs)
  have nd : ((keys [] xs).map f).Nodup := by
    have h1 := keys_nodup xs [] (by simp)
    have h2 : ∀ a ∈ keys [] xs, a ∈ xs := fun a ha => by
      rcases (mem_keys _ _ _).1 ha with q | q
      · cases q
      · exact q
    revert h1 h2
    generalize keys [] xs = l
    intro h1 h2
    induction l with
    | nil => simp
    | cons x l ih =>
      rw [List.map_cons, List.nodup_cons]
      rw [List.nodup_cons] at h1
      refine ⟨?_, ih h1.2 fun a ha => h2 a (by simp [ha])⟩
      intro hm
      obtain ⟨b, hb, e⟩ := List.mem_map.1 hm
      have := hf b (h2 b (by simp [hb])) x (h2 x (by simp)) e
      subst this
      exact h1.1 hb
  have := sub_len _ (keys [] (xs.map f)) nd fun a ha => by
    obtain ⟨x, hx, rfl⟩ := List.mem_map.1 ha
    rcases (mem_keys _ _ _).1 hx with q | q
    · cases q
    · exact (mem_keys _ _ _).2 (.inr (List.mem_map.2 ⟨x, q, rfl⟩))
  simpa [cnt] using this
theorem cnt_num {α : Type} [DecidableEq α] (xs : List α) : cnt (num [] xs) = cnt xs := by
  rw [num_eq]
  exact cnt_inj fun a ha b hb e => idxOf_inj ((mem_keys _ _ _).2 (.inr ha)) e

/-- where they end: like marks, then the same turn and like marks behind each letter; rooms that do the same have like marks -/
structure Marks (k : Nat) (M : Mach) (mk : List Nat) : Prop where
  len : mk.length = M.length
  lt : ∀ a ∈ mk, a < M.length
  tn : ∀ i j, i < M.length → j < M.length → mk.getD i 0 = mk.getD j 0 → tn M i = tn M j
  to : ∀ i j l, i < M.length → j < M.length → l < k → mk.getD i 0 = mk.getD j 0 → mk.getD (to M i l) 0 = mk.getD (to M j l) 0
  eqv : ∀ i j, i < M.length → j < M.length → Eqv k M M i j → mk.getD i 0 = mk.getD j 0
section
variable {k : Nat} {M : Mach} {mk : List Nat}
/-- a stage -/
structure Stage (k : Nat) (M : Mach) (mk : List Nat) : Prop where
  len : mk.length = M.length
  tn : ∀ i j, i < M.length → j < M.length → mk.getD i 0 = mk.getD j 0 → tn M i = tn M j
  eqv : ∀ i j, i < M.length → j < M.length → Eqv k M M i j → mk.getD i 0 = mk.getD j 0
theorem stage0 : Stage k M (num [] (M.map (·.1))) := by
  have h : ∀ i j, (hi : i < M.length) → (hj : j < M.length) → ((num [] (M.map (·.1))).getD i 0 = (num [] (M.map (·.1))).getD j 0 ↔ tn M i = tn M j) := fun i j hi hj => by
    rw [num_iff (by simpa using hi) (by simpa using hj)]
    simp [tn, List.getD_eq_getElem?_getD, List.getElem?_eq_getElem hi, List.getElem?_eq_getElem hj]
  exact ⟨by rw [num_len]; simp, fun i j hi hj e => (h i j hi hj).1 e, fun i j hi hj e => (h i j hi hj).2 e.tn⟩
theorem sig_iff {i j : Nat} (hi : i < M.length) (hj : j < M.length) : ((num [] (sig M mk)).getD i 0 = (num [] (sig M mk)).getD j 0) ↔ (mk.getD i 0 = mk.getD j 0 ∧ (rs M i).map (fun j => mk.getD j 0) = (rs M j).map fun j => mk.getD j 0) := by
  rw [num_iff (by rw [sig_len]; exact hi) (by rw [sig_len]; exact hj), sig_at hi, sig_at hj, Prod.mk.injEq]
theorem stageS (g : Good k M) (h : Stage k M mk) : Stage k M (num [] (sig M mk)) := by
  refine ⟨by rw [num_len, sig_len], fun i j hi hj e => h.tn i j hi hj ((sig_iff hi hj).1 e).1, fun i j hi hj e => (sig_iff hi hj).2 ⟨h.eqv i j hi hj e, ?_⟩⟩
  rw [rs_eq g hi, rs_eq g hj, List.map_map, List.map_map]
  apply List.map_congr_left
  intro l hl
  have hl := List.mem_range.1 hl
  exact h.eqv _ _ (g.to hi hl) (g.to hj hl) (e.to hl)
theorem done (g : Good k M) (h : Stage k M mk) (hc : cnt (sig M mk) ≤ cnt mk) : Marks k M (num [] (sig M mk)) := by
  have s := stageS g h
  have key : ∀ i j, i < M.length → j < M.length → mk.getD i 0 = mk.getD j 0 → (num [] (sig M mk)).getD i 0 = (num [] (sig M mk)).getD j 0 := fun i j hi hj e => by
    have hf := sig_fst h.len
    have := cnt_map_eq (f := fun (p : Nat × List Nat) => p.1) (xs := sig M mk) (by rw [hf]; exact hc) (List.getElem_mem (by rw [sig_len]; exact hi)) (List.getElem_mem (n := j) (by rw [sig_len]; exact hj)) (by rw [sig_at hi, sig_at hj]; exact e)
    rw [num_iff (by rw [sig_len]; exact hi) (by rw [sig_len]; exact hj)]
    exact this
  refine ⟨s.len, fun a ha => by have := num_lt ha; have := cnt_le (sig M mk); rw [sig_len] at this; omega, s.tn, fun i j l hi hj hl e => ?_, s.eqv⟩
  have e2 := ((sig_iff hi hj).1 e).2
  rw [rs_eq g hi, rs_eq g hj, List.map_map, List.map_map] at e2
  have := List.map_inj_left.1 e2 l (List.mem_range.2 hl)
  exact key _ _ (g.to hi hl) (g.to hj hl) this
theorem marksL_ok (g : Good k M) : ∀ (n : Nat) (mk : List Nat), Stage k M mk → M.length < n + cnt mk → Marks k M (marksL M n (cnt mk) (cnt (sig M mk)) (num [] (sig M mk)))
  | 0, mk, s, h => by have := cnt_le mk; rw [s.len] at this; omega
  | n + 1, mk, s, h => by
    unfold marksL
    split
    · rename_i hlt
      have := marksL_ok g n (num [] (sig M mk)) (stageS g s) (by rw [cnt_num]; omega)
      rw [cnt_num] at this
      exact this
    · exact done g s (by omega)
theorem marks_ok (g : Good k M) (h : M ≠ []) : Marks k M (marks M) := by
  unfold marks marksL
  have : 0 < cnt (M.map (·.1)) := cnt_pos (by simpa using h)
  rw [if_pos this]
  have := marksL_ok g (M.length + 1) (num [] (M.map (·.1))) stage0 (by omega)
  rw [cnt_num] at this
  exact this
theorem marks_iff (h : Marks k M mk) (g : Good k M) {i j : Nat} (hi : i < M.length) (hj : j < M.length) : mk.getD i 0 = mk.getD j 0 ↔ Eqv k M M i j :=
  ⟨fun e => Eqv.of (fun i j => i < M.length ∧ j < M.length ∧ mk.getD i 0 = mk.getD j 0) (fun i j q => h.tn i j q.1 q.2.1 q.2.2) (fun i j q l hl => ⟨g.to q.1 hl, g.to q.2.1 hl, h.to i j l q.1 q.2.1 hl q.2.2⟩) ⟨hi, hj, e⟩, h.eqv i j hi hj⟩
end
end MM
set_option maxRecDepth 100000
/-! E0: how the small language's loops go (plain Lean). -/
namespace MPE
open MP
theorem line_ge : 10000 ≤ line := by unfold line; decide
theorem small_of {i : Int} (h1 : 0 ≤ i) (h2 : i ≤ 1000000) : small i = true := by
  unfold small bound
  exact decide_eq_true ⟨by omega, by omega⟩
theorem put_m (s : Sta) (i : Nat) (x : Slt) : (s.put i x).m = s.m := rfl
theorem wipe_m (s : Sta) : ∀ own, (wipeS s own).m = s.m
  | [] => rfl
  | i :: is => wipe_m s is
theorem wipe_len (s : Sta) : ∀ own, (wipeS s own).r.length = s.r.length
  | [] => rfl
  | i :: is => by
    show ((wipeS s is).r.set i .no).length = _
    rw [List.length_set]; exact wipe_len s is
theorem back_m (s0 s : Sta) : ∀ own, (backS s0 s own).m = s.m
  | [] => rfl
  | i :: is => back_m s0 s is
theorem back_len (s0 s : Sta) : ∀ own, (backS s0 s own).r.length = s.r.length
  | [] => rfl
  | i :: is => by
    show ((backS s0 s is).r.set i _).length = _
    rw [List.length_set]; exact back_len s0 s is
theorem wipe_get (s : Sta) (j : Nat) : ∀ own, j ∉ own → (wipeS s own).r[j]? = s.r[j]?
  | [], _ => rfl
  | i :: is, h => by
    simp only [List.mem_cons, not_or] at h
    show ((wipeS s is).r.set i .no)[j]? = _
    rw [List.getElem?_set_ne (fun e => h.1 e.symm)]; exact wipe_get s j is h.2
theorem back_get (s0 s : Sta) (j : Nat) : ∀ own, j ∉ own → (backS s0 s own).r[j]? = s.r[j]?
  | [], _ => rfl
  | i :: is, h => by
    simp only [List.mem_cons, not_or] at h
    show ((backS s0 s is).r.set i _)[j]? = _
    rw [List.getElem?_set_ne (fun e => h.1 e.symm)]; exact back_get s0 s j is h.2
theorem back_in (s0 s : Sta) (hl : s.r.length = s0.r.length) (j : Nat) : ∀ own, j ∈ own → (backS s0 s own).r[j]? = s0.r[j]?
  | i :: is, h => by
    show ((backS s0 s is).r.set i (slot s0 i))[j]? = _
    by_cases e : i = j
    · subst e
      by_cases hi : i < s0.r.length
      · rw [List.getElem?_set_self (by rw [back_len]; omega)]
        unfold slot
        rw [List.getD_eq_getElem?_getD, List.getElem?_eq_getElem hi]
        rfl
      · rw [List.getElem?_eq_none (by rw [List.length_set, back_len]; omega), List.getElem?_eq_none (by omega)]
    · rw [List.getElem?_set_ne e]
      rcases List.mem_cons.1 h with h | h
      · exact absurd h.symm e
      · exact back_in s0 s hl j is h
/-- behind a block whose own names alone have changed all is as ahead -/
theorem back_of {s0 s : Sta} {own : List Nat} (h : wipeS s own = wipeS s0 own) : backS s0 s own = s0 := by
  have hm : s.m = s0.m := by rw [← wipe_m s own, ← wipe_m s0 own, h]
  have hl : s.r.length = s0.r.length := by rw [← wipe_len s own, ← wipe_len s0 own, h]
  have hr : (backS s0 s own).r = s0.r := by
    apply List.ext_getElem?
    intro j
    by_cases hj : j ∈ own
    · exact back_in s0 s hl j own hj
    · rw [back_get s0 s j own hj, ← wipe_get s j own hj, ← wipe_get s0 j own hj, h]
  have hm2 := back_m s0 s own
  cases e : backS s0 s own with
  | mk r m =>
    cases s0
    rw [e] at hr hm2
    simp only at hr hm2 hm
    subst hr
    rw [hm] at hm2
    subst hm2
    rfl
/-- a comprehension whose element changes nothing -/
theorem turnsC_pure {f : U → Sta → Rs (Option U)} {own : List Nat} {s : Sta} {h : U → Option U} : ∀ (xs : List U) (s1 : Sta), wipeS s1 own = wipeS s own → (∀ x ∈ xs, ∀ s1, wipeS s1 own = wipeS s own → ∃ s2, f x s1 = .ok (h x) s2 ∧ wipeS s2 own = wipeS s own) →
    ∃ s2, turnsC f xs s1 = .ok (xs.filterMap h) s2 ∧ wipeS s2 own = wipeS s own
  | [], s1, e, _ => ⟨s1, rfl, e⟩
  | x :: xs, s1, e, hf => by
    obtain ⟨s2, h1, h2⟩ := hf x (by simp) s1 e
    obtain ⟨s3, h3, h4⟩ := turnsC_pure xs s2 h2 fun y hy => hf y (by simp [hy])
    refine ⟨s3, ?_, h4⟩
    simp only [turnsC, h1, Rs.bind, h3]
    cases hx : h x with
    | none => rw [List.filterMap_cons_none hx]
    | some y => rw [List.filterMap_cons_some hx]
theorem comp_end {F : U → Sta → Rs (Option U)} {h : U → Option U} {own : List Nat} {s : Sta} {xs ys : List U} (e : xs.filterMap h = ys) (hl : ys.length ≤ line) (q : ∃ s2, turnsC F xs s = .ok (xs.filterMap h) s2 ∧ wipeS s2 own = wipeS s own) :
    (match turnsC F xs s with | .ok us s' => if us.length ≤ line then Rs.ok (U.lst us) (backS s s' own) else .stuck | _ => .stuck) = .ok (.lst ys) s := by
  obtain ⟨s2, q1, q2⟩ := q
  rw [q1, e]
  simp only [hl, if_true]
  rw [back_of q2]
theorem ev_comp {g : Gst} {e : ME} {t : Tg} {k : Nat} {its : List ME} {own : List Nat} {s : Sta} {avs : List AV} {xs : List U} (h : U → U) (h1 : evalAs g its s = .ok avs s) (h2 : walkA k avs s = some xs) (h3 : stillIs s (wipeS s own) avs = true) (h4 : own.all (fun j => !(AV.own j).ok s) = true) (hl : xs.length ≤ line)
    (hb : ∀ x ∈ xs, ∃ sb, bindT t x (wipeS s own) = some sb ∧ evalE g e sb = .ok (h x) sb ∧ stillIs s sb avs = true ∧ wipeS sb own = wipeS s own) : evalE g (.comp e t k its own none) s = .ok (.lst (xs.map h)) s := by
  conv => lhs; unfold evalE
  simp only [h1, Rs.bind, h2, h3, h4, Bool.and_self, if_true]
  refine comp_end (h := fun x => some (h x)) (by rw [List.filterMap_eq_map']) (by rw [List.length_map]; exact hl) (turnsC_pure (own := own) (s := s) xs s rfl fun x hx s1 es => ?_)
  obtain ⟨sb, b1, b2, b3, b4⟩ := hb x hx
  refine ⟨sb, ?_, b4⟩
  simp only [es, b1, Rs.bind, if_true, b2, b3]
theorem turnsC_map {α : Type} {f : U → Sta → Rs (Option U)} {own : List Nat} {s : Sta} {enc : α → U} {h : α → Option U} : ∀ (l : List α) (s1 : Sta), wipeS s1 own = wipeS s own → (∀ a ∈ l, ∀ s1, wipeS s1 own = wipeS s own → ∃ s2, f (enc a) s1 = .ok (h a) s2 ∧ wipeS s2 own = wipeS s own) →
    ∃ s2, turnsC f (l.map enc) s1 = .ok (l.filterMap h) s2 ∧ wipeS s2 own = wipeS s own
  | [], s1, e, _ => ⟨s1, rfl, e⟩
  | x :: xs, s1, e, hf => by
    obtain ⟨s2, h1, h2⟩ := hf x (by simp) s1 e
    obtain ⟨s3, h3, h4⟩ := turnsC_map xs s2 h2 fun y hy => hf y (by simp [hy])
    refine ⟨s3, ?_, h4⟩
    simp only [List.map_cons, turnsC, h1, Rs.bind, h3]
    cases hx : h x with
    | none => rw [List.filterMap_cons_none hx]
    | some y => rw [List.filterMap_cons_some hx]
theorem comp_endM {F : U → Sta → Rs (Option U)} {own : List Nat} {s : Sta} {xs ys zs : List U} (e : zs = ys) (hl : ys.length ≤ line) (q : ∃ s2, turnsC F xs s = .ok zs s2 ∧ wipeS s2 own = wipeS s own) :
    (match turnsC F xs s with | .ok us s' => if us.length ≤ line then Rs.ok (U.lst us) (backS s s' own) else .stuck | _ => .stuck) = .ok (.lst ys) s := by
  obtain ⟨s2, q1, q2⟩ := q
  rw [q1, e]
  simp only [hl, if_true]
  rw [back_of q2]
/-- .. over mapped things -/
theorem ev_compM {α : Type} {g : Gst} {e : ME} {t : Tg} {k : Nat} {its : List ME} {own : List Nat} {s : Sta} {avs : List AV} {xs : List U} (l : List α) (enc h : α → U) (h1 : evalAs g its s = .ok avs s) (h2 : walkA k avs s = some xs) (hx : xs = l.map enc) (h3 : stillIs s (wipeS s own) avs = true) (h4 : own.all (fun j => !(AV.own j).ok s) = true) (hl : l.length ≤ line)
    (hb : ∀ a ∈ l, ∃ sb, bindT t (enc a) (wipeS s own) = some sb ∧ evalE g e sb = .ok (h a) sb ∧ stillIs s sb avs = true ∧ wipeS sb own = wipeS s own) : evalE g (.comp e t k its own none) s = .ok (.lst (l.map h)) s := by
  subst hx
  conv => lhs; unfold evalE
  simp only [h1, Rs.bind, h2, h3, h4, Bool.and_self, if_true]
  refine comp_endM (List.filterMap_eq_map' (f := h) ▸ rfl) (by rw [List.length_map]; exact hl) (turnsC_map (own := own) (s := s) (h := fun a => some (h a)) l s rfl fun a ha s1 es => ?_)
  obtain ⟨sb, b1, b2, b3, b4⟩ := hb a ha
  refine ⟨sb, ?_, b4⟩
  simp only [es, b1, Rs.bind, if_true, b2, b3]
/-- .. with a test -/
theorem ev_compIf {g : Gst} {e c : ME} {t : Tg} {k : Nat} {its : List ME} {own : List Nat} {s : Sta} {avs : List AV} {xs : List U} (h : U → Option U) (h1 : evalAs g its s = .ok avs s) (h2 : walkA k avs s = some xs) (h3 : stillIs s (wipeS s own) avs = true) (h4 : own.all (fun j => !(AV.own j).ok s) = true) (hl : xs.length ≤ line)
    (hb : ∀ x ∈ xs, ∃ sb, bindT t x (wipeS s own) = some sb ∧ stillIs s sb avs = true ∧ wipeS sb own = wipeS s own ∧ ∃ b, condOf (fun s => evalE g c s) c sb = .ok b sb ∧
      (match b with | true => ∃ u, h x = some u ∧ evalE g e sb = .ok u sb | false => h x = none)) : evalE g (.comp e t k its own (some c)) s = .ok (.lst (xs.filterMap h)) s := by
  conv => lhs; unfold evalE
  simp only [h1, Rs.bind, h2, h3, h4, Bool.and_self, if_true]
  refine comp_end (h := h) rfl (Nat.le_trans (List.length_filterMap_le _ _) hl) (turnsC_pure (own := own) (s := s) xs s rfl fun x hx s1 es => ?_)
  obtain ⟨sb, b1, b2, b3, b, b4, b5⟩ := hb x hx
  refine ⟨sb, ?_, b3⟩
  unfold condOf at b4
  simp only [Rs.bind] at b4
  simp only [es, b1, b4, Rs.bind]
  cases b with
  | true =>
    obtain ⟨u, hu, he⟩ := b5
    simp only [if_true, he, b2, hu]
  | false => simp only [Bool.false_eq_true, if_false, b2, if_true, b5]
/-- a comprehension whose element changes the state -/
def outs {α β : Type} (out : β → α → U) (step : β → α → β) : β → List α → List U
  | _, [] => []
  | b, a :: l => out b a :: outs out step (step b a) l
theorem turnsC_st {α β : Type} {f : U → Sta → Rs (Option U)} {St : β → Sta} {enc : α → U} {out : β → α → U} {step : β → α → β} {I : β → Prop} : ∀ (l : List α) (b : β), I b → (∀ b a, a ∈ l → I b → f (enc a) (St b) = .ok (some (out b a)) (St (step b a)) ∧ I (step b a)) →
    turnsC f (l.map enc) (St b) = .ok (outs out step b l) (St (l.foldl step b)) ∧ I (l.foldl step b)
  | [], b, hi, _ => ⟨rfl, hi⟩
  | a :: l, b, hi, h => by
    obtain ⟨h1, h2⟩ := h b a (by simp) hi
    obtain ⟨h3, h4⟩ := turnsC_st l (step b a) h2 fun b y hy => h b y (by simp [hy])
    refine ⟨?_, h4⟩
    simp only [List.map_cons, turnsC, h1, Rs.bind, h3, outs, List.foldl_cons]
theorem comp_endS {F : U → Sta → Rs (Option U)} {own : List Nat} {s s2 : Sta} {xs ys : List U} {P : Prop} (hl : ys.length ≤ line) (q : turnsC F xs s = .ok ys s2 ∧ P) :
    (match turnsC F xs s with | .ok us s' => if us.length ≤ line then Rs.ok (U.lst us) (backS s s' own) else .stuck | _ => .stuck) = .ok (.lst ys) (backS s s2 own) := by
  rw [q.1]
  simp only [hl, if_true]
theorem outs_len {α β : Type} {out : β → α → U} {step : β → α → β} : ∀ (l : List α) (b : β), (outs out step b l).length = l.length
  | [], b => rfl
  | a :: l, b => by simp [outs, outs_len l]
theorem ev_compS {α β : Type} {g : Gst} {e : ME} {t : Tg} {k : Nat} {its : List ME} {own : List Nat} {s : Sta} {avs : List AV} {xs : List U} (l : List α) (enc : α → U) (St : β → Sta) (out : β → α → U) (step : β → α → β) (I : β → Prop) (b0 : β) (hs : s = St b0) (hi : I b0) (h1 : evalAs g its s = .ok avs s) (h2 : walkA k avs s = some xs) (hx : xs = l.map enc) (h3 : stillIs s (wipeS s own) avs = true) (h4 : own.all (fun j => !(AV.own j).ok s) = true) (hl : l.length ≤ line)
    (hb : ∀ b a, a ∈ l → I b → ∃ sb, bindT t (enc a) (wipeS (St b) own) = some sb ∧ evalE g e sb = .ok (out b a) (St (step b a)) ∧ stillIs s (St (step b a)) avs = true ∧ I (step b a)) :
    evalE g (.comp e t k its own none) s = .ok (.lst (outs out step b0 l)) (backS s (St (l.foldl step b0)) own) := by
  subst hx
  conv => lhs; unfold evalE
  simp only [h1, Rs.bind, h2, h3, h4, Bool.and_self, if_true]
  subst hs
  refine comp_endS (by rw [outs_len]; exact hl) (turnsC_st (I := I) l b0 hi fun b a ha hi => ?_)
  obtain ⟨sb, b1, b2, b3, b4⟩ := hb b a ha hi
  refine ⟨?_, b4⟩
  simp only [b1, Rs.bind, if_true, b2, b3]
/-- a for whose turns go on -/
theorem turnsF_fold {β : Type} {St : β → Sta} {f : U → Sta → Rs Fl} {step : β → U → β} {I : β → Prop} : ∀ (xs : List U) (b : β), I b → (∀ b x, x ∈ xs → I b → (f x (St b) = .ok .next (St (step b x)) ∨ f x (St b) = .ok .cont (St (step b x))) ∧ I (step b x)) →
    turnsF f xs (St b) = .ok .next (St (xs.foldl step b)) ∧ I (xs.foldl step b)
  | [], b, hi, _ => ⟨rfl, hi⟩
  | x :: xs, b, hi, h => by
    obtain ⟨h1, h2⟩ := h b x (by simp) hi
    obtain ⟨h3, h4⟩ := turnsF_fold xs (step b x) h2 fun b y hy => h b y (by simp [hy])
    refine ⟨?_, h4⟩
    rcases h1 with h1 | h1 <;> simp only [turnsF, h1, Rs.bind, h3, List.foldl_cons]
/-- a loop by a count -/
def wh {β : Type} (cond : β → Bool) (step : β → β) : Nat → β → β
  | 0, b => b
  | n + 1, b => if cond b then wh cond step n (step b) else b
theorem wh_proj {β γ : Type} {cond : β → Bool} {step : β → β} {cond' : γ → Bool} {step' : γ → γ} (π : β → γ) (hc : ∀ b, cond b = cond' (π b)) (hs : ∀ b, π (step b) = step' (π b)) : ∀ (f : Nat) (b : β), π (wh cond step f b) = wh cond' step' f (π b)
  | 0, b => rfl
  | f + 1, b => by
    simp only [wh, hc b]
    split
    · rw [wh_proj π hc hs f (step b), hs]
    · rfl
theorem turnsW_wh {β : Type} {St : β → Sta} {c : Sta → Rs Bool} {f : Sta → Rs Fl} {cond : β → Bool} {step : β → β} {μ : β → Nat} {I : β → Prop} (hc : ∀ b, I b → c (St b) = .ok (cond b) (St b)) (hf : ∀ b, I b → cond b = true → (f (St b) = .ok .next (St (step b)) ∨ f (St b) = .ok .cont (St (step b))) ∧ I (step b) ∧ μ (step b) < μ b) :
    ∀ (m n : Nat) (b : β), μ b ≤ m → m < n → I b → turnsW c f n (St b) = .ok .next (St (wh cond step m b)) ∧ cond (wh cond step m b) = false ∧ I (wh cond step m b)
  | m, 0, b, _, h, _ => by omega
  | m, n + 1, b, h1, h2, hi => by
    cases hb : cond b with
    | false =>
      have e : wh cond step m b = b := by
        cases m with
        | zero => rfl
        | succ m => simp [wh, hb]
      refine ⟨?_, by rw [e]; exact hb, by rw [e]; exact hi⟩
      simp only [turnsW, hc b hi, hb, Rs.bind, e, Bool.false_eq_true, if_false]
    | true =>
      obtain ⟨g1, g2, g3⟩ := hf b hi hb
      cases m with
      | zero => omega
      | succ m =>
        obtain ⟨k1, k2, k3⟩ := turnsW_wh hc hf m n (step b) (by omega) (by omega) g2
        have e : wh cond step (m + 1) b = wh cond step m (step b) := by simp [wh, hb]
        refine ⟨?_, by rw [e]; exact k2, by rw [e]; exact k3⟩
        rcases g1 with g1 | g1 <;> simp only [turnsW, hc b hi, hb, Rs.bind, g1, k1, e, if_true]
/-! the same by a relation -/
theorem turnsF_rel {γ : Type} {R : γ → Sta → Prop} {f : U → Sta → Rs Fl} {step : γ → U → γ} : ∀ (xs : List U) (b : γ) (s : Sta), R b s → (∀ b s x, x ∈ xs → R b s → ∃ s', (f x s = .ok .next s' ∨ f x s = .ok .cont s') ∧ R (step b x) s') →
    ∃ s', turnsF f xs s = .ok .next s' ∧ R (xs.foldl step b) s'
  | [], b, s, r, _ => ⟨s, rfl, r⟩
  | x :: xs, b, s, r, h => by
    obtain ⟨s1, h1, r1⟩ := h b s x (by simp) r
    obtain ⟨s2, h2, r2⟩ := turnsF_rel xs (step b x) s1 r1 fun b s y hy => h b s y (by simp [hy])
    refine ⟨s2, ?_, r2⟩
    rcases h1 with h1 | h1 <;> simp only [turnsF, h1, Rs.bind, h2]
theorem turnsF_relM {γ α : Type} {R : γ → Sta → Prop} {f : U → Sta → Rs Fl} {enc : α → U} {step : γ → α → γ} : ∀ (l : List α) (b : γ) (s : Sta), R b s → (∀ b s x, x ∈ l → R b s → ∃ s', (f (enc x) s = .ok .next s' ∨ f (enc x) s = .ok .cont s') ∧ R (step b x) s') →
    ∃ s', turnsF f (l.map enc) s = .ok .next s' ∧ R (l.foldl step b) s'
  | [], b, s, r, _ => ⟨s, rfl, r⟩
  | x :: xs, b, s, r, h => by
    obtain ⟨s1, h1, r1⟩ := h b s x (by simp) r
    obtain ⟨s2, h2, r2⟩ := turnsF_relM xs (step b x) s1 r1 fun b s y hy => h b s y (by simp [hy])
    refine ⟨s2, ?_, r2⟩
    rcases h1 with h1 | h1 <;> simp only [List.map_cons, turnsF, h1, Rs.bind, h2]
theorem turnsF_relN {γ α : Type} {R : Nat → γ → Sta → Prop} {f : U → Sta → Rs Fl} {enc : α → U} {step : γ → α → γ} : ∀ (l : List α) (i0 : Nat) (b : γ) (s : Sta), R i0 b s → (∀ i b s x, i < i0 + l.length → x ∈ l → R i b s → ∃ s', (f (enc x) s = .ok .next s' ∨ f (enc x) s = .ok .cont s') ∧ R (i + 1) (step b x) s') →
    ∃ s', turnsF f (l.map enc) s = .ok .next s' ∧ R (i0 + l.length) (l.foldl step b) s'
  | [], i0, b, s, r, _ => ⟨s, rfl, r⟩
  | x :: xs, i0, b, s, r, h => by
    obtain ⟨s1, h1, r1⟩ := h i0 b s x (by simp) (by simp) r
    obtain ⟨s2, h2, r2⟩ := turnsF_relN xs (i0 + 1) (step b x) s1 r1 fun i b s y hi hy => h i b s y (by simp; omega) (by simp [hy])
    refine ⟨s2, ?_, by rw [List.length_cons, show i0 + (xs.length + 1) = i0 + 1 + xs.length by omega]; exact r2⟩
    rcases h1 with h1 | h1 <;> simp only [List.map_cons, turnsF, h1, Rs.bind, h2]
theorem turnsF_relI {α : Type} {R : Nat → Sta → Prop} {f : U → Sta → Rs Fl} {enc : α → U} (l : List α) (s : Sta) (r : R 0 s) (h : ∀ i s x, l[i]? = some x → R i s → ∃ s', (f (enc x) s = .ok .next s' ∨ f (enc x) s = .ok .cont s') ∧ R (i + 1) s') :
    ∃ s', turnsF f (l.map enc) s = .ok .next s' ∧ R l.length s' := by
  have key : ∀ (l2 l1 : List α) (s : Sta), l = l1 ++ l2 → R l1.length s → ∃ s', turnsF f (l2.map enc) s = .ok .next s' ∧ R l.length s' := by
    intro l2
    induction l2 with
    | nil => intro l1 s e r; subst e; exact ⟨s, rfl, by simpa using r⟩
    | cons x l2 ih =>
      intro l1 s e r
      obtain ⟨s1, h1, r1⟩ := h l1.length s x (by rw [e]; simp) r
      obtain ⟨s2, h2, r2⟩ := ih (l1 ++ [x]) s1 (by rw [e]; simp) (by simpa using r1)
      refine ⟨s2, ?_, r2⟩
      rcases h1 with h1 | h1 <;> simp only [List.map_cons, turnsF, h1, Rs.bind, h2]
  exact key l [] s rfl r
theorem turnsW_rel {γ : Type} {R : γ → Sta → Prop} {c : Sta → Rs Bool} {f : Sta → Rs Fl} {cond : γ → Bool} {step : γ → γ} {μ : γ → Nat} (hc : ∀ b s, R b s → c s = .ok (cond b) s) (hf : ∀ b s, R b s → cond b = true → ∃ s', (f s = .ok .next s' ∨ f s = .ok .cont s') ∧ R (step b) s' ∧ μ (step b) < μ b) :
    ∀ (m n : Nat) (b : γ) (s : Sta), μ b ≤ m → m < n → R b s → ∃ s', turnsW c f n s = .ok .next s' ∧ R (wh cond step m b) s' ∧ cond (wh cond step m b) = false
  | m, 0, b, s, _, h, _ => by omega
  | m, n + 1, b, s, h1, h2, r => by
    cases hb : cond b with
    | false =>
      have e : wh cond step m b = b := by
        cases m with
        | zero => rfl
        | succ m => simp [wh, hb]
      refine ⟨s, ?_, by rw [e]; exact r, by rw [e]; exact hb⟩
      simp only [turnsW, hc b s r, hb, Rs.bind, Bool.false_eq_true, if_false]
    | true =>
      obtain ⟨s1, g1, g2, g3⟩ := hf b s r hb
      cases m with
      | zero => omega
      | succ m =>
        obtain ⟨s2, k1, k2, k3⟩ := turnsW_rel hc hf m n (step b) s1 (by omega) (by omega) g2
        have e : wh cond step (m + 1) b = wh cond step m (step b) := by simp [wh, hb]
        refine ⟨s2, ?_, by rw [e]; exact k2, by rw [e]; exact k3⟩
        rcases g1 with g1 | g1 <;> simp only [turnsW, hc b s r, hb, Rs.bind, g1, k1, if_true]
/-- .. that ends by an exception -/
theorem turnsW_exc {γ : Type} {R : γ → Sta → Prop} {Q : U → Sta → Prop} {c : Sta → Rs Bool} {f : Sta → Rs Fl} {cond bad : γ → Bool} {step : γ → γ} (hc : ∀ b s, R b s → c s = .ok (cond b) s) (hf : ∀ b s, R b s → cond b = true → bad (step b) = false → ∃ s', (f s = .ok .next s' ∨ f s = .ok .cont s') ∧ R (step b) s')
    (hx : ∀ b s, R b s → cond b = true → bad (step b) = true → ∃ e s', f s = .exc e s' ∧ Q e s') :
    ∀ (m n : Nat) (b : γ) (s : Sta), bad b = false → bad (wh cond step m b) = true → m < n → R b s → ∃ e s', turnsW c f n s = .exc e s' ∧ Q e s'
  | 0, n, b, s, h1, h2, _, _ => by simp only [wh] at h2; rw [h1] at h2; cases h2
  | m + 1, 0, b, s, _, _, h, _ => by omega
  | m + 1, n + 1, b, s, h1, h2, h3, r => by
    cases hb : cond b with
    | false =>
      have e : wh cond step (m + 1) b = b := by simp [wh, hb]
      rw [e, h1] at h2; cases h2
    | true =>
      have e : wh cond step (m + 1) b = wh cond step m (step b) := by simp [wh, hb]
      rw [e] at h2
      cases hbad : bad (step b) with
      | true =>
        obtain ⟨e, s', g1, g2⟩ := hx b s r hb hbad
        refine ⟨e, s', ?_, g2⟩
        simp only [turnsW, hc b s r, hb, Rs.bind, g1, if_true]
      | false =>
        obtain ⟨s1, g1, g2⟩ := hf b s r hb hbad
        obtain ⟨e2, s', k1, k2⟩ := turnsW_exc hc hf hx m n (step b) s1 hbad h2 (by omega) g2
        refine ⟨e2, s', ?_, k2⟩
        rcases g1 with g1 | g1 <;> simp only [turnsW, hc b s r, hb, Rs.bind, g1, k1, if_true]
end MPE
set_option maxRecDepth 100000
/-! LB: the program's defs in the small language (printed by gen.py). -/
namespace MPE
open MP
namespace F
abbrev turns_is_whole : Nat := 0
abbrev turns_is_between : Nat := 1
abbrev turns_is_turn : Nat := 2
abbrev turns_need_turn : Nat := 3
abbrev turns_turn_after : Nat := 4
abbrev machines_is_below : Nat := 5
abbrev machines_is_room : Nat := 6
abbrev machines_is_machine : Nat := 7
abbrev machines_sure_machine : Nat := 8
abbrev machines_letters_of : Nat := 9
abbrev machines_numbered : Nat := 10
abbrev machines_room_marks : Nat := 11
abbrev machines_least_from : Nat := 12
abbrev machines_least : Nat := 13
abbrev products_paired : Nat := 14
abbrev products_both : Nat := 15
abbrev law__law_state : Nat := 16
abbrev law__law_next : Nat := 17
abbrev law__law_turn : Nat := 18
abbrev law__law_full_turn : Nat := 19
abbrev law__law_good : Nat := 20
abbrev law__law_marks : Nat := 21
abbrev law__law_as_both : Nat := 22
abbrev law__law_least : Nat := 23
abbrev law__law_ring : Nat := 24
abbrev law__law_told : Nat := 25
abbrev law_law : Nat := 26
abbrev turns_undone : Nat := 27
abbrev turns_turn_back : Nat := 28
abbrev machines_sure_row_of : Nat := 29
abbrev machines_led : Nat := 30
abbrev machines_run : Nat := 31
abbrev machines_room_behind : Nat := 32
abbrev machines_checked_room : Nat := 33
abbrev machines_begun_at : Nat := 34
abbrev machines_parting_row : Nat := 35
abbrev products_room_back : Nat := 36
abbrev products_turned_back : Nat := 37
abbrev law__law_same : Nat := 38
abbrev law__law_mixed : Nat := 39
abbrev law__law_chain : Nat := 40
abbrev law__law_led : Nat := 41
abbrev turns_still_turn : Nat := 42
abbrev words_is_word : Nat := 43
abbrev words_sure_word : Nat := 44
abbrev words_shortened : Nat := 45
abbrev rows_turn_by : Nat := 46
abbrev rows_behind_one : Nat := 47
abbrev tables_gone_over : Nat := 48
abbrev tables_parted : Nat := 49
abbrev tables_alike : Nat := 50
abbrev book_is_hand : Nat := 51
abbrev book_are_hands : Nat := 52
abbrev law__law_counter : Nat := 53
abbrev law__law_row : Nat := 54
abbrev law__law_refused : Nat := 55
abbrev book_Book___init__ : Nat := 56
abbrev book_Book___eq__ : Nat := 57
abbrev book_Book___len__ : Nat := 58
abbrev book_Book_letters : Nat := 59
abbrev book_Book_hands : Nat := 60
abbrev book_Book_steps : Nat := 61
abbrev book_Book_has_step : Nat := 62
abbrev book_Book_has_letter : Nat := 63
abbrev book_Book_turn : Nat := 64
abbrev book_Book_onward : Nat := 65
abbrev mk_Book : Nat := 66
end F
namespace C
abbrev HandError : Nat := 0
abbrev NoTurn : Nat := 1
abbrev NoMachine : Nat := 2
abbrev TooMany : Nat := 3
abbrev KeyError : Nat := 4
abbrev ValueError : Nat := 5
abbrev NoRow : Nat := 6
abbrev NoNumber : Nat := 7
abbrev NoBook : Nat := 8
abbrev NoWord : Nat := 9
abbrev Book : Nat := 10
end C
namespace M
abbrev __init__ : Nat := 0
abbrev __eq__ : Nat := 1
abbrev __len__ : Nat := 2
abbrev letters : Nat := 3
abbrev hands : Nat := 4
abbrev steps : Nat := 5
abbrev told : Nat := 6
abbrev has_step : Nat := 7
abbrev has_letter : Nat := 8
abbrev turn : Nat := 9
abbrev onward : Nat := 10
end M
namespace G
abbrev LEAST_MANY : Nat := 0
abbrev MOST_MANY : Nat := 1
abbrev MOST_ROOMS : Nat := 2
abbrev MOST_LETTERS : Nat := 3
abbrev MOST_STEPS : Nat := 4
abbrev MOST_WORDS : Nat := 5
abbrev MOST_HANDS : Nat := 6
end G
namespace A
abbrev many : Nat := 0
abbrev pairs : Nat := 1
end A
namespace LB
def d_turns_is_whole : MDef := { params := 1, slots := 1, body := [.ret (.and [(.op (.isi [0]) [(.var 0)]), (.not (.op (.isi [1]) [(.var 0)]))])] }
def d_turns_is_between : MDef := { params := 3, slots := 3, body := [.ret (.and [(.call F.turns_is_whole [(.var 0)]), (.chain .le .le (.var 1) (.var 0) (.var 2))])] }
def d_turns_is_turn : MDef := { params := 1, slots := 2, body := [.ife (.or [(.not (.op (.isi [2]) [(.var 0)])), (.not (.chain .le .le (.glo G.LEAST_MANY (.int 2)) (.op .len [(.var 0)]) (.glo G.MOST_MANY (.int 4))))]) [.ret (.lit (.bl false))] [],
  .ife (.not (.op .all [(.comp (.call F.turns_is_between [(.var 1), (.lit (.int 0)), (.op .sub [(.op .len [(.var 0)]), (.lit (.int 1))])]) (.one 1) 0 [(.var 0)] [1] none)])) [.ret (.lit (.bl false))] [],
  .ret (.op .eq [(.op .sorted [(.var 0)]), (.op .lstR1 [(.op .len [(.var 0)])])])] }
def d_turns_need_turn : MDef := { params := 1, slots := 1, body := [.ife (.not (.call F.turns_is_turn [(.var 0)])) [.raise C.NoTurn []] []] }
def d_turns_turn_after : MDef := { params := 2, slots := 3, body := [.expr (.call F.turns_need_turn [(.var 0)]),
  .expr (.call F.turns_need_turn [(.var 1)]),
  .ife (.op .ne [(.op .len [(.var 0)]), (.op .len [(.var 1)])]) [.raise C.NoTurn []] [],
  .ret (.op .tupOf [(.comp (.op .ix [(.var 1), (.var 2)]) (.one 2) 0 [(.var 0)] [2] none)])] }
def d_machines_is_below : MDef := { params := 2, slots := 2, body := [.ret (.and [(.op (.isi [0]) [(.var 0)]), (.not (.op (.isi [1]) [(.var 0)])), (.chain .le .lt (.lit (.int 0)) (.var 0) (.var 1))])] }
def d_machines_is_room : MDef := { params := 3, slots := 6, body := [.ife (.or [(.not (.op (.isi [2]) [(.var 0)])), (.op .ne [(.op .len [(.var 0)]), (.lit (.int 2))])]) [.ret (.lit (.bl false))] [],
  .set (.tup [(.one 3), (.one 4)]) (.var 0),
  .ife (.or [(.not (.call F.turns_is_turn [(.var 3)])), (.op .ne [(.op .len [(.var 3)]), (.var 1)]), (.not (.op (.isi [2]) [(.var 4)])), (.op .ne [(.op .len [(.var 4)]), (.var 1)])]) [.ret (.lit (.bl false))] [],
  .ret (.op .all [(.comp (.call F.machines_is_below [(.var 5), (.var 2)]) (.one 5) 0 [(.var 4)] [5] none)])] }
def d_machines_is_machine : MDef := { params := 1, slots := 3, body := [.ife (.or [(.not (.op (.isi [2]) [(.var 0)])), (.not (.chain .le .le (.lit (.int 1)) (.op .len [(.var 0)]) (.glo G.MOST_ROOMS (.int 60))))]) [.ret (.lit (.bl false))] [],
  .set (.one 1) (.op .ix [(.var 0), (.lit (.int 0))]),
  .ife (.or [(.not (.op (.isi [2]) [(.var 1)])), (.op .ne [(.op .len [(.var 1)]), (.lit (.int 2))]), (.not (.call F.turns_is_turn [(.op .ix [(.var 1), (.lit (.int 0))])]))]) [.ret (.lit (.bl false))] [],
  .ret (.op .all [(.comp (.call F.machines_is_room [(.var 2), (.op .len [(.op .ix [(.var 1), (.lit (.int 0))])]), (.op .len [(.var 0)])]) (.one 2) 0 [(.var 0)] [2] none)])] }
def d_machines_sure_machine : MDef := { params := 1, slots := 1, body := [.ife (.not (.call F.machines_is_machine [(.var 0)])) [.raise C.NoMachine []] [],
  .ret (.var 0)] }
def d_machines_letters_of : MDef := { params := 1, slots := 1, body := [.ret (.op .len [(.op .ix [(.op .ix [(.call F.machines_sure_machine [(.var 0)]), (.lit (.int 0))]), (.lit (.int 0))])])] }
def d_machines_numbered : MDef := { params := 1, slots := 3, body := [.own 1 (.op (.dict 0) []),
  .ret (.comp (.mut .setdefault (.var 1) [(.var 2), (.op .len [(.var 1)])]) (.one 2) 0 [(.var 0)] [2] none)] }
def d_machines_room_marks : MDef := { params := 1, slots := 6, body := [.set (.one 2) (.call F.machines_numbered [(.comp (.op .ix [(.var 1), (.lit (.int 0))]) (.one 1) 0 [(.var 0)] [1] none)]),
  .set (.one 3) (.lit (.int 0)),
  .whil (.op .ge [(.op .max1 [(.var 2)]), (.var 3)]) [.set (.one 3) (.op .add [(.op .max1 [(.var 2)]), (.lit (.int 1))]),
  .set (.one 2) (.call F.machines_numbered [(.comp (.op .tup [(.op .ix [(.var 2), (.var 5)]), (.op .tupOf [(.comp (.op .ix [(.var 2), (.var 4)]) (.one 4) 0 [(.op .ix [(.var 1), (.lit (.int 1))])] [4] none)])]) (.tup [(.one 5), (.one 1)]) 3 [(.var 0)] [5, 1] none)])],
  .ret (.var 2)] }
def d_machines_least_from : MDef := { params := 2, slots := 8, body := [.set (.one 2) (.call F.machines_room_marks [(.var 0)]),
  .own 3 (.op .lst [(.var 1)]),
  .own 4 (.op (.dict 1) [(.op .ix [(.var 2), (.var 1)]), (.lit (.int 0))]),
  .set (.one 5) (.lit (.int 0)),
  .whil (.op .lt [(.var 5), (.op .len [(.var 3)])]) [.forr (.one 6) 0 [(.op .ix [(.op .ix [(.var 0), (.op .ix [(.var 3), (.var 5)])]), (.lit (.int 1))])] [.ife (.op .notin [(.op .ix [(.var 2), (.var 6)]), (.var 4)]) [.setIx (.var 4) (.op .ix [(.var 2), (.var 6)]) (.op .len [(.var 3)]),
  .expr (.mut .append (.var 3) [(.var 6)])] []],
  .aug 5 .add (.lit (.int 1))],
  .ret (.op .tupOf [(.comp (.op .tup [(.op .ix [(.op .ix [(.var 0), (.var 7)]), (.lit (.int 0))]), (.op .tupOf [(.comp (.op .ix [(.var 4), (.op .ix [(.var 2), (.var 6)])]) (.one 6) 0 [(.op .ix [(.op .ix [(.var 0), (.var 7)]), (.lit (.int 1))])] [6] none)])]) (.one 7) 0 [(.var 3)] [7] none)])] }
def d_machines_least : MDef := { params := 1, slots := 1, body := [.ret (.call F.machines_least_from [(.call F.machines_sure_machine [(.var 0)]), (.lit (.int 0))])] }
def d_products_paired : MDef := { params := 2, slots := 13, body := [.own 2 (.op .lst [(.op .tup [(.lit (.int 0)), (.lit (.int 0))])]),
  .own 3 (.op (.dict 1) [(.op .tup [(.lit (.int 0)), (.lit (.int 0))]), (.lit (.int 0))]),
  .own 4 (.op .lst []),
  .whil (.op .lt [(.op .len [(.var 4)]), (.op .len [(.var 2)])]) [.set (.tup [(.one 5), (.one 6)]) (.op .ix [(.var 2), (.op .len [(.var 4)])]),
  .set (.tup [(.one 7), (.one 8)]) (.op .ix [(.var 0), (.var 5)]),
  .own 9 (.op .lst []),
  .forr (.tup [(.one 10), (.one 11)]) 3 [(.var 8)] [.set (.one 12) (.op .tup [(.var 11), (.op .ix [(.op .ix [(.op .ix [(.var 1), (.var 6)]), (.lit (.int 1))]), (.op .ix [(.var 7), (.var 10)])])]),
  .ife (.op .notin [(.var 12), (.var 3)]) [.setIx (.var 3) (.var 12) (.op .len [(.var 2)]),
  .expr (.mut .append (.var 2) [(.var 12)])] [],
  .expr (.mut .append (.var 9) [(.op .ix [(.var 3), (.var 12)])])],
  .ife (.op .gt [(.op .len [(.var 2)]), (.glo G.MOST_ROOMS (.int 60))]) [.raise C.TooMany []] [],
  .expr (.mut .append (.var 4) [(.op .tup [(.call F.turns_turn_after [(.var 7), (.op .ix [(.op .ix [(.var 1), (.var 6)]), (.lit (.int 0))])]), (.op .tupOf [(.var 9)])])])],
  .ret (.op .tupOf [(.var 4)])] }
def d_products_both : MDef := { params := 2, slots := 2, body := [.ife (.op .ne [(.call F.machines_letters_of [(.var 0)]), (.call F.machines_letters_of [(.var 1)])]) [.raise C.NoMachine []] [],
  .ret (.call F.machines_least [(.call F.products_paired [(.call F.machines_least [(.var 0)]), (.call F.machines_least [(.var 1)])])])] }
def d_turns_undone : MDef := { params := 1, slots := 2, body := [.ret (.op .tupOf [(.comp (.op .index [(.var 0), (.var 1)]) (.one 1) 1 [(.op .len [(.var 0)])] [1] none)])] }
def d_turns_turn_back : MDef := { params := 1, slots := 1, body := [.expr (.call F.turns_need_turn [(.var 0)]),
  .ret (.call F.turns_undone [(.var 0)])] }
def d_machines_sure_row_of : MDef := { params := 2, slots := 4, body := [.set (.one 2) (.call F.machines_letters_of [(.var 0)]),
  .ife (.or [(.not (.op (.isi [2]) [(.var 1)])), (.op .gt [(.op .len [(.var 1)]), (.glo G.MOST_LETTERS (.int 100))]), (.not (.op .all [(.comp (.call F.machines_is_below [(.var 3), (.var 2)]) (.one 3) 0 [(.var 1)] [3] none)]))]) [.raise C.NoRow []] [],
  .ret (.var 1)] }
def d_machines_led : MDef := { params := 2, slots := 7, body := [.expr (.call F.machines_sure_row_of [(.var 0), (.var 1)]),
  .own 2 (.op .lst []),
  .set (.one 3) (.lit (.int 0)),
  .forr (.one 4) 0 [(.var 1)] [.set (.tup [(.one 5), (.one 6)]) (.op .ix [(.var 0), (.var 3)]),
  .expr (.mut .append (.var 2) [(.op .ix [(.var 5), (.var 4)])]),
  .set (.one 3) (.op .ix [(.var 6), (.var 4)])],
  .ret (.op .tup [(.op .tupOf [(.var 2)]), (.var 3)])] }
def d_machines_run : MDef := { params := 2, slots := 2, body := [.ret (.op .ix [(.call F.machines_led [(.var 0), (.var 1)]), (.lit (.int 0))])] }
def d_machines_room_behind : MDef := { params := 2, slots := 2, body := [.ret (.op .ix [(.call F.machines_led [(.var 0), (.var 1)]), (.lit (.int 1))])] }
def d_machines_checked_room : MDef := { params := 2, slots := 2, body := [.ife (.not (.call F.machines_is_below [(.var 1), (.op .len [(.var 0)])])) [.raise C.NoNumber []] []] }
def d_machines_begun_at : MDef := { params := 2, slots := 2, body := [.expr (.call F.machines_sure_machine [(.var 0)]),
  .expr (.call F.machines_checked_room [(.var 0), (.var 1)]),
  .ret (.call F.machines_least_from [(.var 0), (.var 1)])] }
def d_machines_parting_row : MDef := { params := 3, slots := 12, body := [.set (.one 3) (.call F.machines_letters_of [(.var 0)]),
  .expr (.call F.machines_checked_room [(.var 0), (.var 1)]),
  .expr (.call F.machines_checked_room [(.var 0), (.var 2)]),
  .own 4 (.op .lst [(.op .tup [(.var 1), (.var 2), (.op .tup [])])]),
  .own 5 (.op (.dict 1) [(.op .tup [(.var 1), (.var 2)]), (.lit (.bl true))]),
  .set (.one 6) (.lit (.int 0)),
  .whil (.op .lt [(.var 6), (.op .len [(.var 4)])]) [.set (.tup [(.one 7), (.one 8), (.one 9)]) (.op .ix [(.var 4), (.var 6)]),
  .forr (.one 10) 1 [(.var 3)] [.ife (.op .ne [(.op .ix [(.op .ix [(.op .ix [(.var 0), (.var 7)]), (.lit (.int 0))]), (.var 10)]), (.op .ix [(.op .ix [(.op .ix [(.var 0), (.var 8)]), (.lit (.int 0))]), (.var 10)])]) [.ret (.op .add [(.var 9), (.op .tup [(.var 10)])])] []],
  .forr (.one 10) 1 [(.var 3)] [.set (.one 11) (.op .tup [(.op .ix [(.op .ix [(.op .ix [(.var 0), (.var 7)]), (.lit (.int 1))]), (.var 10)]), (.op .ix [(.op .ix [(.op .ix [(.var 0), (.var 8)]), (.lit (.int 1))]), (.var 10)])]),
  .ife (.op .notin [(.var 11), (.var 5)]) [.setIx (.var 5) (.var 11) (.lit (.bl true)),
  .expr (.mut .append (.var 4) [(.op .tup [(.op .ix [(.var 11), (.lit (.int 0))]), (.op .ix [(.var 11), (.lit (.int 1))]), (.op .add [(.var 9), (.op .tup [(.var 10)])])])])] []],
  .aug 6 .add (.lit (.int 1))],
  .ret (.lit .non)] }
def d_products_room_back : MDef := { params := 1, slots := 5, body := [.set (.tup [(.one 1), (.one 2)]) (.var 0),
  .set (.one 3) (.call F.turns_turn_back [(.var 1)]),
  .ret (.op .tup [(.var 3), (.op .tupOf [(.comp (.op .ix [(.var 2), (.var 4)]) (.one 4) 0 [(.var 3)] [4] none)])])] }
def d_products_turned_back : MDef := { params := 1, slots := 2, body := [.ret (.call F.machines_least [(.op .tupOf [(.comp (.call F.products_room_back [(.var 1)]) (.one 1) 0 [(.call F.machines_sure_machine [(.var 0)])] [1] none)])])] }
def d_turns_still_turn : MDef := { params := 1, slots := 1, body := [.ife (.not (.call F.turns_is_between [(.var 0), (.glo G.LEAST_MANY (.int 2)), (.glo G.MOST_MANY (.int 4))])) [.raise C.NoNumber []] [],
  .ret (.op .tupR1 [(.var 0)])] }
def d_words_is_word : MDef := { params := 2, slots := 3, body := [.ife (.or [(.not (.op (.isi [2]) [(.var 1)])), (.op .gt [(.op .len [(.var 1)]), (.glo G.MOST_STEPS (.int 100))])]) [.ret (.lit (.bl false))] [],
  .ret (.op .all [(.comp (.meth (.var 0) M.has_step [(.var 2)]) (.one 2) 0 [(.var 1)] [2] none)])] }
def d_words_sure_word : MDef := { params := 2, slots := 2, body := [.ife (.not (.call F.words_is_word [(.var 0), (.var 1)])) [.raise C.NoWord []] [],
  .ret (.var 1)] }
def d_words_shortened : MDef := { params := 1, slots := 3, body := [.own 1 (.op .lst []),
  .forr (.one 2) 0 [(.var 0)] [.ife (.and [(.op .ne [(.var 1), (.op .lst [])]), (.op .eq [(.op .ix [(.var 1), (.op .neg [(.lit (.int 1))])]), (.op .neg [(.var 2)])])]) [.expr (.mut .pop (.var 1) [])] [.expr (.mut .append (.var 1) [(.var 2)])]],
  .ret (.op .tupOf [(.var 1)])] }
def d_rows_turn_by : MDef := { params := 2, slots := 6, body := [.set (.one 2) (.op .tupR1 [(.meth (.var 0) M.letters [])]),
  .forr (.one 3) 0 [(.var 1)] [.set (.one 4) (.meth (.var 0) M.turn [(.var 3)]),
  .set (.one 2) (.op .tupOf [(.comp (.op .ix [(.var 4), (.var 5)]) (.one 5) 0 [(.var 2)] [5] none)])],
  .ret (.var 2)] }
def d_rows_behind_one : MDef := { params := 3, slots := 5, body := [.own 3 (.op .lst []),
  .forr (.one 4) 0 [(.var 1)] [.expr (.mut .append (.var 3) [(.meth (.var 0) M.onward [(.var 4), (.var 2)])]),
  .set (.one 2) (.op .ix [(.meth (.var 0) M.turn [(.var 4)]), (.var 2)])],
  .ret (.call F.words_shortened [(.comp (.var 4) (.one 4) 0 [(.var 3)] [4] (some (.op .ne [(.var 4), (.lit (.int 0))])))])] }
def d_tables_gone_over : MDef := { params := 2, slots := 12, body := [.set (.one 2) (.call F.turns_still_turn [(.meth (.var 0) M.letters [])]),
  .own 3 (.op .lst [(.call F.words_shortened [(.var 1)])]),
  .own 4 (.op (.dict 1) [(.op .ix [(.var 3), (.lit (.int 0))]), (.op .tup [])]),
  .set (.one 5) (.lit (.int 0)),
  .whil (.op .lt [(.var 5), (.op .len [(.var 3)])]) [.set (.one 6) (.op .ix [(.var 3), (.var 5)]),
  .set (.one 7) (.call F.rows_turn_by [(.var 0), (.var 6)]),
  .ife (.op .ne [(.var 7), (.var 2)]) [.set (.one 10) (.comp (.var 8) (.tup [(.one 8), (.one 9)]) 3 [(.var 7)] [8, 9] (some (.op .ne [(.var 8), (.var 9)]))),
  .ret (.op .tup [(.mv 3), (.op .add [(.op .ix [(.var 4), (.var 6)]), (.op .tup [(.op .ix [(.var 10), (.lit (.int 0))])])])])] [],
  .forr (.one 8) 1 [(.meth (.var 0) M.letters [])] [.set (.one 11) (.call F.rows_behind_one [(.var 0), (.var 6), (.var 8)]),
  .ife (.op .inn [(.var 11), (.var 4)]) [.cont] [],
  .ife (.op .eq [(.op .len [(.var 3)]), (.glo G.MOST_WORDS (.int 100))]) [.raise C.TooMany []] [],
  .setIx (.var 4) (.var 11) (.op .add [(.op .ix [(.var 4), (.var 6)]), (.op .tup [(.var 8)])]),
  .expr (.mut .append (.var 3) [(.var 11)])],
  .aug 5 .add (.lit (.int 1))],
  .ret (.op .tup [(.mv 3), (.lit .non)])] }
def d_tables_parted : MDef := { params := 3, slots := 6, body := [.set (.one 3) (.call F.words_sure_word [(.var 0), (.var 1)]),
  .set (.one 5) (.op .tupOf [(.comp (.op .neg [(.var 4)]) (.one 4) 0 [(.op .rev [(.call F.words_sure_word [(.var 0), (.var 2)])])] [4] none)]),
  .ret (.op .ix [(.call F.tables_gone_over [(.var 0), (.op .add [(.var 3), (.var 5)])]), (.lit (.int 1))])] }
def d_tables_alike : MDef := { params := 3, slots := 3, body := [.ret (.op .isN [(.call F.tables_parted [(.var 0), (.var 1), (.var 2)])])] }
def d_book_is_hand : MDef := { params := 3, slots := 4, body := [.ife (.or [(.not (.op (.isi [2]) [(.var 0)])), (.op .ne [(.op .len [(.var 0)]), (.lit (.int 2))]), (.not (.call F.turns_is_turn [(.op .ix [(.var 0), (.lit (.int 0))])])), (.op .ne [(.op .len [(.op .ix [(.var 0), (.lit (.int 0))])]), (.var 1)])]) [.ret (.lit (.bl false))] [],
  .ife (.or [(.not (.op (.isi [2]) [(.op .ix [(.var 0), (.lit (.int 1))])])), (.op .ne [(.op .len [(.op .ix [(.var 0), (.lit (.int 1))])]), (.var 1)])]) [.ret (.lit (.bl false))] [],
  .ret (.op .all [(.comp (.call F.turns_is_between [(.var 3), (.op .neg [(.var 2)]), (.var 2)]) (.one 3) 0 [(.op .ix [(.var 0), (.lit (.int 1))])] [3] none)])] }
def d_book_are_hands : MDef := { params := 2, slots := 3, body := [.ife (.or [(.not (.op (.isi [3, 2]) [(.var 0)])), (.op .gt [(.op .len [(.var 0)]), (.glo G.MOST_HANDS (.int 6))])]) [.ret (.lit (.bl false))] [],
  .ret (.op .all [(.comp (.call F.book_is_hand [(.var 2), (.var 1), (.op .len [(.var 0)])]) (.one 2) 0 [(.var 0)] [2] none)])] }
def d_book_Book___init__ : MDef := { params := 3, slots := 3, body := [.ife (.or [(.not (.call F.turns_is_between [(.var 1), (.glo G.LEAST_MANY (.int 2)), (.glo G.MOST_MANY (.int 4))])), (.not (.call F.book_are_hands [(.var 2), (.var 1)]))]) [.raise C.NoBook []] [],
  .setFld (.var 0) A.many (.var 1),
  .setFld (.var 0) A.pairs (.op .lstOf [(.var 2)])] }
def d_book_Book___eq__ : MDef := { params := 2, slots := 2, body := [.ret (.and [(.op (.isi [10 + C.Book]) [(.var 1)]), (.op .eq [(.op (.fld A.many) [(.var 0)]), (.op (.fld A.many) [(.var 1)])]), (.op .eq [(.op (.fld A.pairs) [(.var 0)]), (.op (.fld A.pairs) [(.var 1)])])])] }
def d_book_Book___len__ : MDef := { params := 1, slots := 1, body := [.ret (.op .len [(.op (.fld A.pairs) [(.var 0)])])] }
def d_book_Book_letters : MDef := { params := 1, slots := 1, body := [.ret (.op (.fld A.many) [(.var 0)])] }
def d_book_Book_hands : MDef := { params := 1, slots := 1, body := [.ret (.op .len [(.op (.fld A.pairs) [(.var 0)])])] }
def d_book_Book_steps : MDef := { params := 1, slots := 3, body := [.own 1 (.op .lst []),
  .forr (.one 2) 2 [(.lit (.int 1)), (.op .add [(.op .len [(.op (.fld A.pairs) [(.var 0)])]), (.lit (.int 1))])] [.aug 1 .add (.op .lst [(.var 2), (.op .neg [(.var 2)])])],
  .ret (.mv 1)] }
def d_book_Book_has_step : MDef := { params := 2, slots := 2, body := [.ret (.and [(.call F.turns_is_between [(.var 1), (.op .neg [(.op .len [(.op (.fld A.pairs) [(.var 0)])])]), (.op .len [(.op (.fld A.pairs) [(.var 0)])])]), (.op .ne [(.var 1), (.lit (.int 0))])])] }
def d_book_Book_has_letter : MDef := { params := 2, slots := 2, body := [.ret (.call F.turns_is_between [(.var 1), (.lit (.int 0)), (.op .sub [(.op (.fld A.many) [(.var 0)]), (.lit (.int 1))])])] }
def d_book_Book_turn : MDef := { params := 2, slots := 3, body := [.ife (.not (.meth (.var 0) M.has_step [(.var 1)])) [.raise C.NoWord []] [],
  .set (.one 2) (.op .ix [(.op .ix [(.op (.fld A.pairs) [(.var 0)]), (.op .sub [(.op .abs [(.var 1)]), (.lit (.int 1))])]), (.lit (.int 0))]),
  .ret (.ifx (.op .gt [(.var 1), (.lit (.int 0))]) (.var 2) (.call F.turns_undone [(.var 2)]))] }
def d_book_Book_onward : MDef := { params := 3, slots := 5, body := [.ife (.not (.meth (.var 0) M.has_step [(.var 1)])) [.raise C.NoWord []] [],
  .ife (.not (.meth (.var 0) M.has_letter [(.var 2)])) [.raise C.NoRow []] [],
  .set (.tup [(.one 3), (.one 4)]) (.op .ix [(.op (.fld A.pairs) [(.var 0)]), (.op .sub [(.op .abs [(.var 1)]), (.lit (.int 1))])]),
  .ret (.ifx (.op .gt [(.var 1), (.lit (.int 0))]) (.op .ix [(.var 4), (.var 2)]) (.op .neg [(.op .ix [(.var 4), (.op .index [(.var 3), (.var 2)])])]))] }
end LB
/-- the program has that def by that number -/
structure Has (p : Prg) (f : Nat) (d : MDef) : Prop where
  c : p.ctor f = none
  d : p.def_ f = some d
theorem Has.call {p : Prg} {f : Nat} {d : MDef} (h : Has p f d) (n : Nat) (us m : List U) : (stOf p (n + 1)).call f us m = runDef (stOf p n) d us m := by
  show (match p.ctor f with | some (c, k, i, kind) => _ | none => match p.def_ f with | some d => runDef (stOf p n) d us m | none => .stuck) = _
  rw [h.c, h.d]
end MPE
set_option maxRecDepth 100000
/-! E1: rows for simp: what each expression, each statement does. -/
namespace MPE
open MP
section
variable {α β : Type} {g : Gst} {s : Sta}
@[scoped simp] theorem bind_ok (a : α) (s : Sta) (f : α → Sta → Rs β) : (Rs.ok a s).bind f = f a s := Eq.trans rfl rfl
@[scoped simp] theorem bind_exc (e : U) (s : Sta) (f : α → Sta → Rs β) : (Rs.exc e s : Rs α).bind f = .exc e s := Eq.trans rfl rfl
@[scoped simp] theorem bind_stuck (f : α → Sta → Rs β) : (Rs.stuck : Rs α).bind f = .stuck := Eq.trans rfl rfl
@[scoped simp] theorem slot_mk (r : List Slt) (m : List U) (i : Nat) : slot ⟨r, m⟩ i = r.getD i .no := Eq.trans rfl rfl
@[scoped simp] theorem put_mk (r : List Slt) (m : List U) (i : Nat) (x : Slt) : (⟨r, m⟩ : Sta).put i x = ⟨r.set i x, m⟩ := Eq.trans rfl rfl
@[scoped simp] theorem wipe_nil : wipeS s [] = s := Eq.trans rfl rfl
@[scoped simp] theorem wipe_cons (i : Nat) (is : List Nat) : wipeS s (i :: is) = (wipeS s is).put i .no := Eq.trans rfl rfl
@[scoped simp] theorem rc_ok (r : List Slt) (u : U) (m : List U) : rc r (.ok u m) = .ok u ⟨r, m⟩ := Eq.trans rfl rfl
@[scoped simp] theorem rc_exc (r : List Slt) (u : U) (m : List U) : rc r (.exc u m) = .exc u ⟨r, m⟩ := Eq.trans rfl rfl
@[scoped simp] theorem rc_stuck (r : List Slt) : rc r .stuck = .stuck := Eq.trans rfl rfl
/-! expressions -/
@[scoped simp] theorem e_var (i : Nat) : evalE g (.var i) s = (match slot s i with | .val u => .ok u s | _ => .stuck) := by rw [evalE] <;> rfl
@[scoped simp] theorem e_mv (i : Nat) : evalE g (.mv i) s = (match slot s i with | .own u => .ok u (s.put i (.val u)) | .val u => .ok u s | .no => .stuck) := by rw [evalE] <;> rfl
@[scoped simp] theorem e_lit (u : U) : evalE g (.lit u) s = .ok u s := by rw [evalE] <;> rfl
@[scoped simp] theorem e_glo (x : Nat) (u : U) : evalE g (.glo x u) s = .ok u s := by rw [evalE] <;> rfl
theorem e_op (o : Opr) (as : List ME) : evalE g (.op o as) s = if o.holds then ((evalEs g as s).bind fun us s => match opSem g o us with
      | some u => .ok u s
      | none => .stuck)
    else (if o.meth then evalRecv g as s else evalAs g as s).bind fun avs s => if avs.all (AV.ok s) then (match opSem g o (avs.map (AV.get s)) with
      | some u => .ok u s
      | none => .stuck) else .stuck := by rw [evalE] <;> rfl
def opH (g : Gst) (o : Opr) (r : Rs (List U)) : Rs U := r.bind fun us s => match opSem g o us with
      | some u => .ok u s
      | none => .stuck
def opA (g : Gst) (o : Opr) (r : Rs (List AV)) : Rs U := r.bind fun avs s => if avs.all (AV.ok s) then (match opSem g o (avs.map (AV.get s)) with
      | some u => .ok u s
      | none => .stuck) else .stuck
@[scoped simp] theorem opH_ok (o : Opr) (us : List U) : opH g o (.ok us s) = match opSem g o us with
      | some u => .ok u s
      | none => .stuck := rfl
theorem opA_ok (o : Opr) (avs : List AV) : opA g o (.ok avs s) = if avs.all (AV.ok s) then (match opSem g o (avs.map (AV.get s)) with
      | some u => .ok u s
      | none => .stuck) else .stuck := rfl
@[scoped simp] theorem opA_1 (o : Opr) (a : AV) : opA g o (.ok [a] s) = if a.ok s then (match opSem g o [a.get s] with
      | some u => .ok u s
      | none => .stuck) else .stuck := by
  rw [opA_ok]
  simp only [List.all_cons, List.all_nil, Bool.and_true, List.map_cons, List.map_nil]
@[scoped simp] theorem opA_2 (o : Opr) (a b : AV) : opA g o (.ok [a, b] s) = if a.ok s && b.ok s then (match opSem g o [a.get s, b.get s] with
      | some u => .ok u s
      | none => .stuck) else .stuck := by
  rw [opA_ok]
  simp only [List.all_cons, List.all_nil, Bool.and_true, List.map_cons, List.map_nil]
@[scoped simp] theorem opA_3 (o : Opr) (a b c : AV) : opA g o (.ok [a, b, c] s) = if a.ok s && (b.ok s && c.ok s) then (match opSem g o [a.get s, b.get s, c.get s] with
      | some u => .ok u s
      | none => .stuck) else .stuck := by
  rw [opA_ok]
  simp only [List.all_cons, List.all_nil, Bool.and_true, List.map_cons, List.map_nil]
@[scoped simp] theorem opH_exc (o : Opr) (e : U) : opH g o (.exc e s) = .exc e s := Eq.trans rfl rfl
@[scoped simp] theorem opA_exc (o : Opr) (e : U) : opA g o (.exc e s) = .exc e s := Eq.trans rfl rfl
@[scoped simp] theorem e_tup (as : List ME) : evalE g (.op .tup as) s = opH g .tup (evalEs g as s) := by rw [e_op]; rfl
@[scoped simp] theorem e_lst (as : List ME) : evalE g (.op .lst as) s = opH g .lst (evalEs g as s) := by rw [e_op]; rfl
@[scoped simp] theorem e_dict (n : Nat) (as : List ME) : evalE g (.op (.dict n) as) s = opH g (.dict n) (evalEs g as s) := by rw [e_op]; rfl
@[scoped simp] theorem e_index (as : List ME) : evalE g (.op .index as) s = opA g .index (evalRecv g as s) := by rw [e_op]; rfl
theorem e_opA (o : Opr) (as : List ME) (h1 : o.holds = false := by rfl) (h2 : o.meth = false := by rfl) : evalE g (.op o as) s = opA g o (evalAs g as s) := by rw [e_op, h1, h2]; rfl
@[scoped simp] theorem e_add (as : List ME) : evalE g (.op .add as) s = opA g .add (evalAs g as s) := e_opA _ _
@[scoped simp] theorem e_sub (as : List ME) : evalE g (.op .sub as) s = opA g .sub (evalAs g as s) := e_opA _ _
@[scoped simp] theorem e_mul (as : List ME) : evalE g (.op .mul as) s = opA g .mul (evalAs g as s) := e_opA _ _
@[scoped simp] theorem e_fdiv (as : List ME) : evalE g (.op .fdiv as) s = opA g .fdiv (evalAs g as s) := e_opA _ _
@[scoped simp] theorem e_mod (as : List ME) : evalE g (.op .mod as) s = opA g .mod (evalAs g as s) := e_opA _ _
@[scoped simp] theorem e_pow (as : List ME) : evalE g (.op .pow as) s = opA g .pow (evalAs g as s) := e_opA _ _
@[scoped simp] theorem e_neg (as : List ME) : evalE g (.op .neg as) s = opA g .neg (evalAs g as s) := e_opA _ _
@[scoped simp] theorem e_abs (as : List ME) : evalE g (.op .abs as) s = opA g .abs (evalAs g as s) := e_opA _ _
@[scoped simp] theorem e_eq (as : List ME) : evalE g (.op .eq as) s = opA g .eq (evalAs g as s) := e_opA _ _
@[scoped simp] theorem e_ne (as : List ME) : evalE g (.op .ne as) s = opA g .ne (evalAs g as s) := e_opA _ _
@[scoped simp] theorem e_lt (as : List ME) : evalE g (.op .lt as) s = opA g .lt (evalAs g as s) := e_opA _ _
@[scoped simp] theorem e_le (as : List ME) : evalE g (.op .le as) s = opA g .le (evalAs g as s) := e_opA _ _
@[scoped simp] theorem e_gt (as : List ME) : evalE g (.op .gt as) s = opA g .gt (evalAs g as s) := e_opA _ _
@[scoped simp] theorem e_ge (as : List ME) : evalE g (.op .ge as) s = opA g .ge (evalAs g as s) := e_opA _ _
@[scoped simp] theorem e_isN (as : List ME) : evalE g (.op .isN as) s = opA g .isN (evalAs g as s) := e_opA _ _
@[scoped simp] theorem e_notN (as : List ME) : evalE g (.op .notN as) s = opA g .notN (evalAs g as s) := e_opA _ _
@[scoped simp] theorem e_inn (as : List ME) : evalE g (.op .inn as) s = opA g .inn (evalAs g as s) := e_opA _ _
@[scoped simp] theorem e_notin (as : List ME) : evalE g (.op .notin as) s = opA g .notin (evalAs g as s) := e_opA _ _
@[scoped simp] theorem e_ix (as : List ME) : evalE g (.op .ix as) s = opA g .ix (evalAs g as s) := e_opA _ _
@[scoped simp] theorem e_slice (a b : Bool) (as : List ME) : evalE g (.op (.slice a b) as) s = opA g (.slice a b) (evalAs g as s) := e_opA _ _
@[scoped simp] theorem e_rev (as : List ME) : evalE g (.op .rev as) s = opA g .rev (evalAs g as s) := e_opA _ _
@[scoped simp] theorem e_len (as : List ME) : evalE g (.op .len as) s = opA g .len (evalAs g as s) := e_opA _ _
@[scoped simp] theorem e_tupOf (as : List ME) : evalE g (.op .tupOf as) s = opA g .tupOf (evalAs g as s) := e_opA _ _
@[scoped simp] theorem e_lstOf (as : List ME) : evalE g (.op .lstOf as) s = opA g .lstOf (evalAs g as s) := e_opA _ _
@[scoped simp] theorem e_sorted (as : List ME) : evalE g (.op .sorted as) s = opA g .sorted (evalAs g as s) := e_opA _ _
@[scoped simp] theorem e_max1 (as : List ME) : evalE g (.op .max1 as) s = opA g .max1 (evalAs g as s) := e_opA _ _
@[scoped simp] theorem e_max2 (as : List ME) : evalE g (.op .max2 as) s = opA g .max2 (evalAs g as s) := e_opA _ _
@[scoped simp] theorem e_min2 (as : List ME) : evalE g (.op .min2 as) s = opA g .min2 (evalAs g as s) := e_opA _ _
@[scoped simp] theorem e_all (as : List ME) : evalE g (.op .all as) s = opA g .all (evalAs g as s) := e_opA _ _
@[scoped simp] theorem e_any (as : List ME) : evalE g (.op .any as) s = opA g .any (evalAs g as s) := e_opA _ _
@[scoped simp] theorem e_sum (as : List ME) : evalE g (.op .sum as) s = opA g .sum (evalAs g as s) := e_opA _ _
@[scoped simp] theorem e_isi (ts : List Nat) (as : List ME) : evalE g (.op (.isi ts) as) s = opA g (.isi ts) (evalAs g as s) := e_opA _ _
@[scoped simp] theorem e_tupR1 (as : List ME) : evalE g (.op .tupR1 as) s = opA g .tupR1 (evalAs g as s) := e_opA _ _
@[scoped simp] theorem e_tupR2 (as : List ME) : evalE g (.op .tupR2 as) s = opA g .tupR2 (evalAs g as s) := e_opA _ _
@[scoped simp] theorem e_lstR1 (as : List ME) : evalE g (.op .lstR1 as) s = opA g .lstR1 (evalAs g as s) := e_opA _ _
@[scoped simp] theorem e_lstR2 (as : List ME) : evalE g (.op .lstR2 as) s = opA g .lstR2 (evalAs g as s) := e_opA _ _
@[scoped simp] theorem e_lenSet (as : List ME) : evalE g (.op .lenSet as) s = opA g .lenSet (evalAs g as s) := e_opA _ _
@[scoped simp] theorem e_get1 (as : List ME) : evalE g (.op .get1 as) s = opA g .get1 (evalAs g as s) := e_opA _ _
@[scoped simp] theorem e_get2 (as : List ME) : evalE g (.op .get2 as) s = opA g .get2 (evalAs g as s) := e_opA _ _
@[scoped simp] theorem e_divmod (as : List ME) : evalE g (.op .divmod as) s = opA g .divmod (evalAs g as s) := e_opA _ _
@[scoped simp] theorem e_fld (f : Nat) (as : List ME) : evalE g (.op (.fld f) as) s = opA g (.fld f) (evalAs g as s) := e_opA _ _
@[scoped simp] theorem e_and (es : List ME) : evalE g (.and es) s = evalAnd g es s := by rw [evalE] <;> rfl
@[scoped simp] theorem e_or (es : List ME) : evalE g (.or es) s = evalOr g es s := by rw [evalE] <;> rfl
@[scoped simp] theorem e_not (e : ME) : evalE g (.not e) s = (argOf (fun s => evalE g e s) e s).bind fun av s => match truthy (av.get s) with
      | some b => .ok (.bl (!b)) s
      | none => .stuck := by rw [evalE] <;> rfl
@[scoped simp] theorem e_ifx (c a b : ME) : evalE g (.ifx c a b) s = (argOf (fun s => evalE g c s) c s).bind fun av s => match truthy (av.get s) with
      | some true => evalE g a s
      | some false => evalE g b s
      | none => .stuck := by rw [evalE] <;> rfl
@[scoped simp] theorem e_chain (o o' : Opr) (a b c : ME) : evalE g (.chain o o' a b c) s = (evalE g a s).bind fun x s => (evalE g b s).bind fun y s => match opSem g o [x, y] with
      | some (.bl true) => (evalE g c s).bind fun z s => match opSem g o' [y, z] with
        | some u => .ok u s
        | none => .stuck
      | some (.bl false) => .ok (.bl false) s
      | _ => .stuck := by rw [evalE] <;> rfl
@[scoped simp] theorem e_call (f : Nat) (as : List ME) : evalE g (.call f as) s = (evalEs g as s).bind fun us s => rc s.r (g.call f us s.m) := by rw [evalE] <;> rfl
@[scoped simp] theorem e_share (e : ME) : evalE g (.share e) s = (newOf (evalE g e s)).bind fun u s => .ok (.ref s.m.length) { s with m := s.m ++ [u] } := by rw [evalE] <;> rfl
@[scoped simp] theorem e_mut (o : Mop) (c : ME) (as : List ME) : evalE g (.mut o c as) s = (argOf (fun s => evalE g c s) c s).bind fun av s => if kindN (av.get s) != o.kind then .stuck else
      if o == .extend then (evalAs g as s).bind fun avs s => if avs.all (AV.ok s) then mutF o av (avs.map (AV.get s)) s else .stuck
      else (evalEs g as s).bind fun us s => mutF o av us s := by rw [evalE] <;> rfl
@[scoped simp] theorem es_nil : evalEs g [] s = .ok [] s := by rw [evalEs] <;> rfl
@[scoped simp] theorem es_cons (e : ME) (es : List ME) : evalEs g (e :: es) s = (evalE g e s).bind fun u s => (evalEs g es s).bind fun us s => .ok (u :: us) s := by rw [evalEs] <;> rfl
@[scoped simp] theorem as_nil : evalAs g [] s = .ok [] s := by rw [evalAs] <;> rfl
@[scoped simp] theorem as_cons (e : ME) (es : List ME) : evalAs g (e :: es) s = (argOf (fun s => evalE g e s) e s).bind fun u s => (evalAs g es s).bind fun us s => .ok (u :: us) s := by rw [evalAs] <;> rfl
@[scoped simp] theorem recv_cons (e : ME) (es : List ME) : evalRecv g (e :: es) s = (argOf (fun s => evalE g e s) e s).bind fun av s1 => if kindN (av.get s1) != 1 && kindN (av.get s1) != 2 then .stuck else (evalAs g es s1).bind fun us s2 =>
      if kindN (av.get s2) != kindN (av.get s1) then .stuck else .ok (av :: us) s2 := by rw [evalRecv] <;> rfl
@[scoped simp] theorem and_one (e : ME) : evalAnd g [e] s = evalE g e s := by rw [evalAnd] <;> rfl
@[scoped simp] theorem and_cons (e e' : ME) (es : List ME) : evalAnd g (e :: e' :: es) s = (evalE g e s).bind fun u s => match u with
      | .bl true => evalAnd g (e' :: es) s
      | .bl false => .ok (.bl false) s
      | _ => .stuck := by rw [evalAnd] <;> first | rfl | simp
@[scoped simp] theorem or_one (e : ME) : evalOr g [e] s = evalE g e s := by rw [evalOr] <;> rfl
@[scoped simp] theorem or_cons (e e' : ME) (es : List ME) : evalOr g (e :: e' :: es) s = (evalE g e s).bind fun u s => match u with
      | .bl true => .ok (.bl true) s
      | .bl false => evalOr g (e' :: es) s
      | _ => .stuck := by rw [evalOr] <;> first | rfl | simp
/-- an argument that is a name -/
@[scoped simp] theorem arg_var (i : Nat) (f : Sta → Rs U) : argOf f (.var i) s = (match slot s i with | .own _ => .ok (.own i) s | _ => (f s).bind fun u s => .ok (.v u) s) := by
  unfold argOf isOwn
  simp only
  cases slot s i <;> rfl
theorem arg_no {e : ME} (f : Sta → Rs U) (h : isOwn s e = none) : argOf f e s = (f s).bind fun u s => .ok (.v u) s := by
  unfold argOf
  rw [h]
@[scoped simp] theorem arg_mv (i : Nat) (f : Sta → Rs U) : argOf f (.mv i) s = (f s).bind fun u s => .ok (.v u) s := arg_no f rfl
@[scoped simp] theorem arg_lit (u : U) (f : Sta → Rs U) : argOf f (.lit u) s = (f s).bind fun u s => .ok (.v u) s := arg_no f rfl
@[scoped simp] theorem arg_glo (x : Nat) (u : U) (f : Sta → Rs U) : argOf f (.glo x u) s = (f s).bind fun u s => .ok (.v u) s := arg_no f rfl
@[scoped simp] theorem arg_op (o : Opr) (as : List ME) (f : Sta → Rs U) : argOf f (.op o as) s = (f s).bind fun u s => .ok (.v u) s := arg_no f rfl
@[scoped simp] theorem arg_and (as : List ME) (f : Sta → Rs U) : argOf f (.and as) s = (f s).bind fun u s => .ok (.v u) s := arg_no f rfl
@[scoped simp] theorem arg_or (as : List ME) (f : Sta → Rs U) : argOf f (.or as) s = (f s).bind fun u s => .ok (.v u) s := arg_no f rfl
@[scoped simp] theorem arg_not (e : ME) (f : Sta → Rs U) : argOf f (.not e) s = (f s).bind fun u s => .ok (.v u) s := arg_no f rfl
@[scoped simp] theorem arg_ifx (a b c : ME) (f : Sta → Rs U) : argOf f (.ifx a b c) s = (f s).bind fun u s => .ok (.v u) s := arg_no f rfl
@[scoped simp] theorem arg_chain (o o' : Opr) (a b c : ME) (f : Sta → Rs U) : argOf f (.chain o o' a b c) s = (f s).bind fun u s => .ok (.v u) s := arg_no f rfl
@[scoped simp] theorem arg_call (x : Nat) (as : List ME) (f : Sta → Rs U) : argOf f (.call x as) s = (f s).bind fun u s => .ok (.v u) s := arg_no f rfl
@[scoped simp] theorem arg_callv (x : Nat) (as : List ME) (f : Sta → Rs U) : argOf f (.callv x as) s = (f s).bind fun u s => .ok (.v u) s := arg_no f rfl
@[scoped simp] theorem arg_meth (o : ME) (x : Nat) (as : List ME) (f : Sta → Rs U) : argOf f (.meth o x as) s = (f s).bind fun u s => .ok (.v u) s := arg_no f rfl
@[scoped simp] theorem arg_mut (o : Mop) (c : ME) (as : List ME) (f : Sta → Rs U) : argOf f (.mut o c as) s = (f s).bind fun u s => .ok (.v u) s := arg_no f rfl
@[scoped simp] theorem arg_comp (e : ME) (t : Tg) (k : Nat) (its : List ME) (own : List Nat) (c : Option ME) (f : Sta → Rs U) : argOf f (.comp e t k its own c) s = (f s).bind fun u s => .ok (.v u) s := arg_no f rfl
@[scoped simp] theorem get_v (u : U) : (AV.v u).get s = cont s.m u := Eq.trans rfl rfl
@[scoped simp] theorem get_own (i : Nat) : (AV.own i).get s = match slot s i with | .own u => u | _ => .non := Eq.trans rfl rfl
@[scoped simp] theorem ok_v (u : U) : (AV.v u).ok s = true := Eq.trans rfl rfl
@[scoped simp] theorem ok_own (i : Nat) : (AV.own i).ok s = match slot s i with | .own _ => true | _ => false := Eq.trans rfl rfl
@[scoped simp] theorem cont_int (m : List U) (i : Int) : cont m (.int i) = .int i := Eq.trans rfl rfl
@[scoped simp] theorem cont_bl (m : List U) (b : Bool) : cont m (.bl b) = .bl b := Eq.trans rfl rfl
@[scoped simp] theorem cont_non (m : List U) : cont m .non = .non := Eq.trans rfl rfl
@[scoped simp] theorem cont_str (m : List U) (b : List Nat) : cont m (.str b) = .str b := Eq.trans rfl rfl
@[scoped simp] theorem cont_prs (m : List U) (us : List U) : cont m (.prs us) = .prs us := Eq.trans rfl rfl
@[scoped simp] theorem cont_tup (m : List U) (us : List U) : cont m (.tup us) = .tup us := Eq.trans rfl rfl
@[scoped simp] theorem cont_lst (m : List U) (us : List U) : cont m (.lst us) = .lst us := Eq.trans rfl rfl
@[scoped simp] theorem cont_scr (m : List U) (us : List U) : cont m (.scr us) = .scr us := Eq.trans rfl rfl
@[scoped simp] theorem cont_dic (m : List U) (ks vs : List U) : cont m (.dic ks vs) = .dic ks vs := Eq.trans rfl rfl
@[scoped simp] theorem cont_obj (m : List U) (c : Nat) (us : List U) : cont m (.obj c us) = .obj c us := Eq.trans rfl rfl
@[scoped simp] theorem cont_exc (m : List U) (c : Nat) (us : List U) : cont m (.exc c us) = .exc c us := Eq.trans rfl rfl
@[scoped simp] theorem cont_ref (m : List U) (n : Nat) : cont m (.ref n) = m.getD n .non := Eq.trans rfl rfl
@[scoped simp] theorem truthy_bl (b : Bool) : truthy (.bl b) = some b := Eq.trans rfl rfl
@[scoped simp] theorem newOf_ok (u : U) : newOf (.ok u s) = if isLD u then .ok u s else .stuck := Eq.trans rfl rfl
@[scoped simp] theorem isLD_lst (us : List U) : isLD (.lst us) = true := Eq.trans rfl rfl
@[scoped simp] theorem isLD_dic (ks us : List U) : isLD (.dic ks us) = true := Eq.trans rfl rfl
@[scoped simp] theorem cond_of (f : Sta → Rs U) (e : ME) : condOf f e s = (argOf f e s).bind fun av s => match truthy (av.get s) with
  | some b => .ok b s
  | none => .stuck := rfl
/-! statements -/
@[scoped simp] theorem x_nil : execs g [] s = .ok .next s := by rw [execs] <;> rfl
@[scoped simp] theorem x_cons (x : MS) (xs : List MS) : execs g (x :: xs) s = (execS g x s).bind fun fl s => match fl with
    | .next => execs g xs s
    | _ => .ok fl s := by rw [execs] <;> rfl
@[scoped simp] theorem x_set (t : Tg) (e : ME) : execS g (.set t e) s = (evalE g e s).bind fun u s => match bindT t u s with
    | some s => .ok .next s
    | none => .stuck := by rw [execS] <;> rfl
@[scoped simp] theorem x_own (i : Nat) (e : ME) : execS g (.own i e) s = (newOf (evalE g e s)).bind fun u s => .ok .next (s.put i (.own u)) := by rw [execS] <;> rfl
@[scoped simp] theorem x_par (i j : Nat) (a b : ME) : execS g (.par i j a b) s = (evalE g a s).bind fun x s => (evalE g b s).bind fun y s => .ok .next ((s.put j (.val y)).put i (.val x)) := by rw [execS] <;> rfl
@[scoped simp] theorem x_expr (e : ME) : execS g (.expr e) s = (evalE g e s).bind fun _ s => .ok .next s := by rw [execS] <;> rfl
@[scoped simp] theorem x_ret (e : ME) : execS g (.ret e) s = (evalE g e s).bind fun u s => .ok (.ret u) s := by rw [execS] <;> rfl
@[scoped simp] theorem x_ife (c : ME) (a b : List MS) : execS g (.ife c a b) s = (condOf (fun s => evalE g c s) c s).bind fun x s => if x then execs g a s else execs g b s := by rw [execS] <;> rfl
theorem x_whil (c : ME) (b : List MS) : execS g (.whil c b) s = turnsW (fun s => condOf (fun s => evalE g c s) c s) (fun s => execs g b s) g.turns s := by rw [execS] <;> rfl
@[scoped simp] theorem x_brk : execS g .brk s = .ok .brk s := by rw [execS] <;> rfl
@[scoped simp] theorem x_cont : execS g .cont s = .ok .cont s := by rw [execS] <;> rfl
@[scoped simp] theorem x_pass : execS g .pass s = .ok .next s := by rw [execS] <;> rfl
@[scoped simp] theorem x_raise (c : Nat) (as : List ME) : execS g (.raise c as) s = (evalEs g as s).bind fun us s => .exc (.exc c us) s := by rw [execS] <;> rfl
@[scoped simp] theorem x_setIx (c ix e : ME) : execS g (.setIx c ix e) s = (evalE g e s).bind fun u s => (argOf (fun s => evalE g c s) c s).bind fun av s => (evalE g ix s).bind fun k s =>
      match mutSem .setIx (av.get s) [k, u] with
      | some (c', _) => match setC s av c' with
        | some s => .ok .next s
        | none => .stuck
      | none => .stuck := by rw [execS] <;> rfl
@[scoped simp] theorem x_aug (i : Nat) (o : Opr) (e : ME) : execS g (.aug i o e) s = match slot s i with
    | .val x => (evalE g e s).bind fun y s => (opAug o x y s).bind fun u s => .ok .next (s.put i (.val u))
    | .own _ => if o == .add then (argOf (fun s => evalE g e s) e s).bind fun av s => if av.ok s then (mutF .extend (.own i) [av.get s] s).bind fun _ s => .ok .next s else .stuck
      else .stuck
    | .no => .stuck := by rw [execS] <;> rfl
@[scoped simp] theorem x_augIx (c ix : ME) (o : Opr) (e : ME) : execS g (.augIx c ix o e) s = (argOf (fun s => evalE g c s) c s).bind fun av s => (evalE g ix s).bind fun k s =>
      match opSem g .ix [av.get s, k] with
      | some x => (evalE g e s).bind fun y s => (opAug o x y s).bind fun u s => match mutSem .setIx (av.get s) [k, u] with
        | some (c', _) => match setC s av c' with
          | some s => .ok .next s
          | none => .stuck
        | none => .stuck
      | none => .stuck := by rw [execS] <;> rfl
theorem x_forr (t : Tg) (k : Nat) (its : List ME) (b : List MS) : execS g (.forr t k its b) s = (evalAs g its s).bind fun avs s => match walkA k avs s with
    | some xs => turnsF (fun x s1 => match bindT t x s1 with
      | some s2 => (execs g b s2).bind fun fl s3 => if stillIs s s3 avs then .ok fl s3 else .stuck
      | none => .stuck) xs s
    | none => .stuck := by rw [execS] <;> rfl
theorem x_triOk {b : List MS} {hs : List (Nat × Option Nat × List MS)} {s s' : Sta} {fl : Fl} (h : execs g b s = .ok fl s') : execS g (.tri b hs) s = .ok fl s' := by
  rw [execS, h]
theorem x_triX {b : List MS} {hs : List (Nat × Option Nat × List MS)} {s s' : Sta} {e : U} (h : execs g b s = .exc e s') : execS g (.tri b hs) s = handle g hs e s' := by
  rw [execS, h]
theorem hd_yes {c i : Nat} {b : List MS} {hs : List (Nat × Option Nat × List MS)} {e : U} {s s' : Sta} (h : isX g e c = some true) (hb : execs g b (s.put i (.val e)) = .ok .next s') : handle g ((c, some i, b) :: hs) e s = .ok .next (s'.put i .no) := by
  rw [handle, h]
  simp only [hb, bind_ok]
theorem x_ifT {c : ME} {a b : List MS} {s s' : Sta} (h : condOf (fun s => evalE g c s) c s = .ok true s') : execS g (.ife c a b) s = execs g a s' := by
  rw [x_ife, h]
  rfl
theorem x_ifF {c : ME} {a b : List MS} {s s' : Sta} (h : condOf (fun s => evalE g c s) c s = .ok false s') : execS g (.ife c a b) s = execs g b s' := by
  rw [x_ife, h]
  rfl
theorem x_seq {x : MS} {xs : List MS} {s s' : Sta} (h : execS g x s = .ok .next s') : execs g (x :: xs) s = execs g xs s' := by
  rw [x_cons, h]
  rfl
theorem x_last {x : MS} {s s' : Sta} {u : U} {xs : List MS} (h : execS g x s = .ok (.ret u) s') : execs g (x :: xs) s = .ok (.ret u) s' := by
  rw [x_cons, h]
  rfl
theorem map_mapIdx' {α β γ : Type} (f : Nat → α → β) (h : β → γ) (l : List α) : (l.mapIdx f).map h = l.mapIdx fun i x => h (f i x) := by
  apply List.ext_getElem
  · simp
  · intro i h1 h2
    simp
theorem mapIdx_map' {α β γ : Type} (f : Nat → β → γ) (h : α → β) (l : List α) : (l.map h).mapIdx f = l.mapIdx fun i x => f i (h x) := by
  apply List.ext_getElem
  · simp
  · intro i h1 h2
    simp
/-! targets -/
@[scoped simp] theorem b_one (i : Nat) (u : U) : bindT (.one i) u s = some (s.put i (.val u)) := by rw [bindT] <;> rfl
@[scoped simp] theorem b_tup (ts : List Tg) (us : List U) : bindT (.tup ts) (.tup us) s = bindTs ts us s := by rw [bindT] <;> rfl
@[scoped simp] theorem b_prs (ts : List Tg) (us : List U) : bindT (.tup ts) (.prs us) s = bindTs ts us s := by rw [bindT] <;> rfl
@[scoped simp] theorem bs_nil : bindTs [] [] s = some s := by rw [bindTs] <;> rfl
@[scoped simp] theorem bs_cons (t : Tg) (ts : List Tg) (u : U) (us : List U) : bindTs (t :: ts) (u :: us) s = match bindT t u s with
    | some s => bindTs ts us s
    | none => none := by rw [bindTs] <;> rfl
/-! operations -/
@[scoped simp] theorem op_add_i (i j : Int) : opSem g .add [.int i, .int j] = some (.int (i + j)) := Eq.trans rfl rfl
@[scoped simp] theorem op_sub_i (i j : Int) : opSem g .sub [.int i, .int j] = some (.int (i - j)) := Eq.trans rfl rfl
@[scoped simp] theorem op_eq (a b : U) : opSem g .eq [a, b] = if a.plain && b.plain then some (.bl (eqU a b)) else none := Eq.trans rfl rfl
@[scoped simp] theorem op_ne (a b : U) : opSem g .ne [a, b] = if a.plain && b.plain then some (.bl (!eqU a b)) else none := Eq.trans rfl rfl
@[scoped simp] theorem op_lt (i j : Int) : opSem g .lt [.int i, .int j] = some (.bl (decide (i < j))) := Eq.trans rfl rfl
@[scoped simp] theorem op_le (i j : Int) : opSem g .le [.int i, .int j] = some (.bl (decide (i ≤ j))) := Eq.trans rfl rfl
@[scoped simp] theorem op_gt (i j : Int) : opSem g .gt [.int i, .int j] = some (.bl (decide (j < i))) := Eq.trans rfl rfl
@[scoped simp] theorem op_ge (i j : Int) : opSem g .ge [.int i, .int j] = some (.bl (decide (j ≤ i))) := Eq.trans rfl rfl
@[scoped simp] theorem op_mod (i j : Int) : opSem g .mod [.int i, .int j] = if decide (0 < j) then some (.int (i % j)) else none := Eq.trans rfl rfl
@[scoped simp] theorem op_isi (ts : List Nat) (a : U) : opSem g (.isi ts) [a] = if isiOk g a then some (.bl (ts.any (isT g a))) else none := Eq.trans rfl rfl
@[scoped simp] theorem op_len_t (us : List U) : opSem g .len [.tup us] = some (.int us.length) := Eq.trans rfl rfl
@[scoped simp] theorem op_len_l (us : List U) : opSem g .len [.lst us] = some (.int us.length) := Eq.trans rfl rfl
@[scoped simp] theorem op_len_s (us : List U) : opSem g .len [.scr us] = some (.int us.length) := Eq.trans rfl rfl
@[scoped simp] theorem op_len_d (us vs : List U) : opSem g .len [.dic us vs] = some (.int us.length) := Eq.trans rfl rfl
@[scoped simp] theorem op_ix_t (us : List U) (i : Int) : opSem g .ix [.tup us, .int i] = atI us i := Eq.trans rfl rfl
@[scoped simp] theorem op_ix_l (us : List U) (i : Int) : opSem g .ix [.lst us, .int i] = atI us i := Eq.trans rfl rfl
@[scoped simp] theorem op_ix_s (us : List U) (i : Int) : opSem g .ix [.scr us, .int i] = atI us i := Eq.trans rfl rfl
@[scoped simp] theorem op_ix_d (ks us : List U) (k : U) : opSem g .ix [.dic ks us, k] = if kOk ks k then dget ks us k else none := Eq.trans rfl rfl
@[scoped simp] theorem op_tup (us : List U) : opSem g .tup us = okT us := Eq.trans rfl rfl
@[scoped simp] theorem op_lst (us : List U) : opSem g .lst us = okL us := Eq.trans rfl rfl
@[scoped simp] theorem op_dict1 (n : Nat) (us : List U) : opSem g (.dict n) us = opDict n us := Eq.trans rfl rfl
@[scoped simp] theorem op_tupOf_l (us : List U) : opSem g .tupOf [.lst us] = some (.tup us) := Eq.trans rfl rfl
@[scoped simp] theorem op_tupOf_t (us : List U) : opSem g .tupOf [.tup us] = some (.tup us) := Eq.trans rfl rfl
@[scoped simp] theorem op_lstOf_l (us : List U) : opSem g .lstOf [.lst us] = some (.lst us) := Eq.trans rfl rfl
@[scoped simp] theorem op_lstOf_t (us : List U) : opSem g .lstOf [.tup us] = some (.lst us) := Eq.trans rfl rfl
@[scoped simp] theorem op_all (us : List U) : opSem g .all [.lst us] = (allT us).map .bl := Eq.trans rfl rfl
@[scoped simp] theorem op_any (us : List U) : opSem g .any [.lst us] = (anyT us).map .bl := Eq.trans rfl rfl
@[scoped simp] theorem op_notin_d (ks us : List U) (k : U) : opSem g .notin [k, .dic ks us] = if kOk ks k then some (.bl (!memU k ks)) else none := by cases k <;> rfl
@[scoped simp] theorem op_inn_d (ks us : List U) (k : U) : opSem g .inn [k, .dic ks us] = if kOk ks k then some (.bl (memU k ks)) else none := by cases k <;> rfl
theorem op_lstR1 (n : Int) : opSem g .lstR1 [.int n] = if small n && decide (n.toNat ≤ line) then some (.lst (rng 0 n)) else none := rfl
theorem op_tupR1 (n : Int) : opSem g .tupR1 [.int n] = if small n && decide (n.toNat ≤ line) then some (.tup (rng 0 n)) else none := rfl
theorem mut_popAt (xs : List U) (i : Nat) (h : i < xs.length) (h2 : xs.length ≤ 100000) : mutSem .popAt (.lst xs) [.int (i : Int)] = some (.lst (xs.eraseIdx i), xs[i]) := by
  show muPopAt (.lst xs) [.int (i : Int)] = _
  unfold muPopAt
  simp only
  rw [if_pos ⟨by omega, by unfold bound; omega⟩, Int.toNat_natCast, List.getElem?_eq_getElem h]
/-! kinds -/
@[scoped simp] theorem isk_non (n : Nat) : isK .non n = false := by unfold isK; split <;> rfl
@[scoped simp] theorem isk_bl (b : Bool) (n : Nat) : isK (.bl b) n = decide (n < 2) := by
  match n with
  | 0 => rfl
  | 1 => rfl
  | 2 => rfl
  | 3 => rfl
  | 4 => rfl
  | 5 => rfl
  | n + 6 => simp [isK]
@[scoped simp] theorem isk_int (i : Int) (n : Nat) : isK (.int i) n = decide (n = 0) := by
  match n with
  | 0 => rfl
  | 1 => rfl
  | 2 => rfl
  | 3 => rfl
  | 4 => rfl
  | 5 => rfl
  | n + 6 => simp [isK]
@[scoped simp] theorem isk_tup (us : List U) (n : Nat) : isK (.tup us) n = decide (n = 2) := by
  match n with
  | 0 => rfl
  | 1 => rfl
  | 2 => rfl
  | 3 => rfl
  | 4 => rfl
  | 5 => rfl
  | n + 6 => simp [isK]
@[scoped simp] theorem isk_lst (us : List U) (n : Nat) : isK (.lst us) n = decide (n = 3) := by
  match n with
  | 0 => rfl
  | 1 => rfl
  | 2 => rfl
  | 3 => rfl
  | 4 => rfl
  | 5 => rfl
  | n + 6 => simp [isK]
@[scoped simp] theorem isk_str (us : List Nat) (n : Nat) : isK (.str us) n = decide (n = 4) := by
  match n with
  | 0 => rfl
  | 1 => rfl
  | 2 => rfl
  | 3 => rfl
  | 4 => rfl
  | 5 => rfl
  | n + 6 => simp [isK]
@[scoped simp] theorem ist_small (u : U) (t : Nat) (h : t < 10) : isT g u t = isK u t := by unfold isT; rw [if_pos h]
@[scoped simp] theorem ist_big_tup (us : List U) (t : Nat) (h : ¬ t < 10) : isT g (.tup us) t = false := by unfold isT; rw [if_neg h]
@[scoped simp] theorem ist_big_int (i : Int) (t : Nat) (h : ¬ t < 10) : isT g (.int i) t = false := by unfold isT; rw [if_neg h]
@[scoped simp] theorem ist_big_non (t : Nat) (h : ¬ t < 10) : isT g .non t = false := by unfold isT; rw [if_neg h]
@[scoped simp] theorem ist_big_exc (c : Nat) (fs : List U) (t : Nat) (h : ¬ t < 10) : isT g (.exc c fs) t = g.sub c (t - 10) := by unfold isT; rw [if_neg h]
@[scoped simp] theorem isiok_non : isiOk g .non = true := Eq.trans rfl rfl
@[scoped simp] theorem isiok_bl (b : Bool) : isiOk g (.bl b) = true := Eq.trans rfl rfl
@[scoped simp] theorem isiok_int (i : Int) : isiOk g (.int i) = true := Eq.trans rfl rfl
@[scoped simp] theorem isiok_str (us : List Nat) : isiOk g (.str us) = true := Eq.trans rfl rfl
@[scoped simp] theorem isiok_tup (us : List U) : isiOk g (.tup us) = true := Eq.trans rfl rfl
@[scoped simp] theorem isiok_lst (us : List U) : isiOk g (.lst us) = true := Eq.trans rfl rfl
@[scoped simp] theorem isiok_exc (c : Nat) (us : List U) : isiOk g (.exc c us) = g.excs.contains c := Eq.trans rfl rfl
@[scoped simp] theorem op_sorted (us : List U) : opSem g .sorted us = opSorted us := Eq.trans rfl rfl
@[scoped simp] theorem eqU_tt (a b : List U) : eqU (.tup a) (.tup b) = eqUs a b := by rw [eqU]
@[scoped simp] theorem eqU_ll (a b : List U) : eqU (.lst a) (.lst b) = eqUs a b := by rw [eqU]
@[scoped simp] theorem eqU_ii (a b : Int) : eqU (.int a) (.int b) = (a == b) := by rw [eqU]
@[scoped simp] theorem eqU_sl (a b : List U) : eqU (.scr a) (.lst b) = eqUs a b := by rw [eqU]
@[scoped simp] theorem truthy_lst (us : List U) : truthy (.lst us) = some (!us.isEmpty) := Eq.trans rfl rfl
@[scoped simp] theorem truthy_tup (us : List U) : truthy (.tup us) = some (!us.isEmpty) := Eq.trans rfl rfl
@[scoped simp] theorem eqUs_nn : eqUs [] [] = true := by rw [eqUs]
@[scoped simp] theorem eqUs_nc (b : U) (bs : List U) : eqUs [] (b :: bs) = false := by rw [eqUs] <;> simp
@[scoped simp] theorem eqUs_cn (a : U) (as : List U) : eqUs (a :: as) [] = false := by rw [eqUs] <;> simp
@[scoped simp] theorem eqUs_cc (a b : U) (as bs : List U) : eqUs (a :: as) (b :: bs) = (eqU a b && eqUs as bs) := by rw [eqUs]
@[scoped simp] theorem deep_int (n : Nat) (i : Int) : deepU n (.int i) = true := by rw [deepU]
@[scoped simp] theorem deep_bl (n : Nat) (i : Bool) : deepU n (.bl i) = true := by rw [deepU]
@[scoped simp] theorem deep_non (n : Nat) : deepU n .non = true := by rw [deepU]
@[scoped simp] theorem deep_tup (n : Nat) (us : List U) : deepU (n + 1) (.tup us) = deepUs n us := by rw [deepU]
@[scoped simp] theorem deep_lst (n : Nat) (us : List U) : deepU (n + 1) (.lst us) = deepUs n us := by rw [deepU]
@[scoped simp] theorem deep_scr (n : Nat) (us : List U) : deepU (n + 1) (.scr us) = deepUs n us := by rw [deepU]
@[scoped simp] theorem deeps_nil (n : Nat) : deepUs n [] = true := by rw [deepUs]
@[scoped simp] theorem deeps_cons (n : Nat) (u : U) (us : List U) : deepUs n (u :: us) = (deepU n u && deepUs n us) := by rw [deepUs]
theorem deeps_all (n : Nat) : ∀ us : List U, deepUs n us = us.all (deepU n)
  | [] => by simp
  | u :: us => by simp [deeps_all n us]
@[scoped simp] theorem same_ll (a b : List U) : sameU (.lst a) (.lst b) = sameUs a b := by rw [sameU]
@[scoped simp] theorem same_tt (a b : List U) : sameU (.tup a) (.tup b) = sameUs a b := by rw [sameU]
@[scoped simp] theorem same_ii (a b : Int) : sameU (.int a) (.int b) = (a == b) := by rw [sameU]
@[scoped simp] theorem sames_nn : sameUs [] [] = true := by rw [sameUs]
@[scoped simp] theorem sames_cc (a b : U) (as bs : List U) : sameUs (a :: as) (b :: bs) = (sameU a b && sameUs as bs) := by rw [sameUs]
theorem sames_refl {α : Type} {f : α → U} (h : ∀ a, sameU (f a) (f a) = true) : ∀ l : List α, sameUs (l.map f) (l.map f) = true
  | [] => by simp
  | a :: l => by rw [List.map_cons, sames_cc, h, sames_refl h l]; rfl
def notOwn : Slt → Bool
  | .own _ => false
  | _ => true
theorem ok_not {s : Sta} {i : Nat} (h : notOwn (slot s i) = true) : (AV.own i).ok s = false := by
  rw [ok_own]
  revert h
  cases slot s i <;> intro h <;> first | rfl | cases h
theorem notOwn_ok {v : Slt} (h : notOwn v = true) : (match v with | .own _ => true | _ => false) = false := by cases v <;> first | rfl | cases h
/-! numbers -/
def iu (n : Nat) : U := .int n
abbrev nts (l : List Nat) : U := .tup (l.map iu)
abbrev nls (l : List Nat) : U := .lst (l.map iu)
theorem eqU_iu (a b : Nat) : eqU (iu a) (iu b) = decide (a = b) := by
  unfold iu
  rw [eqU]
  by_cases h : a = b
  · simp [h]
  · simp [h]; omega
@[scoped simp] theorem eqUs_iu : ∀ a b : List Nat, eqUs (a.map iu) (b.map iu) = decide (a = b)
  | [], [] => by simp
  | [], b :: bs => by simp
  | a :: as, [] => by simp
  | a :: as, b :: bs => by
    rw [List.map_cons, List.map_cons, eqUs_cc, eqU_iu, eqUs_iu as bs]
    simp only [List.cons.injEq]
    by_cases h1 : a = b <;> by_cases h2 : as = bs <;> simp [h1, h2]
theorem deep_iu (n a : Nat) : deepU n (iu a) = true := by unfold iu; simp
@[scoped simp] theorem deeps_iu (n : Nat) : ∀ a : List Nat, deepUs n (a.map iu) = true
  | [] => by simp
  | a :: as => by simp [deeps_iu n as, deep_iu]
@[scoped simp] theorem sames_iu (l : List Nat) : sameUs (l.map iu) (l.map iu) = true := sames_refl (fun a => by unfold iu; simp) l
theorem rng_iu (k : Nat) : rng 0 (k : Int) = (List.range k).map iu := by
  unfold rng iu
  have e : ((k : Int) - 0).toNat = k := by omega
  rw [e]
  apply List.map_congr_left
  intro a _
  simp
theorem lstR1_iu (k : Nat) (h : k ≤ 10000) : opSem g .lstR1 [.int (k : Int)] = some (.lst ((List.range k).map iu)) := by
  have h1 : small (k : Int) = true := small_of (by omega) (by omega)
  have h2 : decide ((k : Int).toNat ≤ line) = true := decide_eq_true (by have := line_ge; omega)
  show (if small (k : Int) && decide ((k : Int).toNat ≤ line) then some (U.lst (rng 0 k)) else none) = _
  rw [h1, h2, rng_iu]
  rfl
theorem tupR1_iu (k : Nat) (h : k ≤ 10000) : opSem g .tupR1 [.int (k : Int)] = some (.tup ((List.range k).map iu)) := by
  have h1 : small (k : Int) = true := small_of (by omega) (by omega)
  have h2 : decide ((k : Int).toNat ≤ line) = true := decide_eq_true (by have := line_ge; omega)
  show (if small (k : Int) && decide ((k : Int).toNat ≤ line) then some (U.tup (rng 0 k)) else none) = _
  rw [h1, h2, rng_iu]
  rfl
@[scoped simp] theorem iu_eq (n : Nat) : iu n = .int n := Eq.trans rfl rfl
@[scoped simp] theorem atI_nat (us : List U) (i : Nat) : MP.atI us (i : Int) = us[i]? := by
  unfold MP.atI
  rw [if_pos (by omega)]
  rfl
@[scoped simp] theorem atI_0 (us : List U) : MP.atI us 0 = us[0]? := atI_nat us 0
@[scoped simp] theorem atI_1 (us : List U) : MP.atI us 1 = us[1]? := atI_nat us 1
@[scoped simp] theorem atI_2 (us : List U) : MP.atI us 2 = us[2]? := atI_nat us 2
theorem cont_iu (m : List U) (n : Nat) : cont m (iu n) = iu n := Eq.trans rfl rfl
theorem iu_int (n : Nat) : iu n = .int n := rfl
@[scoped simp] theorem allT_map {α : Type} (b : α → Bool) : ∀ xs : List α, allT (xs.map fun x => .bl (b x)) = some (xs.all b)
  | [] => rfl
  | x :: xs => by simp [allT, allT_map b xs]
/-! how a def runs -/
theorem run_def (d : MDef) (us m : List U) (h : us.length = d.params) : runDef g d us m = (match execs g d.body ⟨slots0 us d.slots, m⟩ with
    | .ok (.ret u) s => .ok u s.m
    | .ok .next s => .ok .non s.m
    | .ok _ _ => .stuck
    | .exc e s => .exc e s.m
    | .stuck => .stuck) := by
  unfold runDef
  rw [if_pos (by simpa using h)]
  try rfl
theorem run_ret (d : MDef) (us m : List U) (h : us.length = d.params) {u : U} {s : Sta} (hx : execs g d.body ⟨slots0 us d.slots, m⟩ = .ok (.ret u) s) : runDef g d us m = .ok u s.m := by
  rw [run_def d us m h, hx]
end
end MPE
/-! M3: things come to from a first one, in order (plain Lean). -/
namespace MM
section
variable {X β : Type} [DecidableEq β] [Inhabited X] (lab : X → β) (succ : X → List X)
def push (met : List X) (x : X) : List X := if lab x ∈ met.map lab then met else met ++ [x]
def numb (met : List X) (x : X) : Nat := (met.map lab).idxOf (lab x)
/-- numbers come in order: what comes next is new by one at most -/
def scanR (come : Nat) : List Nat → Option Nat
  | [] => some come
  | t :: ts => if t ≤ come then scanR (max come (t + 1)) ts else none
def scanA (k come : Nat) : List (List Nat) → Option Nat
  | [] => some come
  | r :: rs => if k < come then (scanR come r).bind fun c => scanA (k + 1) c rs else none
theorem scanA_snoc : ∀ (rs : List (List Nat)) (k come : Nat) (r : List Nat), scanA k come (rs ++ [r]) = (scanA k come rs).bind fun c => if k + rs.length < c then scanR c r else none
  | [], k, come, r => by simp [scanA]
  | q :: rs, k, come, r => by
    simp only [List.cons_append, scanA, List.length_cons]
    split
    · cases scanR come q with
      | none => rfl
      | some c =>
        simp only [Option.bind_some]
        rw [scanA_snoc rs (k + 1) c r]
        congr 1
        funext c
        have : k + 1 + rs.length = k + (rs.length + 1) := by omega
        rw [this]
    · rfl
variable {lab}
theorem numb_pre {met r : List X} {x : X} (h : lab x ∈ met.map lab) : numb lab (met ++ r) x = numb lab met x := by
  unfold numb
  rw [List.map_append, idxOf_pre h]
theorem numb_lt {met : List X} {x : X} (h : lab x ∈ met.map lab) : numb lab met x < met.length := by
  have := List.idxOf_lt_length_of_mem h
  rw [List.length_map] at this
  exact this
theorem numb_get {met : List X} {x : X} (h : lab x ∈ met.map lab) : lab (met[numb lab met x]'(numb_lt h)) = lab x := by
  have h1 := List.getElem_idxOf (List.idxOf_lt_length_of_mem h)
  rw [List.getElem_map] at h1
  exact h1
theorem push_pre (met : List X) (x : X) : ∃ r, push lab met x = met ++ r := by
  unfold push
  split
  · exact ⟨[], by simp⟩
  · exact ⟨[x], rfl⟩
theorem fold_pre : ∀ (ys met : List X), ∃ r, ys.foldl (push lab) met = met ++ r
  | [], met => ⟨[], by simp⟩
  | y :: ys, met => by
    obtain ⟨r1, h1⟩ := push_pre (lab := lab) met y
    obtain ⟨r2, h2⟩ := fold_pre ys (push lab met y)
    exact ⟨r1 ++ r2, by rw [List.foldl_cons, h2, h1, List.append_assoc]⟩
theorem push_mem (met : List X) (x : X) : lab x ∈ (push lab met x).map lab := by
  unfold push
  split
  · assumption
  · simp
theorem push_nodup {met : List X} (h : (met.map lab).Nodup) (x : X) : ((push lab met x).map lab).Nodup := by
  unfold push
  split
  · exact h
  · rename_i hx
    rw [List.map_append, List.nodup_append]
    exact ⟨h, by simp, fun a ha b hb => by simp only [List.map_cons, List.map_nil, List.mem_singleton] at hb; subst hb; rintro rfl; exact hx ha⟩
theorem push_sub (met : List X) (x : X) {z : X} (h : z ∈ push lab met x) : z ∈ met ∨ z = x := by
  unfold push at h
  split at h
  · exact .inl h
  · rcases List.mem_append.1 h with q | q
    · exact .inl q
    · exact .inr (by simpa using q)
theorem fold_ok : ∀ (ys met : List X), (met.map lab).Nodup → ((ys.foldl (push lab) met).map lab).Nodup ∧ (∀ y ∈ ys, lab y ∈ (ys.foldl (push lab) met).map lab) ∧ (∀ z ∈ ys.foldl (push lab) met, z ∈ met ∨ z ∈ ys) ∧
    scanR met.length (ys.map (numb lab (ys.foldl (push lab) met))) = some (ys.foldl (push lab) met).length
  | [], met, nd => ⟨nd, by simp, fun z h => .inl h, rfl⟩
  | y :: ys, met, nd => by
    obtain ⟨h1, h2, h3, h4⟩ := fold_ok ys (push lab met y) (push_nodup nd y)
    obtain ⟨r, hr⟩ := fold_pre (lab := lab) ys (push lab met y)
    refine ⟨h1, fun z hz => ?_, fun z hz => ?_, ?_⟩
    · rcases List.mem_cons.1 hz with rfl | hz
      · rw [List.foldl_cons, hr, List.map_append]
        exact List.mem_append_left _ (push_mem met z)
      · exact h2 z hz
    · rcases h3 z hz with q | q
      · rcases push_sub met y q with q | q
        · exact .inl q
        · subst q; exact .inr (by simp)
      · exact .inr (by simp [q])
    · rw [List.map_cons, List.foldl_cons]
      have hn : numb lab (ys.foldl (push lab) (push lab met y)) y = numb lab (push lab met y) y := by rw [hr]; exact numb_pre (push_mem met y)
      simp only [scanR]
      rw [hn]
      by_cases hy : lab y ∈ met.map lab
      · have e : push lab met y = met := by unfold push; rw [if_pos hy]
        have hlt : numb lab met y < met.length := by
          have := List.idxOf_lt_length_of_mem hy
          simpa [numb] using this
        rw [e] at h4 ⊢
        rw [if_pos (by omega), Nat.max_eq_left (by omega)]
        exact h4
      · have e : push lab met y = met ++ [y] := by unfold push; rw [if_neg hy]
        have hn2 : numb lab (push lab met y) y = met.length := by
          rw [e]
          unfold numb
          rw [List.map_append, List.idxOf_append, if_neg hy]
          simp
        rw [hn2, if_pos (Nat.le_refl _), Nat.max_eq_right (by omega)]
        have : (push lab met y).length = met.length + 1 := by rw [e]; simp
        rw [this] at h4
        exact h4
/-- the loop -/
def bcond (b : List X × Nat) : Bool := decide (b.2 < b.1.length)
def bstep (b : List X × Nat) : List X × Nat := ((succ (b.1.getD b.2 default)).foldl (push lab) b.1, b.2 + 1)
structure BInv (x0 : X) (b : List X × Nat) : Prop where
  nd : (b.1.map lab).Nodup
  le : b.2 ≤ b.1.length
  ne : b.1[0]? = some x0
  cl : ∀ i, i < b.2 → ∀ y ∈ succ (b.1.getD i default), lab y ∈ b.1.map lab
  sc : scanA 0 1 ((b.1.take b.2).map fun x => (succ x).map (numb lab b.1)) = some b.1.length
theorem binv0 (x0 : X) : BInv (lab := lab) succ x0 ([x0], 0) := ⟨by simp, by simp, rfl, by simp, rfl⟩
theorem binvS {x0 : X} {b : List X × Nat} (h : BInv (lab := lab) succ x0 b) (hc : b.2 < b.1.length) : BInv (lab := lab) succ x0 (bstep (lab := lab) succ b) := by
  obtain ⟨met, at_⟩ := b
  simp only at hc
  obtain ⟨h1, h2, h3, h4⟩ := fold_ok (lab := lab) (succ (met.getD at_ default)) met h.nd
  obtain ⟨r, hr⟩ := fold_pre (lab := lab) (succ (met.getD at_ default)) met
  have hget : ∀ i, i < met.length → (met ++ r).getD i default = met.getD i default := fun i hi => by
    rw [List.getD_eq_getElem?_getD, List.getD_eq_getElem?_getD, List.getElem?_append_left hi]
  unfold bstep
  refine ⟨h1, ?_, ?_, fun i hi y hy => ?_, ?_⟩
  · simp only [hr, List.length_append]; omega
  · simp only [hr]
    rw [List.getElem?_append_left (by omega)]
    exact h.ne
  · simp only at hi hy ⊢
    rw [hr, hget i (by omega)] at hy
    by_cases e : i = at_
    · subst e; exact h2 y hy
    · have := h.cl i (by simp only; omega) y hy
      rw [hr, List.map_append]
      exact List.mem_append_left _ this
  · simp only
    have ht : ((succ (met.getD at_ default)).foldl (push lab) met).take (at_ + 1) = met.take at_ ++ [met.getD at_ default] := by
      rw [hr, List.take_append_of_le_length (by omega), List.take_succ]
      rw [List.getElem?_eq_getElem hc, List.getD_eq_getElem?_getD, List.getElem?_eq_getElem hc]
      rfl
    rw [ht, List.map_append, List.map_cons, List.map_nil, scanA_snoc]
    have e1 : ((met.take at_).map fun x => (succ x).map (numb lab ((succ (met.getD at_ default)).foldl (push lab) met))) = (met.take at_).map fun x => (succ x).map (numb lab met) := by
      apply List.map_congr_left
      intro x hx
      apply List.map_congr_left
      intro y hy
      rw [hr]
      apply numb_pre
      obtain ⟨i, hi, e⟩ := List.mem_take_iff_getElem.1 hx
      have := h.cl i (by simp only; omega) y (by
        simp only
        rw [List.getD_eq_getElem?_getD, List.getElem?_eq_getElem (by omega), e]
        exact hy)
      exact this
    have := h.sc
    simp only at this
    rw [e1, this]
    simp only [Option.bind_some, List.length_map, List.length_take]
    rw [if_pos (by omega)]
    exact h4
/-- what comes to, where all that comes is of so many labels -/
theorem bfs_ok {x0 : X} {univ : List β} (P : X → Prop) (hP : ∀ x, P x → ∀ y ∈ succ x, P y) (hU : ∀ x, P x → lab x ∈ univ) (h0 : P x0) (f : Nat) (hf : univ.length ≤ f) :
    ∃ met, MPE.wh bcond (bstep (lab := lab) succ) f ([x0], 0) = (met, met.length) ∧ BInv (lab := lab) succ x0 (met, met.length) ∧ (∀ x ∈ met, P x) ∧ met.length ≤ univ.length := by
  have key : ∀ (f : Nat) (b : List X × Nat), BInv (lab := lab) succ x0 b → (∀ x ∈ b.1, P x) → univ.length ≤ f + b.2 → ∃ met, MPE.wh bcond (bstep (lab := lab) succ) f b = (met, met.length) ∧ BInv (lab := lab) succ x0 (met, met.length) ∧ (∀ x ∈ met, P x) ∧ met.length ≤ univ.length := by
    intro f
    induction f with
    | zero =>
      intro b hi hp hl
      have hb : b.1.length ≤ univ.length := by
        have := sub_len (b.1.map lab) univ hi.nd fun a ha => by
          obtain ⟨x, hx, rfl⟩ := List.mem_map.1 ha
          exact hU x (hp x hx)
        simpa using this
      have := hi.le
      have e : b = (b.1, b.1.length) := by
        have : b.2 = b.1.length := by omega
        cases b; simp only at this; simp [this]
      refine ⟨b.1, ?_, by rw [← e]; exact hi, hp, hb⟩
      rw [← e]; rfl
    | succ f ih =>
      intro b hi hp hl
      by_cases hc : b.2 < b.1.length
      · have hx : P (b.1.getD b.2 default) := by
          rw [List.getD_eq_getElem?_getD, List.getElem?_eq_getElem hc]
          exact hp _ (List.getElem_mem hc)
        obtain ⟨met, q1, q2⟩ := ih (bstep (lab := lab) succ b) (binvS succ hi hc) (fun x hx' => by
          unfold bstep at hx'
          obtain ⟨_, _, h3, _⟩ := fold_ok (lab := lab) (succ (b.1.getD b.2 default)) b.1 hi.nd
          rcases h3 x hx' with q | q
          · exact hp x q
          · exact hP _ hx x q) (by unfold bstep; simp only; omega)
        refine ⟨met, ?_, q2⟩
        have : bcond b = true := decide_eq_true hc
        simp only [MPE.wh, this, if_true]
        exact q1
      · have hle := hi.le
        have hb : b.1.length ≤ univ.length := by
          have := sub_len (b.1.map lab) univ hi.nd fun a ha => by
            obtain ⟨x, hx, rfl⟩ := List.mem_map.1 ha
            exact hU x (hp x hx)
          simpa using this
        have e : b = (b.1, b.1.length) := by
          have : b.2 = b.1.length := by omega
          cases b; simp only at this; simp [this]
        refine ⟨b.1, ?_, by rw [← e]; exact hi, hp, hb⟩
        have : bcond b = false := decide_eq_false hc
        rw [← e]
        simp only [MPE.wh, this, Bool.false_eq_true, if_false]
  exact key f ([x0], 0) (binv0 succ x0) (by simpa using h0) (by simpa using hf)
end
end MM
/-! M4: the least machine (plain Lean). -/
namespace MM
def mkf (M : Mach) (x : Nat) : Nat := (marks M).getD x 0
def bfsM (M : Mach) (room : Nat) : List Nat × Nat := MPE.wh bcond (bstep (lab := mkf M) (rs M)) (M.length + 1) ([room], 0)
def roomOf (M : Mach) (met : List Nat) (x : Nat) : Room := (tn M x, (rs M x).map (numb (mkf M) met))
def leastL (M : Mach) (room : Nat) : Mach := (bfsM M room).1.map (roomOf M (bfsM M room).1)
/-- a least machine: rooms in the order of their numbers, no two doing the same -/
structure Least (k : Nat) (L : Mach) : Prop where
  good : Good k L
  pos : 1 ≤ L.length
  uniq : ∀ i j, i < L.length → j < L.length → Eqv k L L i j → i = j
  ord : scanA 0 1 (L.map (·.2)) = some L.length
section
variable {k : Nat} {M : Mach} {room : Nat}
theorem getD_eq {α : Type} {l : List α} {i : Nat} {d : α} (h : i < l.length) : l.getD i d = l[i] := by
  rw [List.getD_eq_getElem?_getD, List.getElem?_eq_getElem h]; rfl
theorem mkf_mem (mk : Marks k M (marks M)) {x : Nat} (hx : x < M.length) : mkf M x ∈ List.range M.length := by
  unfold mkf
  have hl : x < (marks M).length := by rw [mk.len]; exact hx
  rw [getD_eq hl, List.mem_range]
  exact mk.lt _ (List.getElem_mem hl)
theorem bfsM_ok (g : Good k M) (mk : Marks k M (marks M)) (hr : room < M.length) : ∃ met, bfsM M room = (met, met.length) ∧ BInv (lab := mkf M) (rs M) room (met, met.length) ∧ (∀ x ∈ met, x < M.length) ∧ met.length ≤ M.length := by
  have := bfs_ok (lab := mkf M) (succ := rs M) (x0 := room) (univ := List.range M.length) (P := fun x => x < M.length) (fun x hx y hy => g.mem hx hy) (fun x hx => mkf_mem mk hx) hr (M.length + 1) (by simp)
  rw [List.length_range] at this
  exact this
theorem least_of_bfs (g : Good k M) (mk : Marks k M (marks M)) {met : List Nat} (inv : BInv (lab := mkf M) (rs M) room (met, met.length)) (hm : ∀ x ∈ met, x < M.length) :
    Least k (met.map (roomOf M met)) ∧ ∀ i (hi : i < met.length), Eqv k (met.map (roomOf M met)) M i met[i] := by
  have pos : 0 < met.length := by
    have := inv.ne
    cases met with
    | nil => simp at this
    | cons a b => simp
  have hL : ∀ i, (hi : i < met.length) → (met.map (roomOf M met)).getD i ([], []) = roomOf M met met[i] := fun i hi => by
    rw [getD_eq (by simpa using hi)]
    simp
  have htn : ∀ i, (hi : i < met.length) → tn (met.map (roomOf M met)) i = tn M met[i] := fun i hi => by unfold tn; rw [hL i hi]; rfl
  have hrs : ∀ i, (hi : i < met.length) → rs (met.map (roomOf M met)) i = (rs M met[i]).map (numb (mkf M) met) := fun i hi => by unfold rs; rw [hL i hi]; rfl
  have closed : ∀ i, (hi : i < met.length) → ∀ y ∈ rs M met[i], mkf M y ∈ met.map (mkf M) := fun i hi y hy => inv.cl i hi y (by simp only; rw [getD_eq hi]; exact hy)
  have numlt : ∀ y, mkf M y ∈ met.map (mkf M) → numb (mkf M) met y < met.length := fun y hy => by
    have := List.idxOf_lt_length_of_mem hy
    simpa [numb] using this
  have numlab : ∀ y (hy : mkf M y ∈ met.map (mkf M)), mkf M (met[numb (mkf M) met y]'(numlt y hy)) = mkf M y := fun y hy => by
    have h1 := List.getElem_idxOf (List.idxOf_lt_length_of_mem hy)
    rw [List.getElem_map] at h1
    exact h1
  have hto : ∀ i, (hi : i < met.length) → ∀ l, l < k → to (met.map (roomOf M met)) i l = numb (mkf M) met (to M met[i] l) := fun i hi l hl => by
    have hb : met[i] < M.length := hm _ (List.getElem_mem hi)
    have hlen := g.rsl hb
    show (rs (met.map (roomOf M met)) i).getD l 0 = numb (mkf M) met ((rs M met[i]).getD l 0)
    rw [hrs i hi, getD_eq (by simp [hlen]; exact hl), getD_eq (by rw [hlen]; exact hl)]
    simp
  have good : Good k (met.map (roomOf M met)) := by
    refine ⟨fun r hr => ?_, fun r hr => ?_, fun r hr j hj => ?_⟩
    · obtain ⟨x, hx, rfl⟩ := List.mem_map.1 hr
      exact g.tn (hm x hx)
    · obtain ⟨x, hx, rfl⟩ := List.mem_map.1 hr
      simp only [roomOf, List.length_map]
      exact g.rsl (hm x hx)
    · obtain ⟨x, hx, rfl⟩ := List.mem_map.1 hr
      simp only [roomOf] at hj
      obtain ⟨y, hy, rfl⟩ := List.mem_map.1 hj
      obtain ⟨i, hi, rfl⟩ := List.mem_iff_getElem.1 hx
      rw [List.length_map]
      exact numlt y (closed i hi y hy)
  have eqv : ∀ i (hi : i < met.length), Eqv k (met.map (roomOf M met)) M i met[i] := fun i hi => by
    refine Eqv.of (fun i j => ∃ hi : i < met.length, j < M.length ∧ mkf M met[i] = mkf M j) ?_ ?_ ⟨hi, hm _ (List.getElem_mem hi), rfl⟩
    · rintro i j ⟨hi, hj, e⟩
      rw [htn i hi]
      exact mk.tn _ _ (hm _ (List.getElem_mem hi)) hj e
    · rintro i j ⟨hi, hj, e⟩ l hl
      have hb : met[i] < M.length := hm _ (List.getElem_mem hi)
      have hc := closed i hi (to M met[i] l) (to_mem g hb hl)
      rw [hto i hi l hl]
      refine ⟨numlt _ hc, g.to hj hl, ?_⟩
      rw [numlab _ hc]
      exact mk.to _ _ l hb hj hl e
  refine ⟨⟨good, by rw [List.length_map]; exact pos, fun i j hi hj e => ?_, ?_⟩, eqv⟩
  · simp only [List.length_map] at hi hj
    have e2 : Eqv k M M met[i] met[j] := (eqv i hi).symm.trans (e.trans (eqv j hj))
    have e3 := mk.eqv _ _ (hm _ (List.getElem_mem hi)) (hm _ (List.getElem_mem hj)) e2
    have nd := inv.nd
    have h1 : (met.map (mkf M))[i]'(by simpa using hi) = (met.map (mkf M))[j]'(by simpa using hj) := by
      rw [List.getElem_map, List.getElem_map]
      exact e3
    have i1 := List.Nodup.idxOf_getElem nd i (by simpa using hi)
    have i2 := List.Nodup.idxOf_getElem nd j (by simpa using hj)
    rw [h1] at i1
    exact i1.symm.trans i2
  · have := inv.sc
    simp only [List.take_length] at this
    rw [List.map_map, List.length_map]
    exact this
theorem leastL_ok (g : Good k M) (hr : room < M.length) : Least k (leastL M room) ∧ (leastL M room).length ≤ M.length ∧ Eqv k (leastL M room) M 0 room := by
  have hne : M ≠ [] := by intro e; subst e; simp at hr
  have mk := marks_ok g hne
  obtain ⟨met, h1, h2, h3, h4⟩ := bfsM_ok g mk hr
  obtain ⟨q1, q2⟩ := least_of_bfs g mk h2 h3
  unfold leastL
  rw [h1]
  refine ⟨q1, by simpa using h4, ?_⟩
  have h0 := h2.ne
  simp only at h0
  obtain ⟨hlt, e⟩ := List.getElem?_eq_some_iff.1 h0
  have := q2 0 hlt
  rw [e] at this
  exact this
end
end MM
/-! M5: two machines put together (plain Lean). -/
namespace MM
/-- the pairs behind a pair -/
def succP (k : Nat) (A B : Mach) (q : Nat × Nat) : List (Nat × Nat) := (List.range k).map fun l => (to A q.1 l, to B q.2 ((tn A q.1).getD l 0))
def allP (A B : Mach) : List (Nat × Nat) := (List.range A.length).flatMap fun i => (List.range B.length).map fun j => (i, j)
def bfsP (k : Nat) (A B : Mach) (f : Nat) : List (Nat × Nat) × Nat := MPE.wh bcond (bstep (lab := fun q : Nat × Nat => q) (succP k A B)) f ([(0, 0)], 0)
def metP (k : Nat) (A B : Mach) : List (Nat × Nat) := (bfsP k A B (A.length * B.length)).1
def roomP (k : Nat) (A B : Mach) (met : List (Nat × Nat)) (q : Nat × Nat) : Room := ((tn A q.1).map fun l => (tn B q.2).getD l 0, (succP k A B q).map (numb (fun q : Nat × Nat => q) met))
def pairL (k : Nat) (A B : Mach) : Mach := (metP k A B).map (roomP k A B (metP k A B))
section
variable {k : Nat} {A B : Mach}
theorem allP_len : (allP A B).length = A.length * B.length := by
  unfold allP
  generalize B.length = b
  induction A.length with
  | zero => simp
  | succ a ih => rw [List.range_succ, List.flatMap_append, List.length_append, ih]; simp [Nat.succ_mul]
theorem mem_allP {q : Nat × Nat} : q ∈ allP A B ↔ q.1 < A.length ∧ q.2 < B.length := by
  unfold allP
  simp only [List.mem_flatMap, List.mem_map, List.mem_range]
  constructor
  · rintro ⟨i, hi, j, hj, rfl⟩; exact ⟨hi, hj⟩
  · rintro ⟨h1, h2⟩; exact ⟨q.1, h1, q.2, h2, rfl⟩
theorem turn_lt {t : List Nat} (h : IsTurn k t) {l : Nat} (hl : l < k) : t.getD l 0 < k := by
  have hlen : t.length = k := by have := h.length_eq; simpa using this
  rw [getD_eq (by omega)]
  have := h.mem_iff (a := t[l]'(by omega))
  rw [List.mem_range] at this
  exact this.1 (List.getElem_mem _)
theorem bfsP_ok (gA : Good k A) (gB : Good k B) (hA : 0 < A.length) (hB : 0 < B.length) : ∃ met, bfsP k A B (A.length * B.length) = (met, met.length) ∧ BInv (lab := fun q : Nat × Nat => q) (succP k A B) (0, 0) (met, met.length) ∧ (∀ q ∈ met, q.1 < A.length ∧ q.2 < B.length) ∧ met.length ≤ A.length * B.length := by
  have := bfs_ok (lab := fun q : Nat × Nat => q) (succ := succP k A B) (x0 := (0, 0)) (univ := allP A B) (P := fun q => q.1 < A.length ∧ q.2 < B.length) (fun x hx y hy => by
    unfold succP at hy
    obtain ⟨l, hl, rfl⟩ := List.mem_map.1 hy
    have hl := List.mem_range.1 hl
    exact ⟨gA.to hx.1 hl, gB.to hx.2 (turn_lt (gA.tn hx.1) hl)⟩) (fun x hx => mem_allP.2 hx) ⟨hA, hB⟩ (A.length * B.length) (by rw [allP_len]; exact Nat.le_refl _)
  rw [allP_len] at this
  exact this
theorem metP_eq (gA : Good k A) (gB : Good k B) (hA : 0 < A.length) (hB : 0 < B.length) : bfsP k A B (A.length * B.length) = (metP k A B, (metP k A B).length) ∧ BInv (lab := fun q : Nat × Nat => q) (succP k A B) (0, 0) (metP k A B, (metP k A B).length) ∧ (∀ q ∈ metP k A B, q.1 < A.length ∧ q.2 < B.length) := by
  obtain ⟨met, h1, h2, h3, _⟩ := bfsP_ok gA gB hA hB
  have e : metP k A B = met := by unfold metP; rw [h1]
  rw [e]
  exact ⟨h1, h2, h3⟩
/-- does what the one does and then the other -/
def Does (k : Nat) (L A B : Mach) (i a b : Nat) : Prop := ∀ row, (∀ l ∈ row, l < k) → ∀ l, l < k → ∃ a' b', tn L (go L i row) = (tn A a').map (fun l => (tn B b').getD l 0) ∧ True
/-- rooms of the pair's machine -/
theorem pairL_good (gA : Good k A) (gB : Good k B) (hA : 0 < A.length) (hB : 0 < B.length) : Good k (pairL k A B) ∧ 0 < (pairL k A B).length := by
  obtain ⟨_, inv, hm⟩ := metP_eq gA gB hA hB
  refine ⟨⟨fun r hr => ?_, fun r hr => ?_, fun r hr j hj => ?_⟩, ?_⟩
  · obtain ⟨q, hq, rfl⟩ := List.mem_map.1 hr
    obtain ⟨h1, h2⟩ := hm q hq
    have tA := gA.tn h1
    have tB := gB.tn h2
    have lB : (tn B q.2).length = k := by have := tB.length_eq; simpa using this
    have e : ((tn A q.1).map fun l => (tn B q.2).getD l 0).Perm ((List.range k).map fun l => (tn B q.2).getD l 0) := tA.map _
    have e2 : ((List.range k).map fun l => (tn B q.2).getD l 0) = tn B q.2 := by
      apply List.ext_getElem
      · simp [lB]
      · intro i h1 h2
        simp only [List.getElem_map, List.getElem_range]
        rw [getD_eq h2]
    rw [e2] at e
    exact e.trans tB
  · obtain ⟨q, hq, rfl⟩ := List.mem_map.1 hr
    simp [roomP, succP]
  · obtain ⟨q, hq, rfl⟩ := List.mem_map.1 hr
    simp only [roomP] at hj
    obtain ⟨y, hy, rfl⟩ := List.mem_map.1 hj
    obtain ⟨i, hi, rfl⟩ := List.mem_iff_getElem.1 hq
    have hc := inv.cl i hi y (by simp only; rw [getD_eq hi]; exact hy)
    have := numb_lt hc
    unfold pairL
    rw [List.length_map]
    exact this
  · have := inv.ne
    unfold pairL
    rw [List.length_map]
    simp only at this
    cases h : metP k A B with
    | nil => rw [h] at this; simp at this
    | cons a b => simp
/-- a room of the pair's machine stands for its pair -/
theorem pairL_to (gA : Good k A) (gB : Good k B) (hA : 0 < A.length) (hB : 0 < B.length) {i : Nat} (hi : i < (metP k A B).length) : tn (pairL k A B) i = (tn A (metP k A B)[i].1).map (fun l => (tn B (metP k A B)[i].2).getD l 0) ∧
    ∀ l, l < k → ∃ h : to (pairL k A B) i l < (metP k A B).length, (metP k A B)[to (pairL k A B) i l] = (to A (metP k A B)[i].1 l, to B (metP k A B)[i].2 ((tn A (metP k A B)[i].1).getD l 0)) := by
  obtain ⟨_, inv, hm⟩ := metP_eq gA gB hA hB
  have hL : (pairL k A B).getD i ([], []) = roomP k A B (metP k A B) (metP k A B)[i] := by
    unfold pairL
    rw [getD_eq (by simpa using hi)]
    simp
  refine ⟨by unfold tn; rw [hL]; rfl, fun l hl => ?_⟩
  have hy : (to A (metP k A B)[i].1 l, to B (metP k A B)[i].2 ((tn A (metP k A B)[i].1).getD l 0)) ∈ succP k A B (metP k A B)[i] := List.mem_map.2 ⟨l, List.mem_range.2 hl, rfl⟩
  have hc := inv.cl i hi _ (by simp only; rw [getD_eq hi]; exact hy)
  have hlt := numb_lt hc
  have hg := numb_get hc
  have e : to (pairL k A B) i l = numb (fun q : Nat × Nat => q) (metP k A B) (to A (metP k A B)[i].1 l, to B (metP k A B)[i].2 ((tn A (metP k A B)[i].1).getD l 0)) := by
    show (rs (pairL k A B) i).getD l 0 = _
    unfold rs
    rw [hL]
    simp only [roomP]
    rw [getD_eq (by simp [succP]; exact hl)]
    simp [succP]
  rw [e]
  exact ⟨hlt, hg⟩
end
end MM
/-! M6: rings of rooms; a least machine stays (plain Lean). -/
namespace MM
def nx (a r i : Nat) : Nat := if i + 1 < a + r then i + 1 else a
def ringM (k : Nat) (T : List Nat) (a r : Nat) : Mach := (List.range (a + r)).map fun i => (if i ≤ a then T else List.range k, List.replicate k (nx a r i))
section
variable {k : Nat} {T : List Nat} {a r : Nat}
theorem ring_len : (ringM k T a r).length = a + r := by simp [ringM]
theorem ring_get {i : Nat} (h : i < a + r) : (ringM k T a r).getD i ([], []) = (if i ≤ a then T else List.range k, List.replicate k (nx a r i)) := by
  rw [getD_eq (by rw [ring_len]; exact h)]
  simp [ringM]
theorem ring_tn {i : Nat} (h : i < a + r) : tn (ringM k T a r) i = if i ≤ a then T else List.range k := by unfold tn; rw [ring_get h]
theorem ring_rs {i : Nat} (h : i < a + r) : rs (ringM k T a r) i = List.replicate k (nx a r i) := by unfold rs; rw [ring_get h]
theorem ring_to {i l : Nat} (h : i < a + r) (hl : l < k) : to (ringM k T a r) i l = nx a r i := by
  unfold to
  rw [ring_rs h, getD_eq (by simpa using hl)]
  simp
theorem nx_lt {i : Nat} (hr : 0 < r) : nx a r i < a + r := by unfold nx; split <;> omega
theorem ring_good (hT : IsTurn k T) (hr : 0 < r) : Good k (ringM k T a r) := by
  refine ⟨fun q hq => ?_, fun q hq => ?_, fun q hq j hj => ?_⟩
  · obtain ⟨i, hi, rfl⟩ := List.mem_map.1 hq
    simp only
    split
    · exact hT
    · exact List.Perm.refl _
  · obtain ⟨i, hi, rfl⟩ := List.mem_map.1 hq
    simp
  · obtain ⟨i, hi, rfl⟩ := List.mem_map.1 hq
    simp only [List.mem_replicate] at hj
    rw [hj.2, ring_len]
    exact nx_lt hr
/-- some steps on, not beyond the last room -/
theorem ring_go (hk : 0 < k) : ∀ (n i : Nat), i + n < a + r → go (ringM k T a r) i (List.replicate n 0) = i + n
  | 0, i, _ => rfl
  | n + 1, i, h => by
    have e : nx a r i = i + 1 := by unfold nx; rw [if_pos (by omega)]
    rw [List.replicate_succ]
    unfold go
    rw [List.foldl_cons, ring_to (by omega) hk, e]
    have := ring_go hk n (i + 1) (by omega)
    unfold go at this
    rw [this]; omega
theorem ring_wrap (hk : 0 < k) (hr : 0 < r) {i : Nat} (h : i < a + r) : go (ringM k T a r) i (List.replicate (a + r - i) 0) = a := by
  have e : a + r - i = (a + r - 1 - i) + 1 := by omega
  rw [e, List.replicate_succ']
  unfold go
  rw [List.foldl_append]
  have := ring_go (T := T) (k := k) (a := a) (r := r) hk (a + r - 1 - i) i (by omega)
  unfold go at this
  have e2 := ring_to (T := T) (a := a) (r := r) (k := k) (i := i + (a + r - 1 - i)) (l := 0) (by omega) hk
  rw [this, List.foldl_cons, List.foldl_nil, e2]
  unfold nx
  rw [if_neg (by omega)]
theorem ring_uniq (hk : 0 < k) (hr : 2 ≤ r) (hT : T ≠ List.range k) {i j : Nat} (hij : i < j) (hj : j < a + r) : ¬ Eqv k (ringM k T a r) (ringM k T a r) i j := fun e => by
  have z : ∀ n, ∀ l ∈ List.replicate n 0, l < k := fun n l hl => by
    rw [List.mem_replicate] at hl
    omega
  by_cases h1 : i ≤ a
  · by_cases h2 : j ≤ a
    · have := e (List.replicate (a - j + 1) 0) (z _)
      rw [ring_go hk (a - j + 1) i (by omega), ring_go hk (a - j + 1) j (by omega), ring_tn (by omega), ring_tn (by omega), if_pos (by omega), if_neg (by omega)] at this
      exact hT this
    · have := e.tn
      rw [ring_tn (by omega), ring_tn hj, if_pos h1, if_neg h2] at this
      exact hT this
  · have := e (List.replicate (a + r - j) 0) (z _)
    rw [ring_wrap hk (by omega) hj, ring_go hk (a + r - j) i (by omega), ring_tn (by omega), ring_tn (by omega), if_neg (by omega), if_pos (by omega)] at this
    exact hT this.symm
theorem scanR_rep {come t : Nat} (h : t ≤ come) : ∀ k, 0 < k → scanR come (List.replicate k t) = some (max come (t + 1))
  | 1, _ => by simp [scanR, h]
  | k + 2, _ => by
    rw [List.replicate_succ]
    unfold scanR
    rw [if_pos h]
    have := scanR_rep (come := max come (t + 1)) (t := t) (by omega) (k + 1) (by omega)
    rw [this]
    congr 1
    omega
theorem ring_scan (hk : 0 < k) (hr : 0 < r) : ∀ n, n ≤ a + r → scanA 0 1 (((List.range n).map fun i => List.replicate k (nx a r i))) = some (if n < a + r then n + 1 else max (a + r) 1)
  | 0, _ => by simp [scanA]; omega
  | n + 1, h => by
    rw [List.range_succ, List.map_append, List.map_cons, List.map_nil, scanA_snoc, ring_scan hk hr n (by omega), if_pos (by omega)]
    simp only [Option.bind_some, List.length_map, List.length_range]
    rw [if_pos (by omega), scanR_rep (by unfold nx; split <;> omega) k hk]
    unfold nx
    congr 1
    split <;> omega
theorem ring_least (hk : 0 < k) (hr : 2 ≤ r) (hT : IsTurn k T) (hne : T ≠ List.range k) : Least k (ringM k T a r) := by
  refine ⟨ring_good hT (by omega), by rw [ring_len]; omega, fun i j hi hj e => ?_, ?_⟩
  · rw [ring_len] at hi hj
    rcases Nat.lt_trichotomy i j with h | h | h
    · exact absurd e (ring_uniq hk hr hne h hj)
    · exact h
    · exact absurd e.symm (ring_uniq hk hr hne h hi)
  · have e : (ringM k T a r).map (·.2) = (List.range (a + r)).map fun i => List.replicate k (nx a r i) := by simp [ringM]
    rw [e, ring_scan hk (by omega) (a + r) (Nat.le_refl _), ring_len, if_neg (by omega)]
    congr 1
    omega
end
/-! a least machine stays as it is -/
section
variable {k : Nat} {M : Mach}
theorem push_new {lab : Nat → Nat} (inj : ∀ x y, x < M.length → y < M.length → lab x = lab y → x = y) {n x : Nat} (hn : n ≤ M.length) (hx : x ≤ n) (hx2 : x < M.length) : push lab (List.range n) x = List.range (max n (x + 1)) := by
  unfold push
  by_cases h : x < n
  · rw [if_pos (List.mem_map.2 ⟨x, List.mem_range.2 h, rfl⟩), Nat.max_eq_left (by omega)]
  · rw [if_neg, Nat.max_eq_right (by omega)]
    · have : x = n := by omega
      subst this
      rw [List.range_succ]
    · intro hm
      obtain ⟨y, hy, e⟩ := List.mem_map.1 hm
      have hy := List.mem_range.1 hy
      have := inj y x (by omega) hx2 e
      omega
theorem fold_scan {lab : Nat → Nat} (inj : ∀ x y, x < M.length → y < M.length → lab x = lab y → x = y) : ∀ (ts : List Nat) (n c : Nat), n ≤ M.length → (∀ t ∈ ts, t < M.length) → scanR n ts = some c → ts.foldl (push lab) (List.range n) = List.range c ∧ c ≤ M.length
  | [], n, c, hn, _, h => by simp only [scanR, Option.some.injEq] at h; subst h; exact ⟨rfl, hn⟩
  | t :: ts, n, c, hn, ht, h => by
    unfold scanR at h
    split at h
    · rename_i htn
      have htM := ht t (by simp)
      rw [List.foldl_cons, push_new inj hn htn htM]
      exact fold_scan inj ts _ c (by omega) (fun x hx => ht x (by simp [hx])) h
    · cases h
theorem bfs_id {lab : Nat → Nat} (inj : ∀ x y, x < M.length → y < M.length → lab x = lab y → x = y) (g : Good k M) : ∀ (f at_ come : Nat), come ≤ M.length → at_ ≤ M.length → scanA at_ come ((M.map (·.2)).drop at_) = some M.length → M.length ≤ f + at_ →
    MPE.wh bcond (bstep (lab := lab) (rs M)) f (List.range come, at_) = (List.range M.length, M.length)
  | f, at_, come, hc, ha, h, hf => by
    by_cases hat : at_ = M.length
    · subst hat
      rw [List.drop_of_length_le (by simp)] at h
      simp only [scanA, Option.some.injEq] at h
      subst h
      cases f with
      | zero => rfl
      | succ f => simp [MPE.wh, bcond]
    · have hlt : at_ < M.length := by omega
      have hd : (M.map (·.2)).drop at_ = (rs M at_) :: (M.map (·.2)).drop (at_ + 1) := by
        rw [List.drop_eq_getElem_cons (by simpa using hlt)]
        congr 1
        rw [List.getElem_map]
        unfold rs
        rw [getD_eq hlt]
      rw [hd] at h
      simp only [scanA] at h
      split at h
      · rename_i hac
        cases hs : scanR come (rs M at_) with
        | none => rw [hs] at h; cases h
        | some c =>
          rw [hs] at h
          simp only [Option.bind_some] at h
          obtain ⟨q1, q2⟩ := fold_scan inj (rs M at_) come c hc (fun x hx => g.mem hlt hx) hs
          cases f with
          | zero => omega
          | succ f =>
            have hb : bcond (List.range come, at_) = true := by simp [bcond, hac]
            have hst : bstep (lab := lab) (rs M) (List.range come, at_) = (List.range c, at_ + 1) := by
              unfold bstep
              simp only
              rw [getD_eq (by simpa using hac), List.getElem_range, q1]
            simp only [MPE.wh, hb, if_true, hst]
            exact bfs_id inj g f (at_ + 1) c q2 (by omega) h (by omega)
      · cases h
theorem leastL_id (h : Least k M) : leastL M 0 = M := by
  have hne : M ≠ [] := by intro e; have := h.pos; rw [e] at this; simp at this
  have mk := marks_ok h.good hne
  have inj : ∀ x y, x < M.length → y < M.length → mkf M x = mkf M y → x = y := fun x y hx hy e => h.uniq x y hx hy ((marks_iff mk h.good hx hy).1 e)
  have hb : bfsM M 0 = (List.range M.length, M.length) := by
    have := bfs_id inj h.good (M.length + 1) 0 1 h.pos (by omega) (by rw [List.drop_zero]; exact h.ord) (by omega)
    unfold bfsM
    exact this
  unfold leastL
  rw [hb]
  apply List.ext_getElem
  · simp
  · intro i h1 h2
    simp only [List.getElem_map, List.getElem_range]
    unfold roomOf
    have e1 : tn M i = M[i].1 := by unfold tn; rw [getD_eq h2]
    have e2 : rs M i = M[i].2 := by unfold rs; rw [getD_eq h2]
    have e3 : (rs M i).map (numb (mkf M) (List.range M.length)) = rs M i := by
      conv => rhs; rw [← List.map_id (rs M i)]
      apply List.map_congr_left
      intro y hy
      have hy := h.good.mem h2 hy
      have hm : mkf M y ∈ (List.range M.length).map (mkf M) := List.mem_map.2 ⟨y, List.mem_range.2 hy, rfl⟩
      have hg := numb_get hm
      rw [List.getElem_range] at hg
      have hl := numb_lt hm
      rw [List.length_range] at hl
      exact inj _ _ hl hy hg
    rw [e3, e1, e2]
end
end MM
set_option maxRecDepth 100000
/-! M7: how many pairs of rooms come of two rings (plain Lean). -/
namespace MM
def cP (a r b s : Nat) (q : Nat × Nat) : Nat × Nat := (nx a r q.1, nx b s q.2)
theorem push_again {X β : Type} [DecidableEq β] [Inhabited X] {lab : X → β} (met : List X) (x : X) : push lab (push lab met x) x = push lab met x := if_pos (push_mem met x)
theorem fold_rep {X β : Type} [DecidableEq β] [Inhabited X] {lab : X → β} (met : List X) (x : X) : ∀ k, 0 < k → (List.replicate k x).foldl (push lab) met = push lab met x
  | 1, _ => rfl
  | k + 2, _ => by
    rw [List.replicate_succ, List.foldl_cons]
    have := fold_rep (lab := lab) (push lab met x) x (k + 1) (by omega)
    rw [this, push_again]
section
variable {k : Nat} {T : List Nat} {a r b s : Nat}
theorem succ_ring (hT : IsTurn k T) {q : Nat × Nat} (h1 : q.1 < a + r) (h2 : q.2 < b + s) : succP k (ringM k T a r) (ringM k T b s) q = List.replicate k (cP a r b s q) := by
  apply List.ext_getElem
  · simp [succP]
  · intro l h3 h4
    have hl : l < k := by simpa using h4
    have htn : IsTurn k (tn (ringM k T a r) q.1) := by
      rw [ring_tn h1]
      split
      · exact hT
      · exact List.Perm.refl _
    simp only [succP, List.getElem_map, List.getElem_range, List.getElem_replicate, cP]
    rw [ring_to h1 hl, ring_to h2 (turn_lt htn hl)]
def chain (a r b s f : Nat) : List (Nat × Nat) × Nat := MPE.wh bcond (bstep (lab := fun q : Nat × Nat => q) (fun q => [cP a r b s q])) f ([(0, 0)], 0)
theorem chain_eq (hk : 0 < k) (hT : IsTurn k T) (hr : 0 < r) (hs : 0 < s) : ∀ (f : Nat) (z : List (Nat × Nat) × Nat), (∀ q ∈ z.1, q.1 < a + r ∧ q.2 < b + s) →
    MPE.wh bcond (bstep (lab := fun q : Nat × Nat => q) (succP k (ringM k T a r) (ringM k T b s))) f z = MPE.wh bcond (bstep (lab := fun q : Nat × Nat => q) (fun q => [cP a r b s q])) f z
  | 0, z, _ => rfl
  | f + 1, z, h => by
    simp only [MPE.wh]
    split
    · rename_i hc
      have hlt : z.2 < z.1.length := of_decide_eq_true hc
      have hq := h _ (List.getElem_mem hlt)
      have e : bstep (lab := fun q : Nat × Nat => q) (succP k (ringM k T a r) (ringM k T b s)) z = bstep (lab := fun q : Nat × Nat => q) (fun q => [cP a r b s q]) z := by
        unfold bstep
        rw [getD_eq hlt, succ_ring hT hq.1 hq.2, fold_rep _ _ k hk]
        rfl
      rw [e]
      refine chain_eq hk hT hr hs f _ fun q hq' => ?_
      unfold bstep at hq'
      simp only [List.foldl_cons, List.foldl_nil] at hq'
      rcases push_sub _ _ hq' with u | u
      · exact h q u
      · rw [u]
        exact ⟨nx_lt hr, nx_lt hs⟩
    · rfl
theorem met_ring (hk : 0 < k) (hT : IsTurn k T) (hr : 0 < r) (hs : 0 < s) : metP k (ringM k T a r) (ringM k T b s) = (chain a r b s ((a + r) * (b + s))).1 := by
  unfold metP bfsP chain
  rw [ring_len, ring_len, chain_eq hk hT hr hs _ _ (by simp; omega)]
end
/-- the law's cases: rooms ahead, two rings, how many pairs -/
def caseOk (a r s pairs : Nat) : Bool := ((chain a r 0 s ((a + r) * (0 + s))).1.length == pairs + a) && ((chain 0 s a r ((0 + s) * (a + r))).1.length == pairs + a)
theorem cases1 : ((List.range 7).all fun a => caseOk a 7 8 56 && caseOk a 8 7 56) = true := by decide +kernel
theorem cases2 : ((List.range 2).all fun a => caseOk a 5 12 60 && (caseOk a 4 15 60 && caseOk a 3 20 60)) = true := by decide +kernel
end MM
set_option maxRecDepth 100000
/-! M8: marks by first places; threes of rooms (plain Lean). -/
namespace MM
section
variable {α : Type} [DecidableEq α]
/-- by the place where a like one first stands -/
def firsts (xs : List α) : List Nat := xs.map fun x => xs.idxOf x
theorem firsts_len (xs : List α) : (firsts xs).length = xs.length := by simp [firsts]
theorem firsts_iff {xs : List α} {i j : Nat} (hi : i < xs.length) (hj : j < xs.length) : ((firsts xs).getD i 0 = (firsts xs).getD j 0) ↔ xs[i] = xs[j] := by
  unfold firsts
  rw [getD_eq (by simpa using hi), getD_eq (by simpa using hj), List.getElem_map, List.getElem_map]
  exact ⟨fun h => idxOf_inj (List.getElem_mem hi) h, fun h => by rw [h]⟩
theorem cnt_firsts (xs : List α) : cnt (firsts xs) = cnt xs := cnt_inj fun a ha b hb e => idxOf_inj ha e
theorem cnt_nodup : ∀ {xs : List α}, xs.Nodup → cnt xs = xs.length := fun {xs} nd => by
  have h1 := cnt_le xs
  have h2 := sub_len xs (keys [] xs) nd fun a ha => (mem_keys _ _ _).2 (.inr ha)
  unfold cnt at h1 ⊢
  omega
end
/-- the law's marks, as a loop -/
def mcond (b : Nat × List Nat) : Bool := decide (b.1 < cnt b.2)
def mstep (M : Mach) (b : Nat × List Nat) : Nat × List Nat := (cnt b.2, firsts (sig M b.2))
def marksF (M : Mach) : List Nat := (MPE.wh mcond (mstep M) (M.length + 2) (0, firsts (M.map (·.1)))).2
section
variable {k : Nat} {M : Mach}
theorem Stage.congr {mk mk' : List Nat} (h : Stage k M mk) (hl : mk'.length = M.length) (e : ∀ i j, i < M.length → j < M.length → (mk'.getD i 0 = mk'.getD j 0 ↔ mk.getD i 0 = mk.getD j 0)) : Stage k M mk' :=
  ⟨hl, fun i j hi hj q => h.tn i j hi hj ((e i j hi hj).1 q), fun i j hi hj q => (e i j hi hj).2 (h.eqv i j hi hj q)⟩
theorem stageF0 : Stage k M (firsts (M.map (·.1))) :=
  Stage.congr stage0 (by rw [firsts_len]; simp) fun i j hi hj => by rw [firsts_iff (by simpa using hi) (by simpa using hj), num_iff (by simpa using hi) (by simpa using hj)]
theorem stageFS (g : Good k M) {mk : List Nat} (h : Stage k M mk) : Stage k M (firsts (sig M mk)) :=
  Stage.congr (stageS g h) (by rw [firsts_len, sig_len]) fun i j hi hj => by rw [firsts_iff (by rw [sig_len]; exact hi) (by rw [sig_len]; exact hj), num_iff (by rw [sig_len]; exact hi) (by rw [sig_len]; exact hj)]
theorem marksF_ok (g : Good k M) (hu : ∀ i j, i < M.length → j < M.length → Eqv k M M i j → i = j) (hne : M ≠ []) : cnt (marksF M) = M.length := by
  have key : ∀ (f : Nat) (b : Nat × List Nat), Stage k M b.2 → M.length < f + b.1 → (∃ prev, b.1 = cnt prev ∧ Stage k M prev ∧ b.2 = firsts (sig M prev)) → cnt (MPE.wh mcond (mstep M) f b).2 = M.length := by
    intro f
    induction f with
    | zero =>
      rintro ⟨many, mk⟩ s hf ⟨prev, h1, h2, _⟩
      have := cnt_le prev
      rw [h2.len] at this
      simp only at h1 hf
      omega
    | succ f ih =>
      rintro ⟨many, mk⟩ s hf ⟨prev, h1, h2, h3⟩
      simp only [MPE.wh]
      split
      · rename_i hc
        have hc := of_decide_eq_true hc
        simp only at hc hf
        exact ih _ (stageFS g s) (by simp only [mstep]; omega) ⟨mk, rfl, s, rfl⟩
      · rename_i hc
        simp only at h1 h3 s ⊢
        have hle : cnt mk ≤ many := by
          have : ¬ (many < cnt mk) := fun h => hc (decide_eq_true h)
          omega
        rw [h3, cnt_firsts, h1] at hle
        have D := done g h2 hle
        have nd : mk.Nodup := by
          rw [List.nodup_iff_pairwise_ne, List.pairwise_iff_getElem]
          intro i j hi hj hij e
          rw [s.len] at hi hj
          have e2 : mk.getD i 0 = mk.getD j 0 := by rw [getD_eq (by rw [s.len]; exact hi), getD_eq (by rw [s.len]; exact hj)]; exact e
          rw [h3, firsts_iff (by rw [sig_len]; exact hi) (by rw [sig_len]; exact hj)] at e2
          have e3 : (num [] (sig M prev)).getD i 0 = (num [] (sig M prev)).getD j 0 := (num_iff (by rw [sig_len]; exact hi) (by rw [sig_len]; exact hj)).2 e2
          have := hu i j hi hj ((marks_iff D g hi hj).1 e3)
          omega
        rw [cnt_nodup nd, s.len]
  unfold marksF
  have hp : 0 < cnt (firsts (M.map (·.1))) := by rw [cnt_firsts]; exact cnt_pos (by simpa using hne)
  have hc : mcond (0, firsts (M.map (·.1))) = true := decide_eq_true hp
  simp only [MPE.wh, hc, if_true]
  exact key (M.length + 1) _ (stageFS g stageF0) (by simp only [mstep]; omega) ⟨_, rfl, stageF0, rfl⟩
end
theorem scanA_app : ∀ (l1 l2 : List (List Nat)) (k come : Nat), scanA k come (l1 ++ l2) = (scanA k come l1).bind fun c => scanA (k + l1.length) c l2
  | [], l2, k, come => by simp [scanA]
  | r :: l1, l2, k, come => by
    simp only [List.cons_append, scanA, List.length_cons]
    split
    · cases scanR come r with
      | none => rfl
      | some c =>
        simp only [Option.bind_some]
        rw [scanA_app l1 l2 (k + 1) c]
        congr 1
        funext c
        have : k + 1 + l1.length = k + (l1.length + 1) := by omega
        rw [this]
    · rfl
/-! threes -/
abbrev T3 := Nat × Nat × Nat
def pushD (b : List T3 × List T3) (x : T3) : List T3 × List T3 := if x ∈ b.2 then b else (b.1 ++ [x], b.2 ++ [x])
def three (A B L : Mach) (q : T3) (l : Nat) : T3 := (to A q.1 l, to B q.2.1 ((tn A q.1).getD l 0), to L q.2.2 l)
def dcond (b : List T3 × List T3) : Bool := !b.1.isEmpty
def dstep (k : Nat) (A B L : Mach) (b : List T3 × List T3) : List T3 × List T3 := (List.range k).foldl (fun c l => pushD c (three A B L (b.1.getLastD (0, 0, 0)) l)) (b.1.dropLast, b.2)
structure DInv (P : T3 → Prop) (b : List T3 × List T3) : Prop where
  nd : b.2.Nodup
  sub : ∀ x ∈ b.1, x ∈ b.2
  all : ∀ x ∈ b.2, P x
theorem pushD_inv {P : T3 → Prop} {b : List T3 × List T3} (h : DInv P b) {x : T3} (hx : P x) : DInv P (pushD b x) ∧ (pushD b x).1.length + b.2.length = b.1.length + (pushD b x).2.length ∧ b.2.length ≤ (pushD b x).2.length := by
  unfold pushD
  split
  · exact ⟨h, rfl, Nat.le_refl _⟩
  · rename_i hn
    refine ⟨⟨?_, ?_, ?_⟩, by simp; omega, by simp⟩
    · rw [List.nodup_append]
      exact ⟨h.nd, by simp, fun a ha c hc => by simp only [List.mem_singleton] at hc; subst hc; rintro rfl; exact hn ha⟩
    · intro y hy
      rcases List.mem_append.1 hy with q | q
      · exact List.mem_append_left _ (h.sub y q)
      · exact List.mem_append_right _ q
    · intro y hy
      rcases List.mem_append.1 hy with q | q
      · exact h.all y q
      · simp only [List.mem_singleton] at q; subst q; exact hx
end MM
set_option maxRecDepth 100000
/-! M9: chains of rooms, of which the last one alone turns (plain Lean). -/
namespace MM
/-- the next place in the chain: hm the letters that lead home -/
def nxC (n ar : Nat) (hm : Nat → Bool) (i l : Nat) : Nat := if i + 1 < n then (if hm l then 0 else i + 1) else ar
structure Chain (k n ar : Nat) (hm : Nat → Bool) (p : Nat → Nat) (T : List Nat) (M : Mach) : Prop where
  good : Good k M
  len : M.length = n
  n0 : 0 < n
  k0 : 0 < k
  arl : ar < n
  h0 : hm 0 = false
  p0 : p 0 = 0
  plt : ∀ i, i < n → p i < n
  inj : ∀ i j, i < n → j < n → p i = p j → i = j
  tn : ∀ i, i < n → tn M (p i) = if i + 1 = n then T else List.range k
  to : ∀ i l, i < n → l < k → to M (p i) l = p (nxC n ar hm i l)
section
variable {k n ar : Nat} {hm : Nat → Bool} {p : Nat → Nat} {T T' : List Nat} {M N : Mach}
theorem nodup_on {α β : Type} {f : α → β} : ∀ {l : List α}, (∀ a ∈ l, ∀ b ∈ l, f a = f b → a = b) → l.Nodup → (l.map f).Nodup
  | [], _, _ => by simp
  | a :: l, h, nd => by
    rw [List.nodup_cons] at nd
    rw [List.map_cons, List.nodup_cons]
    refine ⟨fun hm => ?_, nodup_on (fun x hx y hy => h x (by simp [hx]) y (by simp [hy])) nd.2⟩
    obtain ⟨b, hb, e⟩ := List.mem_map.1 hm
    have := h a (by simp) b (by simp [hb]) e.symm
    subst this
    exact nd.1 hb
theorem nxC_lt (h : ar < n) {i l : Nat} (hi : i < n) : nxC n ar hm i l < n := by
  unfold nxC
  split
  · split <;> omega
  · exact h
theorem chain_go (c : Chain k n ar hm p T M) : ∀ (m i : Nat), i + m < n → go M (p i) (List.replicate m 0) = p (i + m)
  | 0, i, _ => rfl
  | m + 1, i, h => by
    rw [List.replicate_succ]
    show go M (to M (p i) 0) (List.replicate m 0) = _
    rw [c.to i 0 (by omega) c.k0]
    have : nxC n ar hm i 0 = i + 1 := by
      unfold nxC
      rw [if_pos (by omega), c.h0]; rfl
    rw [this, chain_go c m (i + 1) (by omega)]
    congr 1; omega
theorem zeros_lt (hk : 0 < k) (m : Nat) : ∀ l ∈ List.replicate m 0, l < k := fun l hl => by rw [(List.mem_replicate.1 hl).2]; exact hk
theorem chain_dist (c : Chain k n ar hm p T M) (hT : T ≠ List.range k) {i j : Nat} (hij : i < j) (hj : j < n) : ¬ Eqv k M M (p i) (p j) := fun e => by
  have := e (List.replicate (n - 1 - j) 0) (zeros_lt c.k0 _)
  rw [chain_go c _ i (by omega), chain_go c _ j (by omega), c.tn _ (by omega), c.tn _ (by omega), if_neg (by omega), if_pos (by omega)] at this
  exact hT this.symm
theorem chain_uniq (c : Chain k n ar hm p T M) (hT : T ≠ List.range k) {i j : Nat} (hi : i < n) (hj : j < n) (e : Eqv k M M (p i) (p j)) : i = j := by
  rcases Nat.lt_trichotomy i j with h | h | h
  · exact absurd e (chain_dist c hT h hj)
  · exact h
  · exact absurd e.symm (chain_dist c hT h hi)
/-- the least machine that does what the chain does has all its rooms -/
theorem chain_least (c : Chain k n ar hm p T M) (hT : T ≠ List.range k) : Least k (leastL M 0) ∧ (leastL M 0).length = n ∧ Eqv k (leastL M 0) M 0 0 := by
  obtain ⟨h1, h2, h3⟩ := leastL_ok c.good (room := 0) (by rw [c.len]; exact c.n0)
  refine ⟨h1, ?_, h3⟩
  rw [c.len] at h2
  have hg : ∀ i, i < n → Eqv k (leastL M 0) M (go (leastL M 0) 0 (List.replicate i 0)) (p i) := fun i hi => by
    have := h3.go (row := List.replicate i 0) (zeros_lt c.k0 _)
    have e := chain_go c i 0 (by omega)
    rw [c.p0, Nat.zero_add] at e
    rw [e] at this
    exact this
  have hl : ∀ i, i < n → go (leastL M 0) 0 (List.replicate i 0) < (leastL M 0).length := fun i hi => h1.good.go (zeros_lt c.k0 _) h1.pos
  have nd : ((List.range n).map fun i => go (leastL M 0) 0 (List.replicate i 0)).Nodup := by
    refine nodup_on (fun i hi j hj e => ?_) List.nodup_range
    have hi := List.mem_range.1 hi
    have hj := List.mem_range.1 hj
    have ei := hg i hi
    have ej := hg j hj
    rw [e] at ei
    exact chain_uniq c hT hi hj (ei.symm.trans ej)
  have := sub_len _ (List.range (leastL M 0).length) nd fun a ha => by
    obtain ⟨i, hi, rfl⟩ := List.mem_map.1 ha
    exact List.mem_range.2 (hl i (List.mem_range.1 hi))
  rw [List.length_map, List.length_range, List.length_range] at this
  omega
/-- rooms of the two that stand at the same place of the chain -/
def SameP (k n : Nat) (p : Nat → Nat) (M N A B : Mach) (q : Nat × Nat) (i : Nat) : Prop := i < n ∧ Eqv k A M q.1 (p i) ∧ Eqv k B N q.2 (p i)
theorem range_getD {k l : Nat} (h : l < k) : (List.range k).getD l 0 = l := by rw [getD_eq (by simpa using h)]; simp
section
variable {A B : Mach} (c : Chain k n ar hm p T M) (d : Chain k n ar hm p T' N) (lA : Least k A) (lB : Least k B) (eA : Eqv k A M 0 0) (eB : Eqv k B N 0 0)
include c d lA lB eA eB
theorem both_met : (metP k A B).length ≤ n ∧ ∀ q ∈ metP k A B, q.1 < A.length ∧ q.2 < B.length ∧ ∃ i, SameP k n p M N A B q i := by
  have := bfs_ok (lab := fun q : Nat × Nat => q) (succ := succP k A B) (x0 := (0, 0)) (univ := allP A B) (P := fun q => q.1 < A.length ∧ q.2 < B.length ∧ ∃ i, SameP k n p M N A B q i) (fun x hx y hy => by
    unfold succP at hy
    obtain ⟨l, hl, rfl⟩ := List.mem_map.1 hy
    have hl := List.mem_range.1 hl
    obtain ⟨h1, h2, i, hi, h3, h4⟩ := hx
    have hlt := turn_lt (lA.good.tn h1) hl
    refine ⟨lA.good.to h1 hl, lB.good.to h2 hlt, nxC n ar hm i l, nxC_lt c.arl hi, ?_, ?_⟩
    · have := h3.to hl
      rw [c.to i l hi hl] at this
      exact this
    · have := h4.to hlt
      rw [d.to i _ hi hlt] at this
      by_cases hh : i + 1 < n
      · have e := h3.tn
        rw [c.tn i hi, if_neg (by omega)] at e
        rw [e, range_getD hl] at this ⊢
        exact this
      · have e1 : nxC n ar hm i ((tn A x.1).getD l 0) = ar := by unfold nxC; rw [if_neg hh]
        have e2 : nxC n ar hm i l = ar := by unfold nxC; rw [if_neg hh]
        rw [e1] at this
        rw [e2]
        exact this) (fun x hx => mem_allP.2 ⟨hx.1, hx.2.1⟩) ⟨lA.pos, lB.pos, 0, c.n0, by rw [c.p0]; exact eA, by rw [c.p0]; exact eB⟩ (A.length * B.length) (by rw [allP_len]; exact Nat.le_refl _)
  obtain ⟨met, h1, h2, h3, _⟩ := this
  have e : metP k A B = met := by
    show (bfsP k A B (A.length * B.length)).1 = met
    unfold bfsP
    rw [h1]
  rw [e]
  refine ⟨?_, h3⟩
  classical
  let f : Nat × Nat → Nat := fun q => if h : ∃ i, SameP k n p M N A B q i then h.choose else 0
  have hf : ∀ q ∈ met, SameP k n p M N A B q (f q) := fun q hq => by
    have h := (h3 q hq).2.2
    simp only [f, h, dif_pos]
    exact h.choose_spec
  have nd : (met.map f).Nodup := by
    have nd0 : met.Nodup := by have := h2.nd; simpa using this
    refine nodup_on (fun q hq q' hq' e => ?_) nd0
    have a1 := hf q hq
    have a2 := hf q' hq'
    rw [← e] at a2
    have b1 := lA.uniq _ _ (h3 q hq).1 (h3 q' hq').1 (a1.2.1.trans a2.2.1.symm)
    have b2 := lB.uniq _ _ (h3 q hq).2.1 (h3 q' hq').2.1 (a1.2.2.trans a2.2.2.symm)
    exact Prod.ext b1 b2
  have := sub_len _ (List.range n) nd fun a ha => by
    obtain ⟨q, hq, rfl⟩ := List.mem_map.1 ha
    exact List.mem_range.2 (hf q hq).1
  rw [List.length_map, List.length_range] at this
  exact this
theorem both_tn (hT : T.map (fun l => T'.getD l 0) = List.range k) {i : Nat} (hi : i < (pairL k A B).length) : tn (pairL k A B) i = List.range k := by
  have hi' : i < (metP k A B).length := by simpa [pairL] using hi
  obtain ⟨h1, h2, j, hj, h3, h4⟩ := (both_met c d lA lB eA eB).2 _ (List.getElem_mem hi')
  rw [(pairL_to lA.good lB.good lA.pos lB.pos hi').1, h3.tn, h4.tn, c.tn j hj, d.tn j hj]
  by_cases h : j + 1 = n
  · rw [if_pos h, if_pos h, hT]
  · rw [if_neg h, if_neg h]
    apply List.ext_getElem
    · simp
    · intro x hx1 hx2
      have : x < k := by simpa using hx1
      simp [this]
theorem both_still (hT : T.map (fun l => T'.getD l 0) = List.range k) : leastL (pairL k A B) 0 = [(List.range k, List.replicate k 0)] := by
  obtain ⟨g, pos⟩ := pairL_good lA.good lB.good lA.pos lB.pos
  obtain ⟨l1, l2, l3⟩ := leastL_ok g pos
  have htn : ∀ i, i < (leastL (pairL k A B) 0).length → tn (leastL (pairL k A B) 0) i = List.range k := by
    have hne : pairL k A B ≠ [] := by intro e; rw [e] at pos; simp at pos
    obtain ⟨met, h1, _, h3, _⟩ := bfsM_ok g (marks_ok g hne) pos
    intro i hi
    have e : leastL (pairL k A B) 0 = met.map (roomOf (pairL k A B) met) := by unfold leastL; rw [h1]
    have hi' : i < met.length := by rw [e] at hi; simpa using hi
    unfold tn
    rw [e, getD_eq (by simpa using hi')]
    simp only [List.getElem_map, roomOf]
    exact both_tn c d lA lB eA eB hT (h3 _ (List.getElem_mem hi'))
  generalize leastL (pairL k A B) 0 = L at *
  have one : L.length = 1 := by
    have : ¬ 1 < L.length := fun h => by
      have := l1.uniq 0 1 (by omega) h (Eqv.of (fun i j => i < L.length ∧ j < L.length) (fun i j h => by rw [htn i h.1, htn j h.2]) (fun i j h l hl => ⟨l1.good.to h.1 hl, l1.good.to h.2 hl⟩) ⟨by omega, h⟩)
      omega
    have := l1.pos
    omega
  match L, one with
  | [r], _ =>
    have h0 : r.1 = List.range k := htn 0 (by simp)
    have h1 : r.2 = List.replicate k 0 := by
      have hl := l1.good.many r (by simp)
      have hr := l1.good.rest r (by simp)
      rw [List.eq_replicate_iff]
      refine ⟨hl, fun b hb => ?_⟩
      have := hr b hb
      simp only [List.length_cons, List.length_nil] at this
      omega
    rw [show r = (r.1, r.2) from rfl, h0, h1]
end
/-! turned back -/
def invT (t : List Nat) : List Nat := (List.range t.length).map fun l => t.idxOf l
def backR (r : Room) : Room := (invT r.1, (invT r.1).map fun l => r.2.getD l 0)
theorem inv_range : invT (List.range k) = List.range k := by
  unfold invT
  rw [List.length_range]
  apply List.ext_getElem
  · simp
  · intro i h1 h2
    have hi : i < k := by simpa using h1
    simp only [List.getElem_map, List.getElem_range]
    have := List.Nodup.idxOf_getElem (List.nodup_range (n := k)) i (by simpa using hi)
    simpa using this
theorem back_getD (i : Nat) (hi : i < M.length) : (M.map backR).getD i ([], []) = backR (M.getD i ([], [])) := by
  rw [getD_eq (by simpa using hi), getD_eq hi]; simp
theorem chain_back (c : Chain k n ar hm p T M) (hI : ∀ t, IsTurn k t → IsTurn k (invT t)) : Chain k n ar hm p (invT T) (M.map backR) where
  good := by
    refine ⟨fun r hr => ?_, fun r hr => ?_, fun r hr j hj => ?_⟩
    · obtain ⟨z, hz, rfl⟩ := List.mem_map.1 hr
      exact hI _ (c.good.turn z hz)
    · obtain ⟨z, hz, rfl⟩ := List.mem_map.1 hr
      have := (hI _ (c.good.turn z hz)).length_eq
      simp only [backR, List.length_map, this, List.length_range]
    · obtain ⟨z, hz, rfl⟩ := List.mem_map.1 hr
      simp only [backR, List.mem_map] at hj
      obtain ⟨l, hl, rfl⟩ := hj
      have hlk : l < k := by have := (hI _ (c.good.turn z hz)).mem_iff (a := l); rw [List.mem_range] at this; exact this.1 hl
      rw [List.length_map, getD_eq (by rw [c.good.many z hz]; exact hlk)]
      exact c.good.rest z hz _ (List.getElem_mem _)
  len := by rw [List.length_map]; exact c.len
  n0 := c.n0
  k0 := c.k0
  arl := c.arl
  h0 := c.h0
  p0 := c.p0
  plt := c.plt
  inj := c.inj
  tn := fun i hi => by
    have hp : p i < M.length := by rw [c.len]; exact c.plt i hi
    have := c.tn i hi
    unfold tn at this ⊢
    rw [back_getD _ hp]
    show invT (M.getD (p i) ([], [])).1 = _
    rw [this]
    split
    · rfl
    · exact inv_range
  to := fun i l hi hl => by
    have hp : p i < M.length := by rw [c.len]; exact c.plt i hi
    have ht := c.good.tn hp
    have hlen : (invT (tn M (p i))).length = k := by have := (hI _ ht).length_eq; rw [this, List.length_range]
    have e : to (M.map backR) (p i) l = to M (p i) ((invT (tn M (p i))).getD l 0) := by
      show (rs (M.map backR) (p i)).getD l 0 = _
      unfold rs
      rw [back_getD _ hp]
      show ((invT (tn M (p i))).map fun l => (rs M (p i)).getD l 0).getD l 0 = (rs M (p i)).getD ((invT (tn M (p i))).getD l 0) 0
      rw [getD_eq (by rw [List.length_map, hlen]; exact hl), List.getElem_map, getD_eq (l := invT _) (by rw [hlen]; exact hl)]
    rw [e, c.to i _ hi (turn_lt (hI _ ht) hl)]
    by_cases hh : i + 1 < n
    · rw [c.tn i hi, if_neg (by omega), inv_range, range_getD hl]
    · unfold nxC
      rw [if_neg hh, if_neg hh]
end
end MM
set_option maxRecDepth 100000
set_option maxHeartbeats 1000000
/-! E2: turns, walked. -/
namespace MPE
open MP
open MM
structure HTurns (p : Prg) : Prop where
  is_whole : Has p F.turns_is_whole LB.d_turns_is_whole
  is_between : Has p F.turns_is_between LB.d_turns_is_between
  is_turn : Has p F.turns_is_turn LB.d_turns_is_turn
/-- all turns of two to four letters -/
def ins (x : Nat) : List Nat → List (List Nat)
  | [] => [[x]]
  | y :: ys => (x :: y :: ys) :: (ins x ys).map (y :: ·)
def perms : List Nat → List (List Nat)
  | [] => [[]]
  | x :: xs => (perms xs).flatMap (ins x)
theorem mem_ins : ∀ {x : Nat} {l l' : List Nat}, l.Perm (x :: l') → ∃ m, l ∈ ins x m ∧ m.Perm l'
  | x, [], l', h => by have := h.length_eq; simp at this
  | x, y :: ys, l', h => by
    by_cases e : y = x
    · subst e
      have h1 := (List.perm_cons y).1 h
      refine ⟨ys, ?_, h1⟩
      cases ys <;> simp [ins]
    · have hx : x ∈ ys := by
        have := h.mem_iff (a := x)
        simp only [List.mem_cons, true_or, iff_true] at this
        rcases this with h | h
        · exact absurd h.symm e
        · exact h
      have hy : y ∈ l' := by
        have := h.mem_iff (a := y)
        simp only [List.mem_cons, true_or, true_iff] at this
        rcases this with h | h
        · exact absurd h e
        · exact h
      have h2 : ys.Perm (x :: l'.erase y) := by
        have := h.erase y
        rw [List.erase_cons_head] at this
        have e2 : (x :: l').erase y = x :: l'.erase y := by
          rw [List.erase_cons_tail]
          simpa using fun q => e q.symm
        rw [e2] at this
        exact this
      obtain ⟨m, h3, h4⟩ := mem_ins h2
      refine ⟨y :: m, ?_, ?_⟩
      · simp only [ins, List.mem_cons, List.mem_map]
        exact .inr ⟨ys, h3, rfl⟩
      · exact ((List.perm_cons y).2 h4).trans (List.perm_cons_erase hy).symm
theorem mem_perms : ∀ {l' l : List Nat}, l.Perm l' → l ∈ perms l'
  | [], l, h => by simp [perms, h.eq_nil]
  | x :: l', l, h => by
    obtain ⟨m, h1, h2⟩ := mem_ins h
    simp only [perms, List.mem_flatMap]
    exact ⟨m, mem_perms h2, h1⟩
theorem turn_in {k : Nat} {t : List Nat} (h : IsTurn k t) : t ∈ perms (List.range k) := mem_perms h
structure K24 (k : Nat) : Prop where
  lo : 2 ≤ k
  hi : k ≤ 4
theorem K24.cases {k : Nat} (h : K24 k) : k = 2 ∨ k = 3 ∨ k = 4 := by have := h.lo; have := h.hi; omega
theorem sort_all2 : ∀ z ∈ perms (List.range 2), opSorted [nts z] = some (.lst (rng 0 (2 : Int))) := by
  rw [show perms (List.range 2) = [[0, 1], [1, 0]] by decide]
  simp only [List.forall_mem_cons]
  repeat' (first | (intro x hx; cases hx; done) | rfl | apply And.intro)
theorem sort_all3 : ∀ z ∈ perms (List.range 3), opSorted [nts z] = some (.lst (rng 0 (3 : Int))) := by
  rw [show perms (List.range 3) = [[0, 1, 2], [1, 0, 2], [1, 2, 0], [0, 2, 1], [2, 0, 1], [2, 1, 0]] by decide]
  simp only [List.forall_mem_cons]
  repeat' (first | (intro x hx; cases hx; done) | rfl | apply And.intro)
theorem sort_all4 : ∀ z ∈ perms (List.range 4), opSorted [nts z] = some (.lst (rng 0 (4 : Int))) := by
  rw [show perms (List.range 4) = [[0, 1, 2, 3], [1, 0, 2, 3], [1, 2, 0, 3], [1, 2, 3, 0], [0, 2, 1, 3], [2, 0, 1, 3], [2, 1, 0, 3], [2, 1, 3, 0], [0, 2, 3, 1], [2, 0, 3, 1], [2, 3, 0, 1], [2, 3, 1, 0],
    [0, 1, 3, 2], [1, 0, 3, 2], [1, 3, 0, 2], [1, 3, 2, 0], [0, 3, 1, 2], [3, 0, 1, 2], [3, 1, 0, 2], [3, 1, 2, 0], [0, 3, 2, 1], [3, 0, 2, 1], [3, 2, 0, 1], [3, 2, 1, 0]] by decide]
  simp only [List.forall_mem_cons]
  repeat' (first | (intro x hx; cases hx; done) | rfl | apply And.intro)
theorem sort_turn {k : Nat} (hk : K24 k) {t : List Nat} (ht : IsTurn k t) : opSorted [nts t] = some (.lst (rng 0 (k : Int))) := by
  have hm := turn_in ht
  rcases hk.cases with rfl | rfl | rfl
  · exact sort_all2 t hm
  · exact sort_all3 t hm
  · exact sort_all4 t hm
section
variable {p : Prg} (n : Nat) (m : List U)
theorem is_whole_int (H : HTurns p) (i : Int) : (stOf p (n + 1)).call F.turns_is_whole [.int i] m = .ok (.bl true) m := by
  rw [H.is_whole.call]
  rfl
theorem is_between_int (H : HTurns p) (i a b : Int) : (stOf p (n + 2)).call F.turns_is_between [.int i, .int a, .int b] m = .ok (.bl (decide (a ≤ i) && decide (i ≤ b))) m := by
  rw [H.is_between.call, run_def _ _ _ rfl]
  simp [LB.d_turns_is_between, slots0, is_whole_int, H]
  by_cases h : a ≤ i <;> simp [h]
theorem is_turn_c (H : HTurns p) {k : Nat} (hk : K24 k) {t : List Nat} (ht : IsTurn k t) (hlen : t.length = k) : evalE (stOf p (n + 2)) (.comp (.call F.turns_is_between [(.var 1), (.lit (.int 0)), (.op .sub [(.op .len [(.var 0)]), (.lit (.int 1))])]) (.one 1) 0 [(.var 0)] [1] none) ⟨[.val (nts t), .no], m⟩ = .ok (.lst (t.map fun _ => .bl true)) ⟨[.val (nts t), .no], m⟩ := by
  have h1 : ∀ i a b : Int, (stOf p (n + 2)).call F.turns_is_between [.int i, .int a, .int b] m = .ok (.bl (decide (a ≤ i) && decide (i ≤ b))) m := fun i a b => is_between_int n m H i a b
  refine ev_compM (avs := [.v (nts t)]) (xs := t.map iu) t iu (fun _ => .bl true) (by simp) (by simp [walkA, walk]) rfl (by simp [stillIs]) (by simp) (by rw [hlen]; have := hk.hi; have := line_ge; omega) ?_
  intro j hj
  have hjk : j < k := by have := ht.mem_iff (a := j); rw [List.mem_range] at this; exact this.1 hj
  refine ⟨⟨[.val (nts t), .val (iu j)], m⟩, by simp, ?_, by simp [stillIs], by simp⟩
  simp [iu, h1, hlen]
  omega
theorem is_turn_ok (H : HTurns p) {k : Nat} (hk : K24 k) {t : List Nat} (ht : IsTurn k t) : (stOf p (n + 3)).call F.turns_is_turn [nts t] m = .ok (.bl true) m := by
  have hm := turn_in ht
  have hlen : t.length = k := by have := ht.length_eq; simpa using this
  rw [H.is_turn.call, run_def _ _ _ rfl]
  have hc := is_turn_c n m H hk ht hlen
  have hsort : opSorted [nts t] = some (.lst (rng 0 (k : Int))) := by
    exact sort_turn hk ht
  have k1 : (2 : Int) ≤ k := by have := hk.lo; omega
  have k2 : (k : Int) ≤ 4 := by have := hk.hi; omega
  have k3 := lstR1_iu (g := stOf p (n + 2)) k (by omega)
  simp [LB.d_turns_is_turn, slots0, hc, hlen, k1, k2, k3, hsort, rng_iu]
end
end MPE
set_option maxRecDepth 100000
set_option maxHeartbeats 2000000
/-! E3: machines looked at. -/
namespace MPE
open MP
open MM
def roomU (r : Room) : U := .tup [nts r.1, nts r.2]
abbrev machU (M : Mach) : U := .tup (M.map roomU)
@[scoped simp] theorem roomU_eq (r : Room) : roomU r = .tup [nts r.1, nts r.2] := Eq.trans rfl rfl
structure HMach (p : Prg) : Prop extends HTurns p where
  need_turn : Has p F.turns_need_turn LB.d_turns_need_turn
  turn_after : Has p F.turns_turn_after LB.d_turns_turn_after
  is_below : Has p F.machines_is_below LB.d_machines_is_below
  is_room : Has p F.machines_is_room LB.d_machines_is_room
  is_machine : Has p F.machines_is_machine LB.d_machines_is_machine
  sure_machine : Has p F.machines_sure_machine LB.d_machines_sure_machine
  letters_of : Has p F.machines_letters_of LB.d_machines_letters_of
section
variable {p : Prg} (n : Nat) (m : List U) (H : HMach p) {k : Nat} (hk : K24 k)
include H
theorem is_below_int (i e : Int) : (stOf p (n + 1)).call F.machines_is_below [.int i, .int e] m = .ok (.bl (decide (0 ≤ i) && decide (i < e))) m := by
  rw [H.is_below.call, run_def _ _ _ rfl]
  simp [LB.d_machines_is_below, slots0]
  by_cases h : 0 ≤ i <;> simp [h]
include hk
theorem need_turn_ok {t : List Nat} (ht : IsTurn k t) : (stOf p (n + 4)).call F.turns_need_turn [nts t] m = .ok .non m := by
  rw [H.need_turn.call, run_def _ _ _ rfl]
  simp [LB.d_turns_need_turn, slots0, is_turn_ok n m H.toHTurns hk ht]
omit H hk in
theorem _root_.MM.IsTurn.lt {k : Nat} {t : List Nat} (ht : IsTurn k t) {x : Nat} (hx : x ∈ t) : x < k := by
  have := ht.mem_iff (a := x)
  rw [List.mem_range] at this
  exact this.1 hx
omit H hk in
theorem _root_.MM.IsTurn.len {k : Nat} {t : List Nat} (ht : IsTurn k t) : t.length = k := by have := ht.length_eq; simpa using this
omit H in
theorem K24.line_ (x : Nat) (h : x ≤ k) : x ≤ line := by have := hk.hi; have := line_ge; omega
theorem turn_after_ok {a b : List Nat} (ha : IsTurn k a) (hb : IsTurn k b) : (stOf p (n + 5)).call F.turns_turn_after [nts a, nts b] m = .ok (nts (a.map fun l => b.getD l 0)) m := by
  rw [H.turn_after.call, run_def _ _ _ rfl]
  have hc : evalE (stOf p (n + 4)) (.comp (.op .ix [(.var 1), (.var 2)]) (.one 2) 0 [(.var 0)] [2] none) ⟨[.val (nts a), .val (nts b), .no], m⟩ = .ok (.lst (a.map fun l => iu (b.getD l 0))) ⟨[.val (nts a), .val (nts b), .no], m⟩ := by
    refine ev_compM (avs := [.v (nts a)]) (xs := a.map iu) a iu (fun l => iu (b.getD l 0)) (by simp) (by simp [walkA, walk]) rfl (by simp [stillIs]) (by simp) (hk.line_ _ (Nat.le_of_eq ha.len)) ?_
    intro j hj
    have hjb : j < b.length := by rw [hb.len]; exact ha.lt hj
    refine ⟨⟨[.val (nts a), .val (nts b), .val (iu j)], m⟩, by simp, ?_, by simp [stillIs], by simp⟩
    simp [hjb]
  simp [LB.d_turns_turn_after, slots0, need_turn_ok n m H hk ha, need_turn_ok n m H hk hb, ha.len, hb.len, hc]
theorem is_room_ok {r : Room} (ht : IsTurn k r.1) (hl : r.2.length = k) {e : Nat} (he : ∀ x ∈ r.2, x < e) : (stOf p (n + 4)).call F.machines_is_room [roomU r, iu k, iu e] m = .ok (.bl true) m := by
  rw [H.is_room.call, run_def _ _ _ rfl]
  have hc : evalE (stOf p (n + 3)) (.comp (.call F.machines_is_below [(.var 5), (.var 2)]) (.one 5) 0 [(.var 4)] [5] none) ⟨[.val (roomU r), .val (iu k), .val (iu e), .val (nts r.1), .val (nts r.2), .no], m⟩ = .ok (.lst (r.2.map fun _ => .bl true)) ⟨[.val (roomU r), .val (iu k), .val (iu e), .val (nts r.1), .val (nts r.2), .no], m⟩ := by
    refine ev_compM (avs := [.v (nts r.2)]) (xs := r.2.map iu) r.2 iu (fun _ => .bl true) (by simp) (by simp [walkA, walk]) rfl (by simp [stillIs]) (by simp) (hk.line_ _ (Nat.le_of_eq hl)) ?_
    intro j hj
    refine ⟨⟨[.val (roomU r), .val (iu k), .val (iu e), .val (nts r.1), .val (nts r.2), .val (iu j)], m⟩, by simp, ?_, by simp [stillIs], by simp⟩
    have := is_below_int (n + 2) m H j e
    have h2 := he j hj
    simp [this]
    omega
  simp only [iu_eq, roomU_eq] at hc
  simp [LB.d_machines_is_room, slots0, is_turn_ok n m H.toHTurns hk ht, ht.len, hl, hc]
theorem is_machine_ok {M : Mach} (g : Good k M) (h1 : 1 ≤ M.length) (h2 : M.length ≤ 60) : (stOf p (n + 5)).call F.machines_is_machine [machU M] m = .ok (.bl true) m := by
  rw [H.is_machine.call, run_def _ _ _ rfl]
  obtain ⟨r0, h0⟩ : ∃ r0, M[0]? = some r0 := ⟨M[0], List.getElem?_eq_getElem (by omega)⟩
  have hr0 : IsTurn k r0.1 := g.turn r0 (List.mem_of_getElem? h0)
  have hc : evalE (stOf p (n + 4)) (.comp (.call F.machines_is_room [(.var 2), (.op .len [(.op .ix [(.var 1), (.lit (.int 0))])]), (.op .len [(.var 0)])]) (.one 2) 0 [(.var 0)] [2] none) ⟨[.val (machU M), .val (roomU r0), .no], m⟩ = .ok (.lst (M.map fun _ => .bl true)) ⟨[.val (machU M), .val (roomU r0), .no], m⟩ := by
    refine ev_compM (avs := [.v (machU M)]) (xs := M.map roomU) M roomU (fun _ => .bl true) (by simp) (by simp [walkA, walk]) rfl (by simp [stillIs]) (by simp) (by have := line_ge; omega) ?_
    intro r hr
    refine ⟨⟨[.val (machU M), .val (roomU r0), .val (roomU r)], m⟩, by simp, ?_, by simp [stillIs], by simp⟩
    have h := is_room_ok n m H hk (g.turn r hr) (g.many r hr) (e := M.length) (fun x hx => g.rest r hr x hx)
    simp only [iu_eq, roomU_eq] at h
    simp [h, hr0.len]
  simp only [roomU_eq] at hc
  have k1 : ((M.length : Int) ≤ 60) := by omega
  have k2 : (1 : Int) ≤ (M.length : Int) := by omega
  simp [LB.d_machines_is_machine, slots0, is_turn_ok (n + 1) m H.toHTurns hk hr0, k1, k2, hc, h0]
theorem sure_machine_ok {M : Mach} (g : Good k M) (h1 : 1 ≤ M.length) (h2 : M.length ≤ 60) : (stOf p (n + 6)).call F.machines_sure_machine [machU M] m = .ok (machU M) m := by
  rw [H.sure_machine.call, run_def _ _ _ rfl]
  simp [LB.d_machines_sure_machine, slots0, is_machine_ok n m H hk g h1 h2]
theorem letters_of_ok {M : Mach} (g : Good k M) (h1 : 1 ≤ M.length) (h2 : M.length ≤ 60) : (stOf p (n + 7)).call F.machines_letters_of [machU M] m = .ok (iu k) m := by
  rw [H.letters_of.call, run_def _ _ _ rfl]
  have := sure_machine_ok n m H hk g h1 h2
  obtain ⟨r0, h0⟩ : ∃ r0, M[0]? = some r0 := ⟨M[0], List.getElem?_eq_getElem (by omega)⟩
  have hr0 : IsTurn k r0.1 := g.turn r0 (List.mem_of_getElem? h0)
  simp [LB.d_machines_letters_of, slots0, this, hr0.len, h0]
end
end MPE
set_option maxRecDepth 100000
set_option maxHeartbeats 2000000
/-! E4: numbered, marks. -/
namespace MPE
open MP
open MM
/-- values of things, by which they are told apart as keys -/
structure Enc {α : Type} [DecidableEq α] (enc : α → U) : Prop where
  eq : ∀ a b, eqU (enc a) (enc b) = decide (a = b)
  key : ∀ (ks : List α) x, kOk (ks.map enc) (enc x) = true
section
variable {α : Type} [DecidableEq α] {enc : α → U} (E : Enc enc)
include E
theorem Enc.mem (x : α) : ∀ ks : List α, memU (enc x) (ks.map enc) = decide (x ∈ ks)
  | [] => by simp [memU]
  | k :: ks => by
    have := Enc.mem x ks
    unfold memU at this ⊢
    rw [List.map_cons, List.any_cons, this, E.eq]
    by_cases h : k = x
    · simp [h]
    · have h' : ¬ x = k := fun e => h e.symm
      simp [h, h']
theorem Enc.dget (x : α) : ∀ (ks : List α) (vs : List U), ks.length ≤ vs.length → MP.dget (ks.map enc) vs (enc x) = if x ∈ ks then vs[ks.idxOf x]? else none
  | [], vs, _ => by cases vs <;> simp [MP.dget]
  | k :: ks, [], h => by simp at h
  | k :: ks, v :: vs, h => by
    rw [List.map_cons]
    unfold MP.dget
    rw [E.eq]
    by_cases h1 : k = x
    · subst h1; simp
    · have h' : ¬ x = k := fun e => h1 e.symm
      have := Enc.dget x ks vs (by simpa using h)
      simp only [h1, decide_false, Bool.false_eq_true, if_false, this, List.mem_cons, h', false_or]
      have e : (k :: ks).idxOf x = ks.idxOf x + 1 := by
        rw [List.idxOf_cons]
        have : (k == x) = false := by simpa using h1
        rw [this]; rfl
      rw [e, List.getElem?_cons_succ]
end
def numD (enc : α → U) (ks : List α) : U := .dic (ks.map enc) ((List.range ks.length).map iu)
structure HNum (p : Prg) : Prop extends HMach p where
  numbered : Has p F.machines_numbered LB.d_machines_numbered
  room_marks : Has p F.machines_room_marks LB.d_machines_room_marks
section
variable {p : Prg} (n : Nat) (m : List U) (H : HNum p)
include H
theorem outs_num {α : Type} [DecidableEq α] : ∀ (xs ks : List α) (v : Slt) (enc : α → U), outs (fun (b : List α × Slt) a => iu (b.1.idxOf a)) (fun b a => (if a ∈ b.1 then b.1 else b.1 ++ [a], .val (enc a))) (ks, v) xs = (num ks xs).map iu := by
  intro xs
  induction xs with
  | nil => intro ks v enc; rfl
  | cons x xs ih =>
    intro ks v enc
    simp only [outs, num]
    by_cases h : x ∈ ks
    · simp only [h, if_true, ih, List.map_cons]
    · simp only [h, if_false, ih, List.map_cons]
      rw [List.idxOf_eq_length h]
theorem numbered_ok {α : Type} [DecidableEq α] {enc : α → U} (E : Enc enc) (xs : List α) (hl : xs.length ≤ 9000) : (stOf p (n + 1)).call F.machines_numbered [.lst (xs.map enc)] m = .ok (.lst ((num [] xs).map iu)) m := by
  rw [H.numbered.call, run_def _ _ _ rfl]
  have hc : evalE (stOf p n) (.comp (.mut .setdefault (.var 1) [(.var 2), (.op .len [(.var 1)])]) (.one 2) 0 [(.var 0)] [2] none) ⟨[.val (.lst (xs.map enc)), .own (numD enc ([] : List α)), .no], m⟩ = .ok (.lst ((num [] xs).map iu)) (backS ⟨[.val (.lst (xs.map enc)), .own (numD enc ([] : List α)), .no], m⟩ ((fun (b : List α × Slt) => ⟨[.val (.lst (xs.map enc)), .own (numD enc b.1), b.2], m⟩) (xs.foldl (fun b a => (if a ∈ b.1 then b.1 else b.1 ++ [a], .val (enc a))) (([] : List α), Slt.no))) [2]) := by
    rw [← outs_num H xs [] .no enc]
    refine ev_compS (avs := [.v (.lst (xs.map enc))]) (xs := xs.map enc) xs enc (fun (b : List α × Slt) => ⟨[.val (.lst (xs.map enc)), .own (numD enc b.1), b.2], m⟩) (fun b a => iu (b.1.idxOf a)) (fun b a => (if a ∈ b.1 then b.1 else b.1 ++ [a], .val (enc a))) (fun b => b.1.Nodup ∧ ∀ a ∈ b.1, a ∈ xs) ([], .no) rfl ⟨by simp, by simp⟩ (by simp) (by simp [walkA, walk]) rfl (by simp [stillIs]) (by simp) (by have := line_ge; omega) ?_
    rintro ⟨ks, v⟩ a ha ⟨nd, sub⟩
    have hlen : ks.length < line := by have := sub_len ks xs nd sub; have := line_ge; omega
    refine ⟨⟨[.val (.lst (xs.map enc)), .own (numD enc ks), .val (enc a)], m⟩, by simp, ?_, by simp [stillIs], ?_⟩
    · have hd := E.dget a ks ((List.range ks.length).map iu) (by simp)
      have hk := E.key ks a
      by_cases h : a ∈ ks
      · have hi := List.idxOf_lt_length_of_mem h
        simp only [h, if_true, List.getElem?_map, List.getElem?_range hi, Option.map_some] at hd
        simp [numD, kindN, Mop.kind, mutF, mutSem, muSetdefault, hk, hlen, hd, setC, h]
      · simp only [h, if_false] at hd
        simp [numD, kindN, Mop.kind, mutF, mutSem, muSetdefault, hk, hlen, hd, setC, h, List.idxOf_eq_length h, List.range_succ]
    · by_cases h : a ∈ ks
      · simp only [h, if_true]; exact ⟨nd, sub⟩
      · simp only [h, if_false]
        refine ⟨?_, ?_⟩
        · rw [List.nodup_append]
          exact ⟨nd, by simp, fun x hx y hy => by simp only [List.mem_singleton] at hy; subst hy; rintro rfl; exact h hx⟩
        · intro x hx
          rcases List.mem_append.1 hx with q | q
          · exact sub x q
          · simp only [List.mem_singleton] at q; subst q; exact ha
  simp only [numD, List.map_nil, List.length_nil, List.range_zero] at hc
  simp [LB.d_machines_numbered, slots0, opDict, opSem, mkDic, hc, back_m]
omit H in
theorem encT : Enc (fun t : List Nat => nts t) := by
  refine ⟨fun a b => by simp, fun ks x => ?_⟩
  have h1 : ∀ l : List Nat, keyTs 6 (l.map iu) = true := fun l => by
    induction l with
    | nil => simp [keyTs]
    | cons a l ih => rw [List.map_cons, keyTs, ih, iu_eq, keyT]; rfl
  have h2 : keyT 7 (nts x) = true := by rw [keyT]; exact h1 x
  unfold kOk
  rw [h2]
  simp [isIS, isTupU]
def pairU (q : Nat × List Nat) : U := .tup [iu q.1, nts q.2]
omit H in
theorem encP : Enc pairU := by
  refine ⟨fun a b => ?_, fun ks x => ?_⟩
  · unfold pairU
    simp only [eqU_tt, eqUs_cc, eqUs_nn, eqU_iu, eqUs_iu, Bool.and_true]
    by_cases h1 : a.1 = b.1 <;> by_cases h2 : a.2 = b.2 <;> simp [h1, h2, Prod.ext_iff]
  · have h1 : ∀ (n : Nat) (l : List Nat), keyTs n (l.map iu) = true := fun n l => by
      induction l with
      | nil => simp [keyTs]
      | cons a l ih => rw [List.map_cons, keyTs, ih, iu_eq, keyT]; rfl
    have h2 : keyT 7 (pairU x) = true := by
      unfold pairU
      rw [keyT, keyTs, keyTs, keyTs, iu_eq, keyT, keyT, h1]; rfl
    unfold kOk
    rw [h2]
    simp [isIS, isTupU, pairU]
omit H in
theorem maxI_of : ∀ (l : List Int) (v : Int), v ∈ l → (∀ x ∈ l, x ≤ v) → maxI l = some v
  | [], v, h, _ => by cases h
  | a :: l, v, h, hv => by
    unfold maxI
    by_cases hl : v ∈ l
    · rw [maxI_of l v hl fun x hx => hv x (by simp [hx])]
      have := hv a (by simp)
      simp only
      congr 1
      omega
    · have e : v = a := by
        rcases List.mem_cons.1 h with h | h
        · exact h
        · exact absurd h hl
      subst e
      cases q : maxI l with
      | none => rfl
      | some b =>
        have hb : b ∈ l := by
          clear h hv hl
          induction l generalizing b with
          | nil => simp [maxI] at q
          | cons c l ih =>
            unfold maxI at q
            split at q
            · cases q; simp
            · rename_i d hd
              have := ih d hd
              simp only [Option.some.injEq] at q
              rcases Int.le_total c d with z | z
              · have e : b = d := by omega
                subst e; simp [this]
              · have e : b = c := by omega
                subst e; simp
        have := hv b (by simp [hb])
        simp only
        congr 1
        omega
omit H in
theorem ints_iu : ∀ l : List Nat, ints? (l.map iu) = some (l.map fun (x : Nat) => (x : Int))
  | [] => rfl
  | a :: l => by
    have := ints_iu l
    simp only [List.map_cons, iu_eq, ints?, this, Option.map_some]
/-- the greatest, by the count -/
structure MaxIs (mk : List Nat) (c : Nat) : Prop where
  pos : 0 < c
  mem : c - 1 ∈ mk
  lt : ∀ a ∈ mk, a < c
omit H in
theorem MaxIs.op {mk : List Nat} {c : Nat} (h : MaxIs mk c) {g : Gst} : opSem g .max1 [.lst (mk.map iu)] = some (.int ((c : Int) - 1)) := by
  show ((ints? (mk.map iu)).bind maxI).map U.int = _
  rw [ints_iu]
  have := maxI_of (mk.map fun (x : Nat) => (x : Int)) ((c : Int) - 1) (List.mem_map.2 ⟨c - 1, h.mem, by have := h.pos; omega⟩) (fun x hx => by
    obtain ⟨y, hy, rfl⟩ := List.mem_map.1 hx
    have := h.lt y hy
    omega)
  simp only [Option.bind_some, this, Option.map_some]
omit H in
theorem maxIs_num {α : Type} [DecidableEq α] {xs : List α} (h : xs ≠ []) : MaxIs (num [] xs) (cnt xs) :=
  ⟨cnt_pos h, num_all (by have := cnt_pos h; omega), fun a ha => num_lt ha⟩
omit H in
theorem marksL_wh (M : Mach) : ∀ (f known c : Nat) (mk : List Nat), marksL M f known c mk = (wh (fun (b : Nat × Nat × List Nat) => decide (b.1 < b.2.1)) (fun b => (b.2.1, cnt (sig M b.2.2), num [] (sig M b.2.2))) f (known, c, mk)).2.2
  | 0, _, _, _ => rfl
  | f + 1, known, c, mk => by
    simp only [marksL, wh, decide_eq_true_eq]
    split
    · exact marksL_wh M f _ _ _
    · rfl
theorem room_marks_ok {k : Nat} {M : Mach} (g : Good k M) (h1 : M ≠ []) (h2 : M.length ≤ 1000) (hk : k ≤ 4) (ht : M.length + 2 < (stOf p (n + 1)).turns) : (stOf p (n + 2)).call F.machines_room_marks [machU M] m = .ok (.lst ((marks M).map iu)) m := by
  rw [H.room_marks.call, run_def _ _ _ rfl]
  have c1 : evalE (stOf p (n + 1)) (.comp (.op .ix [(.var 1), (.lit (.int 0))]) (.one 1) 0 [(.var 0)] [1] none) ⟨[.val (machU M), .no, .no, .no, .no, .no], m⟩ = .ok (.lst (M.map fun r => nts r.1)) ⟨[.val (machU M), .no, .no, .no, .no, .no], m⟩ := by
    refine ev_compM (avs := [.v (machU M)]) (xs := M.map roomU) M roomU (fun r => nts r.1) (by simp) (by simp [walkA, walk]) rfl (by simp [stillIs]) (by simp) (by have := line_ge; omega) ?_
    intro r hr
    exact ⟨⟨[.val (machU M), .val (roomU r), .no, .no, .no, .no], m⟩, by simp, by simp, by simp [stillIs], by simp⟩
  have n1 := numbered_ok n m H encT (M.map (·.1)) (by simp; omega)
  simp only [List.map_map] at n1
  have n1 : (stOf p (n + 1)).call F.machines_numbered [.lst (M.map fun r => nts r.1)] m = .ok (.lst ((num [] (M.map (·.1))).map iu)) m := n1
  let St : Nat × Nat × List Nat → Sta := fun b => ⟨[.val (machU M), .no, .val (.lst (b.2.2.map iu)), .val (iu b.1), .no, .no], m⟩
  have hcond : ∀ b : Nat × Nat × List Nat, (b.2.2.length = M.length ∧ MaxIs b.2.2 b.2.1 ∧ b.2.1 ≤ M.length) → condOf (fun s => evalE (stOf p (n + 1)) (.op .ge [(.op .max1 [(.var 2)]), (.var 3)]) s) (.op .ge [(.op .max1 [(.var 2)]), (.var 3)]) (St b) = .ok (decide (b.1 < b.2.1)) (St b) := by
    rintro ⟨known, c, mk⟩ ⟨i1, i2, i3⟩
    have := i2.op (g := stOf p (n + 1))
    simp [St, this]
    have := i2.pos
    omega
  have hstep : ∀ b : Nat × Nat × List Nat, (b.2.2.length = M.length ∧ MaxIs b.2.2 b.2.1 ∧ b.2.1 ≤ M.length) → decide (b.1 < b.2.1) = true → (execs (stOf p (n + 1)) [.set (.one 3) (.op .add [(.op .max1 [(.var 2)]), (.lit (.int 1))]),
      .set (.one 2) (.call F.machines_numbered [(.comp (.op .tup [(.op .ix [(.var 2), (.var 5)]), (.op .tupOf [(.comp (.op .ix [(.var 2), (.var 4)]) (.one 4) 0 [(.op .ix [(.var 1), (.lit (.int 1))])] [4] none)])]) (.tup [(.one 5), (.one 1)]) 3 [(.var 0)] [5, 1] none)])] (St b) = .ok .next (St (b.2.1, cnt (sig M b.2.2), num [] (sig M b.2.2)))) := by
    rintro ⟨known, c, mk⟩ ⟨i1, i2, i3⟩ _
    have hm := i2.op (g := stOf p (n + 1))
    have e1 : execS (stOf p (n + 1)) (.set (.one 3) (.op .add [(.op .max1 [(.var 2)]), (.lit (.int 1))])) (St (known, c, mk)) = .ok .next (St (c, c, mk)) := by
      simp [St, hm]
    have c2 : evalE (stOf p (n + 1)) (.comp (.op .tup [(.op .ix [(.var 2), (.var 5)]), (.op .tupOf [(.comp (.op .ix [(.var 2), (.var 4)]) (.one 4) 0 [(.op .ix [(.var 1), (.lit (.int 1))])] [4] none)])]) (.tup [(.one 5), (.one 1)]) 3 [(.var 0)] [5, 1] none) (St (c, c, mk)) = .ok (.lst ((sig M mk).map pairU)) (St (c, c, mk)) := by
      have e3 : (sig M mk).map pairU = (M.mapIdx fun i r => (i, r)).map fun (q : Nat × Room) => pairU (mk.getD q.1 0, q.2.2.map fun j => mk.getD j 0) := by
        unfold sig
        rw [map_mapIdx', map_mapIdx']
      rw [e3]
      refine ev_compM (avs := [.v (machU M)]) (xs := (M.map roomU).mapIdx fun i x => .prs [.int i, x]) (M.mapIdx fun i r => (i, r)) (fun q => .prs [iu q.1, roomU q.2]) _ (by simp [St]) (by simp [walkA, walk, St]) (by rw [map_mapIdx', mapIdx_map']; rfl) (by simp [stillIs, St]) (by simp [St]) (by simp; have := line_ge; omega) ?_
      rintro ⟨i, r⟩ hq
      obtain ⟨i', hi', e⟩ := List.mem_mapIdx.1 hq
      simp only [Prod.mk.injEq] at e
      obtain ⟨rfl, rfl⟩ := e
      have hr : M[i'] ∈ M := List.getElem_mem hi'
      have c3 : evalE (stOf p (n + 1)) (.comp (.op .ix [(.var 2), (.var 4)]) (.one 4) 0 [(.op .ix [(.var 1), (.lit (.int 1))])] [4] none) ⟨[.val (machU M), .val (roomU M[i']), .val (.lst (mk.map iu)), .val (iu c), .no, .val (iu i')], m⟩ = .ok (.lst (M[i'].2.map fun j => iu (mk.getD j 0))) ⟨[.val (machU M), .val (roomU M[i']), .val (.lst (mk.map iu)), .val (iu c), .no, .val (iu i')], m⟩ := by
        refine ev_compM (avs := [.v (nts M[i'].2)]) (xs := M[i'].2.map iu) M[i'].2 iu (fun j => iu (mk.getD j 0)) (by simp) (by simp [walkA, walk]) rfl (by simp [stillIs]) (by simp) (by rw [g.many _ hr]; have := line_ge; omega) ?_
        intro j hj
        have hjl : j < mk.length := by rw [i1]; exact g.rest _ hr j hj
        exact ⟨⟨[.val (machU M), .val (roomU M[i']), .val (.lst (mk.map iu)), .val (iu c), .val (iu j), .val (iu i')], m⟩, by simp, by simp [hjl], by simp [stillIs], by simp⟩
      refine ⟨⟨[.val (machU M), .val (roomU M[i']), .val (.lst (mk.map iu)), .val (iu c), .no, .val (iu i')], m⟩, by simp [St], ?_, by simp [stillIs, St], by simp [St]⟩
      have hil : i' < mk.length := by rw [i1]; exact hi'
      have h2 : 2 ≤ line := by have := line_ge; omega
      simp only [iu_eq, roomU_eq] at c3
      simp [c3, hil, okT, h2, pairU]
    have n2 := numbered_ok n m H encP (sig M mk) (by rw [sig_len]; omega)
    rw [x_cons, e1, bind_ok]
    simp only [x_cons, x_nil, x_set, e_call, es_cons, es_nil, c2, bind_ok, b_one]
    simp [St, n2]
  obtain ⟨l1, l2, l3⟩ := turnsW_wh (St := St) (c := fun s => condOf (fun s => evalE (stOf p (n + 1)) (.op .ge [(.op .max1 [(.var 2)]), (.var 3)]) s) (.op .ge [(.op .max1 [(.var 2)]), (.var 3)]) s)
    (f := fun s => execs (stOf p (n + 1)) [.set (.one 3) (.op .add [(.op .max1 [(.var 2)]), (.lit (.int 1))]),
      .set (.one 2) (.call F.machines_numbered [(.comp (.op .tup [(.op .ix [(.var 2), (.var 5)]), (.op .tupOf [(.comp (.op .ix [(.var 2), (.var 4)]) (.one 4) 0 [(.op .ix [(.var 1), (.lit (.int 1))])] [4] none)])]) (.tup [(.one 5), (.one 1)]) 3 [(.var 0)] [5, 1] none)])] s)
    (cond := fun b => decide (b.1 < b.2.1)) (step := fun b => (b.2.1, cnt (sig M b.2.2), num [] (sig M b.2.2))) (μ := fun b => M.length + 1 - b.1) (I := fun b => b.2.2.length = M.length ∧ MaxIs b.2.2 b.2.1 ∧ b.2.1 ≤ M.length) hcond (fun b hi hc => ⟨.inl (hstep b hi hc), ⟨by rw [num_len, sig_len], maxIs_num (by intro e; have := sig_len M b.2.2; rw [e] at this; simp at this; exact h1 (List.length_eq_zero_iff.1 this.symm)), by have := cnt_le (sig M b.2.2); rw [sig_len] at this; exact this⟩, by
      have := hi.2.2
      simp only [decide_eq_true_eq] at hc
      simp only
      omega⟩) (M.length + 2) (stOf p (n + 1)).turns (0, cnt (M.map (·.1)), num [] (M.map (·.1))) (by simp) ht
    ⟨by rw [num_len]; simp, maxIs_num (by simpa using h1), by have := cnt_le (M.map (·.1)); simpa using this⟩
  have em : marks M = (wh (fun (b : Nat × Nat × List Nat) => decide (b.1 < b.2.1)) (fun b => (b.2.1, cnt (sig M b.2.2), num [] (sig M b.2.2))) (M.length + 2) (0, cnt (M.map (·.1)), num [] (M.map (·.1)))).2.2 := marksL_wh M (M.length + 2) 0 _ _
  rw [em]
  revert l1
  generalize wh (fun (b : Nat × Nat × List Nat) => decide (b.1 < b.2.1)) (fun b => (b.2.1, cnt (sig M b.2.2), num [] (sig M b.2.2))) (M.length + 2) (0, cnt (M.map (·.1)), num [] (M.map (·.1))) = bf
  intro l1
  refine run_ret (s := St bf) LB.d_machines_room_marks [machU M] m rfl ?_
  have i1 : execS (stOf p (n + 1)) (.set (.one 2) (.call F.machines_numbered [(.comp (.op .ix [(.var 1), (.lit (.int 0))]) (.one 1) 0 [(.var 0)] [1] none)])) ⟨[.val (machU M), .no, .no, .no, .no, .no], m⟩ = .ok .next ⟨[.val (machU M), .no, .val (.lst ((num [] (M.map (·.1))).map iu)), .no, .no, .no], m⟩ := by
    simp [c1, n1]
  have i2 : execS (stOf p (n + 1)) (.set (.one 3) (.lit (.int 0))) ⟨[.val (machU M), .no, .val (.lst ((num [] (M.map (·.1))).map iu)), .no, .no, .no], m⟩ = .ok .next (St (0, cnt (M.map (·.1)), num [] (M.map (·.1)))) := by
    simp [St]
  have hw := (x_whil (g := stOf p (n + 1)) (s := St (0, cnt (M.map (·.1)), num [] (M.map (·.1)))) _ _).trans l1
  exact (x_seq i1).trans ((x_seq i2).trans ((x_seq hw).trans (x_last (by simp [St]))))
omit H in
theorem encI : Enc iu := by
  refine ⟨fun a b => eqU_iu a b, fun ks x => ?_⟩
  unfold kOk
  have h : (ks.map iu).all isIS = true := by
    rw [List.all_map, List.all_eq_true]
    intro a _
    rfl
  rw [h]
  rfl
end
end MPE
set_option maxRecDepth 100000
set_option maxHeartbeats 4000000
/-! E5: the least machine, walked. -/
namespace MPE
open MP
open MM
theorem dgetN {α : Type} [DecidableEq α] [Inhabited α] {enc : α → U} (E : Enc enc) (ks : List α) (a : α) (h : a ∈ ks) : MP.dget (ks.map enc) ((List.range ks.length).map iu) (enc a) = some (.int (numb (fun a => a) ks a : Nat)) := by
  rw [E.dget a ks _ (by simp), if_pos h, List.getElem?_map, List.getElem?_range (List.idxOf_lt_length_of_mem h)]
  unfold numb
  rw [List.map_id']
  rfl
theorem dput_new {α : Type} [DecidableEq α] {enc : α → U} (E : Enc enc) (ks : List α) (a : α) (h : a ∉ ks) : dput (ks.map enc) ((List.range ks.length).map iu) (enc a) (iu ks.length) = ((ks ++ [a]).map enc, (List.range (ks ++ [a]).length).map iu) := by
  unfold dput
  rw [E.mem]
  simp [h, List.range_succ]
structure HLeast (p : Prg) : Prop extends HNum p where
  least_from : Has p F.machines_least_from LB.d_machines_least_from
  least : Has p F.machines_least LB.d_machines_least
section
variable {p : Prg} (n : Nat) (m : List U) (H : HLeast p)
include H
theorem least_from_ok {k : Nat} {M : Mach} (g : Good k M) (hk : k ≤ 4) {room : Nat} (hr : room < M.length) (h2 : M.length ≤ 1000) (ht : 2000 < p.turns) : (stOf p (n + 3)).call F.machines_least_from [machU M, iu room] m = .ok (machU (leastL M room)) m := by
  have hturns : ∀ n, (stOf p n).turns = p.turns := fun n => by cases n <;> rfl
  have hne : M ≠ [] := by intro e; subst e; simp at hr
  have mk := marks_ok g hne
  rw [H.least_from.call]
  have rm := room_marks_ok n m H.toHNum g hne h2 hk (by rw [hturns]; omega)
  have hlab : ∀ x, x < M.length → (marks M)[x]? = some (mkf M x) := fun x hx => by
    have hl : x < (marks M).length := by rw [mk.len]; exact hx
    unfold mkf
    rw [getD_eq hl, List.getElem?_eq_getElem hl]
  let St : List Nat × Nat × Slt → Sta := fun b => ⟨[.val (machU M), .val (iu room), .val (.lst ((marks M).map iu)), .own (.lst (b.1.map iu)), .own (numD iu (b.1.map (mkf M))), .val (iu b.2.1), b.2.2, .no], m⟩
  let I : List Nat × Nat × Slt → Prop := fun b => ((b.1.map (mkf M)).Nodup ∧ (∀ x ∈ b.1, x < M.length) ∧ notOwn b.2.2 = true)
  have hlen : ∀ met : List Nat, (met.map (mkf M)).Nodup → (∀ x ∈ met, x < M.length) → met.length ≤ M.length := fun met nd hx => by
    have := sub_len (met.map (mkf M)) (List.range M.length) nd fun a ha => by
      obtain ⟨x, hx', rfl⟩ := List.mem_map.1 ha
      exact mkf_mem mk (hx x hx')
    simpa using this
  -- one thing behind a room
  have inner : ∀ (b : List Nat × Nat × Slt) (y : Nat), I b → y < M.length → execs (stOf p (n + 2)) [.ife (.op .notin [(.op .ix [(.var 2), (.var 6)]), (.var 4)]) [.setIx (.var 4) (.op .ix [(.var 2), (.var 6)]) (.op .len [(.var 3)]), .expr (.mut .append (.var 3) [(.var 6)])] []] (St (b.1, b.2.1, .val (iu y))) = .ok .next (St (push (mkf M) b.1 y, b.2.1, .val (iu y))) ∧ I (push (mkf M) b.1 y, b.2.1, .val (iu y)) := by
    rintro ⟨met, at_, v⟩ y ⟨nd, hx, hv⟩ hy
    have hl := hlab y hy
    have hk := encI.key (met.map (mkf M)) (mkf M y)
    have hmem := encI.mem (mkf M y) (met.map (mkf M))
    have hml := hlen met nd hx
    have hl2 : met.length < line := by have := line_ge; omega
    refine ⟨?_, push_nodup nd y, fun x hx' => ?_, rfl⟩
    · by_cases h : mkf M y ∈ met.map (mkf M)
      · have e : push (mkf M) met y = met := by unfold push; rw [if_pos h]
        simp only [h, decide_true] at hmem
        simp only [iu_eq, List.map_map] at hk hmem
        simp [St, numD, hl, hk, hmem, e]
      · have e : push (mkf M) met y = met ++ [y] := by unfold push; rw [if_neg h]
        have hd := dput_new encI (met.map (mkf M)) (mkf M y) h
        simp only [h, decide_false] at hmem
        simp only [iu_eq, List.length_map, List.map_map, List.map_append, List.map_cons, List.map_nil, List.length_append, List.length_cons, List.length_nil, Nat.zero_add] at hk hmem hd
        simp [St, numD, hl, hk, hmem, e, mutSem, muSetIx, muAppend, setC, mutF, kindN, Mop.kind, hd, hl2]
    · rcases push_sub met y hx' with q | q
      · exact hx x q
      · rw [q]; exact hy
  have hcond : ∀ b, I b → condOf (fun s => evalE (stOf p (n + 2)) (.op .lt [(.var 5), (.op .len [(.var 3)])]) s) (.op .lt [(.var 5), (.op .len [(.var 3)])]) (St b) = .ok (decide (b.2.1 < b.1.length)) (St b) := by
    rintro ⟨met, at_, v⟩ _
    simp [St]
  have hfor : ∀ b, I b → b.2.1 < b.1.length → execS (stOf p (n + 2)) (.forr (.one 6) 0 [(.op .ix [(.op .ix [(.var 0), (.op .ix [(.var 3), (.var 5)])]), (.lit (.int 1))])] [.ife (.op .notin [(.op .ix [(.var 2), (.var 6)]), (.var 4)]) [.setIx (.var 4) (.op .ix [(.var 2), (.var 6)]) (.op .len [(.var 3)]), .expr (.mut .append (.var 3) [(.var 6)])] []]) (St b) = .ok .next (St ((rs M (b.1.getD b.2.1 default)).foldl (push (mkf M)) b.1, b.2.1, (rs M (b.1.getD b.2.1 default)).foldl (fun _ y => .val (iu y)) b.2.2)) ∧ I ((rs M (b.1.getD b.2.1 default)).foldl (push (mkf M)) b.1, b.2.1, (rs M (b.1.getD b.2.1 default)).foldl (fun _ y => .val (iu y)) b.2.2) := by
    rintro ⟨met, at_, v⟩ ⟨nd, hx, hv⟩ hlt
    simp only at hlt ⊢
    have hx0 : met[at_] < M.length := hx _ (List.getElem_mem hlt)
    have hM : M[met[at_]]? = some M[met[at_]] := List.getElem?_eq_getElem hx0
    have hrs : rs M (met.getD at_ default) = M[met[at_]].2 := by unfold rs; rw [getD_eq hlt, getD_eq hx0]
    have ev : evalAs (stOf p (n + 2)) [(.op .ix [(.op .ix [(.var 0), (.op .ix [(.var 3), (.var 5)])]), (.lit (.int 1))])] (St (met, at_, v)) = .ok [.v (nts (rs M (met.getD at_ default)))] (St (met, at_, v)) := by
      rw [hrs]
      simp [St, hlt, hM]
    have := turnsF_fold (St := fun (b : List Nat × Slt) => St (b.1, at_, b.2)) (step := fun b (u : U) => match u with | .int i => (push (mkf M) b.1 i.toNat, .val u) | _ => b) (I := fun b => I (b.1, at_, b.2))
      (f := fun x s1 => match bindT (.one 6) x s1 with
      | some s2 => (execs (stOf p (n + 2)) [.ife (.op .notin [(.op .ix [(.var 2), (.var 6)]), (.var 4)]) [.setIx (.var 4) (.op .ix [(.var 2), (.var 6)]) (.op .len [(.var 3)]), .expr (.mut .append (.var 3) [(.var 6)])] []] s2).bind fun fl s3 => if stillIs (St (met, at_, v)) s3 [.v (nts (rs M (met.getD at_ default)))] then .ok fl s3 else .stuck
      | none => .stuck) ((rs M (met.getD at_ default)).map iu) (met, v) ⟨nd, hx, hv⟩ (by
        rintro ⟨met1, v1⟩ x hxm hI
        obtain ⟨y, hy, rfl⟩ := List.mem_map.1 hxm
        have hyM : y < M.length := by rw [hrs] at hy; exact g.rest _ (List.getElem_mem hx0) y hy
        obtain ⟨q1, q2⟩ := inner (met1, at_, v1) y hI hyM
        have hput : (St (met1, at_, v1)).put 6 (.val (iu y)) = St (met1, at_, .val (iu y)) := by simp [St]
        refine ⟨.inl ?_, ?_⟩
        · simp only [b_one, hput]
          simp only at q1
          rw [q1]
          simp [stillIs]
        · simpa using q2)
    have fe : ∀ (l : List Nat) (b : List Nat × Slt), (l.map iu).foldl (fun b (u : U) => match u with | .int i => (push (mkf M) b.1 i.toNat, Slt.val u) | _ => b) b = (l.foldl (push (mkf M)) b.1, l.foldl (fun _ y => .val (iu y)) b.2) := by
      intro l
      induction l with
      | nil => intro b; rfl
      | cons a l ih =>
        intro b
        rw [List.map_cons, List.foldl_cons, ih]
        simp
    rw [fe] at this
    refine ⟨?_, this.2⟩
    rw [x_forr, ev, bind_ok]
    have hwalk : walkA 0 [.v (nts (rs M (met.getD at_ default)))] (St (met, at_, v)) = some ((rs M (met.getD at_ default)).map iu) := by simp [walkA, walk]
    rw [hwalk]
    exact this.1
  have hstep : ∀ b, I b → decide (b.2.1 < b.1.length) = true → execs (stOf p (n + 2)) [.forr (.one 6) 0 [(.op .ix [(.op .ix [(.var 0), (.op .ix [(.var 3), (.var 5)])]), (.lit (.int 1))])] [.ife (.op .notin [(.op .ix [(.var 2), (.var 6)]), (.var 4)]) [.setIx (.var 4) (.op .ix [(.var 2), (.var 6)]) (.op .len [(.var 3)]), .expr (.mut .append (.var 3) [(.var 6)])] []], .aug 5 .add (.lit (.int 1))] (St b) = .ok .next (St ((rs M (b.1.getD b.2.1 default)).foldl (push (mkf M)) b.1, b.2.1 + 1, (rs M (b.1.getD b.2.1 default)).foldl (fun _ y => .val (iu y)) b.2.2)) := by
    intro b hi hc
    obtain ⟨q1, q2⟩ := hfor b hi (by simpa using hc)
    refine (x_seq q1).trans ((x_seq ?_).trans x_nil)
    simp [St, opAug]
  obtain ⟨l1, l2, l3⟩ := turnsW_wh (St := St) (c := fun s => condOf (fun s => evalE (stOf p (n + 2)) (.op .lt [(.var 5), (.op .len [(.var 3)])]) s) (.op .lt [(.var 5), (.op .len [(.var 3)])]) s)
    (f := fun s => execs (stOf p (n + 2)) [.forr (.one 6) 0 [(.op .ix [(.op .ix [(.var 0), (.op .ix [(.var 3), (.var 5)])]), (.lit (.int 1))])] [.ife (.op .notin [(.op .ix [(.var 2), (.var 6)]), (.var 4)]) [.setIx (.var 4) (.op .ix [(.var 2), (.var 6)]) (.op .len [(.var 3)]), .expr (.mut .append (.var 3) [(.var 6)])] []], .aug 5 .add (.lit (.int 1))] s)
    (cond := fun b => decide (b.2.1 < b.1.length)) (step := fun b => ((rs M (b.1.getD b.2.1 default)).foldl (push (mkf M)) b.1, b.2.1 + 1, (rs M (b.1.getD b.2.1 default)).foldl (fun _ y => .val (iu y)) b.2.2)) (μ := fun b => M.length + 1 - b.2.1) (I := I) hcond
    (fun b hi hc => ⟨.inl (hstep b hi hc), (hfor b hi (by simpa using hc)).2, by
      have := hlen b.1 hi.1 hi.2.1
      simp only [decide_eq_true_eq] at hc
      simp only
      omega⟩) (M.length + 1) (stOf p (n + 2)).turns ([room], 0, .no) (by simp) (by rw [hturns]; omega) ⟨by simp, by simpa using hr, rfl⟩
  have proj := wh_proj (fun (b : List Nat × Nat × Slt) => (b.1, b.2.1)) (cond := fun b => decide (b.2.1 < b.1.length)) (step := fun b => ((rs M (b.1.getD b.2.1 default)).foldl (push (mkf M)) b.1, b.2.1 + 1, (rs M (b.1.getD b.2.1 default)).foldl (fun _ y => Slt.val (iu y)) b.2.2)) (cond' := bcond) (step' := bstep (lab := mkf M) (rs M)) (fun b => rfl) (fun b => rfl) (M.length + 1) ([room], 0, .no)
  obtain ⟨met, h1, h2', h3, h4⟩ := bfsM_ok g mk hr
  have e1 : (wh (fun (b : List Nat × Nat × Slt) => decide (b.2.1 < b.1.length)) (fun b => ((rs M (b.1.getD b.2.1 default)).foldl (push (mkf M)) b.1, b.2.1 + 1, (rs M (b.1.getD b.2.1 default)).foldl (fun _ y => Slt.val (iu y)) b.2.2)) (M.length + 1) ([room], 0, .no)).1 = met := by
    have := congrArg Prod.fst (proj.trans h1)
    exact this
  revert l1 e1 l3
  generalize wh (fun (b : List Nat × Nat × Slt) => decide (b.2.1 < b.1.length)) (fun b => ((rs M (b.1.getD b.2.1 default)).foldl (push (mkf M)) b.1, b.2.1 + 1, (rs M (b.1.getD b.2.1 default)).foldl (fun _ y => Slt.val (iu y)) b.2.2)) (M.length + 1) ([room], 0, .no) = bf
  intro l1 l3 e1
  obtain ⟨bm, ba, bv⟩ := bf
  have hbv : notOwn bv = true := l3.2.2
  simp only at e1
  subst e1
  refine run_ret (s := St (bm, ba, bv)) LB.d_machines_least_from [machU M, iu room] m rfl ?_
  have i1 : execS (stOf p (n + 2)) (.set (.one 2) (.call F.machines_room_marks [(.var 0)])) ⟨[.val (machU M), .val (iu room), .no, .no, .no, .no, .no, .no], m⟩ = .ok .next ⟨[.val (machU M), .val (iu room), .val (.lst ((marks M).map iu)), .no, .no, .no, .no, .no], m⟩ := by
    simp [rm]
  have h1l : 1 ≤ line := by have := line_ge; omega
  have i2 : execS (stOf p (n + 2)) (.own 3 (.op .lst [(.var 1)])) ⟨[.val (machU M), .val (iu room), .val (.lst ((marks M).map iu)), .no, .no, .no, .no, .no], m⟩ = .ok .next ⟨[.val (machU M), .val (iu room), .val (.lst ((marks M).map iu)), .own (.lst [iu room]), .no, .no, .no, .no], m⟩ := by
    simp [okL, h1l]
  have hlr := hlab room hr
  have i3 : execS (stOf p (n + 2)) (.own 4 (.op (.dict 1) [(.op .ix [(.var 2), (.var 1)]), (.lit (.int 0))])) ⟨[.val (machU M), .val (iu room), .val (.lst ((marks M).map iu)), .own (.lst [iu room]), .no, .no, .no, .no], m⟩ = .ok .next ⟨[.val (machU M), .val (iu room), .val (.lst ((marks M).map iu)), .own (.lst [iu room]), .own (numD iu [mkf M room]), .no, .no, .no], m⟩ := by
    simp [hlr, opDict, mkDic, kOk, isIS, dput, memU, numD]
  have i4 : execS (stOf p (n + 2)) (.set (.one 5) (.lit (.int 0))) ⟨[.val (machU M), .val (iu room), .val (.lst ((marks M).map iu)), .own (.lst [iu room]), .own (numD iu [mkf M room]), .no, .no, .no], m⟩ = .ok .next (St ([room], 0, .no)) := by
    simp [St]
  have hw := (x_whil (g := stOf p (n + 2)) (s := St ([room], 0, .no)) _ _).trans l1
  have outer : evalE (stOf p (n + 2)) (.comp (.op .tup [(.op .ix [(.op .ix [(.var 0), (.var 7)]), (.lit (.int 0))]), (.op .tupOf [(.comp (.op .ix [(.var 4), (.op .ix [(.var 2), (.var 6)])]) (.one 6) 0 [(.op .ix [(.op .ix [(.var 0), (.var 7)]), (.lit (.int 1))])] [6] none)])]) (.one 7) 0 [(.var 3)] [7] none) (St (bm, ba, bv)) = .ok (.lst (bm.map fun x => roomU (roomOf M bm x))) (St (bm, ba, bv)) := by
    refine ev_compM (avs := [.own 3]) (xs := bm.map iu) bm iu (fun x => roomU (roomOf M bm x)) (by simp [St]) (by simp [walkA, walk, St]) rfl (by simp [stillIs, St]) (by simp [St]) (by have := line_ge; omega) ?_
    intro x hx
    have hxM := h3 x hx
    have hM : M[x]? = some M[x] := List.getElem?_eq_getElem hxM
    have hrs : rs M x = M[x].2 := by unfold rs; rw [getD_eq hxM]
    have htn : tn M x = M[x].1 := by unfold tn; rw [getD_eq hxM]
    obtain ⟨i, hi, ei⟩ := List.mem_iff_getElem.1 hx
    have closed : ∀ y ∈ rs M x, mkf M y ∈ bm.map (mkf M) := fun y hy => h2'.cl i hi y (by simp only; rw [getD_eq hi, ei]; exact hy)
    have inner2 : evalE (stOf p (n + 2)) (.comp (.op .ix [(.var 4), (.op .ix [(.var 2), (.var 6)])]) (.one 6) 0 [(.op .ix [(.op .ix [(.var 0), (.var 7)]), (.lit (.int 1))])] [6] none) ⟨[.val (machU M), .val (iu room), .val (.lst ((marks M).map iu)), .own (.lst (bm.map iu)), .own (numD iu (bm.map (mkf M))), .val (iu ba), bv, .val (iu x)], m⟩ = .ok (.lst ((rs M x).map fun y => iu (numb (mkf M) bm y))) ⟨[.val (machU M), .val (iu room), .val (.lst ((marks M).map iu)), .own (.lst (bm.map iu)), .own (numD iu (bm.map (mkf M))), .val (iu ba), bv, .val (iu x)], m⟩ := by
      rw [hrs] at closed ⊢
      refine ev_compM (avs := [.v (nts M[x].2)]) (xs := M[x].2.map iu) M[x].2 iu (fun y => iu (numb (mkf M) bm y)) (by simp [hM]) (by simp [walkA, walk]) rfl (by simp [stillIs]) (by rw [List.all_cons, ok_not (by exact hbv)]; rfl) (by rw [g.many _ (List.getElem_mem hxM)]; have := line_ge; omega) ?_
      intro y hy
      have hyM : y < M.length := g.rest _ (List.getElem_mem hxM) y hy
      have hl := hlab y hyM
      have hkk := encI.key (bm.map (mkf M)) (mkf M y)
      have hd := encI.dget (mkf M y) (bm.map (mkf M)) ((List.range (bm.map (mkf M)).length).map iu) (by simp)
      have hc := closed y hy
      have hil : numb (mkf M) bm y < bm.length := by have := List.idxOf_lt_length_of_mem hc; simpa [numb] using this
      rw [if_pos hc, List.getElem?_map, List.length_map, List.getElem?_range (by exact hil)] at hd
      simp only [iu_eq, List.map_map, Option.map_some] at hkk hd
      refine ⟨⟨[.val (machU M), .val (iu room), .val (.lst ((marks M).map iu)), .own (.lst (bm.map iu)), .own (numD iu (bm.map (mkf M))), .val (iu ba), .val (iu y), .val (iu x)], m⟩, by simp, ?_, by simp [stillIs], by simp⟩
      simp [hl, numD, hkk, hd, numb]
    refine ⟨⟨[.val (machU M), .val (iu room), .val (.lst ((marks M).map iu)), .own (.lst (bm.map iu)), .own (numD iu (bm.map (mkf M))), .val (iu ba), bv, .val (iu x)], m⟩, by simp [St], ?_, by simp [stillIs, St], by simp [St]⟩
    have h2l : 2 ≤ line := by have := line_ge; omega
    simp only [iu_eq] at inner2
    simp [hM, inner2, okT, h2l, roomOf, htn]
  refine (x_seq i1).trans ((x_seq i2).trans ((x_seq i3).trans ((x_seq i4).trans ((x_seq hw).trans (x_last ?_)))))
  have el : leastL M room = bm.map (roomOf M bm) := by unfold leastL; rw [h1]
  rw [x_ret, e_tupOf, as_cons, arg_comp, outer]
  simp [el, Function.comp_def]
end
end MPE
set_option maxRecDepth 100000
set_option maxHeartbeats 4000000
/-! E6: two machines put together, walked. -/
namespace MPE
open MP
open MM
def prU (q : Nat × Nat) : U := .tup [iu q.1, iu q.2]
theorem prU_eq (q : Nat × Nat) : prU q = .tup [.int q.1, .int q.2] := Eq.trans rfl rfl
theorem encQ : Enc prU := by
  refine ⟨fun a b => ?_, fun ks x => ?_⟩
  · unfold prU
    simp only [eqU_tt, eqUs_cc, eqUs_nn, eqU_iu, Bool.and_true]
    by_cases h1 : a.1 = b.1 <;> by_cases h2 : a.2 = b.2 <;> simp [h1, h2, Prod.ext_iff]
  · have h2 : keyT 7 (prU x) = true := by
      unfold prU
      rw [keyT, keyTs, keyTs, keyTs, iu_eq, iu_eq, keyT, keyT]; rfl
    unfold kOk
    rw [h2]
    simp [isIS, isTupU, prU]
theorem dput_newQ (ks : List (Nat × Nat)) (a : Nat × Nat) (h : a ∉ ks) : dput (ks.map prU) ((List.range ks.length).map iu) (prU a) (iu ks.length) = ((ks ++ [a]).map prU, (List.range (ks ++ [a]).length).map iu) := dput_new encQ ks a h
theorem fold_leads {X β : Type} [DecidableEq β] [Inhabited X] {lab : X → β} : ∀ (ys met : List X) (ld : List Nat), ys.foldl (fun (b : List X × List Nat) y => (push lab b.1 y, b.2 ++ [numb lab (push lab b.1 y) y])) (met, ld) = (ys.foldl (push lab) met, ld ++ ys.map (numb lab (ys.foldl (push lab) met)))
  | [], met, ld => by simp
  | y :: ys, met, ld => by
    rw [List.foldl_cons, fold_leads ys]
    obtain ⟨r, hr⟩ := fold_pre (lab := lab) ys (push lab met y)
    have e : numb lab (ys.foldl (push lab) (push lab met y)) y = numb lab (push lab met y) y := by rw [hr]; exact numb_pre (push_mem met y)
    simp only [List.foldl_cons, List.map_cons, e, List.append_assoc, List.singleton_append]
structure HPair (p : Prg) : Prop extends HLeast p where
  paired : Has p F.products_paired LB.d_products_paired
  both : Has p F.products_both LB.d_products_both
def pBody : List MS := [.set (.one 12) (.op .tup [(.var 11), (.op .ix [(.op .ix [(.op .ix [(.var 1), (.var 6)]), (.lit (.int 1))]), (.op .ix [(.var 7), (.var 10)])])]),
  .ife (.op .notin [(.var 12), (.var 3)]) [.setIx (.var 3) (.var 12) (.op .len [(.var 2)]),
  .expr (.mut .append (.var 2) [(.var 12)])] [],
  .expr (.mut .append (.var 9) [(.op .ix [(.var 3), (.var 12)])])]
def pLoop : List MS := [.set (.tup [(.one 5), (.one 6)]) (.op .ix [(.var 2), (.op .len [(.var 4)])]),
  .set (.tup [(.one 7), (.one 8)]) (.op .ix [(.var 0), (.var 5)]),
  .own 9 (.op .lst []),
  .forr (.tup [(.one 10), (.one 11)]) 3 [(.var 8)] pBody,
  .ife (.op .gt [(.op .len [(.var 2)]), (.glo G.MOST_ROOMS (.int 60))]) [.raise C.TooMany []] [],
  .expr (.mut .append (.var 4) [(.op .tup [(.call F.turns_turn_after [(.var 7), (.op .ix [(.op .ix [(.var 1), (.var 6)]), (.lit (.int 0))])]), (.op .tupOf [(.var 9)])])])]
theorem paired_body : LB.d_products_paired = { params := 2, slots := 13, body := [.own 2 (.op .lst [(.op .tup [(.lit (.int 0)), (.lit (.int 0))])]),
  .own 3 (.op (.dict 1) [(.op .tup [(.lit (.int 0)), (.lit (.int 0))]), (.lit (.int 0))]),
  .own 4 (.op .lst []),
  .whil (.op .lt [(.op .len [(.var 4)]), (.op .len [(.var 2)])]) pLoop,
  .ret (.op .tupOf [(.var 4)])] } := rfl
section
variable {p : Prg} (n : Nat) (m : List U) (H : HPair p) {k : Nat} (hk : K24 k) {A B : Mach} (gA : Good k A) (gB : Good k B) (hA : 0 < A.length) (hB : 0 < B.length)
/-- the state ahead of a turn -/
def RP (k : Nat) (A B : Mach) (m : List U) (b : List (Nat × Nat) × Nat) (s : Sta) : Prop := BInv (lab := fun q : Nat × Nat => q) (succP k A B) (0, 0) b ∧ (∀ q ∈ b.1, q.1 < A.length ∧ q.2 < B.length) ∧ b.1.length ≤ 4000 ∧
  ∃ j5 j6 j7 j8 j9 j10 j11 j12, s = ⟨[.val (machU A), .val (machU B), .own (.lst (b.1.map prU)), .own (numD prU b.1), .own (.lst ((b.1.take b.2).map fun q => roomU (roomP k A B b.1 q))), j5, j6, j7, j8, j9, j10, j11, j12], m⟩
/-- .. within -/
def RI (k : Nat) (A B : Mach) (m : List U) (rooms : List U) (i j : Nat) (b : List (Nat × Nat) × List Nat) (s : Sta) : Prop := b.1.length ≤ 4000 ∧ (b.1.map fun q : Nat × Nat => q).Nodup ∧ (∀ q ∈ b.1, q.1 < A.length ∧ q.2 < B.length) ∧ ∃ j10 j11 j12, s = ⟨[.val (machU A), .val (machU B), .own (.lst (b.1.map prU)), .own (numD prU b.1), .own (.lst rooms), .val (iu i), .val (iu j), .val (nts (tn A i)), .val (nts (rs A i)), .own (.lst (b.2.map iu)), j10, j11, j12], m⟩
include gA gB hA hB hk in
theorem pair_inner (g : Gst) (hN : A.length * B.length ≤ 3900) {rooms : List U} {i j : Nat} (hi : i < A.length) (hj : j < B.length) (b : List (Nat × Nat) × List Nat) (hb2 : b.2.length ≤ 1000) (s : Sta) (l : Nat) (hl : l < k) (r : RI k A B m rooms i j b s) :
    ∃ s2 s', bindT (.tup [(.one 10), (.one 11)]) (.prs [iu l, iu (to A i l)]) s = some s2 ∧ execs g pBody s2 = .ok .next s' ∧ RI k A B m rooms i j (push (fun q : Nat × Nat => q) b.1 (to A i l, to B j ((tn A i).getD l 0)), b.2 ++ [numb (fun q : Nat × Nat => q) (push (fun q : Nat × Nat => q) b.1 (to A i l, to B j ((tn A i).getD l 0))) (to A i l, to B j ((tn A i).getD l 0))]) s' := by
  obtain ⟨met, ld⟩ := b
  obtain ⟨hm, nd, hx, j10, j11, j12, rfl⟩ := r
  have tA := gA.tn hi
  have lA : (tn A i).length = k := tA.len
  have hA1 : l < (tn A i).length := by omega
  have eA : (tn A i)[l]? = some ((tn A i).getD l 0) := by rw [getD_eq hA1, List.getElem?_eq_getElem hA1]
  have hBj : B[j]? = some B[j] := List.getElem?_eq_getElem hj
  have erB : rs B j = B[j].2 := by unfold rs; rw [getD_eq hj]
  have hto : to B j ((tn A i).getD l 0) = B[j].2.getD ((tn A i).getD l 0) 0 := by unfold to; rw [erB]
  have hlt : (tn A i).getD l 0 < k := turn_lt tA hl
  have hlB : (tn A i).getD l 0 < B[j].2.length := by rw [gB.many _ (List.getElem_mem hj)]; exact hlt
  have eB : B[j].2[(tn A i).getD l 0]? = some (to B j ((tn A i).getD l 0)) := by rw [hto, getD_eq hlB, List.getElem?_eq_getElem hlB]
  have hq : (to A i l) < A.length ∧ to B j ((tn A i).getD l 0) < B.length := ⟨gA.to hi hl, gB.to hj hlt⟩
  generalize hxx : (tn A i).getD l 0 = x at *
  generalize hqq : (to A i l, to B j x) = q
  have q1 : q.1 = to A i l := by rw [← hqq]
  have q2 : q.2 = to B j x := by rw [← hqq]
  simp only at hm nd hx hb2
  refine ⟨⟨[.val (machU A), .val (machU B), .own (.lst (met.map prU)), .own (numD prU met), .own (.lst rooms), .val (iu i), .val (iu j), .val (nts (tn A i)), .val (nts (rs A i)), .own (.lst (ld.map iu)), .val (iu l), .val (iu (to A i l)), j12], m⟩,
    ⟨[.val (machU A), .val (machU B), .own (.lst ((push (fun q : Nat × Nat => q) met q).map prU)), .own (numD prU (push (fun q : Nat × Nat => q) met q)), .own (.lst rooms), .val (iu i), .val (iu j), .val (nts (tn A i)), .val (nts (rs A i)), .own (.lst ((ld ++ [numb (fun q : Nat × Nat => q) (push (fun q : Nat × Nat => q) met q) q]).map iu)), .val (iu l), .val (iu (to A i l)), .val (prU q)], m⟩, by simp, ?_, ?_⟩
  · have h2 : 2 ≤ line := by have := line_ge; omega
    have s1 : execS g (.set (.one 12) (.op .tup [(.var 11), (.op .ix [(.op .ix [(.op .ix [(.var 1), (.var 6)]), (.lit (.int 1))]), (.op .ix [(.var 7), (.var 10)])])])) ⟨[.val (machU A), .val (machU B), .own (.lst (met.map prU)), .own (numD prU met), .own (.lst rooms), .val (iu i), .val (iu j), .val (nts (tn A i)), .val (nts (rs A i)), .own (.lst (ld.map iu)), .val (iu l), .val (iu (to A i l)), j12], m⟩ = .ok .next ⟨[.val (machU A), .val (machU B), .own (.lst (met.map prU)), .own (numD prU met), .own (.lst rooms), .val (iu i), .val (iu j), .val (nts (tn A i)), .val (nts (rs A i)), .own (.lst (ld.map iu)), .val (iu l), .val (iu (to A i l)), .val (prU q)], m⟩ := by
      simp [hBj, eA, eB, okT, h2, prU_eq, q1, q2]
    refine (x_seq s1).trans ?_
    have hkey := encQ.key met q
    have hmem := encQ.mem q met
    have hml : met.length < line := by have := line_ge; omega
    have hll : ld.length < line := by have := line_ge; omega
    have hc : cont m (prU q) = prU q := rfl
    have tail : ∀ met', met'.length ≤ 4000 → q ∈ met' → execs g [.expr (.mut .append (.var 9) [(.op .ix [(.var 3), (.var 12)])])] ⟨[.val (machU A), .val (machU B), .own (.lst (met'.map prU)), .own (numD prU met'), .own (.lst rooms), .val (iu i), .val (iu j), .val (nts (tn A i)), .val (nts (rs A i)), .own (.lst (ld.map iu)), .val (iu l), .val (iu (to A i l)), .val (prU q)], m⟩ = .ok .next ⟨[.val (machU A), .val (machU B), .own (.lst (met'.map prU)), .own (numD prU met'), .own (.lst rooms), .val (iu i), .val (iu j), .val (nts (tn A i)), .val (nts (rs A i)), .own (.lst ((ld ++ [numb (fun q : Nat × Nat => q) met' q]).map iu)), .val (iu l), .val (iu (to A i l)), .val (prU q)], m⟩ := fun met' hml' h => by
      have hkey := encQ.key met' q
      have hd := dgetN encQ met' q h
      simp [numD, hkey, hd, hc, kindN, Mop.kind, mutF, mutSem, muAppend, hll, setC]
    by_cases h : q ∈ met
    · have e : push (fun q : Nat × Nat => q) met q = met := by unfold push; rw [if_pos (by simpa using h)]
      simp only [h, decide_true] at hmem
      refine (x_seq (s' := ⟨[.val (machU A), .val (machU B), .own (.lst (met.map prU)), .own (numD prU met), .own (.lst rooms), .val (iu i), .val (iu j), .val (nts (tn A i)), .val (nts (rs A i)), .own (.lst (ld.map iu)), .val (iu l), .val (iu (to A i l)), .val (prU q)], m⟩) ((x_ifF (s' := ⟨[.val (machU A), .val (machU B), .own (.lst (met.map prU)), .own (numD prU met), .own (.lst rooms), .val (iu i), .val (iu j), .val (nts (tn A i)), .val (nts (rs A i)), .own (.lst (ld.map iu)), .val (iu l), .val (iu (to A i l)), .val (prU q)], m⟩) ?_).trans x_nil)).trans ?_
      · simp [numD, hkey, hmem, hc]
      · rw [e]
        exact tail met hm h
    · have e : push (fun q : Nat × Nat => q) met q = met ++ [q] := by unfold push; rw [if_neg (by simpa using h)]
      simp only [h, decide_false] at hmem
      have hd := dput_newQ met q h
      refine (x_seq (s' := ⟨[.val (machU A), .val (machU B), .own (.lst ((met ++ [q]).map prU)), .own (numD prU (met ++ [q])), .own (.lst rooms), .val (iu i), .val (iu j), .val (nts (tn A i)), .val (nts (rs A i)), .own (.lst (ld.map iu)), .val (iu l), .val (iu (to A i l)), .val (prU q)], m⟩) ((x_ifT (s' := ⟨[.val (machU A), .val (machU B), .own (.lst (met.map prU)), .own (numD prU met), .own (.lst rooms), .val (iu i), .val (iu j), .val (nts (tn A i)), .val (nts (rs A i)), .own (.lst (ld.map iu)), .val (iu l), .val (iu (to A i l)), .val (prU q)], m⟩) ?_).trans ?_)).trans ?_
      · simp [numD, hkey, hmem, hc]
      · simp only [iu_eq] at hd
        simp [numD, hkey, hmem, hc, mutSem, muSetIx, hml, hd, setC, kindN, Mop.kind, mutF, muAppend]
      · rw [e]
        have hl2 : (met ++ [q]).length ≤ 4000 := by
          have nd' := push_nodup (lab := fun q : Nat × Nat => q) nd q
          rw [e] at nd'
          have := sub_len ((met ++ [q]).map fun q : Nat × Nat => q) (allP A B) nd' fun z hz => by
            obtain ⟨w, hw, rfl⟩ := List.mem_map.1 hz
            rcases List.mem_append.1 hw with u | u
            · exact mem_allP.2 (hx w u)
            · simp only [List.mem_singleton] at u
              subst u
              exact mem_allP.2 ⟨by rw [q1]; exact hq.1, by rw [q2]; exact hq.2⟩
          rw [allP_len, List.length_map] at this
          omega
        exact tail (met ++ [q]) hl2 (by simp)
  · have nd' := push_nodup (lab := fun q : Nat × Nat => q) nd q
    refine ⟨?_, nd', fun w hw => ?_, .val (iu l), .val (iu (to A i l)), .val (prU q), rfl⟩
    · have := sub_len ((push (fun q : Nat × Nat => q) met q).map fun q : Nat × Nat => q) (allP A B) nd' fun z hz => by
        obtain ⟨w, hw, rfl⟩ := List.mem_map.1 hz
        rcases push_sub met q hw with u | u
        · exact mem_allP.2 (hx w u)
        · subst u
          exact mem_allP.2 ⟨by rw [q1]; exact hq.1, by rw [q2]; exact hq.2⟩
      rw [allP_len, List.length_map] at this
      simp only
      omega
    · rcases push_sub met q hw with u | u
      · exact hx w u
      · subst u
        exact ⟨by rw [q1]; exact hq.1, by rw [q2]; exact hq.2⟩
include gA gB hA hB hk in
theorem pair_for (g : Gst) (hN : A.length * B.length ≤ 3900) {rooms : List U} {i j : Nat} (hi : i < A.length) (hj : j < B.length) (met : List (Nat × Nat)) (s : Sta) (r : RI k A B m rooms i j (met, []) s) :
    ∃ s', execS g (.forr (.tup [(.one 10), (.one 11)]) 3 [(.var 8)] pBody) s = .ok .next s' ∧ RI k A B m rooms i j ((succP k A B (i, j)).foldl (push fun q : Nat × Nat => q) met, (succP k A B (i, j)).map (numb (fun q : Nat × Nat => q) ((succP k A B (i, j)).foldl (push fun q : Nat × Nat => q) met))) s' := by
  have hsl : evalAs g [(.var 8)] s = .ok [.v (nts (rs A i))] s := by
    obtain ⟨_, _, _, j10, j11, j12, rfl⟩ := r
    simp
  have hwalk : walkA 3 [.v (nts (rs A i))] s = some ((List.range k).map fun l => .prs [iu l, iu (to A i l)]) := by
    have hl : (rs A i).length = k := gA.rsl hi
    have : ((rs A i).map iu).mapIdx (fun i x => U.prs [.int i, x]) = (List.range k).map fun l => .prs [iu l, iu (to A i l)] := by
      apply List.ext_getElem
      · simp [hl]
      · intro x h1 h2
        have hx : x < (rs A i).length := by simpa using h1
        simp [to, getD_eq hx, hx]
    simp only [walkA, List.all_cons, ok_v, List.all_nil, Bool.and_self, if_true, List.map_cons, List.map_nil, get_v, cont_tup, walk, this]
  obtain ⟨s', h1, h2, _⟩ := turnsF_relN (R := fun n b s => RI k A B m rooms i j b s ∧ b.2.length = n) (enc := fun l => U.prs [iu l, iu (to A i l)]) (step := fun (b : List (Nat × Nat) × List Nat) l => (push (fun q : Nat × Nat => q) b.1 (to A i l, to B j ((tn A i).getD l 0)), b.2 ++ [numb (fun q : Nat × Nat => q) (push (fun q : Nat × Nat => q) b.1 (to A i l, to B j ((tn A i).getD l 0))) (to A i l, to B j ((tn A i).getD l 0))]))
    (f := fun x s1 => match bindT (.tup [(.one 10), (.one 11)]) x s1 with
      | some s2 => (execs g pBody s2).bind fun fl s3 => if stillIs s s3 [.v (nts (rs A i))] then .ok fl s3 else .stuck
      | none => .stuck) (List.range k) 0 (met, []) s ⟨r, rfl⟩ (by
    rintro n b s1 l hn hl ⟨r1, e1⟩
    have hl := List.mem_range.1 hl
    have := hk.hi
    simp only [List.length_range, Nat.zero_add] at hn
    obtain ⟨s2, s3, q1, q2, q3⟩ := pair_inner m hk gA gB hA hB g hN hi hj b (by omega) s1 l hl r1
    refine ⟨s3, .inl ?_, q3, by simp [e1]⟩
    simp only [q1, q2, bind_ok]
    simp [stillIs])
  refine ⟨s', ?_, ?_⟩
  · rw [x_forr, hsl, bind_ok]
    simp only [hwalk]
    exact h1
  · have e : (List.range k).foldl (fun (b : List (Nat × Nat) × List Nat) l => (push (fun q : Nat × Nat => q) b.1 (to A i l, to B j ((tn A i).getD l 0)), b.2 ++ [numb (fun q : Nat × Nat => q) (push (fun q : Nat × Nat => q) b.1 (to A i l, to B j ((tn A i).getD l 0))) (to A i l, to B j ((tn A i).getD l 0))])) (met, []) = ((succP k A B (i, j)).foldl (push fun q : Nat × Nat => q) met, (succP k A B (i, j)).map (numb (fun q : Nat × Nat => q) ((succP k A B (i, j)).foldl (push fun q : Nat × Nat => q) met))) := by
      have := fold_leads (lab := fun q : Nat × Nat => q) (succP k A B (i, j)) met []
      rw [List.nil_append] at this
      rw [← this]
      unfold succP
      rw [List.foldl_map]
    rw [e] at h2
    exact h2
include H gA gB hA hB hk in
/-- a turn of the loop -/
theorem pair_turn (hN : A.length * B.length ≤ 3900) (b : List (Nat × Nat) × Nat) (s : Sta) (r : RP k A B m b s) (hc : b.2 < b.1.length) :
    ((bstep (lab := fun q : Nat × Nat => q) (succP k A B) b).1.length ≤ 60 → ∃ s', execs (stOf p (n + 5)) pLoop s = .ok .next s' ∧ RP k A B m (bstep (lab := fun q : Nat × Nat => q) (succP k A B) b) s') ∧
    (60 < (bstep (lab := fun q : Nat × Nat => q) (succP k A B) b).1.length → ∃ s', execs (stOf p (n + 5)) pLoop s = .exc (.exc C.TooMany []) s' ∧ s'.m = m) := by
  obtain ⟨met, at_⟩ := b
  obtain ⟨inv, hx, hl, j5, j6, j7, j8, j9, j10, j11, j12, rfl⟩ := r
  simp only at hc hx hl
  have hq := hx met[at_] (List.getElem_mem hc)
  generalize hij : met[at_] = q at hq
  have hmq : met[at_]? = some q := by rw [List.getElem?_eq_getElem hc, hij]
  obtain ⟨i, j⟩ := q
  simp only at hq
  obtain ⟨hi, hj⟩ := hq
  have hAi : A[i]? = some A[i] := List.getElem?_eq_getElem hi
  have hBj : B[j]? = some B[j] := List.getElem?_eq_getElem hj
  have eA1 : A[i].1 = tn A i := by unfold tn; rw [getD_eq hi]
  have eA2 : A[i].2 = rs A i := by unfold rs; rw [getD_eq hi]
  have eB1 : B[j].1 = tn B j := by unfold tn; rw [getD_eq hj]
  have hstep : bstep (lab := fun q : Nat × Nat => q) (succP k A B) (met, at_) = ((succP k A B (i, j)).foldl (push fun q : Nat × Nat => q) met, at_ + 1) := by
    unfold bstep
    simp only [getD_eq hc, hij]
  have inv' := binvS (lab := fun q : Nat × Nat => q) (succP k A B) inv hc
  rw [hstep] at inv' ⊢
  simp only
  generalize hrooms : ((met.take at_).map fun q => roomU (roomP k A B met q)) = rooms
  have hrl : rooms.length = at_ := by rw [← hrooms]; simp; omega
  have s1 : execS (stOf p (n + 5)) (.set (.tup [(.one 5), (.one 6)]) (.op .ix [(.var 2), (.op .len [(.var 4)])])) ⟨[.val (machU A), .val (machU B), .own (.lst (met.map prU)), .own (numD prU met), .own (.lst rooms), j5, j6, j7, j8, j9, j10, j11, j12], m⟩ = .ok .next ⟨[.val (machU A), .val (machU B), .own (.lst (met.map prU)), .own (numD prU met), .own (.lst rooms), .val (iu i), .val (iu j), j7, j8, j9, j10, j11, j12], m⟩ := by
    simp [hrl, hmq, prU_eq]
  have s2 : execS (stOf p (n + 5)) (.set (.tup [(.one 7), (.one 8)]) (.op .ix [(.var 0), (.var 5)])) ⟨[.val (machU A), .val (machU B), .own (.lst (met.map prU)), .own (numD prU met), .own (.lst rooms), .val (iu i), .val (iu j), j7, j8, j9, j10, j11, j12], m⟩ = .ok .next ⟨[.val (machU A), .val (machU B), .own (.lst (met.map prU)), .own (numD prU met), .own (.lst rooms), .val (iu i), .val (iu j), .val (nts (tn A i)), .val (nts (rs A i)), j9, j10, j11, j12], m⟩ := by
    simp [hAi, eA1, eA2]
  have s3 : execS (stOf p (n + 5)) (.own 9 (.op .lst [])) ⟨[.val (machU A), .val (machU B), .own (.lst (met.map prU)), .own (numD prU met), .own (.lst rooms), .val (iu i), .val (iu j), .val (nts (tn A i)), .val (nts (rs A i)), j9, j10, j11, j12], m⟩ = .ok .next ⟨[.val (machU A), .val (machU B), .own (.lst (met.map prU)), .own (numD prU met), .own (.lst rooms), .val (iu i), .val (iu j), .val (nts (tn A i)), .val (nts (rs A i)), .own (.lst (([] : List Nat).map iu)), j10, j11, j12], m⟩ := by
    simp [okL]
  obtain ⟨s', f1, f2, f3, f4, k10, k11, k12, rfl⟩ := pair_for m hk gA gB hA hB (stOf p (n + 5)) hN hi hj met ⟨[.val (machU A), .val (machU B), .own (.lst (met.map prU)), .own (numD prU met), .own (.lst rooms), .val (iu i), .val (iu j), .val (nts (tn A i)), .val (nts (rs A i)), .own (.lst (([] : List Nat).map iu)), j10, j11, j12], m⟩ ⟨hl, by simpa using inv.nd, hx, j10, j11, j12, rfl⟩
  have ahead : ∀ r, execs (stOf p (n + 5)) (pLoop.drop 4) ⟨[.val (machU A), .val (machU B), .own (.lst (((succP k A B (i, j)).foldl (push fun q : Nat × Nat => q) met).map prU)), .own (numD prU ((succP k A B (i, j)).foldl (push fun q : Nat × Nat => q) met)), .own (.lst rooms), .val (iu i), .val (iu j), .val (nts (tn A i)), .val (nts (rs A i)), .own (.lst (((succP k A B (i, j)).map (numb (fun q : Nat × Nat => q) ((succP k A B (i, j)).foldl (push fun q : Nat × Nat => q) met))).map iu)), k10, k11, k12], m⟩ = r → execs (stOf p (n + 5)) pLoop ⟨[.val (machU A), .val (machU B), .own (.lst (met.map prU)), .own (numD prU met), .own (.lst rooms), j5, j6, j7, j8, j9, j10, j11, j12], m⟩ = r := fun r h => (x_seq s1).trans ((x_seq s2).trans ((x_seq s3).trans ((x_seq f1).trans h)))
  simp only at f2 f3 f4
  generalize hm' : (succP k A B (i, j)).foldl (push fun q : Nat × Nat => q) met = met' at *
  have cond : condOf (fun s => evalE (stOf p (n + 5)) (.op .gt [(.op .len [(.var 2)]), (.glo G.MOST_ROOMS (.int 60))]) s) (.op .gt [(.op .len [(.var 2)]), (.glo G.MOST_ROOMS (.int 60))]) ⟨[.val (machU A), .val (machU B), .own (.lst (met'.map prU)), .own (numD prU met'), .own (.lst rooms), .val (iu i), .val (iu j), .val (nts (tn A i)), .val (nts (rs A i)), .own (.lst (((succP k A B (i, j)).map (numb (fun q : Nat × Nat => q) met')).map iu)), k10, k11, k12], m⟩ = .ok (decide (60 < met'.length)) ⟨[.val (machU A), .val (machU B), .own (.lst (met'.map prU)), .own (numD prU met'), .own (.lst rooms), .val (iu i), .val (iu j), .val (nts (tn A i)), .val (nts (rs A i)), .own (.lst (((succP k A B (i, j)).map (numb (fun q : Nat × Nat => q) met')).map iu)), k10, k11, k12], m⟩ := by
    simp
    omega
  refine ⟨fun h60 => ?_, fun h60 => ?_⟩
  · rw [decide_eq_false (by omega)] at cond
    have ta := turn_after_ok n m H.toHMach hk (gA.tn hi) (gB.tn hj)
    have h2 : 2 ≤ line := by have := line_ge; omega
    have hr2 : rooms.length < line := by have := line_ge; have := inv.le; simp only at this; omega
    refine ⟨_, ahead _ ((x_seq ((x_ifF cond).trans x_nil)).trans ((x_seq (s' := ⟨[.val (machU A), .val (machU B), .own (.lst (met'.map prU)), .own (numD prU met'), .own (.lst (rooms ++ [roomU (roomP k A B met' (i, j))])), .val (iu i), .val (iu j), .val (nts (tn A i)), .val (nts (rs A i)), .own (.lst (((succP k A B (i, j)).map (numb (fun q : Nat × Nat => q) met')).map iu)), k10, k11, k12], m⟩) ?_).trans x_nil)), ?_⟩
    · simp [hBj, eB1, ta, okT, h2, kindN, Mop.kind, mutF, mutSem, muAppend, hr2, setC, roomP]
    · refine ⟨inv', f4, f2, .val (iu i), .val (iu j), .val (nts (tn A i)), .val (nts (rs A i)), .own (.lst (((succP k A B (i, j)).map (numb (fun q : Nat × Nat => q) met')).map iu)), k10, k11, k12, ?_⟩
      have et : ((met'.take (at_ + 1)).map fun q => roomU (roomP k A B met' q)) = rooms ++ [roomU (roomP k A B met' (i, j))] := by
        obtain ⟨r, hr⟩ := fold_pre (lab := fun q : Nat × Nat => q) (succP k A B (i, j)) met
        rw [hm'] at hr
        have e1 : met'.take (at_ + 1) = met.take at_ ++ [(i, j)] := by
          rw [hr, List.take_append_of_le_length (by omega), List.take_succ, hmq]
          rfl
        rw [e1, List.map_append, List.map_cons, List.map_nil, ← hrooms]
        congr 1
        apply List.map_congr_left
        intro z hz
        obtain ⟨x, hx1, e⟩ := List.mem_take_iff_getElem.1 hz
        have hcl := inv.cl x (by simp only; omega)
        simp only at hcl
        rw [getD_eq (by omega), e] at hcl
        unfold roomP
        congr 2
        apply List.map_congr_left
        intro y hy
        rw [hr]
        exact numb_pre (hcl y hy)
      rw [et]
  · rw [decide_eq_true h60] at cond
    have hx : execs (stOf p (n + 5)) (pLoop.drop 4) ⟨[.val (machU A), .val (machU B), .own (.lst (met'.map prU)), .own (numD prU met'), .own (.lst rooms), .val (iu i), .val (iu j), .val (nts (tn A i)), .val (nts (rs A i)), .own (.lst (((succP k A B (i, j)).map (numb (fun q : Nat × Nat => q) met')).map iu)), k10, k11, k12], m⟩ = .exc (.exc C.TooMany []) ⟨[.val (machU A), .val (machU B), .own (.lst (met'.map prU)), .own (numD prU met'), .own (.lst rooms), .val (iu i), .val (iu j), .val (nts (tn A i)), .val (nts (rs A i)), .own (.lst (((succP k A B (i, j)).map (numb (fun q : Nat × Nat => q) met')).map iu)), k10, k11, k12], m⟩ := by
      show execs (stOf p (n + 5)) (_ :: _) _ = _
      rw [x_cons, x_ifT cond]
      simp
    exact ⟨_, ahead _ hx, rfl⟩
include H gA gB hA hB hk in
theorem paired_ok (hN : A.length * B.length ≤ 3900) (ht : 5000 < p.turns) : (stOf p (n + 6)).call F.products_paired [machU A, machU B] m = if (metP k A B).length ≤ 60 then .ok (machU (pairL k A B)) m else .exc (.exc C.TooMany []) m := by
  have hturns : ∀ n, (stOf p n).turns = p.turns := fun n => by cases n <;> rfl
  obtain ⟨h1, inv, hm⟩ := metP_eq gA gB hA hB
  rw [H.paired.call, run_def _ _ _ rfl, paired_body]
  simp only
  have h2 : 2 ≤ line := by have := line_ge; omega
  have h1l : 1 ≤ line := by have := line_ge; omega
  have s1 : execS (stOf p (n + 5)) (.own 2 (.op .lst [(.op .tup [(.lit (.int 0)), (.lit (.int 0))])])) ⟨[.val (machU A), .val (machU B), .no, .no, .no, .no, .no, .no, .no, .no, .no, .no, .no], m⟩ = .ok .next ⟨[.val (machU A), .val (machU B), .own (.lst ([((0 : Nat), (0 : Nat))].map prU)), .no, .no, .no, .no, .no, .no, .no, .no, .no, .no], m⟩ := by
    simp [okL, okT, h2, h1l, prU_eq]
  have s2 : execS (stOf p (n + 5)) (.own 3 (.op (.dict 1) [(.op .tup [(.lit (.int 0)), (.lit (.int 0))]), (.lit (.int 0))])) ⟨[.val (machU A), .val (machU B), .own (.lst ([((0 : Nat), (0 : Nat))].map prU)), .no, .no, .no, .no, .no, .no, .no, .no, .no, .no], m⟩ = .ok .next ⟨[.val (machU A), .val (machU B), .own (.lst ([((0 : Nat), (0 : Nat))].map prU)), .own (numD prU [((0 : Nat), (0 : Nat))]), .no, .no, .no, .no, .no, .no, .no, .no, .no], m⟩ := by
    have hk0 := encQ.key [] ((0 : Nat), (0 : Nat))
    simp only [prU_eq, List.map_nil] at hk0
    have hk1 : kOk [] (.tup [.int 0, .int 0]) = true := hk0
    simp [okT, h2, prU_eq, opDict, mkDic, hk1, dput, memU, numD]
  have s3 : execS (stOf p (n + 5)) (.own 4 (.op .lst [])) ⟨[.val (machU A), .val (machU B), .own (.lst ([((0 : Nat), (0 : Nat))].map prU)), .own (numD prU [((0 : Nat), (0 : Nat))]), .no, .no, .no, .no, .no, .no, .no, .no, .no], m⟩ = .ok .next ⟨[.val (machU A), .val (machU B), .own (.lst ([((0 : Nat), (0 : Nat))].map prU)), .own (numD prU [((0 : Nat), (0 : Nat))]), .own (.lst []), .no, .no, .no, .no, .no, .no, .no, .no], m⟩ := by
    simp [okL]
  have r0 : RP k A B m ([(0, 0)], 0) ⟨[.val (machU A), .val (machU B), .own (.lst ([((0 : Nat), (0 : Nat))].map prU)), .own (numD prU [((0 : Nat), (0 : Nat))]), .own (.lst []), .no, .no, .no, .no, .no, .no, .no, .no], m⟩ :=
    ⟨binv0 _ _, by simpa using ⟨hA, hB⟩, by simp, .no, .no, .no, .no, .no, .no, .no, .no, rfl⟩
  have hc : ∀ b s, RP k A B m b s → condOf (fun s => evalE (stOf p (n + 5)) (.op .lt [(.op .len [(.var 4)]), (.op .len [(.var 2)])]) s) (.op .lt [(.op .len [(.var 4)]), (.op .len [(.var 2)])]) s = .ok (bcond b) s := by
    rintro ⟨met, at_⟩ s ⟨inv, _, _, j5, j6, j7, j8, j9, j10, j11, j12, rfl⟩
    have := inv.le
    simp only at this
    simp [bcond, Nat.min_eq_left this]
  have hbl : ∀ b s, RP k A B m b s → b.2 ≤ A.length * B.length ∧ b.1.length ≤ A.length * B.length := by
    rintro ⟨met, at_⟩ s ⟨inv, hx, _⟩
    have := sub_len (met.map fun q : Nat × Nat => q) (allP A B) inv.nd fun z hz => by
      obtain ⟨w, hw, rfl⟩ := List.mem_map.1 hz
      exact mem_allP.2 (hx w hw)
    rw [allP_len, List.length_map] at this
    have := inv.le
    simp only at this ⊢
    omega
  have mono : ∀ b, b.1.length ≤ (bstep (lab := fun q : Nat × Nat => q) (succP k A B) b).1.length := fun b => by
    unfold bstep
    obtain ⟨r, hr⟩ := fold_pre (lab := fun q : Nat × Nat => q) (succP k A B (b.1.getD b.2 default)) b.1
    simp only [hr, List.length_append]
    omega
  by_cases h60 : (metP k A B).length ≤ 60
  · rw [if_pos h60]
    -- every stage is short
    have monoW : ∀ (f : Nat) (b : List (Nat × Nat) × Nat), b.1.length ≤ (wh bcond (bstep (lab := fun q : Nat × Nat => q) (succP k A B)) f b).1.length := by
      intro f
      induction f with
      | zero => intro b; exact Nat.le_refl _
      | succ f ih =>
        intro b
        simp only [wh]
        split
        · exact Nat.le_trans (mono b) (ih _)
        · exact Nat.le_refl _
    -- a stage on the way
    have key := turnsW_rel (R := fun b s => RP k A B m b s ∧ ∃ f, (wh bcond (bstep (lab := fun q : Nat × Nat => q) (succP k A B)) f b).1.length ≤ 60 ∧ A.length * B.length ≤ f + b.2) (c := fun s => condOf (fun s => evalE (stOf p (n + 5)) (.op .lt [(.op .len [(.var 4)]), (.op .len [(.var 2)])]) s) (.op .lt [(.op .len [(.var 4)]), (.op .len [(.var 2)])]) s)
      (f := fun s => execs (stOf p (n + 5)) pLoop s) (cond := bcond) (step := bstep (lab := fun q : Nat × Nat => q) (succP k A B)) (μ := fun b => A.length * B.length - b.2) (fun b s r => hc b s r.1) (fun b s r hb => by
        obtain ⟨r, f, hf, hf2⟩ := r
        have hlt : b.2 < b.1.length := of_decide_eq_true hb
        have hbb := hbl b s r
        cases f with
        | zero => omega
        | succ f =>
          have e : wh bcond (bstep (lab := fun q : Nat × Nat => q) (succP k A B)) (f + 1) b = wh bcond (bstep (lab := fun q : Nat × Nat => q) (succP k A B)) f (bstep (lab := fun q : Nat × Nat => q) (succP k A B) b) := by simp [wh, hb]
          rw [e] at hf
          obtain ⟨s', q1, q2⟩ := (pair_turn n m H hk gA gB hA hB hN b s r hlt).1 (Nat.le_trans (monoW f _) hf)
          exact ⟨s', .inl q1, ⟨q2, f, hf, by unfold bstep; simp only; omega⟩, by unfold bstep; simp only; omega⟩)
      (A.length * B.length) (stOf p (n + 5)).turns ([(0, 0)], 0) _ (by simp) (by rw [hturns]; omega) ⟨r0, A.length * B.length, by have := h1; unfold bfsP at this; rw [this]; exact h60, by simp⟩
    obtain ⟨s', k1, ⟨⟨_, _, _, j5, j6, j7, j8, j9, j10, j11, j12, k2⟩, _⟩, _⟩ := key
    have hb := h1
    unfold bfsP at hb
    rw [hb] at k2
    simp only [List.take_length] at k2
    have hw := (x_whil (g := stOf p (n + 5)) (.op .lt [(.op .len [(.var 4)]), (.op .len [(.var 2)])]) pLoop).trans k1
    have fin := (x_seq s1).trans ((x_seq s2).trans ((x_seq s3).trans ((x_seq hw).trans (x_last (xs := []) (u := machU (pairL k A B)) (s' := s') (x := .ret (.op .tupOf [(.var 4)])) (by
      subst k2
      simp [pairL])))))
    have e0 : slots0 [machU A, machU B] 13 = [.val (machU A), .val (machU B), .no, .no, .no, .no, .no, .no, .no, .no, .no, .no, .no] := rfl
    rw [e0, fin]
    subst k2
    rfl
  · rw [if_neg h60]
    obtain ⟨e, s', k1, k2, k3⟩ := turnsW_exc (R := fun b s => RP k A B m b s) (Q := fun e s => e = .exc C.TooMany [] ∧ s.m = m) (c := fun s => condOf (fun s => evalE (stOf p (n + 5)) (.op .lt [(.op .len [(.var 4)]), (.op .len [(.var 2)])]) s) (.op .lt [(.op .len [(.var 4)]), (.op .len [(.var 2)])]) s)
      (f := fun s => execs (stOf p (n + 5)) pLoop s) (cond := bcond) (bad := fun b => decide (60 < b.1.length)) (step := bstep (lab := fun q : Nat × Nat => q) (succP k A B)) (fun b s r => hc b s r) (fun b s r hb hbad => by
        have hlt : b.2 < b.1.length := of_decide_eq_true hb
        obtain ⟨s', q1, q2⟩ := (pair_turn n m H hk gA gB hA hB hN b s r hlt).1 (by simpa using hbad)
        exact ⟨s', .inl q1, q2⟩) (fun b s r hb hbad => by
        have hlt : b.2 < b.1.length := of_decide_eq_true hb
        obtain ⟨s', q1, q2⟩ := (pair_turn n m H hk gA gB hA hB hN b s r hlt).2 (by simpa using hbad)
        exact ⟨_, s', q1, rfl, q2⟩) (A.length * B.length) (stOf p (n + 5)).turns ([(0, 0)], 0) _ (by simp) (by have := h1; unfold bfsP at this; rw [this]; simpa using h60) (by rw [hturns]; omega) r0
    subst k2
    have hw := (x_whil (g := stOf p (n + 5)) (.op .lt [(.op .len [(.var 4)]), (.op .len [(.var 2)])]) pLoop).trans k1
    have e0 : slots0 [machU A, machU B] 13 = [.val (machU A), .val (machU B), .no, .no, .no, .no, .no, .no, .no, .no, .no, .no, .no] := rfl
    have fin : execs (stOf p (n + 5)) [.own 2 (.op .lst [(.op .tup [(.lit (.int 0)), (.lit (.int 0))])]),
  .own 3 (.op (.dict 1) [(.op .tup [(.lit (.int 0)), (.lit (.int 0))]), (.lit (.int 0))]),
  .own 4 (.op .lst []),
  .whil (.op .lt [(.op .len [(.var 4)]), (.op .len [(.var 2)])]) pLoop,
  .ret (.op .tupOf [(.var 4)])] ⟨[.val (machU A), .val (machU B), .no, .no, .no, .no, .no, .no, .no, .no, .no, .no, .no], m⟩ = .exc (.exc C.TooMany []) s' := (x_seq s1).trans ((x_seq s2).trans ((x_seq s3).trans (by rw [x_cons, hw]; rfl)))
    rw [e0, fin]
    simp only [k3]
end
end MPE
set_option maxRecDepth 100000
set_option maxHeartbeats 4000000
/-! E7: least, both, walked. -/
namespace MPE
open MP
open MM
section
variable {p : Prg} (n : Nat) (m : List U) (H : HPair p) {k : Nat} (hk : K24 k)
include H hk
theorem least_ok {M : Mach} (g : Good k M) (h1 : 1 ≤ M.length) (h2 : M.length ≤ 60) (ht : 5000 < p.turns) : (stOf p (n + 7)).call F.machines_least [machU M] m = .ok (machU (leastL M 0)) m := by
  rw [H.least.call, run_def _ _ _ rfl]
  have e1 := sure_machine_ok n m H.toHMach hk g h1 h2
  have e2 := least_from_ok (n + 3) m H.toHLeast g hk.hi (room := 0) (by omega) (by omega) (by omega)
  simp only [iu_eq] at e2
  have e2 : (stOf p (n + 6)).call F.machines_least_from [machU M, .int 0] m = .ok (machU (leastL M 0)) m := e2
  simp [LB.d_machines_least, slots0, e1, e2]
/-- the pairs that come of two machines -/
def bothMet (k : Nat) (A B : Mach) : List (Nat × Nat) := metP k (leastL A 0) (leastL B 0)
def bothL (k : Nat) (A B : Mach) : Mach := leastL (pairL k (leastL A 0) (leastL B 0)) 0
theorem both_ok {A B : Mach} (gA : Good k A) (gB : Good k B) (hA : 1 ≤ A.length) (hA2 : A.length ≤ 60) (hB : 1 ≤ B.length) (hB2 : B.length ≤ 60) (ht : 5000 < p.turns) : (stOf p (n + 8)).call F.products_both [machU A, machU B] m =
    if (bothMet k A B).length ≤ 60 then .ok (machU (bothL k A B)) m else .exc (.exc C.TooMany []) m := by
  rw [H.both.call, run_def _ _ _ rfl]
  obtain ⟨lA, lA2, _⟩ := leastL_ok gA (room := 0) hA
  obtain ⟨lB, lB2, _⟩ := leastL_ok gB (room := 0) hB
  have q1 := letters_of_ok n m H.toHMach hk gA hA hA2
  have q2 := letters_of_ok n m H.toHMach hk gB hB hB2
  have q3 := least_ok n m H hk gA hA hA2 ht
  have q4 := least_ok n m H hk gB hB hB2 ht
  have hN : (leastL A 0).length * (leastL B 0).length ≤ 3900 := Nat.le_trans (Nat.mul_le_mul (Nat.le_trans lA2 hA2) (Nat.le_trans lB2 hB2)) (by decide)
  have q5 := paired_ok (n + 1) m H hk lA.good lB.good lA.pos lB.pos hN ht
  obtain ⟨gP, hP⟩ := pairL_good lA.good lB.good lA.pos lB.pos
  have e0 : execs (stOf p (n + 7)) LB.d_products_both.body ⟨slots0 [machU A, machU B] LB.d_products_both.slots, m⟩ = execs (stOf p (n + 7)) [.ret (.call F.machines_least [(.call F.products_paired [(.call F.machines_least [(.var 0)]), (.call F.machines_least [(.var 1)])])])] ⟨[.val (machU A), .val (machU B)], m⟩ := by
    refine x_seq ((x_ifF (s' := ⟨[.val (machU A), .val (machU B)], m⟩) ?_).trans x_nil)
    simp [slots0, LB.d_products_both, q1, q2]
  rw [e0]
  by_cases h : (bothMet k A B).length ≤ 60
  · rw [if_pos h]
    unfold bothMet at h
    rw [if_pos h] at q5
    have q6 := least_ok n m H hk gP hP (by unfold pairL; rw [List.length_map]; exact h) ht
    simp [q3, q4, q5, q6, bothL]
  · rw [if_neg h]
    unfold bothMet at h
    rw [if_neg h] at q5
    simp [q3, q4, q5]
end
end MPE
set_option maxRecDepth 100000
set_option maxHeartbeats 4000000
/-! E8: rows led through machines, machines begun elsewhere, turned back: walked. -/
namespace MPE
open MP
open MM
structure HMore (p : Prg) : Prop extends HPair p where
  undone : Has p F.turns_undone LB.d_turns_undone
  turn_back : Has p F.turns_turn_back LB.d_turns_turn_back
  sure_row_of : Has p F.machines_sure_row_of LB.d_machines_sure_row_of
  led : Has p F.machines_led LB.d_machines_led
  run : Has p F.machines_run LB.d_machines_run
  room_behind : Has p F.machines_room_behind LB.d_machines_room_behind
  checked_room : Has p F.machines_checked_room LB.d_machines_checked_room
  begun_at : Has p F.machines_begun_at LB.d_machines_begun_at
  parting_row : Has p F.machines_parting_row LB.d_machines_parting_row
  room_back : Has p F.products_room_back LB.d_products_room_back
  turned_back : Has p F.products_turned_back LB.d_products_turned_back
/-- what a machine makes of a row -/
def madeL (M : Mach) (row : List Nat) (i : Nat) : List Nat := (List.range i).map fun j => (tn M (go M 0 (row.take j))).getD (row.getD j 0) 0
def ledU (M : Mach) (row : List Nat) : U := .tup [nts (madeL M row row.length), iu (go M 0 row)]
theorem go_take (M : Mach) (row : List Nat) (i x : Nat) (h : row[i]? = some x) : go M 0 (row.take (i + 1)) = to M (go M 0 (row.take i)) x := by
  rw [List.take_succ, h]
  unfold go
  rw [List.foldl_append]
  rfl
theorem made_succ (M : Mach) (row : List Nat) (i x : Nat) (h : row[i]? = some x) : madeL M row (i + 1) = madeL M row i ++ [(tn M (go M 0 (row.take i))).getD x 0] := by
  have : row.getD i 0 = x := by rw [List.getD_eq_getElem?_getD, h]; rfl
  unfold madeL
  rw [List.range_succ, List.map_append]
  simp only [List.map_cons, List.map_nil, this]
theorem idx_iu (x : Nat) : ∀ (l : List Nat), x ∈ l → idxU (iu x) (l.map iu) = some (l.idxOf x)
  | [], h => by simp at h
  | y :: l, h => by
    rw [List.map_cons]
    unfold idxU
    rw [eqU_iu]
    by_cases e : y = x
    · subst e; simp
    · have hx : x ∈ l := by
        rcases List.mem_cons.1 h with h | h
        · exact absurd h.symm e
        · exact h
      rw [idx_iu x l hx, List.idxOf_cons]
      have : (y == x) = false := by simpa using e
      simp [e, this]
theorem opIndex_t (us : List U) (a : U) (h1 : a.plain = true) (h2 : plains us = true) {j : Nat} (h3 : idxU a us = some j) : opIndex [.tup us, a] = some (.int j) := by
  unfold opIndex
  simp [h1, h2, h3]
theorem index_tup (g : Gst) (t : List Nat) (x : Nat) (h : x ∈ t) : opSem g .index [nts t, iu x] = some (iu (t.idxOf x)) := by
  have e : opSem g .index [nts t, iu x] = opIndex [nts t, iu x] := Eq.trans rfl rfl
  rw [e, opIndex_t _ _ (by simp) (deeps_iu 6 t) (idx_iu x t h), iu_eq]
section
variable {p : Prg} (n : Nat) (m : List U) (H : HMore p) {k : Nat} (hk : K24 k)
include H hk
theorem sure_row_ok {M : Mach} (g : Good k M) (h1 : 1 ≤ M.length) (h2 : M.length ≤ 60) {row : List Nat} (hr : ∀ l ∈ row, l < k) (hl : row.length ≤ 100) : (stOf p (n + 8)).call F.machines_sure_row_of [machU M, nts row] m = .ok (nts row) m := by
  rw [H.sure_row_of.call]
  have q1 := letters_of_ok n m H.toHMach hk g h1 h2
  have hc : evalE (stOf p (n + 7)) (.comp (.call F.machines_is_below [(.var 3), (.var 2)]) (.one 3) 0 [(.var 1)] [3] none) ⟨[.val (machU M), .val (nts row), .val (iu k), .no], m⟩ = .ok (.lst (row.map fun _ => .bl true)) ⟨[.val (machU M), .val (nts row), .val (iu k), .no], m⟩ := by
    refine ev_compM (avs := [.v (nts row)]) (xs := row.map iu) row iu (fun _ => .bl true) (by simp) (by simp [walkA, walk]) rfl (by simp [stillIs]) (by simp) (by have := line_ge; omega) ?_
    intro j hj
    refine ⟨⟨[.val (machU M), .val (nts row), .val (iu k), .val (iu j)], m⟩, by simp, ?_, by simp [stillIs], by simp⟩
    have := is_below_int (n + 6) m H.toHMach j k
    have h2 := hr j hj
    simp [this]
    omega
  have s1 : execS (stOf p (n + 7)) (.set (.one 2) (.call F.machines_letters_of [(.var 0)])) ⟨[.val (machU M), .val (nts row), .no, .no], m⟩ = .ok .next ⟨[.val (machU M), .val (nts row), .val (iu k), .no], m⟩ := by
    simp only [iu_eq] at q1
    simp [q1]
  have s2 : execS (stOf p (n + 7)) (.ife (.or [(.not (.op (.isi [2]) [(.var 1)])), (.op .gt [(.op .len [(.var 1)]), (.glo G.MOST_LETTERS (.int 100))]), (.not (.op .all [(.comp (.call F.machines_is_below [(.var 3), (.var 2)]) (.one 3) 0 [(.var 1)] [3] none)]))]) [.raise C.NoRow []] []) ⟨[.val (machU M), .val (nts row), .val (iu k), .no], m⟩ = .ok .next ⟨[.val (machU M), .val (nts row), .val (iu k), .no], m⟩ := by
    refine (x_ifF ?_).trans x_nil
    have h3 : ¬ ((100 : Int) < (row.length : Int)) := by omega
    simp only [iu_eq] at hc
    simp [hc, h3]
  exact run_ret LB.d_machines_sure_row_of [machU M, nts row] m rfl ((x_seq s1).trans ((x_seq s2).trans (x_last (xs := []) (x := .ret (.var 1)) (u := nts row) (by simp; rfl))))
def lWalk : List MS := [.set (.tup [(.one 5), (.one 6)]) (.op .ix [(.var 0), (.var 3)]),
  .expr (.mut .append (.var 2) [(.op .ix [(.var 5), (.var 4)])]),
  .set (.one 3) (.op .ix [(.var 6), (.var 4)])]
theorem led_ok {M : Mach} (g : Good k M) (h1 : 1 ≤ M.length) (h2 : M.length ≤ 60) {row : List Nat} (hr : ∀ l ∈ row, l < k) (hl : row.length ≤ 100) : (stOf p (n + 9)).call F.machines_led [machU M, nts row] m = .ok (ledU M row) m := by
  rw [H.led.call]
  have q1 := sure_row_ok n m H hk g h1 h2 hr hl
  have s1 : execS (stOf p (n + 8)) (.expr (.call F.machines_sure_row_of [(.var 0), (.var 1)])) ⟨[.val (machU M), .val (nts row), .no, .no, .no, .no, .no], m⟩ = .ok .next ⟨[.val (machU M), .val (nts row), .no, .no, .no, .no, .no], m⟩ := by simp [q1]
  have s2 : execS (stOf p (n + 8)) (.own 2 (.op .lst [])) ⟨[.val (machU M), .val (nts row), .no, .no, .no, .no, .no], m⟩ = .ok .next ⟨[.val (machU M), .val (nts row), .own (nls (madeL M row 0)), .no, .no, .no, .no], m⟩ := by simp [okL, madeL]
  have s3 : execS (stOf p (n + 8)) (.set (.one 3) (.lit (.int 0))) ⟨[.val (machU M), .val (nts row), .own (nls (madeL M row 0)), .no, .no, .no, .no], m⟩ = .ok .next ⟨[.val (machU M), .val (nts row), .own (nls (madeL M row 0)), .val (iu (go M 0 (row.take 0))), .no, .no, .no], m⟩ := by simp [go]
  obtain ⟨s', e1, j4, j5, j6, e2⟩ := turnsF_relI (R := fun i s => ∃ j4 j5 j6, s = ⟨[.val (machU M), .val (nts row), .own (nls (madeL M row i)), .val (iu (go M 0 (row.take i))), j4, j5, j6], m⟩) (enc := iu) (f := fun x s1 => match bindT (.one 4) x s1 with
      | some s2 => (execs (stOf p (n + 8)) lWalk s2).bind fun fl s3 => if stillIs ⟨[.val (machU M), .val (nts row), .own (nls (madeL M row 0)), .val (iu (go M 0 (row.take 0))), .no, .no, .no], m⟩ s3 [.v (nts row)] then .ok fl s3 else .stuck
      | none => .stuck) row ⟨[.val (machU M), .val (nts row), .own (nls (madeL M row 0)), .val (iu (go M 0 (row.take 0))), .no, .no, .no], m⟩ ⟨.no, .no, .no, rfl⟩ (by
    rintro i s x hx ⟨j4, j5, j6, rfl⟩
    obtain ⟨hi, hxi⟩ := List.getElem?_eq_some_iff.1 hx
    have hxk : x < k := hr x (List.mem_of_getElem? hx)
    have ha : go M 0 (row.take i) < M.length := g.go (fun l hl => hr l (List.mem_of_mem_take hl)) h1
    rw [go_take M row i x hx, made_succ M row i x hx]
    generalize go M 0 (row.take i) = a at *
    have eM : M[a]? = some (tn M a, rs M a) := by unfold tn rs; rw [getD_eq ha, List.getElem?_eq_getElem ha]
    have lt : (tn M a).length = k := (g.tn ha).len
    have lr : (rs M a).length = k := g.rsl ha
    have e1 : (tn M a)[x]? = some ((tn M a).getD x 0) := by rw [getD_eq (by omega), List.getElem?_eq_getElem (by omega)]
    have e2 : (rs M a)[x]? = some (to M a x) := by unfold to; rw [getD_eq (by omega), List.getElem?_eq_getElem (by omega)]
    have hml : (madeL M row i).length < line := by have := line_ge; simp [madeL]; omega
    refine ⟨⟨[.val (machU M), .val (nts row), .own (nls (madeL M row i ++ [(tn M a).getD x 0])), .val (iu (to M a x)), .val (iu x), .val (nts (tn M a)), .val (nts (rs M a))], m⟩, .inl ?_, _, _, _, rfl⟩
    generalize (tn M a).getD x 0 = y at *
    generalize to M a x = z at *
    have t1 : execS (stOf p (n + 8)) (.set (.tup [(.one 5), (.one 6)]) (.op .ix [(.var 0), (.var 3)])) ⟨[.val (machU M), .val (nts row), .own (nls (madeL M row i)), .val (iu a), .val (iu x), j5, j6], m⟩ = .ok .next ⟨[.val (machU M), .val (nts row), .own (nls (madeL M row i)), .val (iu a), .val (iu x), .val (nts (tn M a)), .val (nts (rs M a))], m⟩ := by
      simp [eM]
    have t2 : execS (stOf p (n + 8)) (.expr (.mut .append (.var 2) [(.op .ix [(.var 5), (.var 4)])])) ⟨[.val (machU M), .val (nts row), .own (nls (madeL M row i)), .val (iu a), .val (iu x), .val (nts (tn M a)), .val (nts (rs M a))], m⟩ = .ok .next ⟨[.val (machU M), .val (nts row), .own (nls (madeL M row i ++ [y])), .val (iu a), .val (iu x), .val (nts (tn M a)), .val (nts (rs M a))], m⟩ := by
      simp [e1, kindN, Mop.kind, mutF, mutSem, muAppend, hml, setC]
    have t3 : execS (stOf p (n + 8)) (.set (.one 3) (.op .ix [(.var 6), (.var 4)])) ⟨[.val (machU M), .val (nts row), .own (nls (madeL M row i ++ [y])), .val (iu a), .val (iu x), .val (nts (tn M a)), .val (nts (rs M a))], m⟩ = .ok .next ⟨[.val (machU M), .val (nts row), .own (nls (madeL M row i ++ [y])), .val (iu z), .val (iu x), .val (nts (tn M a)), .val (nts (rs M a))], m⟩ := by
      simp [e2]
    have ex : execs (stOf p (n + 8)) lWalk ⟨[.val (machU M), .val (nts row), .own (nls (madeL M row i)), .val (iu a), .val (iu x), j5, j6], m⟩ = _ := (x_seq t1).trans ((x_seq t2).trans ((x_seq t3).trans x_nil))
    simp only [b_one, put_mk, List.set_cons_succ, List.set_cons_zero, ex, bind_ok]
    rw [if_pos (by simp [stillIs])])
  have s4 : execS (stOf p (n + 8)) (.forr (.one 4) 0 [(.var 1)] lWalk) ⟨[.val (machU M), .val (nts row), .own (nls (madeL M row 0)), .val (iu (go M 0 (row.take 0))), .no, .no, .no], m⟩ = .ok .next s' := by
    have ev : evalAs (stOf p (n + 8)) [(.var 1)] ⟨[.val (machU M), .val (nts row), .own (nls (madeL M row 0)), .val (iu (go M 0 (row.take 0))), .no, .no, .no], m⟩ = .ok [.v (nts row)] ⟨[.val (machU M), .val (nts row), .own (nls (madeL M row 0)), .val (iu (go M 0 (row.take 0))), .no, .no, .no], m⟩ := by simp
    have hw : ∀ s : Sta, walkA 0 [.v (nts row)] s = some (row.map iu) := fun s => by
      simp only [walkA, List.all_cons, ok_v, List.all_nil, Bool.and_self, if_true, List.map_cons, List.map_nil, get_v, cont_tup, walk]
    rw [x_forr, ev, bind_ok, hw]
    exact e1
  subst e2
  rw [List.take_length] at s4
  have h2l : 2 ≤ line := by have := line_ge; omega
  refine run_ret (s := ⟨[.val (machU M), .val (nts row), .own (nls (madeL M row row.length)), .val (iu (go M 0 row)), j4, j5, j6], m⟩) LB.d_machines_led [machU M, nts row] m rfl ((x_seq s1).trans ((x_seq s2).trans ((x_seq s3).trans ((x_seq s4).trans (x_last (xs := []) (x := .ret (.op .tup [(.op .tupOf [(.var 2)]), (.var 3)])) (u := ledU M row) ?_)))))
  unfold ledU
  generalize madeL M row row.length = z
  generalize go M 0 row = y
  simp [okT, h2l]
theorem run_ok {M : Mach} (g : Good k M) (h1 : 1 ≤ M.length) (h2 : M.length ≤ 60) {row : List Nat} (hr : ∀ l ∈ row, l < k) (hl : row.length ≤ 100) : (stOf p (n + 10)).call F.machines_run [machU M, nts row] m = .ok (nts (madeL M row row.length)) m := by
  rw [H.run.call, run_def _ _ _ rfl]
  have q := led_ok n m H hk g h1 h2 hr hl
  unfold ledU at q
  generalize madeL M row row.length = z at *
  simp [LB.d_machines_run, slots0, q]
theorem room_behind_ok {M : Mach} (g : Good k M) (h1 : 1 ≤ M.length) (h2 : M.length ≤ 60) {row : List Nat} (hr : ∀ l ∈ row, l < k) (hl : row.length ≤ 100) : (stOf p (n + 10)).call F.machines_room_behind [machU M, nts row] m = .ok (iu (go M 0 row)) m := by
  rw [H.room_behind.call, run_def _ _ _ rfl]
  have q := led_ok n m H hk g h1 h2 hr hl
  unfold ledU at q
  generalize go M 0 row = z at *
  simp [LB.d_machines_room_behind, slots0, q]
omit hk in
theorem checked_room_ok {M : Mach} {x : Nat} (hx : x < M.length) : (stOf p (n + 2)).call F.machines_checked_room [machU M, iu x] m = .ok .non m := by
  rw [H.checked_room.call, run_def _ _ _ rfl]
  have := is_below_int n m H.toHMach x M.length
  simp [LB.d_machines_checked_room, slots0, this, hx]
theorem begun_at_ok {M : Mach} (g : Good k M) (h2 : M.length ≤ 60) {x : Nat} (hx : x < M.length) (ht : 5000 < p.turns) : (stOf p (n + 7)).call F.machines_begun_at [machU M, iu x] m = .ok (machU (leastL M x)) m := by
  rw [H.begun_at.call, run_def _ _ _ rfl]
  have q1 := sure_machine_ok n m H.toHMach hk g (by omega) h2
  have q2 := checked_room_ok (n + 4) m H hx
  have q3 := least_from_ok (n + 3) m H.toHLeast g hk.hi hx (by omega) (by omega)
  simp only [iu_eq] at q2 q3
  simp [LB.d_machines_begun_at, slots0, q1, q2, q3]
/-! turned back -/
theorem undone_ok {t : List Nat} (ht : IsTurn k t) : (stOf p (n + 1)).call F.turns_undone [nts t] m = .ok (nts (invT t)) m := by
  rw [H.undone.call]
  have hl : t.length = k := ht.len
  have hc : evalE (stOf p n) (.comp (.op .index [(.var 0), (.var 1)]) (.one 1) 1 [(.op .len [(.var 0)])] [1] none) ⟨[.val (nts t), .no], m⟩ = .ok (.lst ((List.range t.length).map fun l => iu (t.idxOf l))) ⟨[.val (nts t), .no], m⟩ := by
    have hs : small (t.length : Int) = true := small_of (by omega) (by have := hk.hi; omega)
    refine ev_compM (avs := [.v (iu t.length)]) (xs := (List.range t.length).map iu) (List.range t.length) iu (fun l => iu (t.idxOf l)) (by simp) (by simp only [walkA, List.all_cons, ok_v, List.all_nil, Bool.and_self, if_true, List.map_cons, List.map_nil, get_v, iu_eq, cont_int, walk, hs, rng_iu]) rfl (by simp [stillIs]) (by simp) (by have := line_ge; have := hk.hi; simp; omega) ?_
    intro x hx
    have hxk : x < k := by rw [← hl]; exact List.mem_range.1 hx
    have hm : x ∈ t := by have := ht.mem_iff (a := x); rw [List.mem_range] at this; exact this.2 hxk
    refine ⟨⟨[.val (nts t), .val (iu x)], m⟩, by simp, ?_, by simp [stillIs], by simp⟩
    have hop := index_tup (stOf p n) t x hm
    simp only [iu_eq] at hop
    generalize t.idxOf x = z at *
    simp [kindN, hop]
  have e : (List.range t.length).map (fun l => iu (t.idxOf l)) = (invT t).map iu := by unfold invT; rw [List.map_map]; rfl
  rw [e] at hc
  generalize invT t = z at *
  refine run_ret (s := ⟨[.val (nts t), .no], m⟩) LB.d_turns_undone [nts t] m rfl (x_last (xs := []) (x := .ret (.op .tupOf [(.comp (.op .index [(.var 0), (.var 1)]) (.one 1) 1 [(.op .len [(.var 0)])] [1] none)])) ?_)
  have e0 : slots0 [nts t] LB.d_turns_undone.slots = [.val (nts t), .no] := rfl
  rw [e0, x_ret, e_tupOf, as_cons, arg_comp, hc]
  simp
theorem turn_back_ok {t : List Nat} (ht : IsTurn k t) : (stOf p (n + 5)).call F.turns_turn_back [nts t] m = .ok (nts (invT t)) m := by
  rw [H.turn_back.call, run_def _ _ _ rfl]
  have q1 := need_turn_ok n m H.toHMach hk ht
  have q2 := undone_ok (n + 3) m H hk ht
  simp [LB.d_turns_turn_back, slots0, q1, q2]
theorem room_back_ok {r : Room} (ht : IsTurn k r.1) (hl : r.2.length = k) (hI : IsTurn k (invT r.1)) : (stOf p (n + 6)).call F.products_room_back [roomU r] m = .ok (roomU (backR r)) m := by
  rw [H.room_back.call, run_def _ _ _ rfl]
  have q1 := turn_back_ok n m H hk ht
  have hc : evalE (stOf p (n + 5)) (.comp (.op .ix [(.var 2), (.var 4)]) (.one 4) 0 [(.var 3)] [4] none) ⟨[.val (roomU r), .val (nts r.1), .val (nts r.2), .val (nts (invT r.1)), .no], m⟩ = .ok (.lst ((invT r.1).map fun l => iu (r.2.getD l 0))) ⟨[.val (roomU r), .val (nts r.1), .val (nts r.2), .val (nts (invT r.1)), .no], m⟩ := by
    refine ev_compM (avs := [.v (nts (invT r.1))]) (xs := (invT r.1).map iu) (invT r.1) iu (fun l => iu (r.2.getD l 0)) (by simp) (by simp [walkA, walk]) rfl (by simp [stillIs]) (by simp) (hk.line_ _ (Nat.le_of_eq hI.len)) ?_
    intro j hj
    have hjb : j < r.2.length := by rw [hl]; exact hI.lt hj
    refine ⟨⟨[.val (roomU r), .val (nts r.1), .val (nts r.2), .val (nts (invT r.1)), .val (iu j)], m⟩, by simp, ?_, by simp [stillIs], by simp⟩
    simp [hjb]
  have e : (invT r.1).map (fun l => iu (r.2.getD l 0)) = (backR r).2.map iu := by simp [backR, Function.comp_def]
  rw [e] at hc
  have e2 : (backR r).1 = invT r.1 := rfl
  have h2l : 2 ≤ line := by have := line_ge; omega
  simp only [roomU_eq] at hc ⊢
  rw [e2]
  generalize (backR r).2 = z at *
  generalize invT r.1 = y at *
  simp [LB.d_products_room_back, slots0, q1, hc, okT, h2l]
theorem turned_back_ok {M : Mach} (g : Good k M) (h1 : 1 ≤ M.length) (h2 : M.length ≤ 60) (hI : ∀ t, IsTurn k t → IsTurn k (invT t)) (gB : Good k (M.map backR)) (ht : 5000 < p.turns) : (stOf p (n + 8)).call F.products_turned_back [machU M] m = .ok (machU (leastL (M.map backR) 0)) m := by
  rw [H.turned_back.call, run_def _ _ _ rfl]
  have q1 := sure_machine_ok (n + 1) m H.toHMach hk g h1 h2
  have q2 := least_ok n m H.toHPair hk gB (by simpa using h1) (by simpa using h2) ht
  have hc : evalE (stOf p (n + 7)) (.comp (.call F.products_room_back [(.var 1)]) (.one 1) 0 [(.call F.machines_sure_machine [(.var 0)])] [1] none) ⟨[.val (machU M), .no], m⟩ = .ok (.lst (M.map fun r => roomU (backR r))) ⟨[.val (machU M), .no], m⟩ := by
    refine ev_compM (avs := [.v (machU M)]) (xs := M.map roomU) M roomU (fun r => roomU (backR r)) (by simp [q1]) (by simp [walkA, walk]) rfl (by simp [stillIs]) (by simp) (by have := line_ge; omega) ?_
    intro r hr
    have q3 := room_back_ok (n + 1) m H hk (g.turn r hr) (g.many r hr) (hI _ (g.turn r hr))
    refine ⟨⟨[.val (machU M), .val (roomU r)], m⟩, by simp, ?_, by simp [stillIs], by simp⟩
    simp only [e_call, es_cons, e_var, slot_mk, List.getD_cons_succ, List.getD_cons_zero, bind_ok, es_nil, q3, rc_ok]
  have e : M.map (fun r => roomU (backR r)) = (M.map backR).map roomU := by rw [List.map_map]; rfl
  rw [e] at hc
  generalize M.map backR = B at *
  simp [LB.d_products_turned_back, slots0, hc, q2]
end
end MPE
set_option maxRecDepth 100000
set_option maxHeartbeats 4000000
/-! E9: the row that parts two rooms, walked, where all that is met besides one road is alike. -/
namespace MPE
open MP
open MM
abbrev E3 := Nat × Nat × List Nat
def prE (e : E3) : Nat × Nat := (e.1, e.2.1)
def e3U (e : E3) : U := .tup [iu e.1, iu e.2.1, nts e.2.2]
theorem e3U_eq (e : E3) : e3U e = .tup [.int e.1, .int e.2.1, nts e.2.2] := by unfold e3U; rw [iu_eq, iu_eq]
def knP (met : List E3) : U := .dic ((met.map prE).map prU) (met.map fun _ => .bl true)
/-- the road of pairs that part -/
structure Part (k : Nat) (M : Mach) (x y : Nat → Nat) (D : Nat) : Prop where
  lt : ∀ t, t ≤ D → x t < M.length ∧ y t < M.length
  ne : ∀ t, t ≤ D → x t ≠ y t
  inj : ∀ t u, t ≤ D → u ≤ D → x t = x u → t = u
  eq : ∀ t, t < D → tn M (x t) = tn M (y t)
  df : (tn M (x D)).getD 0 0 ≠ (tn M (y D)).getD 0 0
  nx : ∀ t, t < D → to M (x t) 0 = x (t + 1) ∧ to M (y t) 0 = y (t + 1)
  oth : ∀ t, t < D → ∀ l, l < k → (to M (x t) l = x (t + 1) ∧ to M (y t) l = y (t + 1)) ∨ to M (x t) l = to M (y t) l
structure PInv (M : Mach) (x y : Nat → Nat) (c : Nat) (met : List E3) : Prop where
  nd : (met.map prE).Nodup
  lt : ∀ e ∈ met, e.1 < M.length ∧ e.2.1 < M.length
  fm : ∀ e ∈ met, e.1 = e.2.1 ∨ ∃ t, t ≤ c ∧ e = (x t, y t, List.replicate t 0)
  ln : ∀ (i : Nat) (e : E3), met[i]? = some e → e.2.2.length ≤ i
theorem PInv.mono {M : Mach} {x y : Nat → Nat} {c c' : Nat} {met : List E3} (h : PInv M x y c met) (hc : c ≤ c') : PInv M x y c' met :=
  ⟨h.nd, h.lt, fun e he => by rcases h.fm e he with q | ⟨t, ht, q⟩; exact .inl q; exact .inr ⟨t, by omega, q⟩, h.ln⟩
theorem PInv.push {M : Mach} {x y : Nat → Nat} {c : Nat} {met : List E3} (h : PInv M x y c met) {e : E3} (hn : prE e ∉ met.map prE) (hl : e.1 < M.length ∧ e.2.1 < M.length) (hf : e.1 = e.2.1 ∨ ∃ t, t ≤ c ∧ e = (x t, y t, List.replicate t 0)) (hr : e.2.2.length ≤ met.length) : PInv M x y c (met ++ [e]) where
  nd := by
    rw [List.map_append, List.nodup_append]
    refine ⟨h.nd, by simp, fun a ha b hb => ?_⟩
    simp only [List.map_cons, List.map_nil, List.mem_singleton] at hb
    subst hb
    rintro rfl
    exact hn ha
  lt := fun z hz => by
    rcases List.mem_append.1 hz with q | q
    · exact h.lt z q
    · simp only [List.mem_singleton] at q; subst q; exact hl
  fm := fun z hz => by
    rcases List.mem_append.1 hz with q | q
    · exact h.fm z q
    · simp only [List.mem_singleton] at q; subst q; exact hf
  ln := fun i z hz => by
    by_cases hi : i < met.length
    · rw [List.getElem?_append_left hi] at hz; exact h.ln i z hz
    · rw [List.getElem?_append_right (by omega)] at hz
      obtain ⟨h1, h2⟩ := List.getElem?_eq_some_iff.1 hz
      simp only [List.length_singleton] at h1
      have : i = met.length := by omega
      subst this
      simp at h2
      subst h2
      exact hr
theorem PInv.len {M : Mach} {x y : Nat → Nat} {c : Nat} {met : List E3} (h : PInv M x y c met) : met.length ≤ M.length * M.length := by
  have := sub_len (met.map prE) (allP M M) h.nd fun q hq => by
    obtain ⟨e, he, rfl⟩ := List.mem_map.1 hq
    exact mem_allP.2 (h.lt e he)
  rw [allP_len, List.length_map] at this
  exact this
theorem turnsW_ret {γ : Type} {R : γ → Sta → Prop} {c : Sta → Rs Bool} {f : Sta → Rs Fl} {μ : γ → Nat} {v : U} {m : List U} (hc : ∀ b s, R b s → c s = .ok true s) (hf : ∀ b s, R b s → (∃ s', f s = .ok (.ret v) s' ∧ s'.m = m) ∨ ∃ b' s', f s = .ok .next s' ∧ R b' s' ∧ μ b' < μ b) :
    ∀ (n : Nat) (b : γ) (s : Sta), μ b < n → R b s → ∃ s', turnsW c f n s = .ok (.ret v) s' ∧ s'.m = m
  | 0, b, s, h, _ => by omega
  | n + 1, b, s, h, r => by
    rcases hf b s r with ⟨s', g1, g2⟩ | ⟨b', s', g1, g2, g3⟩
    · exact ⟨s', by simp only [turnsW, hc b s r, Rs.bind, g1, if_true], g2⟩
    · obtain ⟨s2, k1, k2⟩ := turnsW_ret hc hf n b' s' (by omega) g2
      exact ⟨s2, by simp only [turnsW, hc b s r, Rs.bind, g1, k1, if_true], k2⟩
theorem dput_app' {ks vs : List U} {k v : U} (h : memU k ks = false) : dput ks vs k v = (ks ++ [k], vs ++ [v]) := by
  unfold dput
  rw [h]
  rfl
def f1 : List MS := [.ife (.op .ne [(.op .ix [(.op .ix [(.op .ix [(.var 0), (.var 7)]), (.lit (.int 0))]), (.var 10)]), (.op .ix [(.op .ix [(.op .ix [(.var 0), (.var 8)]), (.lit (.int 0))]), (.var 10)])]) [.ret (.op .add [(.var 9), (.op .tup [(.var 10)])])] []]
def f2 : List MS := [.set (.one 11) (.op .tup [(.op .ix [(.op .ix [(.op .ix [(.var 0), (.var 7)]), (.lit (.int 1))]), (.var 10)]), (.op .ix [(.op .ix [(.op .ix [(.var 0), (.var 8)]), (.lit (.int 1))]), (.var 10)])]),
  .ife (.op .notin [(.var 11), (.var 5)]) [.setIx (.var 5) (.var 11) (.lit (.bl true)),
  .expr (.mut .append (.var 4) [(.op .tup [(.op .ix [(.var 11), (.lit (.int 0))]), (.op .ix [(.var 11), (.lit (.int 1))]), (.op .add [(.var 9), (.op .tup [(.var 10)])])])])] []]
def wB : List MS := [.set (.tup [(.one 7), (.one 8), (.one 9)]) (.op .ix [(.var 4), (.var 6)]), .forr (.one 10) 1 [(.var 3)] f1, .forr (.one 10) 1 [(.var 3)] f2, .aug 6 .add (.lit (.int 1))]
theorem add_nts (g : Gst) (a b : List Nat) (h : a.length + b.length ≤ 10000) : opSem g .add [nts a, nts b] = some (nts (a ++ b)) := by
  show okT _ = _
  unfold okT
  rw [if_pos (by have := line_ge; simp; omega), ← List.map_append]
section
variable {k : Nat} (hk : K24 k) {M : Mach} (gM : Good k M) (hM : M.length ≤ 60) (m : List U) (g : Gst) (u1 u2 : U)
/-- the state of the loop -/
abbrev PS (k : Nat) (M : Mach) (m : List U) (u1 u2 : U) (met : List E3) (at_ : Nat) (j7 j8 j9 j10 j11 : Slt) : Sta := ⟨[.val (machU M), .val u1, .val u2, .val (iu k), .own (.lst (met.map e3U)), .own (knP met), .val (iu at_), j7, j8, j9, j10, j11], m⟩
include hk gM in
/-- turns that are alike: the first loop passes -/
theorem pf1_pass {met : List E3} {at_ a b : Nat} {row : List Nat} (ha : a < M.length) (hb : b < M.length) (he : tn M a = tn M b) (j10 j11 : Slt) :
    ∃ j10', execS g (.forr (.one 10) 1 [(.var 3)] f1) (PS k M m u1 u2 met at_ (.val (iu a)) (.val (iu b)) (.val (nts row)) j10 j11) = .ok .next (PS k M m u1 u2 met at_ (.val (iu a)) (.val (iu b)) (.val (nts row)) j10' j11) := by
  have eA : M[a]? = some (tn M a, rs M a) := by unfold tn rs; rw [getD_eq ha, List.getElem?_eq_getElem ha]
  have eB : M[b]? = some (tn M b, rs M b) := by unfold tn rs; rw [getD_eq hb, List.getElem?_eq_getElem hb]
  rw [← he] at eB
  have lt : (tn M a).length = k := (gM.tn ha).len
  obtain ⟨s', q1, j, q2⟩ := turnsF_relI (R := fun _ s => ∃ j, s = PS k M m u1 u2 met at_ (.val (iu a)) (.val (iu b)) (.val (nts row)) j j11) (enc := iu) (f := fun x s1 => match bindT (.one 10) x s1 with
      | some s2 => (execs g f1 s2).bind fun fl s3 => if stillIs (PS k M m u1 u2 met at_ (.val (iu a)) (.val (iu b)) (.val (nts row)) j10 j11) s3 [.v (iu k)] then .ok fl s3 else .stuck
      | none => .stuck) (List.range k) (PS k M m u1 u2 met at_ (.val (iu a)) (.val (iu b)) (.val (nts row)) j10 j11) ⟨j10, rfl⟩ (by
    rintro i s l hl ⟨j, rfl⟩
    have hlk : l < k := List.mem_range.1 (List.mem_of_getElem? hl)
    have e1 : (tn M a)[l]? = some ((tn M a).getD l 0) := by rw [getD_eq (by omega), List.getElem?_eq_getElem (by omega)]
    refine ⟨PS k M m u1 u2 met at_ (.val (iu a)) (.val (iu b)) (.val (nts row)) (.val (iu l)) j11, .inl ?_, _, rfl⟩
    generalize (tn M a).getD l 0 = z at *
    generalize tn M a = tt at *
    have ex : execs g f1 (PS k M m u1 u2 met at_ (.val (iu a)) (.val (iu b)) (.val (nts row)) (.val (iu l)) j11) = .ok .next (PS k M m u1 u2 met at_ (.val (iu a)) (.val (iu b)) (.val (nts row)) (.val (iu l)) j11) := by
      refine (x_seq ((x_ifF (s' := PS k M m u1 u2 met at_ (.val (iu a)) (.val (iu b)) (.val (nts row)) (.val (iu l)) j11) ?_).trans x_nil)).trans x_nil
      simp [eA, eB, e1]
    simp only [b_one, put_mk, List.set_cons_succ, List.set_cons_zero, ex, bind_ok]
    rw [if_pos (by simp [stillIs])])
  refine ⟨j, ?_⟩
  have hs : small (k : Int) = true := small_of (by omega) (by have := hk.hi; omega)
  have ev : evalAs g [(.var 3)] (PS k M m u1 u2 met at_ (.val (iu a)) (.val (iu b)) (.val (nts row)) j10 j11) = .ok [.v (iu k)] (PS k M m u1 u2 met at_ (.val (iu a)) (.val (iu b)) (.val (nts row)) j10 j11) := by simp
  have hw : ∀ s : Sta, walkA 1 [.v (iu k)] s = some ((List.range k).map iu) := fun s => by
    simp only [walkA, List.all_cons, ok_v, List.all_nil, Bool.and_self, if_true, List.map_cons, List.map_nil, get_v, iu_eq, cont_int, walk, hs, rng_iu]
  rw [x_forr, ev, bind_ok, hw, ← q2]
  exact q1
include hk gM in
/-- turns that differ at letter 0: the first loop answers -/
theorem pf1_ret {met : List E3} {at_ a b : Nat} {row : List Nat} (hrow : row.length ≤ 9000) (ha : a < M.length) (hb : b < M.length) (he : (tn M a).getD 0 0 ≠ (tn M b).getD 0 0) (j10 j11 : Slt) :
    ∃ s', execS g (.forr (.one 10) 1 [(.var 3)] f1) (PS k M m u1 u2 met at_ (.val (iu a)) (.val (iu b)) (.val (nts row)) j10 j11) = .ok (.ret (nts (row ++ [0]))) s' ∧ s'.m = m := by
  have eA : M[a]? = some (tn M a, rs M a) := by unfold tn rs; rw [getD_eq ha, List.getElem?_eq_getElem ha]
  have eB : M[b]? = some (tn M b, rs M b) := by unfold tn rs; rw [getD_eq hb, List.getElem?_eq_getElem hb]
  have lta : (tn M a).length = k := (gM.tn ha).len
  have ltb : (tn M b).length = k := (gM.tn hb).len
  have hk2 := hk.lo
  have e1 : (tn M a)[0]? = some ((tn M a).getD 0 0) := by rw [getD_eq (by omega), List.getElem?_eq_getElem (by omega)]
  have e2 : (tn M b)[0]? = some ((tn M b).getD 0 0) := by rw [getD_eq (by omega), List.getElem?_eq_getElem (by omega)]
  generalize hz1 : (tn M a).getD 0 0 = z1 at *
  generalize hz2 : (tn M b).getD 0 0 = z2 at *
  generalize tn M a = ta at *
  generalize tn M b = tb at *
  have ex : execs g f1 (PS k M m u1 u2 met at_ (.val (iu a)) (.val (iu b)) (.val (nts row)) (.val (iu 0)) j11) = .ok (.ret (nts (row ++ [0]))) (PS k M m u1 u2 met at_ (.val (iu a)) (.val (iu b)) (.val (nts row)) (.val (iu 0)) j11) := by
    refine x_last ((x_ifT (s' := PS k M m u1 u2 met at_ (.val (iu a)) (.val (iu b)) (.val (nts row)) (.val (iu 0)) j11) ?_).trans ?_)
    · have hne : ((z1 : Int) == (z2 : Int)) = false := by rw [beq_eq_false_iff_ne]; omega
      simp [eA, eB, e1, e2, hne]
    · have ha := add_nts g row [0] (by simp; omega)
      have h1l : 1 ≤ line := by have := line_ge; omega
      have e0 : nts [0] = .tup [.int 0] := by simp
      rw [e0] at ha
      generalize nts (row ++ [0]) = w at *
      simp [okT, h1l, ha]
  refine ⟨PS k M m u1 u2 met at_ (.val (iu a)) (.val (iu b)) (.val (nts row)) (.val (iu 0)) j11, ?_, rfl⟩
  have hs : small (k : Int) = true := small_of (by omega) (by have := hk.hi; omega)
  have ev : evalAs g [(.var 3)] (PS k M m u1 u2 met at_ (.val (iu a)) (.val (iu b)) (.val (nts row)) j10 j11) = .ok [.v (iu k)] (PS k M m u1 u2 met at_ (.val (iu a)) (.val (iu b)) (.val (nts row)) j10 j11) := by simp
  have hw : ∀ s : Sta, walkA 1 [.v (iu k)] s = some ((List.range k).map iu) := fun s => by
    simp only [walkA, List.all_cons, ok_v, List.all_nil, Bool.and_self, if_true, List.map_cons, List.map_nil, get_v, iu_eq, cont_int, walk, hs, rng_iu]
  obtain ⟨k', rfl⟩ : ∃ k', k = k' + 1 := ⟨k - 1, by omega⟩
  rw [x_forr, ev, bind_ok, hw, List.range_succ_eq_map, List.map_cons]
  simp only [turnsF, b_one, put_mk, List.set_cons_succ, List.set_cons_zero]
  rw [ex]
  simp only [bind_ok]
  rw [if_pos (by simp [stillIs])]
  simp only [bind_ok]
end
end MPE
set_option maxRecDepth 100000
set_option maxHeartbeats 4000000
/-! E9b: the row that parts two rooms: the second loop, the whole. -/
namespace MPE
open MP
open MM
section
variable {k : Nat} (hk : K24 k) {M : Mach} (gM : Good k M) (hM : M.length ≤ 60) (m : List U) (g : Gst) (u1 u2 : U) {x y : Nat → Nat} {D : Nat}
include hk gM hM in
theorem pf2_ok (P : Part k M x y D) {c c' : Nat} (hcc : c ≤ c') {met : List E3} {at_ : Nat} {e0 : E3} (inv : PInv M x y c met) (hat : met[at_]? = some e0) (he0 : e0.1 = e0.2.1 ∨ ∃ t, t < D ∧ t + 1 ≤ c' ∧ e0 = (x t, y t, List.replicate t 0)) (j10 j11 : Slt) :
    ∃ met' j10' j11', execS g (.forr (.one 10) 1 [(.var 3)] f2) (PS k M m u1 u2 met at_ (.val (iu e0.1)) (.val (iu e0.2.1)) (.val (nts e0.2.2)) j10 j11) = .ok .next (PS k M m u1 u2 met' at_ (.val (iu e0.1)) (.val (iu e0.2.1)) (.val (nts e0.2.2)) j10' j11') ∧
      PInv M x y c' met' ∧ (∃ r, met' = met ++ r) ∧ ∀ t, t < D → e0 = (x t, y t, List.replicate t 0) → (x (t + 1), y (t + 1)) ∈ met'.map prE := by
  have hk2 := hk.lo
  obtain ⟨ha, hb⟩ := inv.lt e0 (List.mem_of_getElem? hat)
  have hrow := inv.ln at_ e0 hat
  have hatl := (List.getElem?_eq_some_iff.1 hat).1
  obtain ⟨a, b, row⟩ := e0
  simp only at ha hb hrow he0 ⊢
  have eA : M[a]? = some (tn M a, rs M a) := by unfold tn rs; rw [getD_eq ha, List.getElem?_eq_getElem ha]
  have eB : M[b]? = some (tn M b, rs M b) := by unfold tn rs; rw [getD_eq hb, List.getElem?_eq_getElem hb]
  have lra := gM.rsl ha
  have lrb := gM.rsl hb
  obtain ⟨s', q1, met', j10', j11', q2, q3, q4, q5⟩ := turnsF_relI (R := fun i s => ∃ met' j10 j11, PInv M x y c' met' ∧ (∃ r, met' = met ++ r) ∧ (1 ≤ i → ∀ t, t < D → (a, b, row) = (x t, y t, List.replicate t 0) → (x (t + 1), y (t + 1)) ∈ met'.map prE) ∧ s = PS k M m u1 u2 met' at_ (.val (iu a)) (.val (iu b)) (.val (nts row)) j10 j11) (enc := iu) (f := fun x s1 => match bindT (.one 10) x s1 with
      | some s2 => (execs g f2 s2).bind fun fl s3 => if stillIs (PS k M m u1 u2 met at_ (.val (iu a)) (.val (iu b)) (.val (nts row)) j10 j11) s3 [.v (iu k)] then .ok fl s3 else .stuck
      | none => .stuck) (List.range k) (PS k M m u1 u2 met at_ (.val (iu a)) (.val (iu b)) (.val (nts row)) j10 j11) ⟨met, j10, j11, inv.mono hcc, ⟨[], by simp⟩, by omega, rfl⟩ (by
    rintro i s l hl ⟨mt, j10, j11, iv, ⟨r, hr⟩, hkn, rfl⟩
    obtain ⟨hi, e⟩ := List.getElem?_eq_some_iff.1 hl
    rw [List.getElem_range] at e
    subst e
    have hlk : i < k := by simpa using hi
    have ra : (rs M a)[i]? = some (to M a i) := by unfold to; rw [getD_eq (by omega), List.getElem?_eq_getElem (by omega)]
    have rb : (rs M b)[i]? = some (to M b i) := by unfold to; rw [getD_eq (by omega), List.getElem?_eq_getElem (by omega)]
    have hta := gM.to ha hlk
    have htb := gM.to hb hlk
    have hmem := encQ.mem (to M a i, to M b i) (mt.map prE)
    have hkey := encQ.key (mt.map prE) (to M a i, to M b i)
    have ml := iv.len
    have ml2 : M.length * M.length ≤ 3600 := Nat.mul_le_mul hM hM
    have hmt : met.length ≤ mt.length := by rw [hr]; simp
    have l2 := line_ge
    have hkl : mt.length < line := by omega
    have h2l : 2 ≤ line := by omega
    have h1l : 1 ≤ line := by omega
    have h3l : 3 ≤ line := by omega
    have t1 : execS g (.set (.one 11) (.op .tup [(.op .ix [(.op .ix [(.op .ix [(.var 0), (.var 7)]), (.lit (.int 1))]), (.var 10)]), (.op .ix [(.op .ix [(.op .ix [(.var 0), (.var 8)]), (.lit (.int 1))]), (.var 10)])])) (PS k M m u1 u2 mt at_ (.val (iu a)) (.val (iu b)) (.val (nts row)) (.val (iu i)) j11) = .ok .next (PS k M m u1 u2 mt at_ (.val (iu a)) (.val (iu b)) (.val (nts row)) (.val (iu i)) (.val (prU (to M a i, to M b i)))) := by
      simp [eA, eB, ra, rb, okT, h2l, prU_eq]
    by_cases hq : (to M a i, to M b i) ∈ mt.map prE
    · simp only [hq, decide_true] at hmem
      refine ⟨PS k M m u1 u2 mt at_ (.val (iu a)) (.val (iu b)) (.val (nts row)) (.val (iu i)) (.val (prU (to M a i, to M b i))), .inl ?_, mt, _, _, iv, ⟨r, hr⟩, fun _ t ht ht2 => ?_, rfl⟩
      · have t2 : execS g (.ife (.op .notin [(.var 11), (.var 5)]) [.setIx (.var 5) (.var 11) (.lit (.bl true)), .expr (.mut .append (.var 4) [(.op .tup [(.op .ix [(.var 11), (.lit (.int 0))]), (.op .ix [(.var 11), (.lit (.int 1))]), (.op .add [(.var 9), (.op .tup [(.var 10)])])])])] []) (PS k M m u1 u2 mt at_ (.val (iu a)) (.val (iu b)) (.val (nts row)) (.val (iu i)) (.val (prU (to M a i, to M b i)))) = .ok .next (PS k M m u1 u2 mt at_ (.val (iu a)) (.val (iu b)) (.val (nts row)) (.val (iu i)) (.val (prU (to M a i, to M b i)))) := by
          refine (x_ifF (s' := PS k M m u1 u2 mt at_ (.val (iu a)) (.val (iu b)) (.val (nts row)) (.val (iu i)) (.val (prU (to M a i, to M b i)))) ?_).trans x_nil
          have hcn : cont m (prU (to M a i, to M b i)) = prU (to M a i, to M b i) := rfl
          have hkey' := hkey
          have hmem' := hmem
          rw [List.map_map] at hkey' hmem'
          generalize prU (to M a i, to M b i) = z at *
          simp [knP, hkey', hmem', hcn]
        have ex : execs g f2 (PS k M m u1 u2 mt at_ (.val (iu a)) (.val (iu b)) (.val (nts row)) (.val (iu i)) j11) = _ := (x_seq t1).trans ((x_seq t2).trans x_nil)
        simp only [b_one, put_mk, List.set_cons_succ, List.set_cons_zero, ex, bind_ok]
        rw [if_pos (by simp [stillIs])]
      · by_cases h0 : i = 0
        · subst h0
          simp only [Prod.mk.injEq] at ht2
          obtain ⟨rfl, rfl, _⟩ := ht2
          rw [(P.nx t ht).1, (P.nx t ht).2] at hq
          exact hq
        · exact hkn (by omega) t ht ht2
    · simp only [hq, decide_false] at hmem
      let e : E3 := (to M a i, to M b i, row ++ [i])
      have hfm : e.1 = e.2.1 ∨ ∃ t, t ≤ c' ∧ e = (x t, y t, List.replicate t 0) := by
        rcases he0 with h | ⟨t, ht, ht2, h⟩
        · left
          show to M a i = to M b i
          rw [h]
        · simp only [Prod.mk.injEq] at h
          obtain ⟨rfl, rfl, rfl⟩ := h
          by_cases h0 : i = 0
          · subst h0
            refine .inr ⟨t + 1, ht2, ?_⟩
            show (to M (x t) 0, to M (y t) 0, List.replicate t 0 ++ [0]) = _
            rw [(P.nx t ht).1, (P.nx t ht).2, List.replicate_succ']
          · rcases P.oth t ht i hlk with h | h
            · exact absurd (by rw [h.1, h.2]; exact hkn (by omega) t ht rfl) hq
            · exact .inl h
      have iv2 := iv.push (e := e) hq ⟨hta, htb⟩ hfm (by show (row ++ [i]).length ≤ _; simp; omega)
      have hd := dput_app' (vs := mt.map fun _ => U.bl true) (v := .bl true) hmem
      refine ⟨PS k M m u1 u2 (mt ++ [e]) at_ (.val (iu a)) (.val (iu b)) (.val (nts row)) (.val (iu i)) (.val (prU (to M a i, to M b i))), .inl ?_, mt ++ [e], _, _, iv2, ⟨r ++ [e], by rw [hr, List.append_assoc]⟩, fun _ t ht ht2 => ?_, rfl⟩
      · have hadd := add_nts g row [i] (by simp; omega)
        have e0 : nts [i] = .tup [.int i] := by simp
        rw [e0] at hadd
        have hkn2 : knP (mt ++ [e]) = .dic ((mt.map prE).map prU ++ [prU (to M a i, to M b i)]) ((mt.map fun _ => U.bl true) ++ [.bl true]) := by
          unfold knP
          rw [List.map_append, List.map_append, List.map_append]
          rfl
        have hset : mutSem .setIx (knP mt) [prU (to M a i, to M b i), .bl true] = some (knP (mt ++ [e]), .non) := by
          rw [hkn2]
          have hkl2 : ((mt.map prE).map prU).length < line := by simpa using hkl
          simp only [knP, mutSem, muSetIx, hkey, hkl2, decide_true, Bool.and_self, if_true, hd]
        have hne : mutSem .append (.lst (mt.map e3U)) [e3U e] = some (.lst ((mt ++ [e]).map e3U), .non) := by
          simp [mutSem, muAppend, hkl]
        have hcn : cont m (prU (to M a i, to M b i)) = prU (to M a i, to M b i) := rfl
        have hkn0 : knP mt = .dic ((mt.map prE).map prU) (mt.map fun _ => U.bl true) := rfl
        have t2 : execS g (.ife (.op .notin [(.var 11), (.var 5)]) [.setIx (.var 5) (.var 11) (.lit (.bl true)), .expr (.mut .append (.var 4) [(.op .tup [(.op .ix [(.var 11), (.lit (.int 0))]), (.op .ix [(.var 11), (.lit (.int 1))]), (.op .add [(.var 9), (.op .tup [(.var 10)])])])])] []) (PS k M m u1 u2 mt at_ (.val (iu a)) (.val (iu b)) (.val (nts row)) (.val (iu i)) (.val (prU (to M a i, to M b i)))) = .ok .next (PS k M m u1 u2 (mt ++ [e]) at_ (.val (iu a)) (.val (iu b)) (.val (nts row)) (.val (iu i)) (.val (prU (to M a i, to M b i)))) := by
          refine (x_ifT (s' := PS k M m u1 u2 mt at_ (.val (iu a)) (.val (iu b)) (.val (nts row)) (.val (iu i)) (.val (prU (to M a i, to M b i)))) ?_).trans ?_
          · clear hset hkn2
            have hkey' := hkey
            have hmem' := hmem
            rw [List.map_map] at hkey' hmem'
            generalize prU (to M a i, to M b i) = z at *
            simp [knP, hkey', hmem', hcn]
          · have v1 : execS g (.setIx (.var 5) (.var 11) (.lit (.bl true))) (PS k M m u1 u2 mt at_ (.val (iu a)) (.val (iu b)) (.val (nts row)) (.val (iu i)) (.val (prU (to M a i, to M b i)))) = .ok .next ⟨[.val (machU M), .val u1, .val u2, .val (iu k), .own (.lst (mt.map e3U)), .own (knP (mt ++ [e])), .val (iu at_), .val (iu a), .val (iu b), .val (nts row), .val (iu i), .val (prU (to M a i, to M b i))], m⟩ := by
              generalize prU (to M a i, to M b i) = z at *
              simp [hset, setC]
            have v2 : execS g (.expr (.mut .append (.var 4) [(.op .tup [(.op .ix [(.var 11), (.lit (.int 0))]), (.op .ix [(.var 11), (.lit (.int 1))]), (.op .add [(.var 9), (.op .tup [(.var 10)])])])])) ⟨[.val (machU M), .val u1, .val u2, .val (iu k), .own (.lst (mt.map e3U)), .own (knP (mt ++ [e])), .val (iu at_), .val (iu a), .val (iu b), .val (nts row), .val (iu i), .val (prU (to M a i, to M b i))], m⟩ = .ok .next (PS k M m u1 u2 (mt ++ [e]) at_ (.val (iu a)) (.val (iu b)) (.val (nts row)) (.val (iu i)) (.val (prU (to M a i, to M b i)))) := by
              have he3 : e3U e = .tup [.int (to M a i : Nat), .int (to M b i : Nat), nts (row ++ [i])] := e3U_eq e
              rw [he3] at hne
              have hpr : prU (to M a i, to M b i) = .tup [.int (to M a i : Nat), .int (to M b i : Nat)] := prU_eq _
              rw [hpr]
              generalize nts (row ++ [i]) = w4 at *
              generalize to M a i = z1 at *
              generalize to M b i = z2 at *
              simp [okT, h1l, h3l, hadd, kindN, Mop.kind, mutF, hne, setC]
            exact (x_seq v1).trans ((x_seq v2).trans x_nil)
        have ex : execs g f2 (PS k M m u1 u2 mt at_ (.val (iu a)) (.val (iu b)) (.val (nts row)) (.val (iu i)) j11) = _ := (x_seq t1).trans ((x_seq t2).trans x_nil)
        simp only [b_one, put_mk, List.set_cons_succ, List.set_cons_zero, ex, bind_ok]
        rw [if_pos (by simp [stillIs])]
      · by_cases h0 : i = 0
        · subst h0
          simp only [Prod.mk.injEq] at ht2
          obtain ⟨rfl, rfl, _⟩ := ht2
          rw [List.map_append, List.mem_append]
          right
          show _ ∈ [(to M (x t) 0, to M (y t) 0)]
          rw [(P.nx t ht).1, (P.nx t ht).2]
          simp
        · rw [List.map_append, List.mem_append]
          exact .inl (hkn (by omega) t ht ht2))
  refine ⟨met', j10', j11', ?_, q2, q3, fun t ht ht2 => q4 (by simp; omega) t ht ht2⟩
  have hs : small (k : Int) = true := small_of (by omega) (by have := hk.hi; omega)
  have ev : evalAs g [(.var 3)] (PS k M m u1 u2 met at_ (.val (iu a)) (.val (iu b)) (.val (nts row)) j10 j11) = .ok [.v (iu k)] (PS k M m u1 u2 met at_ (.val (iu a)) (.val (iu b)) (.val (nts row)) j10 j11) := by simp
  have hw : ∀ s : Sta, walkA 1 [.v (iu k)] s = some ((List.range k).map iu) := fun s => by
    simp only [walkA, List.all_cons, ok_v, List.all_nil, Bool.and_self, if_true, List.map_cons, List.map_nil, get_v, iu_eq, cont_int, walk, hs, rng_iu]
  rw [x_forr, ev, bind_ok, hw, ← q5]
  exact q1
end
end MPE
set_option maxRecDepth 100000
set_option maxHeartbeats 4000000
/-! E9c: the row that parts two rooms: the whole. -/
namespace MPE
open MP
open MM
section
variable {k : Nat} (hk : K24 k) {M : Mach} (gM : Good k M) (hM : M.length ≤ 60) (m : List U) (g : Gst) (u1 u2 : U) {x y : Nat → Nat} {D : Nat}
def RL (k : Nat) (M : Mach) (m : List U) (u1 u2 : U) (x y : Nat → Nat) (D : Nat) (b : List E3 × Nat) (s : Sta) : Prop := ∃ c, c ≤ D ∧ PInv M x y c b.1 ∧ (∃ i, b.2 ≤ i ∧ b.1[i]? = some (x c, y c, List.replicate c 0)) ∧ ∃ j7 j8 j9 j10 j11, s = PS k M m u1 u2 b.1 b.2 j7 j8 j9 j10 j11
include hk gM hM in
theorem part_turn (P : Part k M x y D) (b : List E3 × Nat) (s : Sta) (r : RL k M m u1 u2 x y D b s) :
    (∃ s', execs g wB s = .ok (.ret (nts (List.replicate D 0 ++ [0]))) s' ∧ s'.m = m) ∨ ∃ b' s', execs g wB s = .ok .next s' ∧ RL k M m u1 u2 x y D b' s' ∧ 3601 - b'.2 < 3601 - b.2 := by
  obtain ⟨met, at_⟩ := b
  obtain ⟨c, hc, inv, ⟨i, hi, hci⟩, j7, j8, j9, j10, j11, rfl⟩ := r
  simp only at inv hi hci ⊢
  have hil := (List.getElem?_eq_some_iff.1 hci).1
  have hal : at_ < met.length := by omega
  obtain ⟨e0, hat⟩ : ∃ e0, met[at_]? = some e0 := ⟨met[at_], List.getElem?_eq_getElem hal⟩
  have hmem := List.mem_of_getElem? hat
  obtain ⟨ha, hb⟩ := inv.lt e0 hmem
  have hrow := inv.ln at_ e0 hat
  have ml := inv.len
  have ml2 : M.length * M.length ≤ 3600 := Nat.mul_le_mul hM hM
  have s1 : execS g (.set (.tup [(.one 7), (.one 8), (.one 9)]) (.op .ix [(.var 4), (.var 6)])) (PS k M m u1 u2 met at_ j7 j8 j9 j10 j11) = .ok .next (PS k M m u1 u2 met at_ (.val (iu e0.1)) (.val (iu e0.2.1)) (.val (nts e0.2.2)) j10 j11) := by
    simp [hat, e3U_eq]
  by_cases hD : e0 = (x D, y D, List.replicate D 0)
  · left
    subst hD
    simp only at ha hb hrow
    obtain ⟨s', q1, q2⟩ := pf1_ret hk gM m g u1 u2 (met := met) (at_ := at_) (row := List.replicate D 0) (by simp at hrow ⊢; omega) ha hb P.df j10 j11
    exact ⟨s', (x_seq s1).trans (x_last q1), q2⟩
  · right
    obtain ⟨c', hcc, hcD, hform⟩ : ∃ c', c ≤ c' ∧ c' ≤ D ∧ (e0.1 = e0.2.1 ∧ c' = c ∨ ∃ t, t < D ∧ t ≤ c ∧ t + 1 ≤ c' ∧ (t + 1 ≤ c → c' = c) ∧ (t = c → c' = c + 1) ∧ e0 = (x t, y t, List.replicate t 0)) := by
      rcases inv.fm e0 hmem with h | ⟨t, ht, h⟩
      · exact ⟨c, Nat.le_refl _, hc, .inl ⟨h, rfl⟩⟩
      · have htD : t < D := by
          rcases Nat.lt_or_ge t D with q | q
          · exact q
          · exact absurd (by rw [h]; have : t = D := by omega
                             rw [this]) hD
        by_cases htc : t = c
        · exact ⟨c + 1, by omega, by omega, .inr ⟨t, htD, ht, by omega, by omega, by omega, h⟩⟩
        · exact ⟨c, by omega, hc, .inr ⟨t, htD, ht, by omega, by omega, by omega, h⟩⟩
    have htn : tn M e0.1 = tn M e0.2.1 := by
      rcases hform with h | ⟨t, h1, _, _, _, _, h⟩
      · rw [h.1]
      · rw [h]; exact P.eq t h1
    obtain ⟨k10, p1⟩ := pf1_pass hk gM m g u1 u2 (met := met) (at_ := at_) (row := e0.2.2) ha hb htn j10 j11
    obtain ⟨met', l10, l11, p2, inv', ⟨r, hr⟩, hpush⟩ := pf2_ok hk gM hM m g u1 u2 P hcc inv hat (by
      rcases hform with h | ⟨t, h1, h2, h3, _, _, h⟩
      · exact .inl h.1
      · exact .inr ⟨t, h1, h3, h⟩) k10 j11
    have s4 : execS g (.aug 6 .add (.lit (.int 1))) (PS k M m u1 u2 met' at_ (.val (iu e0.1)) (.val (iu e0.2.1)) (.val (nts e0.2.2)) l10 l11) = .ok .next (PS k M m u1 u2 met' (at_ + 1) (.val (iu e0.1)) (.val (iu e0.2.1)) (.val (nts e0.2.2)) l10 l11) := by
      simp [opAug]
    have hgo : ∀ j e, met[j]? = some e → met'[j]? = some e := fun j e h => by
      rw [hr, List.getElem?_append_left (List.getElem?_eq_some_iff.1 h).1]; exact h
    refine ⟨(met', at_ + 1), _, (x_seq s1).trans ((x_seq p1).trans ((x_seq p2).trans ((x_seq s4).trans x_nil))), ⟨c', hcD, inv', ?_, _, _, _, _, _, rfl⟩, by simp only; omega⟩
    simp only
    rcases hform with ⟨hd, rfl⟩ | ⟨t, h1, h2, h3, h4, h5, h⟩
    · refine ⟨i, ?_, hgo _ _ hci⟩
      have : i ≠ at_ := fun e => by
        subst e
        rw [hat] at hci
        cases hci
        exact P.ne c' hcD hd
      omega
    · by_cases htc : t = c
      · have ec := h5 htc
        subst ec
        subst htc
        obtain ⟨e, he, hpe⟩ := List.mem_map.1 (hpush t h1 h)
        simp only [prE, Prod.mk.injEq] at hpe
        have hne : ¬ e.1 = e.2.1 := by rw [hpe.1, hpe.2]; exact P.ne (t + 1) (by omega)
        rcases inv'.fm e he with q | ⟨t', ht', q⟩
        · exact absurd q hne
        have ht2 : t' = t + 1 := P.inj _ _ (by omega) (by omega) (by rw [← hpe.1, q])
        subst ht2
        rw [hr] at he
        rcases List.mem_append.1 he with w | w
        · rcases inv.fm e w with z | ⟨t3, ht3, z⟩
          · exact absurd z hne
          · have := P.inj t3 (t + 1) (by omega) (by omega) (by rw [← hpe.1, z])
            omega
        · obtain ⟨j, hj, hj2⟩ := List.getElem_of_mem w
          refine ⟨met.length + j, by omega, ?_⟩
          rw [hr, List.getElem?_append_right (by omega), Nat.add_sub_cancel_left, List.getElem?_eq_getElem hj, hj2, q]
      · have ec := h4 (by omega)
        subst ec
        refine ⟨i, ?_, hgo _ _ hci⟩
        have : i ≠ at_ := fun e => by
          subst e
          rw [hat] at hci
          cases hci
          simp only [Prod.mk.injEq] at h
          exact htc (P.inj _ _ (by omega) (by omega) h.1.symm)
        omega
end
theorem parting_ok {p : Prg} (n : Nat) (m : List U) (H : HMore p) {k : Nat} (hk : K24 k) {M : Mach} (gM : Good k M) (hM : M.length ≤ 60) {x y : Nat → Nat} {D : Nat} (P : Part k M x y D) (ht : 5000 < p.turns) :
    (stOf p (n + 8)).call F.machines_parting_row [machU M, iu (x 0), iu (y 0)] m = .ok (nts (List.replicate D 0 ++ [0])) m := by
  rw [H.parting_row.call]
  have hl0 := P.lt 0 (Nat.zero_le _)
  have q1 := letters_of_ok n m H.toHMach hk gM (by omega) hM
  have q2 := checked_room_ok (n + 5) m H hl0.1
  have q3 := checked_room_ok (n + 5) m H hl0.2
  let met0 : List E3 := [(x 0, y 0, [])]
  have inv0 : PInv M x y 0 met0 := ⟨by simp [met0], fun e he => by simp only [met0, List.mem_singleton] at he; subst he; exact hl0, fun e he => by simp only [met0, List.mem_singleton] at he; subst he; exact .inr ⟨0, Nat.le_refl _, rfl⟩, fun i e he => by
    have := List.mem_of_getElem? he
    simp only [met0, List.mem_singleton] at this
    subst this
    exact Nat.zero_le _⟩
  have h1l : 1 ≤ line := by have := line_ge; omega
  have h2l : 2 ≤ line := by have := line_ge; omega
  have h3l : 3 ≤ line := by have := line_ge; omega
  have h0l : 0 ≤ line := Nat.zero_le _
  have s1 : execS (stOf p (n + 7)) (.set (.one 3) (.call F.machines_letters_of [(.var 0)])) ⟨[.val (machU M), .val (iu (x 0)), .val (iu (y 0)), .no, .no, .no, .no, .no, .no, .no, .no, .no], m⟩ = .ok .next ⟨[.val (machU M), .val (iu (x 0)), .val (iu (y 0)), .val (iu k), .no, .no, .no, .no, .no, .no, .no, .no], m⟩ := by
    simp only [iu_eq] at q1
    simp [q1]
  have s2 : execS (stOf p (n + 7)) (.expr (.call F.machines_checked_room [(.var 0), (.var 1)])) ⟨[.val (machU M), .val (iu (x 0)), .val (iu (y 0)), .val (iu k), .no, .no, .no, .no, .no, .no, .no, .no], m⟩ = .ok .next ⟨[.val (machU M), .val (iu (x 0)), .val (iu (y 0)), .val (iu k), .no, .no, .no, .no, .no, .no, .no, .no], m⟩ := by
    simp only [iu_eq] at q2
    simp [q2]
  have s3 : execS (stOf p (n + 7)) (.expr (.call F.machines_checked_room [(.var 0), (.var 2)])) ⟨[.val (machU M), .val (iu (x 0)), .val (iu (y 0)), .val (iu k), .no, .no, .no, .no, .no, .no, .no, .no], m⟩ = .ok .next ⟨[.val (machU M), .val (iu (x 0)), .val (iu (y 0)), .val (iu k), .no, .no, .no, .no, .no, .no, .no, .no], m⟩ := by
    simp only [iu_eq] at q3
    simp [q3]
  have e0 : met0.map e3U = [.tup [.int (x 0 : Nat), .int (y 0 : Nat), .tup []]] := by
    show [e3U (x 0, y 0, [])] = _
    rw [e3U_eq]; rfl
  have s4 : execS (stOf p (n + 7)) (.own 4 (.op .lst [(.op .tup [(.var 1), (.var 2), (.op .tup [])])])) ⟨[.val (machU M), .val (iu (x 0)), .val (iu (y 0)), .val (iu k), .no, .no, .no, .no, .no, .no, .no, .no], m⟩ = .ok .next ⟨[.val (machU M), .val (iu (x 0)), .val (iu (y 0)), .val (iu k), .own (.lst (met0.map e3U)), .no, .no, .no, .no, .no, .no, .no], m⟩ := by
    rw [e0]
    simp [okL, okT, h1l, h3l, h0l]
  have s5 : execS (stOf p (n + 7)) (.own 5 (.op (.dict 1) [(.op .tup [(.var 1), (.var 2)]), (.lit (.bl true))])) ⟨[.val (machU M), .val (iu (x 0)), .val (iu (y 0)), .val (iu k), .own (.lst (met0.map e3U)), .no, .no, .no, .no, .no, .no, .no], m⟩ = .ok .next ⟨[.val (machU M), .val (iu (x 0)), .val (iu (y 0)), .val (iu k), .own (.lst (met0.map e3U)), .own (knP met0), .no, .no, .no, .no, .no, .no], m⟩ := by
    have hk0 := encQ.key [] (x 0, y 0)
    rw [prU_eq] at hk0
    have hk1 : kOk [] (.tup [.int (x 0 : Nat), .int (y 0 : Nat)]) = true := hk0
    have ek : knP met0 = .dic [.tup [.int (x 0 : Nat), .int (y 0 : Nat)]] [.bl true] := by
      show U.dic [prU (x 0, y 0)] [.bl true] = _
      rw [prU_eq]
    rw [ek]
    generalize met0.map e3U = zz
    simp [okT, h2l, opDict, mkDic, hk1, dput, memU]
  have s6 : execS (stOf p (n + 7)) (.set (.one 6) (.lit (.int 0))) ⟨[.val (machU M), .val (iu (x 0)), .val (iu (y 0)), .val (iu k), .own (.lst (met0.map e3U)), .own (knP met0), .no, .no, .no, .no, .no, .no], m⟩ = .ok .next (PS k M m (iu (x 0)) (iu (y 0)) met0 0 .no .no .no .no .no) := by
    generalize met0 = zz
    simp
  obtain ⟨s', w1, w2⟩ := turnsW_ret (R := RL k M m (iu (x 0)) (iu (y 0)) x y D) (c := fun s => condOf (fun s => evalE (stOf p (n + 7)) (.op .lt [(.var 6), (.op .len [(.var 4)])]) s) (.op .lt [(.var 6), (.op .len [(.var 4)])]) s) (f := fun s => execs (stOf p (n + 7)) wB s) (μ := fun b => 3601 - b.2) (v := nts (List.replicate D 0 ++ [0])) (m := m)
    (by
      rintro ⟨met, at_⟩ s ⟨c, hc, inv, ⟨i, hi, hci⟩, j7, j8, j9, j10, j11, rfl⟩
      simp only at hi hci ⊢
      have hil := (List.getElem?_eq_some_iff.1 hci).1
      have h : at_ < met.length := by omega
      simp [h])
    (fun b s r => part_turn hk gM hM m (stOf p (n + 7)) (iu (x 0)) (iu (y 0)) P b s r) (stOf p (n + 7)).turns (met0, 0) (PS k M m (iu (x 0)) (iu (y 0)) met0 0 .no .no .no .no .no) (by
      have : (stOf p (n + 7)).turns = p.turns := rfl
      rw [this]; simp only; omega) ⟨0, Nat.zero_le _, inv0, ⟨0, Nat.le_refl _, rfl⟩, _, _, _, _, _, rfl⟩
  have hw := (x_whil (g := stOf p (n + 7)) (.op .lt [(.var 6), (.op .len [(.var 4)])]) wB).trans w1
  have fin := (x_seq s1).trans ((x_seq s2).trans ((x_seq s3).trans ((x_seq s4).trans ((x_seq s5).trans ((x_seq s6).trans (x_last (xs := [.ret (.lit .non)]) hw))))))
  have := run_ret (s := s') LB.d_machines_parting_row [machU M, iu (x 0), iu (y 0)] m rfl fin
  rw [w2] at this
  exact this
theorem chain_part {k n ar : Nat} {hm : Nat → Bool} {p : Nat → Nat} {T : List Nat} {M : Mach} (c : Chain k n ar hm p T M) (hT : T.getD 0 0 ≠ 0) {i j : Nat} (hij : i ≠ j) (hi : i < n) (hj : j < n) :
    Part k M (fun t => p (i + t)) (fun t => p (j + t)) (n - 1 - max i j) where
  lt := fun t ht => by rw [c.len]; exact ⟨c.plt _ (by omega), c.plt _ (by omega)⟩
  ne := fun t ht e => by have := c.inj _ _ (by omega) (by omega) e; omega
  inj := fun t u ht hu e => by have := c.inj _ _ (by omega) (by omega) e; omega
  eq := fun t ht => by rw [c.tn _ (by omega), c.tn _ (by omega), if_neg (by omega), if_neg (by omega)]
  df := by
    have hr : (List.range k).getD 0 0 = 0 := range_getD c.k0
    rw [c.tn _ (by omega), c.tn _ (by omega)]
    by_cases h : i < j
    · rw [if_neg (by omega), if_pos (by omega), hr]; exact fun e => hT e.symm
    · rw [if_pos (by omega), if_neg (by omega), hr]; exact hT
  nx := fun t ht => by
    rw [c.to _ _ (by omega) c.k0, c.to _ _ (by omega) c.k0]
    have a1 : i + t + 1 < n := by omega
    have a2 : j + t + 1 < n := by omega
    unfold nxC
    rw [if_pos a1, if_pos a2, c.h0]
    exact ⟨rfl, rfl⟩
  oth := fun t ht l hl => by
    rw [c.to _ _ (by omega) hl, c.to _ _ (by omega) hl]
    have a1 : i + t + 1 < n := by omega
    have a2 : j + t + 1 < n := by omega
    unfold nxC
    rw [if_pos a1, if_pos a2]
    cases hm l with
    | true => exact .inr rfl
    | false => exact .inl ⟨rfl, rfl⟩
end MPE
set_option maxRecDepth 100000
namespace MPE
open MP
namespace K83
abbrev d_turns_is_whole : MDef := LB.d_turns_is_whole
abbrev d_turns_is_between : MDef := LB.d_turns_is_between
abbrev d_turns_is_turn : MDef := LB.d_turns_is_turn
abbrev d_turns_need_turn : MDef := LB.d_turns_need_turn
abbrev d_turns_undone : MDef := LB.d_turns_undone
abbrev d_turns_turn_back : MDef := LB.d_turns_turn_back
abbrev d_turns_turn_after : MDef := LB.d_turns_turn_after
abbrev d_machines_is_below : MDef := LB.d_machines_is_below
abbrev d_machines_is_room : MDef := LB.d_machines_is_room
abbrev d_machines_is_machine : MDef := LB.d_machines_is_machine
abbrev d_machines_sure_machine : MDef := LB.d_machines_sure_machine
abbrev d_machines_letters_of : MDef := LB.d_machines_letters_of
abbrev d_machines_sure_row_of : MDef := LB.d_machines_sure_row_of
abbrev d_machines_led : MDef := LB.d_machines_led
abbrev d_machines_run : MDef := LB.d_machines_run
abbrev d_machines_room_behind : MDef := LB.d_machines_room_behind
abbrev d_machines_numbered : MDef := LB.d_machines_numbered
abbrev d_machines_room_marks : MDef := LB.d_machines_room_marks
abbrev d_machines_least_from : MDef := LB.d_machines_least_from
abbrev d_machines_least : MDef := LB.d_machines_least
abbrev d_machines_checked_room : MDef := LB.d_machines_checked_room
abbrev d_machines_begun_at : MDef := LB.d_machines_begun_at
abbrev d_machines_parting_row : MDef := LB.d_machines_parting_row
abbrev d_products_room_back : MDef := LB.d_products_room_back
abbrev d_products_turned_back : MDef := LB.d_products_turned_back
abbrev d_products_paired : MDef := LB.d_products_paired
abbrev d_products_both : MDef := LB.d_products_both
def d_law__law_state : MDef := { params := 2, slots := 8, body := [.set (.one 2) (.ifx (.op .ne [(.var 0), (.op .lst [])]) (.op .abs [(.op .ix [(.var 0), (.op .mod [(.var 1), (.op .len [(.var 0)])])])]) (.lit (.int 0))),
  .ife (.op .ge [(.var 2), (.op .pow [(.lit (.int 10)), (.lit (.int 18))])]) [.ret (.share (.op .lst [(.op .sub [(.var 2), (.op .pow [(.lit (.int 10)), (.lit (.int 18))])])]))] [],
  .set (.one 3) (.lit (.int 0)),
  .set (.one 4) (.op .lst [(.lit (.int 2147483629)), (.lit (.int 2147483587)), (.lit (.int 2147483579)), (.lit (.int 2147483563)), (.lit (.int 2147483549)), (.lit (.int 2147483543)), (.lit (.int 2147483497)), (.lit (.int 2147483489))]),
  .set (.one 4) (.op .add [(.var 4), (.op .lst [(.lit (.int 2147483477)), (.lit (.int 2147483423)), (.lit (.int 2147483399)), (.lit (.int 2147483353))])]),
  .forr (.tup [(.one 5), (.one 6)]) 3 [(.var 4)] [.set (.one 7) (.op .mod [(.op .add [(.op .add [(.op .mul [(.var 2), (.lit (.int 48271))]), (.op .mul [(.lit (.int 1103515245)), (.op .add [(.var 1), (.lit (.int 1))])])]), (.op .mul [(.op .mul [(.lit (.int 40503)), (.var 5)]), (.var 5)])]), (.var 6)]),
  .set (.one 7) (.op .mod [(.op .mul [(.var 7), (.var 7)]), (.var 6)]),
  .set (.one 3) (.op .add [(.op .mul [(.var 3), (.lit (.int 2147483647))]), (.op .mod [(.op .mul [(.var 7), (.op .add [(.var 7), (.var 5)])]), (.var 6)])])],
  .ret (.share (.op .lst [(.var 3)]))] }
def d_law__law_next : MDef := { params := 2, slots := 3, body := [.set (.one 2) (.op .mod [(.op .ix [(.var 0), (.lit (.int 0))]), (.var 1)]),
  .augIx (.var 0) (.lit (.int 0)) .fdiv (.var 1),
  .ret (.var 2)] }
def d_law__law_turn : MDef := { params := 2, slots := 4, body := [.own 2 (.op .lstR1 [(.var 1)]),
  .own 3 (.op .lst []),
  .whil (.op .ne [(.var 2), (.op .lst [])]) [.expr (.mut .append (.var 3) [(.mut .popAt (.var 2) [(.call F.law__law_next [(.var 0), (.op .len [(.var 2)])])])])],
  .ret (.op .tupOf [(.var 3)])] }
def d_law__law_full_turn : MDef := { params := 2, slots := 6, body := [.set (.one 2) (.call F.law__law_turn [(.var 0), (.var 1)]),
  .own 3 (.op (.dict 0) []),
  .forr (.tup [(.one 4), (.one 5)]) 3 [(.var 2)] [.setIx (.var 3) (.var 5) (.op .ix [(.var 2), (.op .mod [(.op .add [(.var 4), (.lit (.int 1))]), (.var 1)])])],
  .ret (.op .tupOf [(.comp (.op .ix [(.var 3), (.var 5)]) (.one 5) 1 [(.var 1)] [5] none)])] }
def d_law__law_same : MDef := { params := 4, slots := 10, body := [.own 4 (.op .lst [(.op .tup [(.var 1), (.var 3)])]),
  .own 5 (.op (.dict 1) [(.op .tup [(.var 1), (.var 3)]), (.lit (.bl true))]),
  .whil (.op .ne [(.var 4), (.op .lst [])]) [.set (.tup [(.one 6), (.one 7)]) (.mut .pop (.var 4) []),
  .ife (.op .ne [(.op .ix [(.op .ix [(.var 0), (.var 6)]), (.lit (.int 0))]), (.op .ix [(.op .ix [(.var 2), (.var 7)]), (.lit (.int 0))])]) [.ret (.lit (.bl false))] [],
  .forr (.tup [(.one 8), (.one 9)]) 4 [(.op .ix [(.op .ix [(.var 0), (.var 6)]), (.lit (.int 1))]), (.op .ix [(.op .ix [(.var 2), (.var 7)]), (.lit (.int 1))])] [.ife (.op .notin [(.op .tup [(.var 8), (.var 9)]), (.var 5)]) [.setIx (.var 5) (.op .tup [(.var 8), (.var 9)]) (.lit (.bl true)),
  .expr (.mut .append (.var 4) [(.op .tup [(.var 8), (.var 9)])])] []]],
  .ret (.lit (.bl true))] }
def d_law__law_good : MDef := { params := 2, slots := 6, body := [.ife (.or [(.not (.op (.isi [2]) [(.var 0)])), (.not (.chain .le .le (.lit (.int 1)) (.op .len [(.var 0)]) (.lit (.int 60))))]) [.ret (.lit (.bl false))] [],
  .forr (.one 2) 0 [(.var 0)] [.ife (.or [(.not (.op (.isi [2]) [(.var 2)])), (.op .ne [(.op .len [(.var 2)]), (.lit (.int 2))]), (.not (.op (.isi [2]) [(.op .ix [(.var 2), (.lit (.int 0))])]))]) [.ret (.lit (.bl false))] [],
  .set (.one 3) (.ifx (.op (.isi [2]) [(.op .ix [(.var 2), (.lit (.int 1))])]) (.op .add [(.op .lstOf [(.op .ix [(.var 2), (.lit (.int 0))])]), (.op .lstOf [(.op .ix [(.var 2), (.lit (.int 1))])])]) (.op .lst [(.lit .non)])),
  .ife (.not (.op .all [(.comp (.and [(.op (.isi [0]) [(.var 4)]), (.not (.op (.isi [1]) [(.var 4)]))]) (.one 4) 0 [(.var 3)] [4] none)])) [.ret (.lit (.bl false))] [],
  .ife (.or [(.op .ne [(.op .sorted [(.op .ix [(.var 2), (.lit (.int 0))])]), (.op .lstR1 [(.var 1)])]), (.op .ne [(.op .len [(.op .ix [(.var 2), (.lit (.int 1))])]), (.var 1)])]) [.ret (.lit (.bl false))] [],
  .ife (.not (.op .all [(.comp (.chain .le .lt (.lit (.int 0)) (.var 5) (.op .len [(.var 0)])) (.one 5) 0 [(.op .ix [(.var 2), (.lit (.int 1))])] [5] none)])) [.ret (.lit (.bl false))] []],
  .ret (.lit (.bl true))] }
def d_law__law_marks : MDef := { params := 1, slots := 8, body := [.set (.one 2) (.comp (.op .ix [(.var 1), (.lit (.int 0))]) (.one 1) 0 [(.var 0)] [1] none),
  .set (.one 4) (.comp (.op .index [(.var 2), (.var 3)]) (.one 3) 0 [(.var 2)] [3] none),
  .set (.one 5) (.lit (.int 0)),
  .whil (.op .lt [(.var 5), (.op .lenSet [(.var 4)])]) [.set (.one 5) (.op .lenSet [(.var 4)]),
  .set (.one 2) (.comp (.op .tup [(.op .ix [(.var 4), (.var 7)]), (.op .tupOf [(.comp (.op .ix [(.var 4), (.var 6)]) (.one 6) 0 [(.op .ix [(.var 1), (.lit (.int 1))])] [6] none)])]) (.tup [(.one 7), (.one 1)]) 3 [(.var 0)] [7, 1] none),
  .set (.one 4) (.comp (.op .index [(.var 2), (.var 3)]) (.one 3) 0 [(.var 2)] [3] none)],
  .ret (.var 4)] }
def d_law__law_least : MDef := { params := 1, slots := 5, body := [.set (.one 1) (.lit (.int 1)),
  .forr (.tup [(.one 2), (.one 3)]) 3 [(.var 0)] [.ife (.op .ge [(.var 2), (.var 1)]) [.ret (.lit (.bl false))] [],
  .forr (.one 4) 0 [(.op .ix [(.var 3), (.lit (.int 1))])] [.ife (.op .gt [(.var 4), (.var 1)]) [.ret (.lit (.bl false))] [],
  .set (.one 1) (.op .max2 [(.var 1), (.op .add [(.var 4), (.lit (.int 1))])])]],
  .ret (.op .eq [(.op .lenSet [(.call F.law__law_marks [(.var 0)])]), (.op .len [(.var 0)])])] }
def d_law__law_mixed : MDef := { params := 2, slots := 6, body := [.own 2 (.op .lstR2 [(.lit (.int 1)), (.var 1)]),
  .forr (.one 3) 1 [(.op .sub [(.var 1), (.lit (.int 1))])] [.set (.one 4) (.call F.law__law_next [(.var 0), (.op .sub [(.var 1), (.lit (.int 1))])]),
  .set (.one 5) (.op .ix [(.var 2), (.var 3)]),
  .setIx (.var 2) (.var 3) (.op .ix [(.var 2), (.var 4)]),
  .setIx (.var 2) (.var 4) (.var 5)],
  .ret (.op .add [(.op .lst [(.lit (.int 0))]), (.var 2)])] }
def d_law__law_chain : MDef := { params := 4, slots := 12, body := [.set (.one 4) (.op .eq [(.call F.law__law_next [(.var 0), (.lit (.int 2))]), (.lit (.int 1))]),
  .set (.one 5) (.call F.law__law_next [(.var 0), (.var 2)]),
  .set (.one 6) (.call F.law__law_full_turn [(.var 0), (.var 1)]),
  .own 7 (.op .mul [(.op .lst [(.lit .non)]), (.var 2)]),
  .forr (.tup [(.one 8), (.one 9)]) 3 [(.var 3)] [.set (.one 10) (.ifx (.op .lt [(.op .add [(.var 8), (.lit (.int 1))]), (.var 2)]) (.op .ix [(.var 3), (.op .add [(.var 8), (.lit (.int 1))])]) (.op .ix [(.var 3), (.var 5)])),
  .own 11 (.op .mul [(.op .lst [(.var 10)]), (.var 1)]),
  .ife (.and [(.var 4), (.op .lt [(.op .add [(.var 8), (.lit (.int 1))]), (.var 2)])]) [.setIx (.var 11) (.op .neg [(.lit (.int 1))]) (.op .ix [(.var 3), (.lit (.int 0))])] [],
  .setIx (.var 7) (.var 9) (.op .tup [(.ifx (.op .eq [(.op .add [(.var 8), (.lit (.int 1))]), (.var 2)]) (.var 6) (.op .tupR1 [(.var 1)])), (.op .tupOf [(.var 11)])])],
  .ret (.op .tupOf [(.var 7)])] }
def d_law__law_led : MDef := { params := 2, slots := 5, body := [.own 2 (.op .lst []),
  .set (.one 3) (.lit (.int 0)),
  .forr (.one 4) 0 [(.var 1)] [.expr (.mut .append (.var 2) [(.op .ix [(.op .ix [(.op .ix [(.var 0), (.var 3)]), (.lit (.int 0))]), (.var 4)])]),
  .set (.one 3) (.op .ix [(.op .ix [(.op .ix [(.var 0), (.var 3)]), (.lit (.int 1))]), (.var 4)])],
  .ret (.op .tup [(.op .tupOf [(.var 2)]), (.var 3)])] }
def d_law_law : MDef := { params := 1, slots := 16, body := [.set (.one 1) (.call F.law__law_state [(.var 0), (.lit (.int 0))]),
  .set (.one 2) (.op .add [(.lit (.int 2)), (.call F.law__law_next [(.var 1), (.lit (.int 3))])]),
  .set (.one 3) (.op .add [(.lit (.int 58)), (.call F.law__law_next [(.var 1), (.lit (.int 3))])]),
  .set (.one 4) (.call F.law__law_mixed [(.call F.law__law_state [(.var 0), (.lit (.int 1))]), (.var 3)]),
  .set (.one 5) (.call F.law__law_chain [(.var 1), (.var 2), (.var 3), (.var 4)]),
  .set (.one 6) (.call F.law__law_state [(.var 0), (.lit (.int 2))]),
  .set (.one 7) (.op .eq [(.call F.law__law_next [(.var 6), (.lit (.int 2))]), (.lit (.int 1))]),
  .set (.one 9) (.op .tupOf [(.comp (.op .mul [(.call F.law__law_next [(.var 6), (.var 2)]), (.call F.law__law_next [(.var 6), (.lit (.int 2))])]) (.one 8) 1 [(.op .add [(.lit (.int 61)), (.call F.law__law_next [(.var 6), (.lit (.int 40))])])] [8] none)]),
  .set (.one 9) (.ifx (.var 7) (.op .mul [(.op .tup [(.lit (.int 0))]), (.lit (.int 100))]) (.var 9)),
  .set (.one 10) (.call F.machines_least [(.var 5)]),
  .ife (.or [(.not (.call F.machines_is_machine [(.var 5)])), (.not (.call F.law__law_good [(.var 10), (.var 2)])), (.op .ne [(.op .len [(.var 10)]), (.var 3)]), (.not (.call F.law__law_least [(.var 10)]))]) [.ret (.lit (.bl false))] [],
  .ife (.or [(.not (.call F.law__law_same [(.var 10), (.lit (.int 0)), (.var 5), (.lit (.int 0))])), (.op .ne [(.op .tup [(.call F.machines_run [(.var 5), (.var 9)]), (.call F.machines_room_behind [(.var 5), (.var 9)])]), (.call F.law__law_led [(.var 5), (.var 9)])])]) [.ret (.lit (.bl false))] [],
  .set (.one 11) (.call F.law__law_next [(.var 6), (.op .sub [(.var 3), (.lit (.int 1))])]),
  .set (.one 12) (.op .add [(.op .add [(.var 11), (.lit (.int 1))]), (.call F.law__law_next [(.var 6), (.op .sub [(.op .sub [(.var 3), (.lit (.int 1))]), (.var 11)])])]),
  .set (.one 13) (.op .add [(.op .mul [(.op .tup [(.lit (.int 0))]), (.op .sub [(.op .sub [(.var 3), (.lit (.int 1))]), (.var 12)])]), (.op .tup [(.lit (.int 0))])]),
  .set (.one 14) (.op .lst [(.call F.machines_parting_row [(.var 5), (.op .ix [(.var 4), (.var 11)]), (.op .ix [(.var 4), (.var 12)])]), (.call F.machines_parting_row [(.var 5), (.op .ix [(.var 4), (.var 12)]), (.op .ix [(.var 4), (.var 11)])])]),
  .ife (.op .ne [(.var 14), (.op .lst [(.var 13), (.var 13)])]) [.ret (.lit (.bl false))] [],
  .set (.one 10) (.call F.machines_begun_at [(.var 5), (.op .ix [(.var 4), (.var 12)])]),
  .ife (.or [(.not (.call F.law__law_good [(.var 10), (.var 2)])), (.not (.call F.law__law_same [(.var 10), (.lit (.int 0)), (.var 5), (.op .ix [(.var 4), (.var 12)])])), (.not (.call F.law__law_least [(.var 10)]))]) [.ret (.lit (.bl false))] [],
  .set (.one 10) (.call F.products_turned_back [(.var 5)]),
  .set (.one 15) (.op .tup [(.op .tup [(.op .tupR1 [(.var 2)]), (.op .mul [(.op .tup [(.lit (.int 0))]), (.var 2)])])]),
  .ife (.or [(.not (.call F.law__law_good [(.var 10), (.var 2)])), (.op .ne [(.op .len [(.var 10)]), (.var 3)])]) [.ret (.lit (.bl false))] [],
  .ret (.and [(.op .eq [(.call F.products_both [(.var 5), (.var 10)]), (.var 15)]), (.op .eq [(.call F.products_both [(.var 10), (.var 5)]), (.var 15)])])] }
def prog : Prg where
  def_ := fun f => match f with
    | 0 => some d_turns_is_whole
    | 1 => some d_turns_is_between
    | 2 => some d_turns_is_turn
    | 3 => some d_turns_need_turn
    | 27 => some d_turns_undone
    | 28 => some d_turns_turn_back
    | 4 => some d_turns_turn_after
    | 5 => some d_machines_is_below
    | 6 => some d_machines_is_room
    | 7 => some d_machines_is_machine
    | 8 => some d_machines_sure_machine
    | 9 => some d_machines_letters_of
    | 29 => some d_machines_sure_row_of
    | 30 => some d_machines_led
    | 31 => some d_machines_run
    | 32 => some d_machines_room_behind
    | 10 => some d_machines_numbered
    | 11 => some d_machines_room_marks
    | 12 => some d_machines_least_from
    | 13 => some d_machines_least
    | 33 => some d_machines_checked_room
    | 34 => some d_machines_begun_at
    | 35 => some d_machines_parting_row
    | 36 => some d_products_room_back
    | 37 => some d_products_turned_back
    | 14 => some d_products_paired
    | 15 => some d_products_both
    | 16 => some d_law__law_state
    | 17 => some d_law__law_next
    | 18 => some d_law__law_turn
    | 19 => some d_law__law_full_turn
    | 38 => some d_law__law_same
    | 20 => some d_law__law_good
    | 21 => some d_law__law_marks
    | 23 => some d_law__law_least
    | 39 => some d_law__law_mixed
    | 40 => some d_law__law_chain
    | 41 => some d_law__law_led
    | 26 => some d_law_law
    | _ => none
  ctor := fun f => match f with
    | _ => none
  meth := fun c m => match c, m with
    | _, _ => none
  sub := fun c d => match c, d with
    | 0, 0 => true
    | 0, 5 => true
    | 1, 1 => true
    | 1, 0 => true
    | 1, 5 => true
    | 6, 6 => true
    | 6, 0 => true
    | 6, 5 => true
    | 2, 2 => true
    | 2, 0 => true
    | 2, 5 => true
    | 7, 7 => true
    | 7, 0 => true
    | 7, 5 => true
    | 3, 3 => true
    | 3, 0 => true
    | 3, 5 => true
    | _, _ => false
  attr := fun c a => match c, a with
    | _, _ => none
  lam := fun k => match k with
    | _ => none
  turns := 1000000000000
  excs := [0, 1, 6, 2, 7, 3]
end K83
end MPE
set_option maxRecDepth 100000
set_option maxHeartbeats 4000000
/-! E83a: the law's own defs, walked: the draws, the machines. -/
namespace MPE
open MP
namespace K83
open MM
abbrev S (n : Nat) := stOf prog n
theorem has : HPair prog where
  is_whole := ⟨rfl, rfl⟩
  is_between := ⟨rfl, rfl⟩
  is_turn := ⟨rfl, rfl⟩
  need_turn := ⟨rfl, rfl⟩
  turn_after := ⟨rfl, rfl⟩
  is_below := ⟨rfl, rfl⟩
  is_room := ⟨rfl, rfl⟩
  is_machine := ⟨rfl, rfl⟩
  sure_machine := ⟨rfl, rfl⟩
  letters_of := ⟨rfl, rfl⟩
  numbered := ⟨rfl, rfl⟩
  room_marks := ⟨rfl, rfl⟩
  least_from := ⟨rfl, rfl⟩
  least := ⟨rfl, rfl⟩
  paired := ⟨rfl, rfl⟩
  both := ⟨rfl, rfl⟩
theorem h_next : Has prog F.law__law_next d_law__law_next := ⟨rfl, rfl⟩
theorem h_state : Has prog F.law__law_state d_law__law_state := ⟨rfl, rfl⟩
theorem h_turn : Has prog F.law__law_turn d_law__law_turn := ⟨rfl, rfl⟩
theorem h_full : Has prog F.law__law_full_turn d_law__law_full_turn := ⟨rfl, rfl⟩
theorem h_mixed : Has prog F.law__law_mixed d_law__law_mixed := ⟨rfl, rfl⟩
theorem h_chain : Has prog F.law__law_chain d_law__law_chain := ⟨rfl, rfl⟩
theorem h_led : Has prog F.law__law_led d_law__law_led := ⟨rfl, rfl⟩
theorem h_good : Has prog F.law__law_good d_law__law_good := ⟨rfl, rfl⟩
theorem h_marks : Has prog F.law__law_marks d_law__law_marks := ⟨rfl, rfl⟩
theorem h_same : Has prog F.law__law_same d_law__law_same := ⟨rfl, rfl⟩
theorem h_least : Has prog F.law__law_least d_law__law_least := ⟨rfl, rfl⟩
theorem h_law : Has prog F.law_law d_law_law := ⟨rfl, rfl⟩
abbrev dig (N : Nat) : U := .lst [.int N]
theorem erase_map {α β : Type} (f : α → β) : ∀ (l : List α) (i : Nat), (l.map f).eraseIdx i = (l.eraseIdx i).map f
  | [], i => by simp
  | a :: l, 0 => by simp
  | a :: l, i + 1 => by simp [erase_map f l i]
theorem erase_perm : ∀ (l : List Nat) (i : Nat) (h : i < l.length), (l[i] :: l.eraseIdx i).Perm l
  | a :: l, 0, h => by simp
  | a :: l, i + 1, h => by
    have := erase_perm l i (by simpa using h)
    simp only [List.getElem_cons_succ, List.eraseIdx_cons_succ]
    exact (List.Perm.swap _ _ _).trans (List.Perm.cons a this)
theorem next_ok (n : Nat) (r : Nat) (N : Nat) (m0 m1 : List U) (hr : m0.length = r) (k : Nat) (h1 : 1 ≤ k) (h2 : k ≤ 1000) : (S (n + 1)).call F.law__law_next [.ref r, iu k] (m0 ++ dig N :: m1) = .ok (iu (N % k)) (m0 ++ dig (N / k) :: m1) := by
  rw [h_next.call, run_def _ _ _ rfl]
  have hpn : 0 < k := by omega
  have hg : (m0 ++ dig N :: m1)[r]? = some (dig N) := by
    rw [List.getElem?_append_right (by omega), hr]; simp
  have hs : (m0 ++ dig N :: m1).set r (dig (N / k)) = m0 ++ dig (N / k) :: m1 := by
    rw [List.set_append_right _ _ (by omega), hr]; simp
  have hp : (0 : Int) < k := by omega
  have hp2 : (k : Int) < 1073741824 := by omega
  have hl : r < (m0 ++ dig N :: m1).length := by simp; omega
  have hg2 : (m0 ++ dig N :: m1).getD r .non = dig N := by rw [List.getD_eq_getElem?_getD, hg]; rfl
  have s1 : execS (S n) (.set (.one 2) (.op .mod [(.op .ix [(.var 0), (.lit (.int 0))]), (.var 1)])) ⟨[.val (.ref r), .val (iu k), .no], m0 ++ dig N :: m1⟩ = .ok .next ⟨[.val (.ref r), .val (iu k), .val (iu (N % k))], m0 ++ dig N :: m1⟩ := by
    simp [hg, hpn]
  have s2 : execS (S n) (.augIx (.var 0) (.lit (.int 0)) .fdiv (.var 1)) ⟨[.val (.ref r), .val (iu k), .val (iu (N % k))], m0 ++ dig N :: m1⟩ = .ok .next ⟨[.val (.ref r), .val (iu k), .val (iu (N % k))], m0 ++ dig (N / k) :: m1⟩ := by
    simp only [← hs]
    generalize hM : m0 ++ dig N :: m1 = M at *
    have hMl : M[r] = dig N := by
      rw [List.getElem?_eq_getElem hl] at hg
      exact Option.some.inj hg
    simp [hMl, opAug, hpn, hp2, mutSem, muSetIx, setC, hl]
    rfl
  have fin := (x_seq s1).trans ((x_seq s2).trans (x_last (xs := []) (u := iu (N % k)) (x := .ret (.var 2)) (s' := ⟨[.val (.ref r), .val (iu k), .val (iu (N % k))], m0 ++ dig (N / k) :: m1⟩) (by simp)))
  have e0 : execs (S n) d_law__law_next.body ⟨slots0 [.ref r, iu k] d_law__law_next.slots, m0 ++ dig N :: m1⟩ = execs (S n) [.set (.one 2) (.op .mod [(.op .ix [(.var 0), (.lit (.int 0))]), (.var 1)]), .augIx (.var 0) (.lit (.int 0)) .fdiv (.var 1), .ret (.var 2)] ⟨[.val (.ref r), .val (iu k), .no], m0 ++ dig N :: m1⟩ := rfl
  rw [e0, fin]
/-! turns drawn -/
theorem turn_ok (n : Nat) (r : Nat) (N : Nat) (m0 m1 : List U) (hr : m0.length = r) (k : Nat) (h1 : k ≤ 1000) : ∃ t N', IsTurn k t ∧ (S (n + 2)).call F.law__law_turn [.ref r, iu k] (m0 ++ dig N :: m1) = .ok (nts t) (m0 ++ dig N' :: m1) := by
  rw [h_turn.call]
  let R : List Nat × List Nat × Nat → Sta → Prop := fun b s => (b.2.1 ++ b.1).Perm (List.range k) ∧ s = ⟨[.val (.ref r), .val (iu k), .own (nls b.1), .own (nls b.2.1)], m0 ++ dig b.2.2 :: m1⟩
  let step : List Nat × List Nat × Nat → List Nat × List Nat × Nat := fun b => (b.1.eraseIdx (b.2.2 % b.1.length), b.2.1 ++ [b.1.getD (b.2.2 % b.1.length) 0], b.2.2 / b.1.length)
  obtain ⟨s', q1, ⟨q2, q3⟩, q4⟩ := turnsW_rel (R := R) (c := fun s => condOf (fun s => evalE (S (n + 1)) (.op .ne [(.var 2), (.op .lst [])]) s) (.op .ne [(.var 2), (.op .lst [])]) s)
    (f := fun s => execs (S (n + 1)) [.expr (.mut .append (.var 3) [(.mut .popAt (.var 2) [(.call F.law__law_next [(.var 0), (.op .len [(.var 2)])])])])] s) (cond := fun b => !b.1.isEmpty) (step := step) (μ := fun b => b.1.length)
    (by
      rintro ⟨l, d, N⟩ s ⟨h, rfl⟩
      have hp : deepUs 6 (l.map iu) = true := deeps_iu 6 l
      cases l with
      | nil => simp [okL]
      | cons a l => simp [okL, deeps_iu])
    (by
      rintro ⟨l, d, N⟩ s ⟨h, rfl⟩ hc
      simp only at h hc
      have hpos : 0 < l.length := by cases l with | nil => simp at hc | cons a b => simp
      have hlen : l.length ≤ k := by
        have := h.length_eq
        simp only [List.length_append, List.length_range] at this
        omega
      have hd : d.length ≤ k := by
        have := h.length_eq
        simp only [List.length_append, List.length_range] at this
        omega
      have nx := next_ok n r N m0 m1 hr l.length hpos (by omega)
      have hlt : N % l.length < l.length := Nat.mod_lt _ hpos
      have hg : (l.map iu)[N % l.length]? = some (iu l[N % l.length]) := by simp [hlt]
      refine ⟨⟨[.val (.ref r), .val (iu k), .own (nls (step (l, d, N)).1), .own (nls (step (l, d, N)).2.1)], m0 ++ dig (step (l, d, N)).2.2 :: m1⟩, .inl ?_, ⟨?_, rfl⟩, ?_⟩
      · have hdl : d.length < line := by have := line_ge; omega
        have hpop := mut_popAt (l.map iu) (N % l.length) (by simpa using hlt) (by simp; omega)
        simp only [iu_eq] at nx
        rw [show ((N % l.length : Nat) : Int) = (N : Int) % (l.length : Int) from Int.natCast_emod _ _] at nx hpop
        simp only [List.getElem_map, iu_eq, erase_map] at hpop
        simp [nx, kindN, Mop.kind, mutF, hpop, setC, step]
        simp [mutSem, muAppend, hdl, hlt]
      · simp only [step]
        rw [getD_eq hlt]
        refine List.Perm.trans ?_ h
        rw [List.append_assoc]
        refine List.Perm.append_left d ?_
        rw [List.singleton_append]
        exact erase_perm l _ hlt
      · simp only [step]
        rw [List.length_eraseIdx_of_lt hlt]
        omega) k (S (n + 1)).turns (List.range k, [], N) ⟨[.val (.ref r), .val (iu k), .own (nls (List.range k)), .own (nls [])], m0 ++ dig N :: m1⟩ (by simp) (by show k < 1000000000000; omega) ⟨by simp, rfl⟩
  generalize hb : wh (fun b => !b.1.isEmpty) step k (List.range k, [], N) = b at *
  obtain ⟨l, d, N'⟩ := b
  simp only [Bool.not_eq_false', List.isEmpty_iff] at q4
  subst q4
  simp only [List.append_nil] at q2
  refine ⟨d, N', q2, ?_⟩
  have hw := (x_whil (g := S (n + 1)) (.op .ne [(.var 2), (.op .lst [])]) [.expr (.mut .append (.var 3) [(.mut .popAt (.var 2) [(.call F.law__law_next [(.var 0), (.op .len [(.var 2)])])])])]).trans q1
  have hR := lstR1_iu (g := S (n + 1)) k (by omega)
  have s1 : execS (S (n + 1)) (.own 2 (.op .lstR1 [(.var 1)])) ⟨[.val (.ref r), .val (iu k), .no, .no], m0 ++ dig N :: m1⟩ = .ok .next ⟨[.val (.ref r), .val (iu k), .own (nls (List.range k)), .no], m0 ++ dig N :: m1⟩ := by
    simp [hR]
  have s2 : execS (S (n + 1)) (.own 3 (.op .lst [])) ⟨[.val (.ref r), .val (iu k), .own (nls (List.range k)), .no], m0 ++ dig N :: m1⟩ = .ok .next ⟨[.val (.ref r), .val (iu k), .own (nls (List.range k)), .own (nls [])], m0 ++ dig N :: m1⟩ := by
    simp [okL]
  have fin := (x_seq s1).trans ((x_seq s2).trans ((x_seq hw).trans (x_last (xs := []) (u := nts d) (x := .ret (.op .tupOf [(.var 3)])) (s' := s') (by rw [q3]; simp))))
  refine run_ret (s := s') d_law__law_turn [.ref r, iu k] _ rfl fin |>.trans ?_
  rw [q3]
end K83
end MPE
set_option maxRecDepth 100000
set_option maxHeartbeats 4000000
/-! E83b: the draws' state. -/
namespace MPE
open MP
namespace K83
open MM
theorem pow_some : ∃ B : Int, 0 ≤ B ∧ B < 18446744073709551616 ∧ ∀ g, opSem g .pow [.int 10, .int 18] = some (.int B) := ⟨10 ^ 18, by decide, by decide, fun g => rfl⟩
theorem mul_some : ∃ T : Nat, 2 ^ (64 * 14) ≤ T ∧ ∀ (g : Gst) (i j : Int), i.natAbs < T → j.natAbs < T → opSem g .mul [.int i, .int j] = some (.int (i * j)) := by
  refine ⟨2 ^ 9000, Nat.pow_le_pow_right (by decide) (by decide), fun g i j h1 h2 => ?_⟩
  show (if decide (i.natAbs < 2 ^ 9000 ∧ j.natAbs < 2 ^ 9000) then some (U.int (i * j)) else none) = _
  rw [if_pos (decide_eq_true ⟨h1, h2⟩)]
def primes : List (Nat × Nat) := [(0, 2147483629), (1, 2147483587), (2, 2147483579), (3, 2147483563), (4, 2147483549), (5, 2147483543), (6, 2147483497), (7, 2147483489), (8, 2147483477), (9, 2147483423), (10, 2147483399), (11, 2147483353)]
def prsU : U := .lst (primes.map fun q => .int q.2)
def sBody : List MS := [.set (.one 7) (.op .mod [(.op .add [(.op .add [(.op .mul [(.var 2), (.lit (.int 48271))]), (.op .mul [(.lit (.int 1103515245)), (.op .add [(.var 1), (.lit (.int 1))])])]), (.op .mul [(.op .mul [(.lit (.int 40503)), (.var 5)]), (.var 5)])]), (.var 6)]),
  .set (.one 7) (.op .mod [(.op .mul [(.var 7), (.var 7)]), (.var 6)]),
  .set (.one 3) (.op .add [(.op .mul [(.var 3), (.lit (.int 2147483647))]), (.op .mod [(.op .mul [(.var 7), (.op .add [(.var 7), (.var 5)])]), (.var 6)])])]
theorem state_turn (kk : Nat) (hkk : kk ≤ 10) (g : Gst) (m : List U) (sc : U) (c num a q i : Nat) (hc : c < 18446744073709551616) (ha : a < 12) (hq : 2 ≤ q) (hq2 : q < 2147483648) (hn : num < 2 ^ (64 * i)) (hi : i < 12) (j7 : Slt) :
    ∃ num' : Nat, num' < 2 ^ (64 * (i + 1)) ∧ ∃ k7, execs g sBody ⟨[.val sc, .val (.int (kk : Nat)), .val (.int c), .val (.int num), .val prsU, .val (.int a), .val (.int q), j7], m⟩ = .ok .next ⟨[.val sc, .val (.int (kk : Nat)), .val (.int c), .val (.int num'), .val prsU, .val (.int a), .val (.int q), k7], m⟩ := by
  obtain ⟨T, hT, hm⟩ := mul_some
  have hT2 : 2 ^ (64 * 2) ≤ T := Nat.le_trans (Nat.pow_le_pow_right (by decide) (by decide)) hT
  have hT3 : 2 ^ (64 * i) ≤ T := Nat.le_trans (Nat.pow_le_pow_right (by decide) (by omega)) hT
  have hT4 : 340282366920938463463374607431768211456 ≤ T := hT2
  clear hT2
  have hqp : (0 : Int) < q := by omega
  let o1 : Nat := (c * 48271 + 1103515245 * (kk + 1) + 40503 * a * a) % q
  let o2 : Nat := o1 * o1 % q
  have l1 : o1 < q := Nat.mod_lt _ (by omega)
  have l2 : o2 < q := Nat.mod_lt _ (by omega)
  have l3 : (o2 * (o2 + a)) % q < q := Nat.mod_lt _ (by omega)
  refine ⟨num * 2147483647 + (o2 * (o2 + a)) % q, ?_, .val (.int o2), ?_⟩
  · have e : 2 ^ (64 * (i + 1)) = 2 ^ (64 * i) * 18446744073709551616 := by rw [show 64 * (i + 1) = 64 * i + 64 by omega, Nat.pow_add]
    rw [e]
    omega
  · have m1 := hm g c 48271 (by omega) (by omega)
    have m2 := hm g 1103515245 (kk + 1) (by omega) (by omega)
    have m3 := hm g 40503 a (by omega) (by omega)
    have m4 := hm g (40503 * a) a (by omega) (by omega)
    have m5 := hm g o1 o1 (by omega) (by omega)
    have m6 := hm g num 2147483647 (by omega) (by omega)
    have m7 := hm g o2 (o2 + a) (by omega) (by omega)
    have x1 : (((c : Int) * 48271 + 1103515245 * (kk + 1) + 40503 * a * a) % q) = (o1 : Int) := by simp [o1]
    have x2 : ((o1 : Int) * o1 % q) = (o2 : Int) := by simp [o2]
    have s1 : execS g (.set (.one 7) (.op .mod [(.op .add [(.op .add [(.op .mul [(.var 2), (.lit (.int 48271))]), (.op .mul [(.lit (.int 1103515245)), (.op .add [(.var 1), (.lit (.int 1))])])]), (.op .mul [(.op .mul [(.lit (.int 40503)), (.var 5)]), (.var 5)])]), (.var 6)])) ⟨[.val sc, .val (.int (kk : Nat)), .val (.int c), .val (.int num), .val prsU, .val (.int a), .val (.int q), j7], m⟩ = .ok .next ⟨[.val sc, .val (.int (kk : Nat)), .val (.int c), .val (.int num), .val prsU, .val (.int a), .val (.int q), .val (.int o1)], m⟩ := by
      rw [← x1]
      simp only [x_set, e_mod, as_cons, arg_op, e_add, e_mul, arg_var, arg_lit, slot_mk, List.getD_cons_succ, List.getD_cons_zero, e_var, e_lit, bind_ok, as_nil, opA_2, ok_v, Bool.and_self, if_true, get_v, cont_int, m1, m2, m3, m4, op_add_i, op_mod, hqp, decide_true, b_one, put_mk, List.set_cons_succ, List.set_cons_zero]
    have s2 : execS g (.set (.one 7) (.op .mod [(.op .mul [(.var 7), (.var 7)]), (.var 6)])) ⟨[.val sc, .val (.int (kk : Nat)), .val (.int c), .val (.int num), .val prsU, .val (.int a), .val (.int q), .val (.int o1)], m⟩ = .ok .next ⟨[.val sc, .val (.int (kk : Nat)), .val (.int c), .val (.int num), .val prsU, .val (.int a), .val (.int q), .val (.int o2)], m⟩ := by
      rw [← x2]
      simp only [x_set, e_mod, as_cons, arg_op, e_add, e_mul, arg_var, arg_lit, slot_mk, List.getD_cons_succ, List.getD_cons_zero, e_var, e_lit, bind_ok, as_nil, opA_2, ok_v, Bool.and_self, if_true, get_v, cont_int, m5, op_add_i, op_mod, hqp, decide_true, b_one, put_mk, List.set_cons_succ, List.set_cons_zero]
    have x3 : ((num : Int) * 2147483647 + (o2 : Int) * (o2 + a) % q) = ((num * 2147483647 + (o2 * (o2 + a)) % q : Nat) : Int) := by simp
    have s3 : execS g (.set (.one 3) (.op .add [(.op .mul [(.var 3), (.lit (.int 2147483647))]), (.op .mod [(.op .mul [(.var 7), (.op .add [(.var 7), (.var 5)])]), (.var 6)])])) ⟨[.val sc, .val (.int (kk : Nat)), .val (.int c), .val (.int num), .val prsU, .val (.int a), .val (.int q), .val (.int o2)], m⟩ = .ok .next ⟨[.val sc, .val (.int (kk : Nat)), .val (.int c), .val (.int ((num * 2147483647 + (o2 * (o2 + a)) % q : Nat) : Int)), .val prsU, .val (.int a), .val (.int q), .val (.int o2)], m⟩ := by
      rw [← x3]
      simp only [x_set, e_mod, as_cons, arg_op, e_add, e_mul, arg_var, arg_lit, slot_mk, List.getD_cons_succ, List.getD_cons_zero, e_var, e_lit, bind_ok, as_nil, opA_2, ok_v, Bool.and_self, if_true, get_v, cont_int, m6, m7, op_add_i, op_mod, hqp, decide_true, b_one, put_mk, List.set_cons_succ, List.set_cons_zero]
    exact (x_seq s1).trans ((x_seq s2).trans ((x_seq s3).trans x_nil))
theorem state_for (kk : Nat) (hkk : kk ≤ 10) (g : Gst) (m : List U) (sc : U) (c : Nat) (hc : c < 18446744073709551616) : ∃ num : Nat, ∃ j5 j6 j7, execS g (.forr (.tup [(.one 5), (.one 6)]) 3 [(.var 4)] sBody) ⟨[.val sc, .val (.int (kk : Nat)), .val (.int c), .val (.int 0), .val prsU, .no, .no, .no], m⟩ = .ok .next ⟨[.val sc, .val (.int (kk : Nat)), .val (.int c), .val (.int num), .val prsU, j5, j6, j7], m⟩ := by
  have ev : evalAs g [(.var 4)] ⟨[.val sc, .val (.int (kk : Nat)), .val (.int c), .val (.int 0), .val prsU, .no, .no, .no], m⟩ = .ok [.v prsU] ⟨[.val sc, .val (.int (kk : Nat)), .val (.int c), .val (.int 0), .val prsU, .no, .no, .no], m⟩ := by simp
  have hw : ∀ s : Sta, walkA 3 [.v prsU] s = some (primes.map fun q => .prs [.int q.1, .int q.2]) := fun s => rfl
  obtain ⟨s', h1, num, h2⟩ := turnsF_relN (γ := Unit) (R := fun i _ s => ∃ num : Nat, num < 2 ^ (64 * i) ∧ ∃ j5 j6 j7, s = ⟨[.val sc, .val (.int (kk : Nat)), .val (.int c), .val (.int num), .val prsU, j5, j6, j7], m⟩) (enc := fun (q : Nat × Nat) => U.prs [.int q.1, .int q.2]) (step := fun _ _ => ()) (f := fun x s1 => match bindT (.tup [(.one 5), (.one 6)]) x s1 with
      | some s2 => (execs g sBody s2).bind fun fl s3 => if stillIs ⟨[.val sc, .val (.int (kk : Nat)), .val (.int c), .val (.int 0), .val prsU, .no, .no, .no], m⟩ s3 [.v prsU] then .ok fl s3 else .stuck
      | none => .stuck) primes 0 () ⟨[.val sc, .val (.int (kk : Nat)), .val (.int c), .val (.int 0), .val prsU, .no, .no, .no], m⟩ ⟨0, by decide, .no, .no, .no, rfl⟩ (by
    rintro i _ s ⟨a, q⟩ hi hmem ⟨num, hn, j5, j6, j7, rfl⟩
    have hi : i < 12 := by have : primes.length = 12 := rfl; omega
    have hfacts : ∀ z ∈ primes, z.1 < 12 ∧ 2 ≤ z.2 ∧ z.2 < 2147483648 := by decide
    obtain ⟨f1, f2, f3⟩ := hfacts _ hmem
    obtain ⟨num', q1, k7, q2⟩ := state_turn kk hkk g m sc c num a q i hc f1 f2 f3 hn hi j7
    refine ⟨⟨[.val sc, .val (.int (kk : Nat)), .val (.int c), .val (.int num'), .val prsU, .val (.int a), .val (.int q), k7], m⟩, .inl ?_, num', q1, .val (.int a), .val (.int q), k7, rfl⟩
    simp only [b_prs, b_tup, bs_cons, bs_nil, b_one, put_mk, List.set_cons_succ, List.set_cons_zero, q2, bind_ok]
    rw [if_pos (by simp [stillIs, prsU])])
  obtain ⟨_, j5, j6, j7, rfl⟩ := h2
  refine ⟨num, j5, j6, j7, ?_⟩
  rw [x_forr, ev, bind_ok, hw]
  exact h1
theorem state_ok (kk : Nat) (hkk : kk ≤ 10) (n : Nat) (ns : List Int) (m : List U) : ∃ N : Nat, (S (n + 1)).call F.law__law_state [.scr (ns.map .int), .int (kk : Nat)] m = .ok (.ref m.length) (m ++ [dig N]) := by
  rw [h_state.call]
  obtain ⟨B, hB, hB2, hp⟩ := pow_some
  let sc : U := .scr (ns.map .int)
  obtain ⟨c, s1⟩ : ∃ c : Nat, execS (S n) (.set (.one 2) (.ifx (.op .ne [(.var 0), (.op .lst [])]) (.op .abs [(.op .ix [(.var 0), (.op .mod [(.var 1), (.op .len [(.var 0)])])])]) (.lit (.int 0)))) ⟨[.val sc, .val (.int (kk : Nat)), .no, .no, .no, .no, .no, .no], m⟩ = .ok .next ⟨[.val sc, .val (.int (kk : Nat)), .val (.int c), .no, .no, .no, .no, .no], m⟩ := by
    have hd : ∀ l : List Int, deepUs 6 (l.map U.int) = true := fun l => by
      induction l with
      | nil => simp
      | cons a l ih => simp [ih]
    cases ns with
    | nil => exact ⟨0, by simp [sc, okL]⟩
    | cons a l =>
      have hj : kk % (l.length + 1) < (a :: l).length := by rw [List.length_cons]; exact Nat.mod_lt _ (by omega)
      refine ⟨((a :: l)[kk % (l.length + 1)]).natAbs, ?_⟩
      have hpos : (0 : Int) < (l.length : Int) + 1 := by omega
      have habs : ∀ z : Int, opSem (S n) .abs [.int z] = some (.int z.natAbs) := fun _ => rfl
      have hne : (kk : Int) % ((l.length : Int) + 1) = ((kk % (l.length + 1) : Nat) : Int) := by rw [Int.natCast_emod, Int.natCast_add]; rfl
      have hat : atI (U.int a :: l.map U.int) ((kk % (l.length + 1) : Nat) : Int) = some (.int (a :: l)[kk % (l.length + 1)]) := by
        rw [← List.map_cons, atI_nat, List.getElem?_map, List.getElem?_eq_getElem hj]; rfl
      generalize (a :: l)[kk % (l.length + 1)] = z at *
      generalize kk % (l.length + 1) = j at *
      simp [sc, okL, hd, hpos, habs, hne, hat]
  have eB : evalE (S n) (.op .pow [(.lit (.int 10)), (.lit (.int 18))]) ⟨[.val sc, .val (.int (kk : Nat)), .val (.int c), .no, .no, .no, .no, .no], m⟩ = .ok (.int B) ⟨[.val sc, .val (.int (kk : Nat)), .val (.int c), .no, .no, .no, .no, .no], m⟩ := by
    simp only [e_pow, as_cons, arg_lit, e_lit, bind_ok, as_nil, opA_2, ok_v, Bool.and_self, if_true, get_v, cont_int, hp]
  have cond : condOf (fun s => evalE (S n) (.op .ge [(.var 2), (.op .pow [(.lit (.int 10)), (.lit (.int 18))])]) s) (.op .ge [(.var 2), (.op .pow [(.lit (.int 10)), (.lit (.int 18))])]) ⟨[.val sc, .val (.int (kk : Nat)), .val (.int c), .no, .no, .no, .no, .no], m⟩ = .ok (decide (B ≤ c)) ⟨[.val sc, .val (.int (kk : Nat)), .val (.int c), .no, .no, .no, .no, .no], m⟩ := by
    simp only [cond_of, arg_op, e_ge, as_cons, arg_var, slot_mk, List.getD_cons_succ, List.getD_cons_zero, e_var, bind_ok, eB, as_nil, opA_2, ok_v, Bool.and_self, if_true, get_v, cont_int, op_ge, cont_bl, truthy_bl]
  by_cases h : B ≤ (c : Int)
  · refine ⟨(c - B).toNat, run_ret (s := ⟨[.val sc, .val (.int (kk : Nat)), .val (.int c), .no, .no, .no, .no, .no], m ++ [dig (c - B).toNat]⟩) d_law__law_state [sc, .int (kk : Nat)] m rfl ?_⟩
    rw [decide_eq_true h] at cond
    have h1l : 1 ≤ line := by have := line_ge; omega
    have e2 : (((c : Int) - B).toNat : Int) = c - B := by omega
    have e3 : dig ((c : Int) - B).toNat = U.lst [U.int ((c : Int) - B)] := by
      show U.lst [U.int _] = _
      rw [e2]
    rw [e3]
    refine (x_seq s1).trans (x_last ((x_ifT cond).trans ?_))
    simp only [x_cons, x_ret, e_share, e_lst, es_cons, e_sub, as_cons, arg_var, slot_mk, List.getD_cons_succ, List.getD_cons_zero, e_var, bind_ok, arg_op, eB, as_nil, opA_2, ok_v, Bool.and_self, if_true, get_v, cont_int, op_sub_i, es_nil, opH_ok, op_lst, okL, List.length_cons, List.length_nil, Nat.zero_add, h1l, newOf_ok, isLD_lst, e2]
  · rw [decide_eq_false h] at cond
    have hc : c < 18446744073709551616 := by omega
    obtain ⟨num, j5, j6, j7, s5⟩ := state_for kk hkk (S n) m sc c hc
    refine ⟨num, run_ret (s := ⟨[.val sc, .val (.int (kk : Nat)), .val (.int c), .val (.int num), .val prsU, j5, j6, j7], m ++ [dig num]⟩) d_law__law_state [sc, .int (kk : Nat)] m rfl ?_⟩
    have h1l : 1 ≤ line := by have := line_ge; omega
    have h8l : 8 ≤ line := by have := line_ge; omega
    have h4l : 4 ≤ line := by have := line_ge; omega
    have h12 : 12 ≤ line := by have := line_ge; omega
    have s3 : execS (S n) (.set (.one 3) (.lit (.int 0))) ⟨[.val sc, .val (.int (kk : Nat)), .val (.int c), .no, .no, .no, .no, .no], m⟩ = .ok .next ⟨[.val sc, .val (.int (kk : Nat)), .val (.int c), .val (.int 0), .no, .no, .no, .no], m⟩ := by simp
    have hadd : ∀ (g : Gst) (a b : List U), opSem g .add [.lst a, .lst b] = okL (a ++ b) := fun g a b => rfl
    have s4 : execs (S n) [.set (.one 4) (.op .lst [(.lit (.int 2147483629)), (.lit (.int 2147483587)), (.lit (.int 2147483579)), (.lit (.int 2147483563)), (.lit (.int 2147483549)), (.lit (.int 2147483543)), (.lit (.int 2147483497)), (.lit (.int 2147483489))]),
  .set (.one 4) (.op .add [(.var 4), (.op .lst [(.lit (.int 2147483477)), (.lit (.int 2147483423)), (.lit (.int 2147483399)), (.lit (.int 2147483353))])])] ⟨[.val sc, .val (.int (kk : Nat)), .val (.int c), .val (.int 0), .no, .no, .no, .no], m⟩ = .ok .next ⟨[.val sc, .val (.int (kk : Nat)), .val (.int c), .val (.int 0), .val prsU, .no, .no, .no], m⟩ := by
      simp [okL, h8l, h4l, h12, hadd, prsU, primes]
    have s6 : execS (S n) (.ret (.share (.op .lst [(.var 3)]))) ⟨[.val sc, .val (.int (kk : Nat)), .val (.int c), .val (.int num), .val prsU, j5, j6, j7], m⟩ = .ok (.ret (.ref m.length)) ⟨[.val sc, .val (.int (kk : Nat)), .val (.int c), .val (.int num), .val prsU, j5, j6, j7], m ++ [dig num]⟩ := by
      simp [okL, h1l]
    have two : ∀ (a b : MS) (xs : List MS) (s s' : Sta), execs (S n) [a, b] s = .ok .next s' → execs (S n) (a :: b :: xs) s = execs (S n) xs s' := fun a b xs s s' h => by
      rw [x_cons] at h ⊢
      cases ha : execS (S n) a s with
      | stuck => rw [ha] at h; cases h
      | exc e s => rw [ha] at h; cases h
      | ok fl s2 =>
        rw [ha] at h
        cases fl <;> simp only [bind_ok] at h ⊢ <;> first | (cases h; done) | skip
        rw [x_cons] at h ⊢
        cases hb : execS (S n) b s2 with
        | stuck => rw [hb] at h; cases h
        | exc e s => rw [hb] at h; cases h
        | ok fl s3 =>
          rw [hb] at h
          cases fl <;> simp only [bind_ok, x_nil] at h ⊢ <;> first | (cases h; done) | skip
          cases h
          rfl
    exact (x_seq s1).trans ((x_seq ((x_ifF cond).trans x_nil)).trans ((x_seq s3).trans ((two _ _ _ _ _ s4).trans ((x_seq s5).trans (x_last s6)))))
end K83
end MPE
set_option maxRecDepth 100000
set_option maxHeartbeats 4000000
/-! E83c: full turns, rings of rooms. -/
namespace MPE
open MP
namespace K83
open MM
theorem dput_app {ks vs : List U} {k v : U} (h : memU k ks = false) : dput ks vs k v = (ks ++ [k], vs ++ [v]) := by
  unfold dput
  rw [h]
  rfl
theorem repN_one (x : U) : ∀ n, repN [x] n = List.replicate n x
  | 0 => rfl
  | n + 1 => by simp [repN, repN_one x n, List.replicate_succ]
def fullOf (k : Nat) (t : List Nat) : List Nat := (List.range k).map fun x => t.getD ((t.idxOf x + 1) % k) 0
theorem full_all2 : ∀ t ∈ perms (List.range 2), (fullOf 2 t).Perm (List.range 2) ∧ fullOf 2 t ≠ List.range 2 ∧ (fullOf 2 t).getD 0 0 ≠ 0 := by decide
theorem full_all3 : ∀ t ∈ perms (List.range 3), (fullOf 3 t).Perm (List.range 3) ∧ fullOf 3 t ≠ List.range 3 ∧ (fullOf 3 t).getD 0 0 ≠ 0 := by decide
theorem full_all4 : ∀ t ∈ perms (List.range 4), (fullOf 4 t).Perm (List.range 4) ∧ fullOf 4 t ≠ List.range 4 ∧ (fullOf 4 t).getD 0 0 ≠ 0 := by decide +kernel
theorem full_turn {k : Nat} (hk : K24 k) {t : List Nat} (ht : IsTurn k t) : IsTurn k (fullOf k t) ∧ fullOf k t ≠ List.range k ∧ (fullOf k t).getD 0 0 ≠ 0 := by
  have hm := turn_in ht
  rcases hk.cases with rfl | rfl | rfl
  · exact full_all2 t hm
  · exact full_all3 t hm
  · exact full_all4 t hm
theorem full_ok (n r N : Nat) (m0 m1 : List U) (hr : m0.length = r) {k : Nat} (hk : K24 k) : ∃ T N', IsTurn k T ∧ T ≠ List.range k ∧ T.getD 0 0 ≠ 0 ∧ (S (n + 3)).call F.law__law_full_turn [.ref r, iu k] (m0 ++ dig N :: m1) = .ok (nts T) (m0 ++ dig N' :: m1) := by
  obtain ⟨t, N', ht, hc⟩ := turn_ok n r N m0 m1 hr k (by have := hk.hi; omega)
  obtain ⟨f1, f2, f3⟩ := full_turn hk ht
  refine ⟨fullOf k t, N', f1, f2, f3, ?_⟩
  rw [h_full.call]
  generalize m0 ++ dig N' :: m1 = M at *
  have hlen : t.length = k := ht.len
  have nd : t.Nodup := by
    have : t.Perm (List.range k) := ht
    exact this.nodup_iff.2 List.nodup_range
  have hk2 := hk.lo
  let vals : Nat → List U := fun i => (List.range i).map fun j => iu (t.getD ((j + 1) % k) 0)
  have s1 : execS (S (n + 2)) (.set (.one 2) (.call F.law__law_turn [(.var 0), (.var 1)])) ⟨[.val (.ref r), .val (iu k), .no, .no, .no, .no], m0 ++ dig N :: m1⟩ = .ok .next ⟨[.val (.ref r), .val (iu k), .val (nts t), .no, .no, .no], M⟩ := by
    simp only [iu_eq] at hc
    simp [hc]
  have s2 : execS (S (n + 2)) (.own 3 (.op (.dict 0) [])) ⟨[.val (.ref r), .val (iu k), .val (nts t), .no, .no, .no], M⟩ = .ok .next ⟨[.val (.ref r), .val (iu k), .val (nts t), .own (.dic ((t.take 0).map iu) (vals 0)), .no, .no], M⟩ := by
    simp [opDict, mkDic, vals]
  obtain ⟨s', q1, j4, j5, hj5, q2⟩ := turnsF_relI (R := fun i s => ∃ j4 j5, notOwn j5 = true ∧ s = ⟨[.val (.ref r), .val (iu k), .val (nts t), .own (.dic ((t.take i).map iu) (vals i)), j4, j5], M⟩) (enc := fun (q : Nat × Nat) => U.prs [iu q.1, iu q.2]) (f := fun x s1 => match bindT (.tup [(.one 4), (.one 5)]) x s1 with
      | some s2 => (execs (S (n + 2)) [.setIx (.var 3) (.var 5) (.op .ix [(.var 2), (.op .mod [(.op .add [(.var 4), (.lit (.int 1))]), (.var 1)])])] s2).bind fun fl s3 => if stillIs ⟨[.val (.ref r), .val (iu k), .val (nts t), .own (.dic ((t.take 0).map iu) (vals 0)), .no, .no], M⟩ s3 [.v (nts t)] then .ok fl s3 else .stuck
      | none => .stuck) (t.mapIdx fun i x => (i, x)) ⟨[.val (.ref r), .val (iu k), .val (nts t), .own (.dic ((t.take 0).map iu) (vals 0)), .no, .no], M⟩ ⟨.no, .no, rfl, rfl⟩ (by
    rintro i s ⟨a, x⟩ hx ⟨j4, j5, _, rfl⟩
    rw [List.getElem?_mapIdx] at hx
    cases hti : t[i]? with
    | none => rw [hti] at hx; cases hx
    | some y =>
      rw [hti] at hx
      simp only [Option.map_some, Option.some.injEq, Prod.mk.injEq] at hx
      obtain ⟨rfl, rfl⟩ := hx
      obtain ⟨hil, hy⟩ := List.getElem?_eq_some_iff.1 hti
      have hnx : (i + 1) % k < t.length := by rw [hlen]; exact Nat.mod_lt _ (by omega)
      have hkp : (0 : Int) < k := by omega
      have hkp2 : 0 < k := by omega
      have hmod : ((i : Int) + 1) % (k : Int) = (((i + 1) % k : Nat) : Int) := by rw [Int.natCast_emod, Int.natCast_add]; rfl
      have hg : t[(i + 1) % k]? = some (t.getD ((i + 1) % k) 0) := by rw [getD_eq hnx, List.getElem?_eq_getElem hnx]
      generalize hz : t.getD ((i + 1) % k) 0 = z at *
      have hmem : memU (iu y) ((t.take i).map iu) = false := by
        rw [encI.mem]
        refine decide_eq_false fun h => ?_
        obtain ⟨j, hj, e⟩ := List.mem_take_iff_getElem.1 h
        have i1 := List.Nodup.idxOf_getElem nd j (by omega)
        have i2 := List.Nodup.idxOf_getElem nd i hil
        rw [e] at i1
        rw [hy] at i2
        omega
      have hkk := encI.key (t.take i) y
      have hd := dput_app (vs := vals i) (v := iu z) hmem
      have hl : ((t.take i).map iu).length < line := by have := line_ge; simp; have := hk.hi; omega
      have ht1 : t.take (i + 1) = t.take i ++ [y] := by rw [List.take_succ, hti]; rfl
      have hv1 : vals (i + 1) = vals i ++ [iu z] := by simp only [vals, List.range_succ, List.map_append, List.map_cons, List.map_nil, hz]
      refine ⟨⟨[.val (.ref r), .val (iu k), .val (nts t), .own (.dic ((t.take (i + 1)).map iu) (vals (i + 1))), .val (iu i), .val (iu y)], M⟩, .inl ?_, .val (iu i), .val (iu y), rfl, rfl⟩
      have hset : mutSem .setIx (.dic ((t.take i).map iu) (vals i)) [iu y, iu z] = some (.dic ((t.take (i + 1)).map iu) (vals (i + 1)), .non) := by
        simp only [mutSem, muSetIx, hkk, hl, decide_true, Bool.and_self, if_true, hd, ht1, hv1, List.map_append, List.map_cons, List.map_nil]
      have ex : execs (S (n + 2)) [.setIx (.var 3) (.var 5) (.op .ix [(.var 2), (.op .mod [(.op .add [(.var 4), (.lit (.int 1))]), (.var 1)])])] ⟨[.val (.ref r), .val (iu k), .val (nts t), .own (.dic ((t.take i).map iu) (vals i)), .val (iu i), .val (iu y)], M⟩ = .ok .next ⟨[.val (.ref r), .val (iu k), .val (nts t), .own (.dic ((t.take (i + 1)).map iu) (vals (i + 1))), .val (iu i), .val (iu y)], M⟩ := by
        simp only [iu_eq] at hset
        simp only [x_cons, x_nil, x_setIx, e_ix, as_cons, as_nil, arg_var, slot_mk, List.getD_cons_succ, List.getD_cons_zero, e_var, bind_ok, arg_op, e_mod, e_add, arg_lit, e_lit, opA_2, ok_v, ok_own, Bool.and_self, if_true, get_v, get_own, cont_int, iu_eq, op_add_i, op_mod, hkp, decide_true, hmod, cont_tup, op_ix_t, atI_nat, List.getElem?_map, hg, Option.map_some, hset, setC, put_mk, List.set_cons_succ, List.set_cons_zero]
      simp only [b_prs, b_tup, bs_cons, bs_nil, b_one, put_mk, List.set_cons_succ, List.set_cons_zero, ex, bind_ok]
      rw [if_pos (by simp [stillIs])])
  rw [List.length_mapIdx, hlen, List.take_of_length_le (by omega)] at q2
  have s3 : execS (S (n + 2)) (.forr (.tup [(.one 4), (.one 5)]) 3 [(.var 2)] [.setIx (.var 3) (.var 5) (.op .ix [(.var 2), (.op .mod [(.op .add [(.var 4), (.lit (.int 1))]), (.var 1)])])]) ⟨[.val (.ref r), .val (iu k), .val (nts t), .own (.dic ((t.take 0).map iu) (vals 0)), .no, .no], M⟩ = .ok .next s' := by
    have ev : evalAs (S (n + 2)) [(.var 2)] ⟨[.val (.ref r), .val (iu k), .val (nts t), .own (.dic ((t.take 0).map iu) (vals 0)), .no, .no], M⟩ = .ok [.v (nts t)] ⟨[.val (.ref r), .val (iu k), .val (nts t), .own (.dic ((t.take 0).map iu) (vals 0)), .no, .no], M⟩ := by simp
    have hw : walkA 3 [.v (nts t)] ⟨[.val (.ref r), .val (iu k), .val (nts t), .own (.dic ((t.take 0).map iu) (vals 0)), .no, .no], M⟩ = some ((t.mapIdx fun i x => (i, x)).map fun q => .prs [iu q.1, iu q.2]) := by
      simp only [walkA, List.all_cons, ok_v, List.all_nil, Bool.and_self, if_true, List.map_cons, List.map_nil, get_v, cont_tup, walk, map_mapIdx', mapIdx_map', iu_eq]
    rw [x_forr, ev, bind_ok]
    simp only [hw]
    exact q1
  subst q2
  have hR : walkA 1 [.v (iu k)] ⟨[.val (.ref r), .val (iu k), .val (nts t), .own (.dic (t.map iu) (vals k)), j4, j5], M⟩ = some ((List.range k).map iu) := by
    have h1 : small (k : Int) = true := small_of (by omega) (by have := hk.hi; omega)
    simp only [walkA, List.all_cons, ok_v, List.all_nil, Bool.and_self, if_true, List.map_cons, List.map_nil, get_v, iu_eq, cont_int, walk, h1, rng_iu]
  have hcomp : evalE (S (n + 2)) (.comp (.op .ix [(.var 3), (.var 5)]) (.one 5) 1 [(.var 1)] [5] none) ⟨[.val (.ref r), .val (iu k), .val (nts t), .own (.dic (t.map iu) (vals k)), j4, j5], M⟩ = .ok (.lst ((List.range k).map fun x => iu (t.getD ((t.idxOf x + 1) % k) 0))) ⟨[.val (.ref r), .val (iu k), .val (nts t), .own (.dic (t.map iu) (vals k)), j4, j5], M⟩ := by
    refine ev_compM (avs := [.v (iu k)]) (xs := (List.range k).map iu) (List.range k) iu (fun x => iu (t.getD ((t.idxOf x + 1) % k) 0)) (by simp) hR rfl (by simp [stillIs]) (by rw [List.all_cons, ok_not (by exact hj5)]; rfl) (by have := hk.hi; have := line_ge; simp; omega) ?_
    intro x hx
    have hxk := List.mem_range.1 hx
    have hxt : x ∈ t := by have := ht.mem_iff (a := x); rw [List.mem_range] at this; exact this.2 hxk
    have hi := List.idxOf_lt_length_of_mem hxt
    have hkk := encI.key t x
    have hd := encI.dget x t (vals k) (by simp [vals, hlen])
    rw [if_pos hxt] at hd
    have hv : (vals k)[t.idxOf x]? = some (iu (t.getD ((t.idxOf x + 1) % k) 0)) := by
      simp only [vals]
      rw [List.getElem?_map, List.getElem?_range (by omega)]
      rfl
    rw [hv] at hd
    refine ⟨⟨[.val (.ref r), .val (iu k), .val (nts t), .own (.dic (t.map iu) (vals k)), j4, .val (iu x)], M⟩, by simp, ?_, by simp [stillIs], by simp⟩
    generalize t.getD ((t.idxOf x + 1) % k) 0 = z at *
    simp only [iu_eq] at hkk hd
    simp [hkk, hd]
  have fin := (x_seq s1).trans ((x_seq s2).trans ((x_seq s3).trans (x_last (xs := []) (u := nts (fullOf k t)) (x := .ret (.op .tupOf [(.comp (.op .ix [(.var 3), (.var 5)]) (.one 5) 1 [(.var 1)] [5] none)])) (s' := ⟨[.val (.ref r), .val (iu k), .val (nts t), .own (.dic (t.map iu) (vals k)), j4, j5], M⟩) (by
    rw [x_ret, e_tupOf, as_cons, arg_comp, hcomp]
    simp [fullOf]))))
  exact run_ret d_law__law_full_turn [.ref r, iu k] _ rfl fin
end K83
end MPE
set_option maxRecDepth 100000
set_option maxHeartbeats 4000000
/-! E83d: mixed numbers, chains of rooms. -/
namespace MPE
open MP
namespace K83
open MM
theorem lstR2_1 (g : Gst) (R : Nat) (h : R ≤ 1000) : opSem g .lstR2 [.int 1, .int (R : Int)] = some (nls ((List.range (R - 1)).map (· + 1))) := by
  show (if small 1 && small (R : Int) && decide (((R : Int) - 1).toNat ≤ line) then some (U.lst (rng 1 R)) else none) = _
  have h1 : small 1 = true := small_of (by omega) (by omega)
  have h2 : small (R : Int) = true := small_of (by omega) (by omega)
  have h3 : ((R : Int) - 1).toNat = R - 1 := by omega
  have h4 : decide (((R : Int) - 1).toNat ≤ line) = true := decide_eq_true (by have := line_ge; omega)
  rw [h1, h2, h4]
  simp only [Bool.and_self, if_true]
  show some (U.lst (rng 1 R)) = some (U.lst (((List.range (R - 1)).map (· + 1)).map iu))
  have e : (fun a : Nat => U.int (1 + (a : Int))) = fun a => iu (a + 1) := funext fun a => by
    rw [iu_eq, show 1 + (a : Int) = ((a + 1 : Nat) : Int) by omega]
  have e2 : rng 1 (R : Int) = (List.range ((R : Int) - 1).toNat).map fun a : Nat => U.int (1 + (a : Int)) := rfl
  rw [e2, e, h3, List.map_map]
  exact congrArg (fun l => some (U.lst l)) rfl
def xBody : List MS := [.set (.one 4) (.call F.law__law_next [(.var 0), (.op .sub [(.var 1), (.lit (.int 1))])]),
  .set (.one 5) (.op .ix [(.var 2), (.var 3)]),
  .setIx (.var 2) (.var 3) (.op .ix [(.var 2), (.var 4)]),
  .setIx (.var 2) (.var 4) (.var 5)]
theorem set_ix (l : List U) (i : Nat) (u : U) (h : i < l.length) : mutSem .setIx (.lst l) [.int (i : Int), u] = some (.lst (l.set i u), .non) := by
  simp only [mutSem, muSetIx]
  rw [if_pos (by omega), if_pos (by simpa using h), Int.toNat_natCast]
theorem mixed_ok (n r N : Nat) (m0 m1 : List U) (hr : m0.length = r) {R : Nat} (h1 : 2 ≤ R) (h2 : R ≤ 1000) : ∃ (l : List Nat) (N' : Nat), (0 :: l).Perm (List.range R) ∧ (S (n + 2)).call F.law__law_mixed [.ref r, iu R] (m0 ++ dig N :: m1) = .ok (nls (0 :: l)) (m0 ++ dig N' :: m1) := by
  rw [h_mixed.call]
  have s1 : execS (S (n + 1)) (.own 2 (.op .lstR2 [(.lit (.int 1)), (.var 1)])) ⟨[.val (.ref r), .val (iu R), .no, .no, .no, .no], m0 ++ dig N :: m1⟩ = .ok .next ⟨[.val (.ref r), .val (iu R), .own (nls ((List.range (R - 1)).map (· + 1))), .no, .no, .no], m0 ++ dig N :: m1⟩ := by
    have := lstR2_1 (S (n + 1)) R h2
    simp [this]
  have hsub : ∀ s : Sta, slot s 1 = .val (iu R) → evalE (S (n + 1)) (.op .sub [(.var 1), (.lit (.int 1))]) s = .ok (iu (R - 1)) s := fun s hs => by
    have : (R : Int) - 1 = ((R - 1 : Nat) : Int) := by omega
    simp [hs, this]
  obtain ⟨s', q1, l, N', j3, j4, j5, q2, q3⟩ := turnsF_relI (R := fun i s => ∃ (l : List Nat) (N' : Nat) (j3 j4 j5 : Slt), l.Perm ((List.range (R - 1)).map (· + 1)) ∧ s = ⟨[.val (.ref r), .val (iu R), .own (nls l), j3, j4, j5], m0 ++ dig N' :: m1⟩) (enc := iu) (f := fun x s1 => match bindT (.one 3) x s1 with
      | some s2 => (execs (S (n + 1)) xBody s2).bind fun fl s3 => if stillIs ⟨[.val (.ref r), .val (iu R), .own (nls ((List.range (R - 1)).map (· + 1))), .no, .no, .no], m0 ++ dig N :: m1⟩ s3 [.v (iu (R - 1))] then .ok fl s3 else .stuck
      | none => .stuck) (List.range (R - 1)) ⟨[.val (.ref r), .val (iu R), .own (nls ((List.range (R - 1)).map (· + 1))), .no, .no, .no], m0 ++ dig N :: m1⟩ ⟨_, N, .no, .no, .no, .refl _, rfl⟩ (by
    rintro i s x hx ⟨l, N, j3, j4, j5, hp, rfl⟩
    obtain ⟨hi, e⟩ := List.getElem?_eq_some_iff.1 hx
    rw [List.getElem_range] at e
    subst e
    have hi : i < R - 1 := by simpa using hi
    have hlen : l.length = R - 1 := by rw [hp.length_eq]; simp
    have hi2 : i < l.length := by omega
    have nx := next_ok n r N m0 m1 hr (R - 1) (by omega) (by omega)
    have hj : N % (R - 1) < l.length := by rw [hlen]; exact Nat.mod_lt _ (by omega)
    have hs2 := fun j => hsub ⟨[.val (.ref r), .val (iu R), .own (nls l), .val (iu i), j, j5], m0 ++ dig N :: m1⟩ (by simp)
    generalize N % (R - 1) = j at *
    generalize N / (R - 1) = N2 at *
    let l' := (l.set i l[j]).set j l[i]
    have hp2 : l'.Perm l := List.set_set_perm hi2 hj
    refine ⟨⟨[.val (.ref r), .val (iu R), .own (nls l'), .val (iu i), .val (iu j), .val (iu l[i])], m0 ++ dig N2 :: m1⟩, .inl ?_, l', N2, _, _, _, hp2.trans hp, rfl⟩
    have t1 : execS (S (n + 1)) (.set (.one 4) (.call F.law__law_next [(.var 0), (.op .sub [(.var 1), (.lit (.int 1))])])) ⟨[.val (.ref r), .val (iu R), .own (nls l), .val (iu i), j4, j5], m0 ++ dig N :: m1⟩ = .ok .next ⟨[.val (.ref r), .val (iu R), .own (nls l), .val (iu i), .val (iu j), j5], m0 ++ dig N2 :: m1⟩ := by
      simp only [x_set, e_call, es_cons, e_var, slot_mk, List.getD_cons_zero, bind_ok, hs2, es_nil, nx, rc_ok, b_one, put_mk, List.set_cons_succ, List.set_cons_zero]
    have t2 : execS (S (n + 1)) (.set (.one 5) (.op .ix [(.var 2), (.var 3)])) ⟨[.val (.ref r), .val (iu R), .own (nls l), .val (iu i), .val (iu j), j5], m0 ++ dig N2 :: m1⟩ = .ok .next ⟨[.val (.ref r), .val (iu R), .own (nls l), .val (iu i), .val (iu j), .val (iu l[i])], m0 ++ dig N2 :: m1⟩ := by
      simp [hi2]
    have st1 := set_ix (l.map iu) i (iu l[j]) (by simpa using hi2)
    have st2 := set_ix ((l.set i l[j]).map iu) j (iu l[i]) (by simpa using hj)
    have e1 : (l.map iu).set i (iu l[j]) = (l.set i l[j]).map iu := by rw [List.map_set]
    have e2 : ((l.set i l[j]).map iu).set j (iu l[i]) = l'.map iu := by rw [← List.map_set]
    rw [e1] at st1
    rw [e2] at st2
    have t3 : execS (S (n + 1)) (.setIx (.var 2) (.var 3) (.op .ix [(.var 2), (.var 4)])) ⟨[.val (.ref r), .val (iu R), .own (nls l), .val (iu i), .val (iu j), .val (iu l[i])], m0 ++ dig N2 :: m1⟩ = .ok .next ⟨[.val (.ref r), .val (iu R), .own (nls (l.set i l[j])), .val (iu i), .val (iu j), .val (iu l[i])], m0 ++ dig N2 :: m1⟩ := by
      simp only [iu_eq] at st1
      simp [hj, st1, setC]
    have t4 : execS (S (n + 1)) (.setIx (.var 2) (.var 4) (.var 5)) ⟨[.val (.ref r), .val (iu R), .own (nls (l.set i l[j])), .val (iu i), .val (iu j), .val (iu l[i])], m0 ++ dig N2 :: m1⟩ = .ok .next ⟨[.val (.ref r), .val (iu R), .own (nls l'), .val (iu i), .val (iu j), .val (iu l[i])], m0 ++ dig N2 :: m1⟩ := by
      simp only [iu_eq] at st2
      simp [st2, setC]
    have ex : execs (S (n + 1)) xBody ⟨[.val (.ref r), .val (iu R), .own (nls l), .val (iu i), j4, j5], m0 ++ dig N :: m1⟩ = _ := (x_seq t1).trans ((x_seq t2).trans ((x_seq t3).trans ((x_seq t4).trans x_nil)))
    simp only [b_one, put_mk, List.set_cons_succ, List.set_cons_zero, ex, bind_ok]
    rw [if_pos (by simp [stillIs])])
  subst q3
  have hlen : l.length = R - 1 := by rw [q2.length_eq]; simp
  have s2 : execS (S (n + 1)) (.forr (.one 3) 1 [(.op .sub [(.var 1), (.lit (.int 1))])] xBody) ⟨[.val (.ref r), .val (iu R), .own (nls ((List.range (R - 1)).map (· + 1))), .no, .no, .no], m0 ++ dig N :: m1⟩ = .ok .next ⟨[.val (.ref r), .val (iu R), .own (nls l), j3, j4, j5], m0 ++ dig N' :: m1⟩ := by
    have ev : evalAs (S (n + 1)) [(.op .sub [(.var 1), (.lit (.int 1))])] ⟨[.val (.ref r), .val (iu R), .own (nls ((List.range (R - 1)).map (· + 1))), .no, .no, .no], m0 ++ dig N :: m1⟩ = .ok [.v (iu (R - 1))] ⟨[.val (.ref r), .val (iu R), .own (nls ((List.range (R - 1)).map (· + 1))), .no, .no, .no], m0 ++ dig N :: m1⟩ := by
      have := hsub ⟨[.val (.ref r), .val (iu R), .own (nls ((List.range (R - 1)).map (· + 1))), .no, .no, .no], m0 ++ dig N :: m1⟩ (by simp)
      simp only [as_cons, arg_op, this, bind_ok, as_nil]
    have hw : walkA 1 [.v (iu (R - 1))] ⟨[.val (.ref r), .val (iu R), .own (nls ((List.range (R - 1)).map (· + 1))), .no, .no, .no], m0 ++ dig N :: m1⟩ = some ((List.range (R - 1)).map iu) := by
      have h1 : small ((R - 1 : Nat) : Int) = true := small_of (by omega) (by omega)
      simp only [walkA, List.all_cons, ok_v, List.all_nil, Bool.and_self, if_true, List.map_cons, List.map_nil, get_v, cont_int, walk, h1, rng_iu, iu_eq]
    rw [x_forr, ev, bind_ok]
    simp only [hw]
    exact q1
  refine ⟨l, N', ?_, run_ret (s := ⟨[.val (.ref r), .val (iu R), .own (nls l), j3, j4, j5], m0 ++ dig N' :: m1⟩) d_law__law_mixed [.ref r, iu R] _ rfl ((x_seq s1).trans ((x_seq s2).trans (x_last (xs := []) (u := nls (0 :: l)) (x := .ret (.op .add [(.op .lst [(.lit (.int 0))]), (.var 2)])) ?_)))⟩
  · refine (List.Perm.cons 0 q2).trans ?_
    obtain ⟨R', rfl⟩ : ∃ R', R = R' + 1 := ⟨R - 1, by omega⟩
    rw [Nat.add_sub_cancel, List.range_succ_eq_map]
  · have h1l : 1 ≤ line := by have := line_ge; omega
    have hl : l.length + 1 ≤ line := by have := line_ge; omega
    have hadd : opSem (S (n + 1)) .add [.lst [.int 0], nls l] = some (nls (0 :: l)) := by
      show okL _ = _
      unfold okL
      rw [if_pos (by simpa using hl)]
      rfl
    simp [okL, h1l, hadd]
end K83
end MPE
set_option maxRecDepth 100000
set_option maxHeartbeats 4000000
/-! E83h: the chain, made. -/
namespace MPE
open MP
namespace K83
open MM
section
variable (k R ar : Nat) (home : Bool) (pl T : List Nat)
def tpC (j : Nat) : Nat := if j + 1 < R then pl.getD (j + 1) 0 else pl.getD ar 0
def rsC (j : Nat) : List Nat := if home && decide (j + 1 < R) then (List.replicate k (tpC R ar pl j)).set (k - 1) (pl.getD 0 0) else List.replicate k (tpC R ar pl j)
def rmC (j : Nat) : Room := (if j + 1 = R then T else List.range k, rsC k R ar home pl j)
def chM : Mach := (List.range R).map fun x => rmC k R ar home pl T (pl.idxOf x)
end
section
variable {k R ar : Nat} {home : Bool} {pl T : List Nat}
theorem pl_lt (hp : pl.Perm (List.range R)) {i : Nat} (hi : i < R) : pl.getD i 0 < R := by
  have hl : pl.length = R := by rw [hp.length_eq]; simp
  rw [getD_eq (by omega)]
  have := hp.mem_iff (a := pl[i]'(by omega))
  rw [List.mem_range] at this
  exact this.1 (List.getElem_mem _)
theorem chM_chain (hk : K24 k) (hT : IsTurn k T) (hp : pl.Perm (List.range R)) (h0 : pl.getD 0 0 = 0) (hR : 0 < R) (har : ar < R) : Chain k R ar (fun l => home && decide (l + 1 = k)) (fun i => pl.getD i 0) T (chM k R ar home pl T) := by
  have hl : pl.length = R := by rw [hp.length_eq]; simp
  have nd : pl.Nodup := hp.nodup_iff.2 List.nodup_range
  have hk2 := hk.lo
  have hix : ∀ i, i < R → pl.idxOf (pl.getD i 0) = i := fun i hi => by rw [getD_eq (by omega)]; exact List.Nodup.idxOf_getElem nd i (by omega)
  have hget : ∀ i, i < R → (chM k R ar home pl T).getD (pl.getD i 0) ([], []) = rmC k R ar home pl T i := fun i hi => by
    have := pl_lt hp hi
    unfold chM
    rw [getD_eq (by simpa using this)]
    simp only [List.getElem_map, List.getElem_range]
    rw [hix i hi]
  have hrs : ∀ j, (rsC k R ar home pl j).length = k := fun j => by unfold rsC; split <;> simp
  have htp : ∀ j, tpC R ar pl j < R := fun j => by
    unfold tpC
    split
    · exact pl_lt hp (by omega)
    · exact pl_lt hp har
  refine ⟨⟨fun r hr => ?_, fun r hr => ?_, fun r hr x hx => ?_⟩, by simp [chM], hR, by omega, har, ?_, h0, fun i hi => pl_lt hp hi, fun i j hi hj e => ?_, fun i hi => ?_, fun i l hi hl2 => ?_⟩
  · obtain ⟨y, _, rfl⟩ := List.mem_map.1 hr
    simp only [rmC]
    split
    · exact hT
    · exact List.Perm.refl _
  · obtain ⟨y, _, rfl⟩ := List.mem_map.1 hr
    exact hrs _
  · obtain ⟨y, _, rfl⟩ := List.mem_map.1 hr
    have hlen : (chM k R ar home pl T).length = R := by simp [chM]
    rw [hlen]
    simp only [rmC, rsC] at hx
    split at hx
    · rcases List.mem_or_eq_of_mem_set hx with h | h
      · rw [(List.mem_replicate.1 h).2]; exact htp _
      · rw [h]; exact pl_lt hp hR
    · rw [(List.mem_replicate.1 hx).2]; exact htp _
  · show (home && decide (0 + 1 = k)) = false
    rw [decide_eq_false (by omega), Bool.and_false]
  · have := hix i hi
    have e : pl.getD i 0 = pl.getD j 0 := e
    rw [e, hix j hj] at this
    exact this.symm
  · show ((chM k R ar home pl T).getD (pl.getD i 0) ([], [])).1 = _
    rw [hget i hi]
    rfl
  · show (MM.rs (chM k R ar home pl T) (pl.getD i 0)).getD l 0 = _
    unfold MM.rs
    rw [hget i hi]
    show (rsC k R ar home pl i).getD l 0 = pl.getD (nxC R ar (fun l => home && decide (l + 1 = k)) i l) 0
    unfold rsC nxC tpC
    by_cases h : i + 1 < R
    · simp only [h, decide_true, Bool.and_true, if_true]
      cases home with
      | false => simp [hl2]
      | true =>
        simp only [if_true, Bool.true_and, decide_eq_true_eq]
        by_cases he : l + 1 = k
        · rw [if_pos he, getD_eq (by simpa using hl2)]
          have : k - 1 = l := by omega
          subst this
          simp
        · rw [if_neg he, getD_eq (by simpa using hl2), List.getElem_set_ne (by omega)]
          simp
    · simp only [h, decide_false, Bool.and_false, if_false, Bool.false_eq_true]
      simp [hl2]
end
def kBody : List MS := [.set (.one 10) (.ifx (.op .lt [(.op .add [(.var 8), (.lit (.int 1))]), (.var 2)]) (.op .ix [(.var 3), (.op .add [(.var 8), (.lit (.int 1))])]) (.op .ix [(.var 3), (.var 5)])),
  .own 11 (.op .mul [(.op .lst [(.var 10)]), (.var 1)]),
  .ife (.and [(.var 4), (.op .lt [(.op .add [(.var 8), (.lit (.int 1))]), (.var 2)])]) [.setIx (.var 11) (.op .neg [(.lit (.int 1))]) (.op .ix [(.var 3), (.lit (.int 0))])] [],
  .setIx (.var 7) (.var 9) (.op .tup [(.ifx (.op .eq [(.op .add [(.var 8), (.lit (.int 1))]), (.var 2)]) (.var 6) (.op .tupR1 [(.var 1)])), (.op .tupOf [(.var 11)])])]
theorem mulL (g : Gst) (x : U) (k : Nat) (h : k ≤ 10000) : opSem g .mul [.lst [x], .int (k : Int)] = some (.lst (List.replicate k x)) := by
  show (if decide (-1000 ≤ (k : Int) ∧ (k : Int) ≤ 1000000 ∧ [x].length * (k : Int).toNat ≤ line) then some (U.lst (repN [x] (k : Int).toNat)) else none) = _
  have := line_ge
  rw [if_pos (decide_eq_true ⟨by omega, by omega, by simp; omega⟩), Int.toNat_natCast, repN_one]
theorem mulT (g : Gst) (x : U) (k : Nat) (h : k ≤ 1000) : opSem g .mul [.tup [x], .int (k : Int)] = some (.tup (List.replicate k x)) := by
  show (if decide (-1000 ≤ (k : Int) ∧ (k : Int) ≤ 1000 ∧ [x].length ≤ 1000 ∧ [x].length ≠ 0) then some (U.tup (repN [x] (k : Int).toNat)) else none) = _
  rw [if_pos (decide_eq_true ⟨by omega, by omega, by simp, by simp⟩), Int.toNat_natCast, repN_one]
theorem set_last (l : List U) (u : U) (h : 0 < l.length) : mutSem .setIx (.lst l) [.int (-1), u] = some (.lst (l.set (l.length - 1) u), .non) := by
  simp only [mutSem, muSetIx]
  rw [if_neg (by omega), if_pos (by omega), show ((-1 : Int) + l.length).toNat = l.length - 1 by omega]
theorem chain_ok (n r N : Nat) (m0 m1 : List U) (hr : m0.length = r) {k : Nat} (hk : K24 k) {R : Nat} (h1 : 1 ≤ R) (h2 : R ≤ 1000) {pl : List Nat} (hp : pl.Perm (List.range R)) :
    ∃ ar home T N', ar < R ∧ IsTurn k T ∧ T ≠ List.range k ∧ T.getD 0 0 ≠ 0 ∧ (S (n + 4)).call F.law__law_chain [.ref r, iu k, iu R, nls pl] (m0 ++ dig N :: m1) = .ok (machU (chM k R ar home pl T)) (m0 ++ dig N' :: m1) := by
  rw [h_chain.call]
  have n1 := next_ok (n + 2) r N m0 m1 hr 2 (by omega) (by omega)
  have n2 := next_ok (n + 2) r (N / 2) m0 m1 hr R h1 h2
  obtain ⟨T, N', t1, t2, t3, n3⟩ := full_ok n r (N / 2 / R) m0 m1 hr hk
  have har : N / 2 % R < R := Nat.mod_lt _ (by omega)
  refine ⟨N / 2 % R, decide (N % 2 = 1), T, N', har, t1, t2, t3, ?_⟩
  have hl : pl.length = R := by rw [hp.length_eq]; simp
  have nd : pl.Nodup := hp.nodup_iff.2 List.nodup_range
  have hpl : ∀ i, i < R → pl[i]? = some (pl.getD i 0) := fun i hi => by rw [getD_eq (by omega), List.getElem?_eq_getElem (by omega)]
  generalize hah : N / 2 % R = ar at *
  let home := decide (N % 2 = 1)
  let M1 := m0 ++ dig N' :: m1
  let f : Nat → Nat → U := fun i x => if pl.idxOf x < i then roomU (rmC k R ar home pl T (pl.idxOf x)) else .non
  have s1 : execS (S (n + 3)) (.set (.one 4) (.op .eq [(.call F.law__law_next [(.var 0), (.lit (.int 2))]), (.lit (.int 1))])) ⟨[.val (.ref r), .val (iu k), .val (iu R), .val (nls pl), .no, .no, .no, .no, .no, .no, .no, .no], m0 ++ dig N :: m1⟩ = .ok .next ⟨[.val (.ref r), .val (iu k), .val (iu R), .val (nls pl), .val (.bl home), .no, .no, .no, .no, .no, .no, .no], m0 ++ dig (N / 2) :: m1⟩ := by
    have n1' : (S (n + 3)).call F.law__law_next [.ref r, .int 2] (m0 ++ dig N :: m1) = .ok (iu (N % 2)) (m0 ++ dig (N / 2) :: m1) := n1
    have hb : ((N : Int) % 2 == 1) = home := by
      show ((N : Int) % 2 == 1) = decide (N % 2 = 1)
      by_cases h : N % 2 = 1
      · rw [decide_eq_true h]; simp; omega
      · rw [decide_eq_false h]; simp; omega
    generalize N / 2 = N2 at *
    simp [n1', hb]
  have s2 : execS (S (n + 3)) (.set (.one 5) (.call F.law__law_next [(.var 0), (.var 2)])) ⟨[.val (.ref r), .val (iu k), .val (iu R), .val (nls pl), .val (.bl home), .no, .no, .no, .no, .no, .no, .no], m0 ++ dig (N / 2) :: m1⟩ = .ok .next ⟨[.val (.ref r), .val (iu k), .val (iu R), .val (nls pl), .val (.bl home), .val (iu ar), .no, .no, .no, .no, .no, .no], m0 ++ dig (N / 2 / R) :: m1⟩ := by
    generalize N / 2 / R = N3 at *
    generalize N / 2 = N2 at *
    simp only [x_set, e_call, es_cons, e_var, slot_mk, List.getD_cons_succ, List.getD_cons_zero, bind_ok, es_nil, n2, rc_ok, b_one, put_mk, List.set_cons_succ, List.set_cons_zero]
  have s3 : execS (S (n + 3)) (.set (.one 6) (.call F.law__law_full_turn [(.var 0), (.var 1)])) ⟨[.val (.ref r), .val (iu k), .val (iu R), .val (nls pl), .val (.bl home), .val (iu ar), .no, .no, .no, .no, .no, .no], m0 ++ dig (N / 2 / R) :: m1⟩ = .ok .next ⟨[.val (.ref r), .val (iu k), .val (iu R), .val (nls pl), .val (.bl home), .val (iu ar), .val (nts T), .no, .no, .no, .no, .no], M1⟩ := by
    generalize N / 2 / R = N3 at *
    simp only [x_set, e_call, es_cons, e_var, slot_mk, List.getD_cons_succ, List.getD_cons_zero, bind_ok, es_nil, n3, rc_ok, b_one, put_mk, List.set_cons_succ, List.set_cons_zero]
    rfl
  have hf0 : List.replicate R U.non = (List.range R).map (f 0) := by
    apply List.ext_getElem
    · simp
    · intro x a b
      simp [f]
  have s4 : execS (S (n + 3)) (.own 7 (.op .mul [(.op .lst [(.lit .non)]), (.var 2)])) ⟨[.val (.ref r), .val (iu k), .val (iu R), .val (nls pl), .val (.bl home), .val (iu ar), .val (nts T), .no, .no, .no, .no, .no], M1⟩ = .ok .next ⟨[.val (.ref r), .val (iu k), .val (iu R), .val (nls pl), .val (.bl home), .val (iu ar), .val (nts T), .own (.lst ((List.range R).map (f 0))), .no, .no, .no, .no], M1⟩ := by
    have hm := mulL (S (n + 3)) .non R (by omega)
    rw [hf0] at hm
    have h1l : 1 ≤ line := by have := line_ge; omega
    generalize (List.range R).map (f 0) = z at *
    simp [okL, h1l, hm]
  obtain ⟨s', q1, j8, j9, j10, j11, q2⟩ := turnsF_relI (R := fun i s => ∃ j8 j9 j10 j11, s = ⟨[.val (.ref r), .val (iu k), .val (iu R), .val (nls pl), .val (.bl home), .val (iu ar), .val (nts T), .own (.lst ((List.range R).map (f i))), j8, j9, j10, j11], M1⟩) (enc := fun (q : Nat × Nat) => U.prs [iu q.1, iu q.2]) (f := fun x s1 => match bindT (.tup [(.one 8), (.one 9)]) x s1 with
      | some s2 => (execs (S (n + 3)) kBody s2).bind fun fl s3 => if stillIs ⟨[.val (.ref r), .val (iu k), .val (iu R), .val (nls pl), .val (.bl home), .val (iu ar), .val (nts T), .own (.lst ((List.range R).map (f 0))), .no, .no, .no, .no], M1⟩ s3 [.v (nls pl)] then .ok fl s3 else .stuck
      | none => .stuck) (pl.mapIdx fun i x => (i, x)) ⟨[.val (.ref r), .val (iu k), .val (iu R), .val (nls pl), .val (.bl home), .val (iu ar), .val (nts T), .own (.lst ((List.range R).map (f 0))), .no, .no, .no, .no], M1⟩ ⟨.no, .no, .no, .no, rfl⟩ (by
    rintro i s ⟨a, x⟩ hx ⟨j8, j9, j10, j11, rfl⟩
    rw [List.getElem?_mapIdx] at hx
    cases hti : pl[i]? with
    | none => rw [hti] at hx; cases hx
    | some y =>
      rw [hti] at hx
      simp only [Option.map_some, Option.some.injEq, Prod.mk.injEq] at hx
      obtain ⟨rfl, rfl⟩ := hx
      obtain ⟨hil, hy⟩ := List.getElem?_eq_some_iff.1 hti
      have hiR : i < R := by omega
      have hyR : y < R := by have := pl_lt hp hiR; rw [getD_eq hil, hy] at this; exact this
      have hixy : pl.idxOf y = i := by have := List.Nodup.idxOf_getElem nd i hil; rw [hy] at this; exact this
      have st0 : ∀ j8 j9 j10 j11 z, (⟨[.val (.ref r), .val (iu k), .val (iu R), .val (nls pl), .val (.bl home), .val (iu ar), .val (nts T), .own z, j8, j9, j10, j11], M1⟩ : Sta) = ⟨[.val (.ref r), .val (iu k), .val (iu R), .val (nls pl), .val (.bl home), .val (iu ar), .val (nts T), .own z, j8, j9, j10, j11], M1⟩ := fun _ _ _ _ _ => rfl
      have u1 : execS (S (n + 3)) (.set (.one 10) (.ifx (.op .lt [(.op .add [(.var 8), (.lit (.int 1))]), (.var 2)]) (.op .ix [(.var 3), (.op .add [(.var 8), (.lit (.int 1))])]) (.op .ix [(.var 3), (.var 5)]))) ⟨[.val (.ref r), .val (iu k), .val (iu R), .val (nls pl), .val (.bl home), .val (iu ar), .val (nts T), .own (.lst ((List.range R).map (f i))), .val (iu i), .val (iu y), j10, j11], M1⟩ = .ok .next ⟨[.val (.ref r), .val (iu k), .val (iu R), .val (nls pl), .val (.bl home), .val (iu ar), .val (nts T), .own (.lst ((List.range R).map (f i))), .val (iu i), .val (iu y), .val (iu (tpC R ar pl i)), j11], M1⟩ := by
        unfold tpC
        by_cases h : i + 1 < R
        · have h' : ((i : Int) + 1 < (R : Int)) := by omega
          have e := hpl (i + 1) h
          have e1 : (i : Int) + 1 = ((i + 1 : Nat) : Int) := by omega
          rw [if_pos h]
          generalize pl.getD (i + 1) 0 = z at *
          generalize (List.range R).map (f i) = zz at *
          simp [h']
          rw [e1, atI_nat]
          simp [e]
        · have h' : ¬ ((i : Int) + 1 < (R : Int)) := by omega
          have e := hpl ar har
          rw [if_neg h]
          generalize pl.getD ar 0 = z at *
          generalize (List.range R).map (f i) = zz at *
          simp [h', e]
      have u2 : execS (S (n + 3)) (.own 11 (.op .mul [(.op .lst [(.var 10)]), (.var 1)])) ⟨[.val (.ref r), .val (iu k), .val (iu R), .val (nls pl), .val (.bl home), .val (iu ar), .val (nts T), .own (.lst ((List.range R).map (f i))), .val (iu i), .val (iu y), .val (iu (tpC R ar pl i)), j11], M1⟩ = .ok .next ⟨[.val (.ref r), .val (iu k), .val (iu R), .val (nls pl), .val (.bl home), .val (iu ar), .val (nts T), .own (.lst ((List.range R).map (f i))), .val (iu i), .val (iu y), .val (iu (tpC R ar pl i)), .own (nls (List.replicate k (tpC R ar pl i)))], M1⟩ := by
        have hm := mulL (S (n + 3)) (iu (tpC R ar pl i)) k (by have := hk.hi; omega)
        have h1l : 1 ≤ line := by have := line_ge; omega
        generalize tpC R ar pl i = z at *
        generalize (List.range R).map (f i) = zz at *
        rw [← List.map_replicate] at hm
        simp only [iu_eq] at hm
        simp [okL, h1l, hm]
      have u3 : execS (S (n + 3)) (.ife (.and [(.var 4), (.op .lt [(.op .add [(.var 8), (.lit (.int 1))]), (.var 2)])]) [.setIx (.var 11) (.op .neg [(.lit (.int 1))]) (.op .ix [(.var 3), (.lit (.int 0))])] []) ⟨[.val (.ref r), .val (iu k), .val (iu R), .val (nls pl), .val (.bl home), .val (iu ar), .val (nts T), .own (.lst ((List.range R).map (f i))), .val (iu i), .val (iu y), .val (iu (tpC R ar pl i)), .own (nls (List.replicate k (tpC R ar pl i)))], M1⟩ = .ok .next ⟨[.val (.ref r), .val (iu k), .val (iu R), .val (nls pl), .val (.bl home), .val (iu ar), .val (nts T), .own (.lst ((List.range R).map (f i))), .val (iu i), .val (iu y), .val (iu (tpC R ar pl i)), .own (nls (rsC k R ar home pl i))], M1⟩ := by
        unfold rsC
        have e0 := hpl 0 (by omega)
        have hset := set_last ((List.replicate k (tpC R ar pl i)).map iu) (iu (pl.getD 0 0)) (by simp; have := hk.lo; omega)
        rw [← List.map_set] at hset
        simp only [List.length_map, List.length_replicate] at hset
        generalize hW : (List.replicate k (tpC R ar pl i)).set (k - 1) (pl.getD 0 0) = W at *
        generalize pl.getD 0 0 = z at *
        generalize List.replicate k (tpC R ar pl i) = V at *
        generalize tpC R ar pl i = zt at *
        generalize (List.range R).map (f i) = zz at *
        generalize home = hb at *
        simp only [iu_eq] at hset
        cases hb with
        | false =>
          refine (x_ifF (s' := ⟨[.val (.ref r), .val (iu k), .val (iu R), .val (nls pl), .val (.bl false), .val (iu ar), .val (nts T), .own (.lst zz), .val (iu i), .val (iu y), .val (iu zt), .own (nls V)], M1⟩) ?_).trans ?_
          · simp
          · simp
        | true =>
          by_cases h : i + 1 < R
          · have h' : ((i : Int) + 1 < (R : Int)) := by omega
            refine (x_ifT (s' := ⟨[.val (.ref r), .val (iu k), .val (iu R), .val (nls pl), .val (.bl true), .val (iu ar), .val (nts T), .own (.lst zz), .val (iu i), .val (iu y), .val (iu zt), .own (nls V)], M1⟩) ?_).trans ?_
            · simp [h']
            · have hneg : ∀ g : Gst, opSem g .neg [.int 1] = some (.int (-1)) := fun _ => rfl
              simp [e0, hneg, hset, setC, h]
          · have h' : ¬ ((i : Int) + 1 < (R : Int)) := by omega
            refine (x_ifF (s' := ⟨[.val (.ref r), .val (iu k), .val (iu R), .val (nls pl), .val (.bl true), .val (iu ar), .val (nts T), .own (.lst zz), .val (iu i), .val (iu y), .val (iu zt), .own (nls V)], M1⟩) ?_).trans ?_
            · simp [h']
            · simp [h]
      have u4 : execS (S (n + 3)) (.setIx (.var 7) (.var 9) (.op .tup [(.ifx (.op .eq [(.op .add [(.var 8), (.lit (.int 1))]), (.var 2)]) (.var 6) (.op .tupR1 [(.var 1)])), (.op .tupOf [(.var 11)])])) ⟨[.val (.ref r), .val (iu k), .val (iu R), .val (nls pl), .val (.bl home), .val (iu ar), .val (nts T), .own (.lst ((List.range R).map (f i))), .val (iu i), .val (iu y), .val (iu (tpC R ar pl i)), .own (nls (rsC k R ar home pl i))], M1⟩ = .ok .next ⟨[.val (.ref r), .val (iu k), .val (iu R), .val (nls pl), .val (.bl home), .val (iu ar), .val (nts T), .own (.lst ((List.range R).map (f (i + 1)))), .val (iu i), .val (iu y), .val (iu (tpC R ar pl i)), .own (nls (rsC k R ar home pl i))], M1⟩ := by
        have hst := set_ix ((List.range R).map (f i)) y (roomU (rmC k R ar home pl T i)) (by simpa using hyR)
        have e : ((List.range R).map (f i)).set y (roomU (rmC k R ar home pl T i)) = (List.range R).map (f (i + 1)) := by
          apply List.ext_getElem
          · simp
          · intro x a b
            have hxR : x < R := by simpa using b
            rw [List.getElem_set]
            simp only [List.getElem_map, List.getElem_range]
            by_cases hxy : y = x
            · subst hxy
              rw [if_pos rfl]
              simp only [f, hixy]
              rw [if_pos (by omega)]
            · rw [if_neg hxy]
              simp only [f]
              have hne : pl.idxOf x ≠ i := fun hh => hxy (by
                have hm : x ∈ pl := hp.mem_iff.2 (List.mem_range.2 hxR)
                have := List.getElem_idxOf (List.idxOf_lt_length_of_mem hm)
                simp only [hh] at this
                rw [hy] at this
                exact this)
              by_cases hlt : pl.idxOf x < i
              · rw [if_pos hlt, if_pos (by omega)]
              · rw [if_neg hlt, if_neg (by omega)]
        rw [e] at hst
        have hR := tupR1_iu (g := S (n + 3)) k (by have := hk.hi; omega)
        have h2l : 2 ≤ line := by have := line_ge; omega
        generalize (List.range R).map (f (i + 1)) = z2 at *
        generalize (List.range R).map (f i) = z1 at *
        generalize tpC R ar pl i = zt at *
        unfold rmC roomU at hst
        generalize rsC k R ar home pl i = W at *
        by_cases h : i + 1 = R
        · have h' : ((i : Int) + 1 = (R : Int)) := by omega
          rw [if_pos h] at hst
          simp [h', okT, h2l, hst, setC]
        · have h' : ((i : Int) + 1 == (R : Int)) = false := by rw [beq_eq_false_iff_ne]; omega
          rw [if_neg h] at hst
          simp [h', okT, h2l, hR, hst, setC]
      refine ⟨⟨[.val (.ref r), .val (iu k), .val (iu R), .val (nls pl), .val (.bl home), .val (iu ar), .val (nts T), .own (.lst ((List.range R).map (f (i + 1)))), .val (iu i), .val (iu y), .val (iu (tpC R ar pl i)), .own (nls (rsC k R ar home pl i))], M1⟩, .inl ?_, _, _, _, _, rfl⟩
      have ex : execs (S (n + 3)) kBody ⟨[.val (.ref r), .val (iu k), .val (iu R), .val (nls pl), .val (.bl home), .val (iu ar), .val (nts T), .own (.lst ((List.range R).map (f i))), .val (iu i), .val (iu y), j10, j11], M1⟩ = _ := (x_seq u1).trans ((x_seq u2).trans ((x_seq u3).trans ((x_seq u4).trans x_nil)))
      simp only [b_prs, bs_cons, bs_nil, b_one, put_mk, List.set_cons_succ, List.set_cons_zero, ex, bind_ok]
      rw [if_pos (by simp [stillIs])])
  rw [List.length_mapIdx, hl] at q2
  have s5 : execS (S (n + 3)) (.forr (.tup [(.one 8), (.one 9)]) 3 [(.var 3)] kBody) ⟨[.val (.ref r), .val (iu k), .val (iu R), .val (nls pl), .val (.bl home), .val (iu ar), .val (nts T), .own (.lst ((List.range R).map (f 0))), .no, .no, .no, .no], M1⟩ = .ok .next s' := by
    have ev : evalAs (S (n + 3)) [(.var 3)] ⟨[.val (.ref r), .val (iu k), .val (iu R), .val (nls pl), .val (.bl home), .val (iu ar), .val (nts T), .own (.lst ((List.range R).map (f 0))), .no, .no, .no, .no], M1⟩ = .ok [.v (nls pl)] ⟨[.val (.ref r), .val (iu k), .val (iu R), .val (nls pl), .val (.bl home), .val (iu ar), .val (nts T), .own (.lst ((List.range R).map (f 0))), .no, .no, .no, .no], M1⟩ := by simp
    have hw : ∀ s : Sta, walkA 3 [.v (nls pl)] s = some ((pl.mapIdx fun i x => (i, x)).map fun q => .prs [iu q.1, iu q.2]) := fun s => by
      simp only [walkA, List.all_cons, ok_v, List.all_nil, Bool.and_self, if_true, List.map_cons, List.map_nil, get_v, cont_lst, walk, map_mapIdx', mapIdx_map', iu_eq]
    rw [x_forr, ev, bind_ok, hw]
    exact q1
  subst q2
  have efin : (List.range R).map (f R) = (chM k R ar home pl T).map roomU := by
    unfold chM
    rw [List.map_map]
    apply List.map_congr_left
    intro x hx
    have hxR := List.mem_range.1 hx
    have hm : x ∈ pl := hp.mem_iff.2 hx
    have := List.idxOf_lt_length_of_mem hm
    simp only [f, Function.comp_apply]
    rw [if_pos (by omega)]
  rw [efin] at s5
  exact run_ret d_law__law_chain [.ref r, iu k, iu R, nls pl] _ rfl ((x_seq s1).trans ((x_seq s2).trans ((x_seq s3).trans ((x_seq s4).trans ((x_seq s5).trans (x_last (xs := []) (u := machU (chM k R ar home pl T)) (x := .ret (.op .tupOf [(.var 7)])) (by simp; rfl)))))))
end K83
end MPE
set_option maxRecDepth 100000
set_option maxHeartbeats 4000000
/-! E83e: the law's looks at a machine. -/
namespace MPE
open MP
namespace K83
open MM
def c1E : ME := .comp (.and [(.op (.isi [0]) [(.var 4)]), (.not (.op (.isi [1]) [(.var 4)]))]) (.one 4) 0 [(.var 3)] [4] none
def c2E : ME := .comp (.chain .le .lt (.lit (.int 0)) (.var 5) (.op .len [(.var 0)])) (.one 5) 0 [(.op .ix [(.var 2), (.lit (.int 1))])] [5] none
def gBody : List MS := [.ife (.or [(.not (.op (.isi [2]) [(.var 2)])), (.op .ne [(.op .len [(.var 2)]), (.lit (.int 2))]), (.not (.op (.isi [2]) [(.op .ix [(.var 2), (.lit (.int 0))])]))]) [.ret (.lit (.bl false))] [],
  .set (.one 3) (.ifx (.op (.isi [2]) [(.op .ix [(.var 2), (.lit (.int 1))])]) (.op .add [(.op .lstOf [(.op .ix [(.var 2), (.lit (.int 0))])]), (.op .lstOf [(.op .ix [(.var 2), (.lit (.int 1))])])]) (.op .lst [(.lit .non)])),
  .ife (.not (.op .all [c1E])) [.ret (.lit (.bl false))] [],
  .ife (.or [(.op .ne [(.op .sorted [(.op .ix [(.var 2), (.lit (.int 0))])]), (.op .lstR1 [(.var 1)])]), (.op .ne [(.op .len [(.op .ix [(.var 2), (.lit (.int 1))])]), (.var 1)])]) [.ret (.lit (.bl false))] [],
  .ife (.not (.op .all [c2E])) [.ret (.lit (.bl false))] []]
theorem good_turn (g : Gst) (m : List U) {k : Nat} (hk : K24 k) {L : Mach} (hL : Good k L) (h2 : L.length ≤ 1000) {r : Room} (hr : r ∈ L) (j3 j4 j5 : Slt) (h4 : notOwn j4 = true) (h5 : notOwn j5 = true) :
    execs g gBody ⟨[.val (machU L), .val (iu k), .val (roomU r), j3, j4, j5], m⟩ = .ok .next ⟨[.val (machU L), .val (iu k), .val (roomU r), .val (nls (r.1 ++ r.2)), j4, j5], m⟩ := by
  have hT := hL.turn r hr
  have hTl := hT.len
  have hrl := hL.many r hr
  have hk4 := hk.hi
  have hadd : ∀ (g : Gst) (a b : List U), opSem g .add [.lst a, .lst b] = okL (a ++ b) := fun g a b => rfl
  have s1 : execS g (.ife (.or [(.not (.op (.isi [2]) [(.var 2)])), (.op .ne [(.op .len [(.var 2)]), (.lit (.int 2))]), (.not (.op (.isi [2]) [(.op .ix [(.var 2), (.lit (.int 0))])]))]) [.ret (.lit (.bl false))] []) ⟨[.val (machU L), .val (iu k), .val (roomU r), j3, j4, j5], m⟩ = .ok .next ⟨[.val (machU L), .val (iu k), .val (roomU r), j3, j4, j5], m⟩ := by
    refine (x_ifF ?_).trans x_nil
    simp
  have hl8 : r.1.length + r.2.length ≤ line := by have := line_ge; omega
  have s2 : execS g (.set (.one 3) (.ifx (.op (.isi [2]) [(.op .ix [(.var 2), (.lit (.int 1))])]) (.op .add [(.op .lstOf [(.op .ix [(.var 2), (.lit (.int 0))])]), (.op .lstOf [(.op .ix [(.var 2), (.lit (.int 1))])])]) (.op .lst [(.lit .non)]))) ⟨[.val (machU L), .val (iu k), .val (roomU r), j3, j4, j5], m⟩ = .ok .next ⟨[.val (machU L), .val (iu k), .val (roomU r), .val (nls (r.1 ++ r.2)), j4, j5], m⟩ := by
    simp [hadd, okL, hl8]
  have c1 : evalE g c1E ⟨[.val (machU L), .val (iu k), .val (roomU r), .val (nls (r.1 ++ r.2)), j4, j5], m⟩ = .ok (.lst ((r.1 ++ r.2).map fun _ => .bl true)) ⟨[.val (machU L), .val (iu k), .val (roomU r), .val (nls (r.1 ++ r.2)), j4, j5], m⟩ := by
    refine ev_compM (avs := [.v (nls (r.1 ++ r.2))]) (xs := (r.1 ++ r.2).map iu) (r.1 ++ r.2) iu (fun _ => .bl true) (by simp) (by simp only [walkA, List.all_cons, ok_v, List.all_nil, Bool.and_self, if_true, List.map_cons, List.map_nil, get_v, cont_lst, walk]) rfl (by simp [stillIs]) (by rw [List.all_cons, ok_not (by exact h4)]; rfl) (by rw [List.length_append]; exact hl8) ?_
    intro x hx
    exact ⟨⟨[.val (machU L), .val (iu k), .val (roomU r), .val (nls (r.1 ++ r.2)), .val (iu x), j5], m⟩, by simp, by simp, by simp [stillIs], by simp⟩
  have s3 : execS g (.ife (.not (.op .all [c1E])) [.ret (.lit (.bl false))] []) ⟨[.val (machU L), .val (iu k), .val (roomU r), .val (nls (r.1 ++ r.2)), j4, j5], m⟩ = .ok .next ⟨[.val (machU L), .val (iu k), .val (roomU r), .val (nls (r.1 ++ r.2)), j4, j5], m⟩ := by
    refine (x_ifF ?_).trans x_nil
    have ha : argOf (fun s => evalE g c1E s) c1E ⟨[.val (machU L), .val (iu k), .val (roomU r), .val (nls (r.1 ++ r.2)), j4, j5], m⟩ = (evalE g c1E ⟨[.val (machU L), .val (iu k), .val (roomU r), .val (nls (r.1 ++ r.2)), j4, j5], m⟩).bind fun u s => .ok (.v u) s := arg_no _ rfl
    rw [c1] at ha
    have hall := allT_map (fun _ : Nat => true) (r.1 ++ r.2)
    simp only [cond_of, arg_not, e_not, arg_op, e_all, as_cons, as_nil, ha, bind_ok, opA_1, ok_v, if_true, get_v, cont_lst, op_all, hall, Option.map_some, cont_bl, truthy_bl]
    simp
  have hsort := sort_turn hk hT
  have hR := lstR1_iu (g := g) k (by omega)
  have s4 : execS g (.ife (.or [(.op .ne [(.op .sorted [(.op .ix [(.var 2), (.lit (.int 0))])]), (.op .lstR1 [(.var 1)])]), (.op .ne [(.op .len [(.op .ix [(.var 2), (.lit (.int 1))])]), (.var 1)])]) [.ret (.lit (.bl false))] []) ⟨[.val (machU L), .val (iu k), .val (roomU r), .val (nls (r.1 ++ r.2)), j4, j5], m⟩ = .ok .next ⟨[.val (machU L), .val (iu k), .val (roomU r), .val (nls (r.1 ++ r.2)), j4, j5], m⟩ := by
    refine (x_ifF ?_).trans x_nil
    simp [hsort, rng_iu, hR, hrl]
  have c2 : evalE g c2E ⟨[.val (machU L), .val (iu k), .val (roomU r), .val (nls (r.1 ++ r.2)), j4, j5], m⟩ = .ok (.lst (r.2.map fun _ => .bl true)) ⟨[.val (machU L), .val (iu k), .val (roomU r), .val (nls (r.1 ++ r.2)), j4, j5], m⟩ := by
    refine ev_compM (avs := [.v (nts r.2)]) (xs := r.2.map iu) r.2 iu (fun _ => .bl true) (by simp) (by simp only [walkA, List.all_cons, ok_v, List.all_nil, Bool.and_self, if_true, List.map_cons, List.map_nil, get_v, cont_tup, walk]) rfl (by simp [stillIs]) (by rw [List.all_cons, ok_not (by exact h5)]; rfl) (by omega) ?_
    intro x hx
    have hlt := hL.rest r hr x hx
    have hlt' : (x : Int) < (L.length : Int) := by omega
    exact ⟨⟨[.val (machU L), .val (iu k), .val (roomU r), .val (nls (r.1 ++ r.2)), j4, .val (iu x)], m⟩, by simp, by simp [hlt'], by simp [stillIs], by simp⟩
  have s5 : execS g (.ife (.not (.op .all [c2E])) [.ret (.lit (.bl false))] []) ⟨[.val (machU L), .val (iu k), .val (roomU r), .val (nls (r.1 ++ r.2)), j4, j5], m⟩ = .ok .next ⟨[.val (machU L), .val (iu k), .val (roomU r), .val (nls (r.1 ++ r.2)), j4, j5], m⟩ := by
    refine (x_ifF ?_).trans x_nil
    have ha : argOf (fun s => evalE g c2E s) c2E ⟨[.val (machU L), .val (iu k), .val (roomU r), .val (nls (r.1 ++ r.2)), j4, j5], m⟩ = (evalE g c2E ⟨[.val (machU L), .val (iu k), .val (roomU r), .val (nls (r.1 ++ r.2)), j4, j5], m⟩).bind fun u s => .ok (.v u) s := arg_no _ rfl
    rw [c2] at ha
    have hall := allT_map (fun _ : Nat => true) r.2
    simp only [cond_of, arg_not, e_not, arg_op, e_all, as_cons, as_nil, ha, bind_ok, opA_1, ok_v, if_true, get_v, cont_lst, op_all, hall, Option.map_some, cont_bl, truthy_bl]
    simp
  exact (x_seq s1).trans ((x_seq s2).trans ((x_seq s3).trans ((x_seq s4).trans ((x_seq s5).trans x_nil))))
theorem good_ok (n : Nat) (m : List U) {k : Nat} (hk : K24 k) {L : Mach} (hL : Good k L) (h1 : 1 ≤ L.length) (h2 : L.length ≤ 60) : (S (n + 1)).call F.law__law_good [machU L, iu k] m = .ok (.bl true) m := by
  rw [h_good.call]
  have k1 : (1 : Int) ≤ (L.length : Int) := by omega
  have k2 : (L.length : Int) ≤ 60 := by omega
  have s1 : execS (S n) (.ife (.or [(.not (.op (.isi [2]) [(.var 0)])), (.not (.chain .le .le (.lit (.int 1)) (.op .len [(.var 0)]) (.lit (.int 60))))]) [.ret (.lit (.bl false))] []) ⟨[.val (machU L), .val (iu k), .no, .no, .no, .no], m⟩ = .ok .next ⟨[.val (machU L), .val (iu k), .no, .no, .no, .no], m⟩ := by
    refine (x_ifF ?_).trans x_nil
    simp [k1, k2]
  obtain ⟨s', q1, j2, j3, j4, j5, h4, h5, q2⟩ := turnsF_relI (R := fun i s => ∃ j2 j3 j4 j5, notOwn j4 = true ∧ notOwn j5 = true ∧ s = ⟨[.val (machU L), .val (iu k), j2, j3, j4, j5], m⟩) (enc := roomU) (f := fun x s1 => match bindT (.one 2) x s1 with
      | some s2 => (execs (S n) gBody s2).bind fun fl s3 => if stillIs ⟨[.val (machU L), .val (iu k), .no, .no, .no, .no], m⟩ s3 [.v (machU L)] then .ok fl s3 else .stuck
      | none => .stuck) L ⟨[.val (machU L), .val (iu k), .no, .no, .no, .no], m⟩ ⟨.no, .no, .no, .no, rfl, rfl, rfl⟩ (by
    rintro i s r hr ⟨j2, j3, j4, j5, h4, h5, rfl⟩
    have hr := List.mem_of_getElem? hr
    refine ⟨_, .inl ?_, .val (roomU r), .val (nls (r.1 ++ r.2)), j4, j5, h4, h5, rfl⟩
    simp only [b_one, put_mk, List.set_cons_succ, List.set_cons_zero, good_turn (S n) m hk hL (by omega) hr j3 j4 j5 h4 h5, bind_ok]
    rw [if_pos (by simp [stillIs])])
  have s2 : execS (S n) (.forr (.one 2) 0 [(.var 0)] gBody) ⟨[.val (machU L), .val (iu k), .no, .no, .no, .no], m⟩ = .ok .next s' := by
    have ev : evalAs (S n) [(.var 0)] ⟨[.val (machU L), .val (iu k), .no, .no, .no, .no], m⟩ = .ok [.v (machU L)] ⟨[.val (machU L), .val (iu k), .no, .no, .no, .no], m⟩ := by simp
    have hw : walkA 0 [.v (machU L)] ⟨[.val (machU L), .val (iu k), .no, .no, .no, .no], m⟩ = some (L.map roomU) := by
      simp only [walkA, List.all_cons, ok_v, List.all_nil, Bool.and_self, if_true, List.map_cons, List.map_nil, get_v, cont_tup, walk]
    rw [x_forr, ev, bind_ok]
    simp only [hw]
    exact q1
  subst q2
  exact run_ret d_law__law_good [machU L, iu k] m rfl ((x_seq s1).trans ((x_seq s2).trans (x_last (xs := []) (u := .bl true) (x := .ret (.lit (.bl true))) (s' := ⟨[.val (machU L), .val (iu k), j2, j3, j4, j5], m⟩) (by simp))))
end K83
end MPE
set_option maxRecDepth 100000
set_option maxHeartbeats 4000000
/-! E83f: the law's marks; whether a machine is a least one. -/
namespace MPE
open MP
namespace K83
open MM
theorem st_turns (p : Prg) (n : Nat) : (stOf p n).turns = p.turns := by cases n <;> rfl
theorem once_cnt : ∀ (mk ks : List Nat), (mk.map fun (x : Nat) => (x : Int)).foldl stepI (ks.map fun (x : Nat) => (x : Int)) = (keys ks mk).map fun (x : Nat) => (x : Int)
  | [], ks => rfl
  | a :: mk, ks => by
    have h : ((ks.map fun (x : Nat) => (x : Int)).any (· == (a : Int))) = decide (a ∈ ks) := by
      induction ks with
      | nil => rfl
      | cons b ks ih =>
        rw [List.map_cons, List.any_cons, ih]
        by_cases h1 : b = a
        · simp [h1]
        · have h2 : ¬ ((b : Int) = (a : Int)) := by omega
          have h3 : ¬ a = b := fun e => h1 e.symm
          simp [h2, h3]
    simp only [List.map_cons, List.foldl_cons, keys]
    by_cases ha : a ∈ ks
    · have e : stepI (ks.map fun (x : Nat) => (x : Int)) (a : Int) = ks.map fun (x : Nat) => (x : Int) := by unfold stepI; rw [h, decide_eq_true ha]; rfl
      rw [e, if_pos ha]
      exact once_cnt mk ks
    · have e : stepI (ks.map fun (x : Nat) => (x : Int)) (a : Int) = (ks ++ [a]).map fun (x : Nat) => (x : Int) := by unfold stepI; rw [h, decide_eq_false ha]; simp
      rw [e, if_neg ha]
      exact once_cnt mk (ks ++ [a])
theorem lenSet_ok (g : Gst) (mk : List Nat) (h : mk.length ≤ 4000) : opSem g .lenSet [nls mk] = some (.int (cnt mk)) := by
  show ((ints? (mk.map iu)).bind fun is => if is.length ≤ 4000 then some (U.int (onceI is).length) else none) = _
  rw [ints_iu]
  simp only [Option.bind_some, List.length_map, h, if_true]
  have := once_cnt mk []
  unfold onceI
  simp only [List.map_nil] at this
  rw [this, List.length_map]
  rfl
/-- plain things that are told apart -/
structure EncX {α : Type} [DecidableEq α] (enc : α → U) : Prop extends Enc enc where
  plain : ∀ n, 5 ≤ n → ∀ a, deepU n (enc a) = true
theorem encTX : EncX (fun t : List Nat => nts t) := ⟨encT, fun n hn a => by
  obtain ⟨n', rfl⟩ : ∃ n', n = n' + 1 := ⟨n - 1, by omega⟩
  rw [deep_tup]
  exact deeps_iu n' a⟩
theorem encPX : EncX pairU := ⟨encP, fun n hn a => by
  obtain ⟨n', rfl⟩ : ∃ n', n = n' + 1 + 1 := ⟨n - 2, by omega⟩
  unfold pairU
  simp⟩
section
variable {α : Type} [DecidableEq α] {enc : α → U} (E : EncX enc)
include E
theorem plains_map (n : Nat) (hn : 5 ≤ n) : ∀ xs : List α, deepUs n (xs.map enc) = true
  | [] => by simp
  | x :: xs => by rw [List.map_cons, deeps_cons, E.plain n hn, plains_map n hn xs]; rfl
theorem idx_ok (x : α) : ∀ xs : List α, x ∈ xs → idxU (enc x) (xs.map enc) = some (xs.idxOf x)
  | y :: xs, h => by
    rw [List.map_cons]
    unfold idxU
    rw [E.eq]
    by_cases e : y = x
    · subst e
      simp
    · have hx : x ∈ xs := by
        rcases List.mem_cons.1 h with h | h
        · exact absurd h.symm e
        · exact h
      rw [idx_ok x xs hx, List.idxOf_cons]
      have : (y == x) = false := by simpa using e
      simp [e, this]
theorem index_ok (g : Gst) (xs : List α) (x : α) (h : x ∈ xs) : opSem g .index [.lst (xs.map enc), enc x] = some (iu (xs.idxOf x)) := by
  show (if (enc x).plain && plains (xs.map enc) then (idxU (enc x) (xs.map enc)).map fun k => U.int k else none) = _
  rw [show (enc x).plain = true from E.plain 7 (by decide) x, show plains (xs.map enc) = true from plains_map E 6 (by decide) xs, idx_ok E x xs h]
  rfl
end
def ixE : ME := .comp (.op .index [(.var 2), (.var 3)]) (.one 3) 0 [(.var 2)] [3] none
def sgE : ME := .comp (.op .tup [(.op .ix [(.var 4), (.var 7)]), (.op .tupOf [(.comp (.op .ix [(.var 4), (.var 6)]) (.one 6) 0 [(.op .ix [(.var 1), (.lit (.int 1))])] [6] none)])]) (.tup [(.one 7), (.one 1)]) 3 [(.var 0)] [7, 1] none
theorem ixE_ok {α : Type} [DecidableEq α] {enc : α → U} (E : EncX enc) (hld : ∀ m a, cont m (enc a) = enc a) (g : Gst) (m : List U) (xs : List α) (hl : xs.length ≤ 1000) (j0 j1 j4 j5 j6 j7 : Slt) : evalE g ixE ⟨[j0, j1, .val (.lst (xs.map enc)), .no, j4, j5, j6, j7], m⟩ = .ok (.lst ((firsts xs).map iu)) ⟨[j0, j1, .val (.lst (xs.map enc)), .no, j4, j5, j6, j7], m⟩ := by
  unfold firsts
  rw [List.map_map]
  refine ev_compM (avs := [.v (.lst (xs.map enc))]) (xs := xs.map enc) xs enc _ (by simp) (by simp only [walkA, List.all_cons, ok_v, List.all_nil, Bool.and_self, if_true, List.map_cons, List.map_nil, get_v, cont_lst, walk]) rfl (by simp [stillIs]) (by simp) (by have := line_ge; omega) ?_
  intro x hx
  have hi := index_ok E g xs x hx
  exact ⟨⟨[j0, j1, .val (.lst (xs.map enc)), .val (enc x), j4, j5, j6, j7], m⟩, by simp, by simp [kindN, hld, hi], by simp [stillIs], by simp⟩
theorem marks_ok (n : Nat) (m : List U) {k : Nat} {M : Mach} (g : Good k M) (hk : k ≤ 4) (h1 : M ≠ []) (h2 : M.length ≤ 1000) : (S (n + 1)).call F.law__law_marks [machU M] m = .ok (nls (marksF M)) m := by
  rw [h_marks.call]
  have c1 : evalE (S n) (.comp (.op .ix [(.var 1), (.lit (.int 0))]) (.one 1) 0 [(.var 0)] [1] none) ⟨[.val (machU M), .no, .no, .no, .no, .no, .no, .no], m⟩ = .ok (.lst ((M.map (·.1)).map fun t => nts t)) ⟨[.val (machU M), .no, .no, .no, .no, .no, .no, .no], m⟩ := by
    rw [List.map_map]
    refine ev_compM (avs := [.v (machU M)]) (xs := M.map roomU) M roomU _ (by simp) (by simp [walkA, walk]) rfl (by simp [stillIs]) (by simp) (by have := line_ge; omega) ?_
    intro r hr
    exact ⟨⟨[.val (machU M), .val (roomU r), .no, .no, .no, .no, .no, .no], m⟩, by simp, by simp, by simp [stillIs], by simp⟩
  have s1 : execS (S n) (.set (.one 2) (.comp (.op .ix [(.var 1), (.lit (.int 0))]) (.one 1) 0 [(.var 0)] [1] none)) ⟨[.val (machU M), .no, .no, .no, .no, .no, .no, .no], m⟩ = .ok .next ⟨[.val (machU M), .no, .val (.lst ((M.map (·.1)).map fun t => nts t)), .no, .no, .no, .no, .no], m⟩ := by
    rw [x_set, c1]; simp
  have s2 : execS (S n) (.set (.one 4) ixE) ⟨[.val (machU M), .no, .val (.lst ((M.map (·.1)).map fun t => nts t)), .no, .no, .no, .no, .no], m⟩ = .ok .next ⟨[.val (machU M), .no, .val (.lst ((M.map (·.1)).map fun t => nts t)), .no, .val (nls (firsts (M.map (·.1)))), .no, .no, .no], m⟩ := by
    rw [x_set, ixE_ok encTX (fun _ _ => rfl) (S n) m (M.map (·.1)) (by simpa using h2)]; simp
  have s3 : execS (S n) (.set (.one 5) (.lit (.int 0))) ⟨[.val (machU M), .no, .val (.lst ((M.map (·.1)).map fun t => nts t)), .no, .val (nls (firsts (M.map (·.1)))), .no, .no, .no], m⟩ = .ok .next ⟨[.val (machU M), .no, .val (.lst ((M.map (·.1)).map fun t => nts t)), .no, .val (nls (firsts (M.map (·.1)))), .val (iu 0), .no, .no], m⟩ := by
    simp
  obtain ⟨s', q1, ⟨q2, q3⟩, _⟩ := turnsW_rel (R := fun (b : Nat × List Nat) s => b.2.length = M.length ∧ ∃ j2, s = ⟨[.val (machU M), .no, j2, .no, .val (nls b.2), .val (iu b.1), .no, .no], m⟩) (c := fun s => condOf (fun s => evalE (S n) (.op .lt [(.var 5), (.op .lenSet [(.var 4)])]) s) (.op .lt [(.var 5), (.op .lenSet [(.var 4)])]) s)
    (f := fun s => execs (S n) [.set (.one 5) (.op .lenSet [(.var 4)]), .set (.one 2) sgE, .set (.one 4) ixE] s) (cond := mcond) (step := mstep M) (μ := fun b => M.length + 1 - b.1)
    (by
      rintro ⟨many, mk⟩ s ⟨hl, j2, rfl⟩
      simp only at hl
      have := lenSet_ok (S n) mk (by omega)
      simp [this, mcond])
    (by
      rintro ⟨many, mk⟩ s ⟨hl, j2, rfl⟩ hc
      simp only at hl
      have hls := lenSet_ok (S n) mk (by omega)
      have hlt : many < cnt mk := of_decide_eq_true hc
      have hle := cnt_le mk
      have t1 : execS (S n) (.set (.one 5) (.op .lenSet [(.var 4)])) ⟨[.val (machU M), .no, j2, .no, .val (nls mk), .val (iu many), .no, .no], m⟩ = .ok .next ⟨[.val (machU M), .no, j2, .no, .val (nls mk), .val (iu (cnt mk)), .no, .no], m⟩ := by
        simp [hls]
      have c2 : evalE (S n) sgE ⟨[.val (machU M), .no, j2, .no, .val (nls mk), .val (iu (cnt mk)), .no, .no], m⟩ = .ok (.lst ((sig M mk).map pairU)) ⟨[.val (machU M), .no, j2, .no, .val (nls mk), .val (iu (cnt mk)), .no, .no], m⟩ := by
        have e3 : (sig M mk).map pairU = (M.mapIdx fun i r => (i, r)).map fun (q : Nat × Room) => pairU (mk.getD q.1 0, q.2.2.map fun j => mk.getD j 0) := by
          unfold sig
          rw [map_mapIdx', map_mapIdx']
        rw [e3]
        refine ev_compM (avs := [.v (machU M)]) (xs := (M.map roomU).mapIdx fun i x => .prs [.int i, x]) (M.mapIdx fun i r => (i, r)) (fun q => .prs [iu q.1, roomU q.2]) _ (by simp) (by simp [walkA, walk]) (by rw [map_mapIdx', mapIdx_map']; rfl) (by simp [stillIs]) (by simp) (by simp; have := line_ge; omega) ?_
        rintro ⟨i, r⟩ hq
        obtain ⟨i', hi', e⟩ := List.mem_mapIdx.1 hq
        simp only [Prod.mk.injEq] at e
        obtain ⟨rfl, rfl⟩ := e
        have hr : M[i'] ∈ M := List.getElem_mem hi'
        have c3 : evalE (S n) (.comp (.op .ix [(.var 4), (.var 6)]) (.one 6) 0 [(.op .ix [(.var 1), (.lit (.int 1))])] [6] none) ⟨[.val (machU M), .val (roomU M[i']), j2, .no, .val (nls mk), .val (iu (cnt mk)), .no, .val (iu i')], m⟩ = .ok (.lst (M[i'].2.map fun j => iu (mk.getD j 0))) ⟨[.val (machU M), .val (roomU M[i']), j2, .no, .val (nls mk), .val (iu (cnt mk)), .no, .val (iu i')], m⟩ := by
          refine ev_compM (avs := [.v (nts M[i'].2)]) (xs := M[i'].2.map iu) M[i'].2 iu (fun j => iu (mk.getD j 0)) (by simp) (by simp [walkA, walk]) rfl (by simp [stillIs]) (by simp) (by rw [g.many _ hr]; have := line_ge; omega) ?_
          intro j hj
          have hjl : j < mk.length := by rw [hl]; exact g.rest _ hr j hj
          exact ⟨⟨[.val (machU M), .val (roomU M[i']), j2, .no, .val (nls mk), .val (iu (cnt mk)), .val (iu j), .val (iu i')], m⟩, by simp, by simp [hjl], by simp [stillIs], by simp⟩
        refine ⟨⟨[.val (machU M), .val (roomU M[i']), j2, .no, .val (nls mk), .val (iu (cnt mk)), .no, .val (iu i')], m⟩, by simp, ?_, by simp [stillIs], by simp⟩
        have hil : i' < mk.length := by rw [hl]; exact hi'
        have h2 : 2 ≤ line := by have := line_ge; omega
        simp only [iu_eq, roomU_eq] at c3
        simp [c3, hil, okT, h2, pairU]
      have t2 : execS (S n) (.set (.one 2) sgE) ⟨[.val (machU M), .no, j2, .no, .val (nls mk), .val (iu (cnt mk)), .no, .no], m⟩ = .ok .next ⟨[.val (machU M), .no, .val (.lst ((sig M mk).map pairU)), .no, .val (nls mk), .val (iu (cnt mk)), .no, .no], m⟩ := by
        rw [x_set, c2]; simp
      have t3 : execS (S n) (.set (.one 4) ixE) ⟨[.val (machU M), .no, .val (.lst ((sig M mk).map pairU)), .no, .val (nls mk), .val (iu (cnt mk)), .no, .no], m⟩ = .ok .next ⟨[.val (machU M), .no, .val (.lst ((sig M mk).map pairU)), .no, .val (nls (firsts (sig M mk))), .val (iu (cnt mk)), .no, .no], m⟩ := by
        rw [x_set, ixE_ok encPX (fun _ _ => rfl) (S n) m (sig M mk) (by rw [sig_len]; exact h2)]; simp
      refine ⟨_, .inl ((x_seq t1).trans ((x_seq t2).trans ((x_seq t3).trans x_nil))), ⟨by simp only [mstep]; rw [firsts_len, sig_len], _, rfl⟩, ?_⟩
      simp only [mstep]
      omega) (M.length + 2) (S n).turns (0, firsts (M.map (·.1))) ⟨[.val (machU M), .no, .val (.lst ((M.map (·.1)).map fun t => nts t)), .no, .val (nls (firsts (M.map (·.1)))), .val (iu 0), .no, .no], m⟩ (by simp) (by rw [st_turns]; show M.length + 2 < 1000000000000; omega) ⟨by rw [firsts_len]; simp, _, rfl⟩
  obtain ⟨j2, rfl⟩ := q3
  have hw := (x_whil (g := S n) (.op .lt [(.var 5), (.op .lenSet [(.var 4)])]) [.set (.one 5) (.op .lenSet [(.var 4)]), .set (.one 2) sgE, .set (.one 4) ixE]).trans q1
  exact run_ret d_law__law_marks [machU M] m rfl ((x_seq s1).trans ((x_seq s2).trans ((x_seq s3).trans ((x_seq hw).trans (x_last (xs := []) (u := nls (marksF M)) (x := .ret (.var 4)) (s' := _) (by simp [marksF]; rfl))))))
def lIn : List MS := [.ife (.op .gt [(.var 4), (.var 1)]) [.ret (.lit (.bl false))] [], .set (.one 1) (.op .max2 [(.var 1), (.op .add [(.var 4), (.lit (.int 1))])])]
def lBody : List MS := [.ife (.op .ge [(.var 2), (.var 1)]) [.ret (.lit (.bl false))] [], .forr (.one 4) 0 [(.op .ix [(.var 3), (.lit (.int 1))])] lIn]
theorem scan_row (g : Gst) (m : List U) (M : U) (r : Room) (i : Nat) : ∀ (ts : List Nat) (come c : Nat) (j4 : Slt) (s0 : Sta), scanR come ts = some c → ∃ k4, turnsF (fun x s1 => match bindT (.one 4) x s1 with
      | some s2 => (execs g lIn s2).bind fun fl s3 => if stillIs s0 s3 [.v (nts r.2)] then .ok fl s3 else .stuck
      | none => .stuck) (ts.map iu) ⟨[.val M, .val (iu come), .val (iu i), .val (roomU r), j4], m⟩ = .ok .next ⟨[.val M, .val (iu c), .val (iu i), .val (roomU r), k4], m⟩
  | [], come, c, j4, s0, h => by
    simp only [scanR, Option.some.injEq] at h
    subst h
    exact ⟨j4, rfl⟩
  | t :: ts, come, c, j4, s0, h => by
    unfold scanR at h
    split at h
    · rename_i htc
      obtain ⟨k4, hk⟩ := scan_row g m M r i ts (max come (t + 1)) c (.val (iu t)) s0 h
      refine ⟨k4, ?_⟩
      have e1 : execS g (.ife (.op .gt [(.var 4), (.var 1)]) [.ret (.lit (.bl false))] []) ⟨[.val M, .val (iu come), .val (iu i), .val (roomU r), .val (iu t)], m⟩ = .ok .next ⟨[.val M, .val (iu come), .val (iu i), .val (roomU r), .val (iu t)], m⟩ := by
        refine (x_ifF ?_).trans x_nil
        have h' : ¬ ((come : Int) < (t : Int)) := by omega
        simp [h']
      have hmax : ∀ a b : Int, opSem g .max2 [.int a, .int b] = some (.int (max a b)) := fun _ _ => rfl
      have e2 : execS g (.set (.one 1) (.op .max2 [(.var 1), (.op .add [(.var 4), (.lit (.int 1))])])) ⟨[.val M, .val (iu come), .val (iu i), .val (roomU r), .val (iu t)], m⟩ = .ok .next ⟨[.val M, .val (iu (max come (t + 1))), .val (iu i), .val (roomU r), .val (iu t)], m⟩ := by
        have h' : max (come : Int) ((t : Int) + 1) = ((max come (t + 1) : Nat) : Int) := by omega
        simp [hmax]
        exact h'.symm ▸ (by omega)
      have ex : execs g lIn ⟨[.val M, .val (iu come), .val (iu i), .val (roomU r), .val (iu t)], m⟩ = _ := (x_seq e1).trans ((x_seq e2).trans x_nil)
      simp only [List.map_cons, turnsF, b_one, put_mk, List.set_cons_succ, List.set_cons_zero, ex, bind_ok]
      rw [if_pos (by simp [stillIs])]
      exact hk
    · cases h
end K83
end MPE
set_option maxRecDepth 100000
set_option maxHeartbeats 4000000
/-! E83g: a least machine passes; what does the one and then the other passes. -/
namespace MPE
open MP
namespace K83
open MM
theorem least_okL (n : Nat) (m : List U) {k : Nat} (hk : K24 k) {L : Mach} (hL : Least k L) (h2 : L.length ≤ 60) : (S (n + 2)).call F.law__law_least [machU L] m = .ok (.bl true) m := by
  rw [h_least.call]
  have s1 : execS (S (n + 1)) (.set (.one 1) (.lit (.int 1))) ⟨[.val (machU L), .no, .no, .no, .no], m⟩ = .ok .next ⟨[.val (machU L), .val (iu 1), .no, .no, .no], m⟩ := by simp
  have hne : L ≠ [] := by intro e; have := hL.pos; rw [e] at this; simp at this
  obtain ⟨s', q1, c, j2, j3, j4, q2, q3⟩ := turnsF_relI (R := fun i s => ∃ c j2 j3 j4, scanA 0 1 ((L.map (·.2)).take i) = some c ∧ s = ⟨[.val (machU L), .val (iu c), j2, j3, j4], m⟩) (enc := fun (q : Nat × Room) => U.prs [iu q.1, roomU q.2]) (f := fun x s1 => match bindT (.tup [(.one 2), (.one 3)]) x s1 with
      | some s2 => (execs (S (n + 1)) lBody s2).bind fun fl s3 => if stillIs ⟨[.val (machU L), .val (iu 1), .no, .no, .no], m⟩ s3 [.v (machU L)] then .ok fl s3 else .stuck
      | none => .stuck) (L.mapIdx fun i r => (i, r)) ⟨[.val (machU L), .val (iu 1), .no, .no, .no], m⟩ ⟨1, .no, .no, .no, rfl, rfl⟩ (by
    rintro i s ⟨a, r⟩ hx ⟨come, j2, j3, j4, hc, rfl⟩
    rw [List.getElem?_mapIdx] at hx
    cases hti : L[i]? with
    | none => rw [hti] at hx; cases hx
    | some y =>
      rw [hti] at hx
      simp only [Option.map_some, Option.some.injEq, Prod.mk.injEq] at hx
      obtain ⟨rfl, rfl⟩ := hx
      obtain ⟨hil, hy⟩ := List.getElem?_eq_some_iff.1 hti
      have ho := hL.ord
      have hsplit : L.map (·.2) = (L.map (·.2)).take i ++ (y.2 :: (L.map (·.2)).drop (i + 1)) := by
        conv => lhs; rw [← List.take_append_drop i (L.map (·.2))]
        congr 1
        rw [List.drop_eq_getElem_cons (by simpa using hil)]
        congr 1
        rw [List.getElem_map, hy]
      rw [hsplit, scanA_app, hc] at ho
      simp only [Option.bind_some, List.length_take, List.length_map, Nat.zero_add] at ho
      rw [Nat.min_eq_left (by omega)] at ho
      unfold scanA at ho
      split at ho
      · rename_i hic
        cases hs : scanR come y.2 with
        | none => rw [hs] at ho; cases ho
        | some c' =>
          have e1 : execS (S (n + 1)) (.ife (.op .ge [(.var 2), (.var 1)]) [.ret (.lit (.bl false))] []) ⟨[.val (machU L), .val (iu come), .val (iu i), .val (roomU y), j4], m⟩ = .ok .next ⟨[.val (machU L), .val (iu come), .val (iu i), .val (roomU y), j4], m⟩ := by
            refine (x_ifF ?_).trans x_nil
            have h' : ¬ ((come : Int) ≤ (i : Int)) := by omega
            simp [h']
          obtain ⟨k4, e2⟩ := scan_row (S (n + 1)) m (machU L) y i y.2 come c' j4 ⟨[.val (machU L), .val (iu come), .val (iu i), .val (roomU y), j4], m⟩ hs
          have e3 : execS (S (n + 1)) (.forr (.one 4) 0 [(.op .ix [(.var 3), (.lit (.int 1))])] lIn) ⟨[.val (machU L), .val (iu come), .val (iu i), .val (roomU y), j4], m⟩ = .ok .next ⟨[.val (machU L), .val (iu c'), .val (iu i), .val (roomU y), k4], m⟩ := by
            have ev : evalAs (S (n + 1)) [(.op .ix [(.var 3), (.lit (.int 1))])] ⟨[.val (machU L), .val (iu come), .val (iu i), .val (roomU y), j4], m⟩ = .ok [.v (nts y.2)] ⟨[.val (machU L), .val (iu come), .val (iu i), .val (roomU y), j4], m⟩ := by simp
            have hw : walkA 0 [.v (nts y.2)] ⟨[.val (machU L), .val (iu come), .val (iu i), .val (roomU y), j4], m⟩ = some (y.2.map iu) := by
              simp only [walkA, List.all_cons, ok_v, List.all_nil, Bool.and_self, if_true, List.map_cons, List.map_nil, get_v, cont_tup, walk]
            rw [x_forr, ev, bind_ok]
            simp only [hw]
            exact e2
          have ex : execs (S (n + 1)) lBody ⟨[.val (machU L), .val (iu come), .val (iu i), .val (roomU y), j4], m⟩ = _ := (x_seq e1).trans ((x_seq e3).trans x_nil)
          refine ⟨_, .inl ?_, c', .val (iu i), .val (roomU y), k4, ?_, rfl⟩
          · simp only [b_prs, b_tup, bs_cons, bs_nil, b_one, put_mk, List.set_cons_succ, List.set_cons_zero, ex, bind_ok]
            rw [if_pos (by simp [stillIs])]
          · have ht : (L.map (·.2)).take (i + 1) = (L.map (·.2)).take i ++ [y.2] := by
              rw [List.take_succ, List.getElem?_map, hti]; rfl
            rw [ht, scanA_snoc, hc]
            simp only [Option.bind_some, List.length_take, List.length_map, Nat.zero_add]
            rw [Nat.min_eq_left (by omega), if_pos hic, hs]
      · cases ho)
  have s2 : execS (S (n + 1)) (.forr (.tup [(.one 2), (.one 3)]) 3 [(.var 0)] lBody) ⟨[.val (machU L), .val (iu 1), .no, .no, .no], m⟩ = .ok .next s' := by
    have ev : evalAs (S (n + 1)) [(.var 0)] ⟨[.val (machU L), .val (iu 1), .no, .no, .no], m⟩ = .ok [.v (machU L)] ⟨[.val (machU L), .val (iu 1), .no, .no, .no], m⟩ := by simp
    have hw : walkA 3 [.v (machU L)] ⟨[.val (machU L), .val (iu 1), .no, .no, .no], m⟩ = some ((L.mapIdx fun i r => (i, r)).map fun q => .prs [iu q.1, roomU q.2]) := by
      simp only [walkA, List.all_cons, ok_v, List.all_nil, Bool.and_self, if_true, List.map_cons, List.map_nil, get_v, cont_tup, walk, map_mapIdx', mapIdx_map', iu_eq]
    rw [x_forr, ev, bind_ok]
    simp only [hw]
    exact q1
  subst q3
  have mo := marks_ok n m hL.good hk.hi hne (by omega)
  have hcnt := marksF_ok hL.good hL.uniq hne
  have hml : (marksF L).length ≤ 4000 := by
    have key : ∀ (f : Nat) (b : Nat × List Nat), b.2.length = L.length → (wh mcond (mstep L) f b).2.length = L.length := by
      intro f
      induction f with
      | zero => intro b h; exact h
      | succ f ih =>
        intro b h
        simp only [wh]
        split
        · exact ih _ (by simp only [mstep]; rw [firsts_len, sig_len])
        · exact h
    have := key (L.length + 2) (0, firsts (L.map (·.1))) (by rw [firsts_len]; simp)
    unfold marksF
    omega
  have hls := lenSet_ok (S (n + 1)) (marksF L) hml
  rw [hcnt] at hls
  exact run_ret d_law__law_least [machU L] m rfl ((x_seq s1).trans ((x_seq s2).trans (x_last (xs := []) (u := .bl true) (x := .ret (.op .eq [(.op .lenSet [(.call F.law__law_marks [(.var 0)])]), (.op .len [(.var 0)])])) (s' := ⟨[.val (machU L), .val (iu c), j2, j3, j4], m⟩) (by simp [mo, hls]))))
end K83
end MPE
set_option maxRecDepth 100000
set_option maxHeartbeats 4000000
/-! E83i: whether two rooms do the same, walked. -/
namespace MPE
open MP
namespace K83
open MM
abbrev Q2 := Nat × Nat
def pushQ (b : List Q2 × List Q2) (x : Q2) : List Q2 × List Q2 := if x ∈ b.2 then b else (b.1 ++ [x], b.2 ++ [x])
structure QInv (P : Q2 → Prop) (b : List Q2 × List Q2) : Prop where
  nd : b.2.Nodup
  sub : ∀ x ∈ b.1, x ∈ b.2
  all : ∀ x ∈ b.2, P x
theorem pushQ_inv {P : Q2 → Prop} {b : List Q2 × List Q2} (h : QInv P b) {x : Q2} (hx : P x) : QInv P (pushQ b x) ∧ (pushQ b x).1.length + b.2.length = b.1.length + (pushQ b x).2.length ∧ b.2.length ≤ (pushQ b x).2.length := by
  unfold pushQ
  split
  · exact ⟨h, rfl, Nat.le_refl _⟩
  · rename_i hn
    refine ⟨⟨?_, ?_, ?_⟩, by simp; omega, by simp⟩
    · rw [List.nodup_append]
      exact ⟨h.nd, by simp, fun a ha c hc => by simp only [List.mem_singleton] at hc; subst hc; rintro rfl; exact hn ha⟩
    · intro y hy
      rcases List.mem_append.1 hy with q | q
      · exact List.mem_append_left _ (h.sub y q)
      · exact List.mem_append_right _ q
    · intro y hy
      rcases List.mem_append.1 hy with q | q
      · exact h.all y q
      · simp only [List.mem_singleton] at q; subst q; exact hx
def FitQ (k : Nat) (A B : Mach) (q : Q2) : Prop := q.1 < A.length ∧ q.2 < B.length ∧ Eqv k A B q.1 q.2
def twoQ (A B : Mach) (q : Q2) (l : Nat) : Q2 := (to A q.1 l, to B q.2 l)
def knQ (ks : List Q2) : U := .dic (ks.map prU) (ks.map fun _ => .bl true)
def qIn : List MS := [.ife (.op .notin [(.op .tup [(.var 8), (.var 9)]), (.var 5)]) [.setIx (.var 5) (.op .tup [(.var 8), (.var 9)]) (.lit (.bl true)),
  .expr (.mut .append (.var 4) [(.op .tup [(.var 8), (.var 9)])])] []]
def qBody : List MS := [.set (.tup [(.one 6), (.one 7)]) (.mut .pop (.var 4) []),
  .ife (.op .ne [(.op .ix [(.op .ix [(.var 0), (.var 6)]), (.lit (.int 0))]), (.op .ix [(.op .ix [(.var 2), (.var 7)]), (.lit (.int 0))])]) [.ret (.lit (.bl false))] [],
  .forr (.tup [(.one 8), (.one 9)]) 4 [(.op .ix [(.op .ix [(.var 0), (.var 6)]), (.lit (.int 1))]), (.op .ix [(.op .ix [(.var 2), (.var 7)]), (.lit (.int 1))])] qIn]
theorem deeps_pr : ∀ l : List Q2, deepUs 6 (l.map prU) = true
  | [] => by simp
  | a :: l => by rw [List.map_cons, deeps_cons, deeps_pr l]; simp [prU_eq]
theorem line_ge2 : 1000000 ≤ line := by unfold line; decide
section
variable {k : Nat} (hk : K24 k) {A B : Mach} (gA : Good k A) (gB : Good k B) (hN : A.length * B.length ≤ 100000) (m : List U) (g : Gst) (a0 b0 : Nat)
theorem fitq_turn (gA : Good k A) (gB : Good k B) {q : Q2} (h : FitQ k A B q) {l : Nat} (hl : l < k) : FitQ k A B (twoQ A B q l) := ⟨gA.to h.1 hl, gB.to h.2.1 hl, h.2.2.to hl⟩
theorem knownQ_le {b : List Q2 × List Q2} (h : QInv (FitQ k A B) b) : b.2.length ≤ A.length * B.length := by
  have := sub_len b.2 (allP A B) h.nd fun x hx => by
    obtain ⟨h1, h2, _⟩ := h.all x hx
    exact mem_allP.2 ⟨h1, h2⟩
  rw [allP_len] at this
  exact this
def RQ (k : Nat) (A B : Mach) (m : List U) (a0 b0 : Nat) (q : Q2) (n0 : Nat) (b : List Q2 × List Q2) (s : Sta) : Prop := QInv (FitQ k A B) b ∧ b.1.length ≤ n0 + b.2.length ∧ ∃ j8 j9, s = ⟨[.val (machU A), .val (iu a0), .val (machU B), .val (iu b0), .own (.lst (b.1.map prU)), .own (knQ b.2), .val (iu q.1), .val (iu q.2), j8, j9], m⟩
include hk gA gB hN in
theorem q_inner {q : Q2} (hq : FitQ k A B q) {n0 : Nat} (hn : n0 ≤ 200000) (b : List Q2 × List Q2) (s : Sta) (l : Nat) (hl : l < k) (r : RQ k A B m a0 b0 q n0 b s) : ∃ s2 s', bindT (.tup [(.one 8), (.one 9)]) (.prs [iu (to A q.1 l), iu (to B q.2 l)]) s = some s2 ∧ execs g qIn s2 = .ok .next s' ∧ RQ k A B m a0 b0 q n0 (pushQ b (twoQ A B q l)) s' := by
  obtain ⟨inv, hml, j8, j9, rfl⟩ := r
  obtain ⟨met, known⟩ := b
  simp only at hml
  have f2 := fitq_turn gA gB hq hl
  have kl := knownQ_le inv
  simp only at kl
  have ⟨p1, p2, p3⟩ := pushQ_inv inv f2
  have eth : twoQ A B q l = (to A q.1 l, to B q.2 l) := rfl
  refine ⟨⟨[.val (machU A), .val (iu a0), .val (machU B), .val (iu b0), .own (.lst (met.map prU)), .own (knQ known), .val (iu q.1), .val (iu q.2), .val (iu (to A q.1 l)), .val (iu (to B q.2 l))], m⟩,
    ⟨[.val (machU A), .val (iu a0), .val (machU B), .val (iu b0), .own (.lst ((pushQ (met, known) (twoQ A B q l)).1.map prU)), .own (knQ (pushQ (met, known) (twoQ A B q l)).2), .val (iu q.1), .val (iu q.2), .val (iu (to A q.1 l)), .val (iu (to B q.2 l))], m⟩, by simp, ?_, p1, by simp only at p2; omega, _, _, rfl⟩
  refine (x_seq ?_).trans x_nil
  have hkey := encQ.key known (twoQ A B q l)
  have hmem := encQ.mem (twoQ A B q l) known
  have h2l : 2 ≤ line := by have := line_ge; omega
  have l2 := line_ge2
  have hkl : known.length < line := by omega
  have hmetl : met.length < line := by omega
  have hz : prU (twoQ A B q l) = .tup [.int (to A q.1 l : Nat), .int (to B q.2 l : Nat)] := by rw [prU_eq, eth]
  generalize hx : to A q.1 l = x at *
  generalize hy : to B q.2 l = y at *
  generalize twoQ A B q l = z at *
  rw [hz] at hkey hmem
  by_cases h : z ∈ known
  · have e : pushQ (met, known) z = (met, known) := by unfold pushQ; rw [if_pos h]
    simp only [h, decide_true] at hmem
    rw [e]
    refine (x_ifF (s' := ⟨[.val (machU A), .val (iu a0), .val (machU B), .val (iu b0), .own (.lst (met.map prU)), .own (knQ known), .val (iu q.1), .val (iu q.2), .val (iu x), .val (iu y)], m⟩) ?_).trans x_nil
    simp [knQ, hkey, hmem, okT, h2l]
  · have e : pushQ (met, known) z = (met ++ [z], known ++ [z]) := by unfold pushQ; rw [if_neg h]
    simp only [h, decide_false] at hmem
    rw [e]
    have hd := dput_app (vs := known.map fun _ => U.bl true) (v := .bl true) hmem
    refine (x_ifT (s' := ⟨[.val (machU A), .val (iu a0), .val (machU B), .val (iu b0), .own (.lst (met.map prU)), .own (knQ known), .val (iu q.1), .val (iu q.2), .val (iu x), .val (iu y)], m⟩) ?_).trans ?_
    · simp [knQ, hkey, hmem, okT, h2l]
    · simp [knQ, hkey, okT, h2l, mutSem, muSetIx, hkl, hd, setC, kindN, Mop.kind, mutF, muAppend, hmetl, hz]
include hk gA gB hN in
theorem q_turn (met known : List Q2) (q : Q2) (inv : QInv (FitQ k A B) (met ++ [q], known)) (hml : met.length ≤ 200000) (j6 j7 j8 j9 : Slt) :
    ∃ s', execs g qBody ⟨[.val (machU A), .val (iu a0), .val (machU B), .val (iu b0), .own (.lst ((met ++ [q]).map prU)), .own (knQ known), j6, j7, j8, j9], m⟩ = .ok .next s' ∧ RQ k A B m a0 b0 q met.length ((List.range k).foldl (fun c l => pushQ c (twoQ A B q l)) (met, known)) s' := by
  have hq := inv.all q (inv.sub q (by simp))
  obtain ⟨q1, q2, q3⟩ := hq
  have lA : (rs A q.1).length = k := gA.rsl q1
  have lB : (rs B q.2).length = k := gB.rsl q2
  have s1 : execS g (.set (.tup [(.one 6), (.one 7)]) (.mut .pop (.var 4) [])) ⟨[.val (machU A), .val (iu a0), .val (machU B), .val (iu b0), .own (.lst ((met ++ [q]).map prU)), .own (knQ known), j6, j7, j8, j9], m⟩ = .ok .next ⟨[.val (machU A), .val (iu a0), .val (machU B), .val (iu b0), .own (.lst (met.map prU)), .own (knQ known), .val (iu q.1), .val (iu q.2), j8, j9], m⟩ := by
    simp [kindN, Mop.kind, mutF, mutSem, muPop, setC, prU_eq]
  have eA : A[q.1]? = some (tn A q.1, rs A q.1) := by unfold tn rs; rw [getD_eq q1, List.getElem?_eq_getElem q1]
  have eB : B[q.2]? = some (tn B q.2, rs B q.2) := by unfold tn rs; rw [getD_eq q2, List.getElem?_eq_getElem q2]
  have hpl : deepUs 6 ((tn B q.2).map iu) = true := deeps_iu 6 _
  have s2 : execS g (.ife (.op .ne [(.op .ix [(.op .ix [(.var 0), (.var 6)]), (.lit (.int 0))]), (.op .ix [(.op .ix [(.var 2), (.var 7)]), (.lit (.int 0))])]) [.ret (.lit (.bl false))] []) ⟨[.val (machU A), .val (iu a0), .val (machU B), .val (iu b0), .own (.lst (met.map prU)), .own (knQ known), .val (iu q.1), .val (iu q.2), j8, j9], m⟩ = .ok .next ⟨[.val (machU A), .val (iu a0), .val (machU B), .val (iu b0), .own (.lst (met.map prU)), .own (knQ known), .val (iu q.1), .val (iu q.2), j8, j9], m⟩ := by
    refine (x_ifF ?_).trans x_nil
    have ht := q3.tn
    rw [ht] at eA
    simp [eA, eB, hpl]
  have ev : evalAs g [(.op .ix [(.op .ix [(.var 0), (.var 6)]), (.lit (.int 1))]), (.op .ix [(.op .ix [(.var 2), (.var 7)]), (.lit (.int 1))])] ⟨[.val (machU A), .val (iu a0), .val (machU B), .val (iu b0), .own (.lst (met.map prU)), .own (knQ known), .val (iu q.1), .val (iu q.2), j8, j9], m⟩ = .ok [.v (nts (rs A q.1)), .v (nts (rs B q.2))] ⟨[.val (machU A), .val (iu a0), .val (machU B), .val (iu b0), .own (.lst (met.map prU)), .own (knQ known), .val (iu q.1), .val (iu q.2), j8, j9], m⟩ := by
    simp [eA, eB]
  have hwalk : ∀ s : Sta, walkA 4 [.v (nts (rs A q.1)), .v (nts (rs B q.2))] s = some ((List.range k).map fun l => .prs [iu (to A q.1 l), iu (to B q.2 l)]) := fun s => by
    have : List.zipWith (fun a b => U.prs [a, b]) ((rs A q.1).map iu) ((rs B q.2).map iu) = (List.range k).map fun l => .prs [iu (to A q.1 l), iu (to B q.2 l)] := by
      apply List.ext_getElem
      · simp [lA, lB]
      · intro x h1 h2
        have hx : x < k := by simpa using h2
        have h3 : x < (rs A q.1).length := by omega
        have h4 : x < (rs B q.2).length := by omega
        simp [to, getD_eq h3, getD_eq h4, h3, h4]
    simp only [walkA, List.all_cons, ok_v, List.all_nil, Bool.and_self, if_true, List.map_cons, List.map_nil, get_v, cont_tup, walk, this]
  have inv0 : QInv (FitQ k A B) (met, known) := ⟨inv.nd, fun x hx => inv.sub x (by simp [hx]), inv.all⟩
  obtain ⟨s', h1, h2⟩ := turnsF_relM (R := RQ k A B m a0 b0 q met.length) (enc := fun l => U.prs [iu (to A q.1 l), iu (to B q.2 l)]) (step := fun c l => pushQ c (twoQ A B q l)) (f := fun x s1 => match bindT (.tup [(.one 8), (.one 9)]) x s1 with
      | some s2 => (execs g qIn s2).bind fun fl s3 => if stillIs ⟨[.val (machU A), .val (iu a0), .val (machU B), .val (iu b0), .own (.lst (met.map prU)), .own (knQ known), .val (iu q.1), .val (iu q.2), j8, j9], m⟩ s3 [.v (nts (rs A q.1)), .v (nts (rs B q.2))] then .ok fl s3 else .stuck
      | none => .stuck) (List.range k) (met, known) ⟨[.val (machU A), .val (iu a0), .val (machU B), .val (iu b0), .own (.lst (met.map prU)), .own (knQ known), .val (iu q.1), .val (iu q.2), j8, j9], m⟩ ⟨inv0, by simp, j8, j9, rfl⟩ (by
    intro b s l hl r
    obtain ⟨s2, s3, a1, a2, a3⟩ := q_inner hk gA gB hN m g a0 b0 ⟨q1, q2, q3⟩ hml b s l (List.mem_range.1 hl) r
    refine ⟨s3, .inl ?_, a3⟩
    simp only [a1, a2, bind_ok]
    rw [if_pos (by simp [stillIs])])
  refine ⟨s', (x_seq s1).trans ((x_seq s2).trans ((x_seq ?_).trans x_nil)), h2⟩
  rw [x_forr, ev, bind_ok]
  simp only [hwalk]
  exact h1
end
theorem same_ok (n : Nat) (m : List U) {k : Nat} (hk : K24 k) {A B : Mach} (gA : Good k A) (gB : Good k B) (hN : A.length * B.length ≤ 100000) {a0 b0 : Nat} (h0 : FitQ k A B (a0, b0)) : (S (n + 1)).call F.law__law_same [machU A, iu a0, machU B, iu b0] m = .ok (.bl true) m := by
  rw [h_same.call]
  have h2l : 2 ≤ line := by have := line_ge; omega
  have h1l : 1 ≤ line := by have := line_ge; omega
  have hz : prU (a0, b0) = .tup [.int a0, .int b0] := prU_eq _
  have s1 : execS (S n) (.own 4 (.op .lst [(.op .tup [(.var 1), (.var 3)])])) ⟨[.val (machU A), .val (iu a0), .val (machU B), .val (iu b0), .no, .no, .no, .no, .no, .no], m⟩ = .ok .next ⟨[.val (machU A), .val (iu a0), .val (machU B), .val (iu b0), .own (.lst ([((a0, b0) : Q2)].map prU)), .no, .no, .no, .no, .no], m⟩ := by
    simp [okL, okT, h2l, h1l, hz]
  have s2 : execS (S n) (.own 5 (.op (.dict 1) [(.op .tup [(.var 1), (.var 3)]), (.lit (.bl true))])) ⟨[.val (machU A), .val (iu a0), .val (machU B), .val (iu b0), .own (.lst ([((a0, b0) : Q2)].map prU)), .no, .no, .no, .no, .no], m⟩ = .ok .next ⟨[.val (machU A), .val (iu a0), .val (machU B), .val (iu b0), .own (.lst ([((a0, b0) : Q2)].map prU)), .own (knQ [(a0, b0)]), .no, .no, .no, .no], m⟩ := by
    have hk0 := encQ.key [] ((a0, b0) : Q2)
    rw [hz] at hk0
    have hk1 : kOk [] (.tup [.int a0, .int b0]) = true := hk0
    simp [okT, h2l, opDict, mkDic, hk1, dput, memU, knQ, hz]
  obtain ⟨s', q1, ⟨q2, q3, j6, j7, j8, j9, q4⟩, q5⟩ := turnsW_rel (R := fun (b : List Q2 × List Q2) s => QInv (FitQ k A B) b ∧ b.1.length ≤ b.2.length ∧ ∃ j6 j7 j8 j9, s = ⟨[.val (machU A), .val (iu a0), .val (machU B), .val (iu b0), .own (.lst (b.1.map prU)), .own (knQ b.2), j6, j7, j8, j9], m⟩) (c := fun s => condOf (fun s => evalE (S n) (.op .ne [(.var 4), (.op .lst [])]) s) (.op .ne [(.var 4), (.op .lst [])]) s)
    (f := fun s => execs (S n) qBody s) (cond := fun b => !b.1.isEmpty) (step := fun b => (List.range k).foldl (fun c l => pushQ c (twoQ A B (b.1.getLastD (0, 0)) l)) (b.1.dropLast, b.2)) (μ := fun b => 2 * (A.length * B.length - b.2.length) + b.1.length)
    (by
      rintro ⟨met, known⟩ s ⟨inv, _, j6, j7, j8, j9, rfl⟩
      have hp : deepUs 6 (met.map prU) = true := deeps_pr met
      cases met with
      | nil => simp [okL]
      | cons a l =>
        simp only [List.map_cons] at hp
        simp [okL, hp])
    (by
      rintro ⟨met, known⟩ s ⟨inv, hle, j6, j7, j8, j9, rfl⟩ hc
      have hne : met ≠ [] := by
        intro e
        subst e
        simp at hc
      obtain ⟨met', q, rfl⟩ : ∃ met' q, met = met' ++ [q] := ⟨met.dropLast, met.getLast hne, (List.dropLast_concat_getLast hne).symm⟩
      have kl := knownQ_le inv
      simp only [List.length_append, List.length_cons, List.length_nil] at kl hle
      obtain ⟨s', a1, a2, a3, k8, k9, a4⟩ := q_turn hk gA gB hN m (S n) a0 b0 met' known q inv (by omega) j6 j7 j8 j9
      have cnts : ∀ (ls : List Nat) (b : List Q2 × List Q2), (∀ l ∈ ls, l < k) → QInv (FitQ k A B) b → FitQ k A B q → (ls.foldl (fun c l => pushQ c (twoQ A B q l)) b).1.length + b.2.length = b.1.length + (ls.foldl (fun c l => pushQ c (twoQ A B q l)) b).2.length ∧ b.2.length ≤ (ls.foldl (fun c l => pushQ c (twoQ A B q l)) b).2.length := by
        intro ls
        induction ls with
        | nil => intro b _ _ _; exact ⟨rfl, Nat.le_refl _⟩
        | cons l ls ih =>
          intro b hls hb hq
          have f2 := fitq_turn gA gB hq (hls l (by simp))
          obtain ⟨p1, p2, p3⟩ := pushQ_inv hb f2
          obtain ⟨i1, i2⟩ := ih (pushQ b (twoQ A B q l)) (fun x hx => hls x (by simp [hx])) p1 hq
          rw [List.foldl_cons]
          omega
      have hq := inv.all q (inv.sub q (by simp))
      have inv0 : QInv (FitQ k A B) (met', known) := ⟨inv.nd, fun x hx => inv.sub x (by simp [hx]), inv.all⟩
      obtain ⟨c1, c2⟩ := cnts (List.range k) (met', known) (fun l hl => List.mem_range.1 hl) inv0 hq
      have kl2 := knownQ_le a2
      have est : (List.range k).foldl (fun c l => pushQ c (twoQ A B ((met' ++ [q]).getLastD (0, 0)) l)) ((met' ++ [q]).dropLast, known) = (List.range k).foldl (fun c l => pushQ c (twoQ A B q l)) (met', known) := by simp
      simp only [est]
      simp only [List.length_append, List.length_cons, List.length_nil] at c1 c2 ⊢
      refine ⟨s', .inl a1, ⟨a2, by omega, .val (iu q.1), .val (iu q.2), k8, k9, a4⟩, by omega⟩)
    (2 * (A.length * B.length) + 1) (S n).turns ([(a0, b0)], [(a0, b0)]) ⟨[.val (machU A), .val (iu a0), .val (machU B), .val (iu b0), .own (.lst ([((a0, b0) : Q2)].map prU)), .own (knQ [(a0, b0)]), .no, .no, .no, .no], m⟩ (by simp; omega) (by rw [st_turns]; show 2 * (A.length * B.length) + 1 < 1000000000000; omega)
    ⟨⟨by simp, by simp, by simpa using h0⟩, by simp, .no, .no, .no, .no, rfl⟩
  have hw := (x_whil (g := S n) (.op .ne [(.var 4), (.op .lst [])]) qBody).trans q1
  subst q4
  exact run_ret d_law__law_same [machU A, iu a0, machU B, iu b0] m rfl ((x_seq s1).trans ((x_seq s2).trans ((x_seq hw).trans (x_last (xs := []) (u := .bl true) (x := .ret (.lit (.bl true))) (by simp; rfl)))))
end K83
end MPE
set_option maxRecDepth 100000
set_option maxHeartbeats 4000000
/-! E83j: rows led by the law; rows drawn. -/
namespace MPE
open MP
namespace K83
open MM
theorem more : HMore prog where
  toHPair := has
  undone := ⟨rfl, rfl⟩
  turn_back := ⟨rfl, rfl⟩
  sure_row_of := ⟨rfl, rfl⟩
  led := ⟨rfl, rfl⟩
  run := ⟨rfl, rfl⟩
  room_behind := ⟨rfl, rfl⟩
  checked_room := ⟨rfl, rfl⟩
  begun_at := ⟨rfl, rfl⟩
  parting_row := ⟨rfl, rfl⟩
  room_back := ⟨rfl, rfl⟩
  turned_back := ⟨rfl, rfl⟩
def dBody : List MS := [.expr (.mut .append (.var 2) [(.op .ix [(.op .ix [(.op .ix [(.var 0), (.var 3)]), (.lit (.int 0))]), (.var 4)])]),
  .set (.one 3) (.op .ix [(.op .ix [(.op .ix [(.var 0), (.var 3)]), (.lit (.int 1))]), (.var 4)])]
theorem lawled_ok (n : Nat) (m : List U) {k : Nat} (hk : K24 k) {M : Mach} (g : Good k M) (h1 : 1 ≤ M.length) {row : List Nat} (hr : ∀ l ∈ row, l < k) (hl : row.length ≤ 100) : (S (n + 1)).call F.law__law_led [machU M, nts row] m = .ok (ledU M row) m := by
  rw [h_led.call]
  have s2 : execS (S n) (.own 2 (.op .lst [])) ⟨[.val (machU M), .val (nts row), .no, .no, .no], m⟩ = .ok .next ⟨[.val (machU M), .val (nts row), .own (nls (madeL M row 0)), .no, .no], m⟩ := by simp [okL, madeL]
  have s3 : execS (S n) (.set (.one 3) (.lit (.int 0))) ⟨[.val (machU M), .val (nts row), .own (nls (madeL M row 0)), .no, .no], m⟩ = .ok .next ⟨[.val (machU M), .val (nts row), .own (nls (madeL M row 0)), .val (iu (go M 0 (row.take 0))), .no], m⟩ := by simp [go]
  obtain ⟨s', e1, j4, e2⟩ := turnsF_relI (R := fun i s => ∃ j4, s = ⟨[.val (machU M), .val (nts row), .own (nls (madeL M row i)), .val (iu (go M 0 (row.take i))), j4], m⟩) (enc := iu) (f := fun x s1 => match bindT (.one 4) x s1 with
      | some s2 => (execs (S n) dBody s2).bind fun fl s3 => if stillIs ⟨[.val (machU M), .val (nts row), .own (nls (madeL M row 0)), .val (iu (go M 0 (row.take 0))), .no], m⟩ s3 [.v (nts row)] then .ok fl s3 else .stuck
      | none => .stuck) row ⟨[.val (machU M), .val (nts row), .own (nls (madeL M row 0)), .val (iu (go M 0 (row.take 0))), .no], m⟩ ⟨.no, rfl⟩ (by
    rintro i s x hx ⟨j4, rfl⟩
    obtain ⟨hi, hxi⟩ := List.getElem?_eq_some_iff.1 hx
    have hxk : x < k := hr x (List.mem_of_getElem? hx)
    have ha : go M 0 (row.take i) < M.length := g.go (fun l hl => hr l (List.mem_of_mem_take hl)) h1
    rw [go_take M row i x hx, made_succ M row i x hx]
    generalize go M 0 (row.take i) = a at *
    have eM : M[a]? = some (tn M a, rs M a) := by unfold tn rs; rw [getD_eq ha, List.getElem?_eq_getElem ha]
    have lt : (tn M a).length = k := (g.tn ha).len
    have lr : (rs M a).length = k := g.rsl ha
    have e1 : (tn M a)[x]? = some ((tn M a).getD x 0) := by rw [getD_eq (by omega), List.getElem?_eq_getElem (by omega)]
    have e2 : (rs M a)[x]? = some (to M a x) := by unfold to; rw [getD_eq (by omega), List.getElem?_eq_getElem (by omega)]
    have hml : (madeL M row i).length < line := by have := line_ge; simp [madeL]; omega
    refine ⟨⟨[.val (machU M), .val (nts row), .own (nls (madeL M row i ++ [(tn M a).getD x 0])), .val (iu (to M a x)), .val (iu x)], m⟩, .inl ?_, _, rfl⟩
    generalize (tn M a).getD x 0 = y at *
    generalize to M a x = z at *
    have t2 : execS (S n) (.expr (.mut .append (.var 2) [(.op .ix [(.op .ix [(.op .ix [(.var 0), (.var 3)]), (.lit (.int 0))]), (.var 4)])])) ⟨[.val (machU M), .val (nts row), .own (nls (madeL M row i)), .val (iu a), .val (iu x)], m⟩ = .ok .next ⟨[.val (machU M), .val (nts row), .own (nls (madeL M row i ++ [y])), .val (iu a), .val (iu x)], m⟩ := by
      simp [eM, e1, kindN, Mop.kind, mutF, mutSem, muAppend, hml, setC]
    have t3 : execS (S n) (.set (.one 3) (.op .ix [(.op .ix [(.op .ix [(.var 0), (.var 3)]), (.lit (.int 1))]), (.var 4)])) ⟨[.val (machU M), .val (nts row), .own (nls (madeL M row i ++ [y])), .val (iu a), .val (iu x)], m⟩ = .ok .next ⟨[.val (machU M), .val (nts row), .own (nls (madeL M row i ++ [y])), .val (iu z), .val (iu x)], m⟩ := by
      simp [eM, e2]
    have ex : execs (S n) dBody ⟨[.val (machU M), .val (nts row), .own (nls (madeL M row i)), .val (iu a), .val (iu x)], m⟩ = _ := (x_seq t2).trans ((x_seq t3).trans x_nil)
    simp only [b_one, put_mk, List.set_cons_succ, List.set_cons_zero, ex, bind_ok]
    rw [if_pos (by simp [stillIs])])
  have s4 : execS (S n) (.forr (.one 4) 0 [(.var 1)] dBody) ⟨[.val (machU M), .val (nts row), .own (nls (madeL M row 0)), .val (iu (go M 0 (row.take 0))), .no], m⟩ = .ok .next s' := by
    have ev : evalAs (S n) [(.var 1)] ⟨[.val (machU M), .val (nts row), .own (nls (madeL M row 0)), .val (iu (go M 0 (row.take 0))), .no], m⟩ = .ok [.v (nts row)] ⟨[.val (machU M), .val (nts row), .own (nls (madeL M row 0)), .val (iu (go M 0 (row.take 0))), .no], m⟩ := by simp
    have hw : ∀ s : Sta, walkA 0 [.v (nts row)] s = some (row.map iu) := fun s => by
      simp only [walkA, List.all_cons, ok_v, List.all_nil, Bool.and_self, if_true, List.map_cons, List.map_nil, get_v, cont_tup, walk]
    rw [x_forr, ev, bind_ok, hw]
    exact e1
  subst e2
  rw [List.take_length] at s4
  have h2l : 2 ≤ line := by have := line_ge; omega
  refine run_ret (s := ⟨[.val (machU M), .val (nts row), .own (nls (madeL M row row.length)), .val (iu (go M 0 row)), j4], m⟩) d_law__law_led [machU M, nts row] m rfl ((x_seq s2).trans ((x_seq s3).trans ((x_seq s4).trans (x_last (xs := []) (x := .ret (.op .tup [(.op .tupOf [(.var 2)]), (.var 3)])) (u := ledU M row) ?_))))
  unfold ledU
  generalize madeL M row row.length = z
  generalize go M 0 row = y
  simp [okT, h2l]
/-- a comprehension whose walked thing is told by a def -/
theorem comp_from {g : Gst} {e : ME} {t : Tg} {k : Nat} {its its' : List ME} {own : List Nat} {s s1 : Sta} {avs : List AV} (h1 : evalAs g its s = .ok avs s1) (h2 : evalAs g its' s1 = .ok avs s1) : evalE g (.comp e t k its own none) s = evalE g (.comp e t k its' own none) s1 := by
  conv => lhs; unfold evalE
  conv => rhs; unfold evalE
  simp only [h1, h2, Rs.bind]
def rowE : ME := .op .mul [(.call F.law__law_next [(.var 6), (.var 2)]), (.call F.law__law_next [(.var 6), (.lit (.int 2))])]
theorem outs_row {k : Nat} (hk : 0 < k) (l : List Nat) : ∀ (b : Nat × Slt), ∃ row : List Nat, outs (fun (b : Nat × Slt) (_ : Nat) => iu (b.1 % k * (b.1 / k % 2))) (fun b a => (b.1 / k / 2, .val (iu a))) b l = row.map iu ∧ row.length = l.length ∧ ∀ x ∈ row, x < k := by
  induction l with
  | nil => intro b; exact ⟨[], rfl, rfl, by simp⟩
  | cons a l ih =>
    intro b
    obtain ⟨row, h1, h2, h3⟩ := ih (b.1 / k / 2, .val (iu a))
    refine ⟨(b.1 % k * (b.1 / k % 2)) :: row, by simp only [outs, h1, List.map_cons], by simp [h2], fun x hx => ?_⟩
    rcases List.mem_cons.1 hx with h | h
    · rw [h]
      have h4 : b.1 % k < k := Nat.mod_lt _ hk
      have h5 : b.1 / k % 2 < 2 := Nat.mod_lt _ (by decide)
      have : b.1 / k % 2 = 0 ∨ b.1 / k % 2 = 1 := by omega
      rcases this with e | e
      · rw [e]; simp; omega
      · rw [e, Nat.mul_one]; exact h4
    · exact h3 x h
end K83
end MPE
set_option maxRecDepth 100000
set_option maxHeartbeats 4000000
/-! E83k: the row drawn. -/
namespace MPE
open MP
namespace K83
open MM
abbrev LS (a0 a1 a2 a3 a4 a5 a6 a7 a8 a9 a10 a11 a12 a13 a14 a15 : Slt) (m : List U) : Sta := ⟨[a0, a1, a2, a3, a4, a5, a6, a7, a8, a9, a10, a11, a12, a13, a14, a15], m⟩
theorem row_ok (n r N : Nat) (m0 m1 : List U) (hr : m0.length = r) {k : Nat} (hk : K24 k) (a0 a1 a3 a4 a5 a7 a9 a10 a11 a12 a13 a14 a15 : Slt) :
    ∃ row N', row.length ≤ 100 ∧ (∀ x ∈ row, x < k) ∧ execS (S (n + 1)) (.set (.one 9) (.op .tupOf [(.comp rowE (.one 8) 1 [(.op .add [(.lit (.int 61)), (.call F.law__law_next [(.var 6), (.lit (.int 40))])])] [8] none)])) (LS a0 a1 (.val (iu k)) a3 a4 a5 (.val (.ref r)) a7 .no a9 a10 a11 a12 a13 a14 a15 (m0 ++ dig N :: m1)) =
      .ok .next (LS a0 a1 (.val (iu k)) a3 a4 a5 (.val (.ref r)) a7 .no (.val (nts row)) a10 a11 a12 a13 a14 a15 (m0 ++ dig N' :: m1)) := by
  have hk2 := hk.lo
  have hk4 := hk.hi
  have nx := next_ok n r N m0 m1 hr 40 (by omega) (by omega)
  have nx : (S (n + 1)).call F.law__law_next [.ref r, .int 40] (m0 ++ dig N :: m1) = .ok (iu (N % 40)) (m0 ++ dig (N / 40) :: m1) := nx
  have hc40 : N % 40 < 40 := Nat.mod_lt _ (by decide)
  generalize N % 40 = c at *
  generalize N / 40 = N0 at *
  obtain ⟨v, hv⟩ : ∃ v : Nat, v = 61 + c := ⟨_, rfl⟩
  let s1 : Sta := LS a0 a1 (.val (iu k)) a3 a4 a5 (.val (.ref r)) a7 .no a9 a10 a11 a12 a13 a14 a15 (m0 ++ dig N0 :: m1)
  have e1 : evalAs (S (n + 1)) [(.op .add [(.lit (.int 61)), (.call F.law__law_next [(.var 6), (.lit (.int 40))])])] (LS a0 a1 (.val (iu k)) a3 a4 a5 (.val (.ref r)) a7 .no a9 a10 a11 a12 a13 a14 a15 (m0 ++ dig N :: m1)) = .ok [.v (iu v)] s1 := by
    have : (61 : Int) + (c : Int) = (v : Int) := by omega
    simp [nx, this]
    rfl
  have e2 : evalAs (S (n + 1)) [.lit (iu v)] s1 = .ok [.v (iu v)] s1 := by simp
  have hs : small (v : Int) = true := small_of (by omega) (by omega)
  have hw : ∀ s : Sta, walkA 1 [.v (iu v)] s = some ((List.range v).map iu) := fun s => by
    simp only [walkA, List.all_cons, ok_v, List.all_nil, Bool.and_self, if_true, List.map_cons, List.map_nil, get_v, iu_eq, cont_int, walk, hs, rng_iu]
  obtain ⟨row, h1, h2, h3⟩ := outs_row (k := k) (by omega) (List.range v) (N0, Slt.no)
  let St : Nat × Slt → Sta := fun b => LS a0 a1 (.val (iu k)) a3 a4 a5 (.val (.ref r)) a7 b.2 a9 a10 a11 a12 a13 a14 a15 (m0 ++ dig b.1 :: m1)
  have hcomp := ev_compS (g := S (n + 1)) (e := rowE) (t := .one 8) (k := 1) (its := [.lit (iu v)]) (own := [8]) (s := s1) (avs := [.v (iu v)]) (xs := (List.range v).map iu) (List.range v) iu St (fun (b : Nat × Slt) (_ : Nat) => iu (b.1 % k * (b.1 / k % 2))) (fun b a => (b.1 / k / 2, .val (iu a))) (fun b => notOwn b.2 = true) (N0, .no) rfl rfl e2 (hw s1) rfl (by simp [stillIs]) (by rw [List.all_cons, ok_not (by rfl)]; rfl) (by have := line_ge; simp; omega) (by
    rintro ⟨N, j8⟩ a ha hb
    have n1 := next_ok n r N m0 m1 hr k (by omega) (by omega)
    have n2 := next_ok n r (N / k) m0 m1 hr 2 (by omega) (by omega)
    have n2 : (S (n + 1)).call F.law__law_next [.ref r, .int 2] (m0 ++ dig (N / k) :: m1) = .ok (iu (N / k % 2)) (m0 ++ dig (N / k / 2) :: m1) := n2
    obtain ⟨T, hT, hm⟩ := mul_some
    have hT2 : 2 ^ (64 * 2) ≤ T := Nat.le_trans (Nat.pow_le_pow_right (by decide) (by decide)) hT
    have hT3 : 340282366920938463463374607431768211456 ≤ T := hT2
    have hA : N % k < k := Nat.mod_lt _ (by omega)
    have hB : N / k % 2 < 2 := Nat.mod_lt _ (by decide)
    have hmul := hm (S (n + 1)) ((N % k : Nat) : Int) ((N / k % 2 : Nat) : Int) (by omega) (by omega)
    clear hm hT hT2 hT3
    refine ⟨LS a0 a1 (.val (iu k)) a3 a4 a5 (.val (.ref r)) a7 (.val (iu a)) a9 a10 a11 a12 a13 a14 a15 (m0 ++ dig N :: m1), by simp [St], ?_, by simp [stillIs], rfl⟩
    show evalE (S (n + 1)) rowE _ = .ok (iu (N % k * (N / k % 2))) (LS a0 a1 (.val (iu k)) a3 a4 a5 (.val (.ref r)) a7 (.val (iu a)) a9 a10 a11 a12 a13 a14 a15 (m0 ++ dig (N / k / 2) :: m1))
    have hpr : iu (N % k * (N / k % 2)) = .int (((N % k : Nat) : Int) * ((N / k % 2 : Nat) : Int)) := by rw [iu_eq, Int.natCast_mul]
    rw [hpr]
    unfold rowE
    simp only [iu_eq] at n1 n2
    generalize N / k / 2 = N3 at *
    generalize N / k % 2 = z2 at *
    generalize N / k = N2 at *
    generalize N % k = z1 at *
    simp only [e_mul, as_cons, arg_call, e_call, es_cons, es_nil, e_var, e_lit, slot_mk, List.getD_cons_succ, List.getD_cons_zero, bind_ok, n1, n2, rc_ok, as_nil, opA_2, ok_v, Bool.and_self, if_true, get_v, iu_eq, cont_int, hmul])
  rw [h1] at hcomp
  refine ⟨row, ((List.range v).foldl (fun (b : Nat × Slt) a => (b.1 / k / 2, .val (iu a))) (N0, .no)).1, by rw [h2]; simp; omega, h3, ?_⟩
  generalize (List.range v).foldl (fun (b : Nat × Slt) a => (b.1 / k / 2, .val (iu a))) (N0, .no) = bf at *
  have hback : backS s1 (St bf) [8] = LS a0 a1 (.val (iu k)) a3 a4 a5 (.val (.ref r)) a7 .no a9 a10 a11 a12 a13 a14 a15 (m0 ++ dig bf.1 :: m1) := rfl
  rw [hback] at hcomp
  rw [x_set, e_tupOf, as_cons, arg_comp, comp_from e1 e2, hcomp]
  simp
end K83
end MPE
set_option maxRecDepth 100000
set_option maxHeartbeats 4000000
/-! E83l: the law. -/
namespace MPE
open MP
namespace K83
open MM
theorem inv_all2 : ∀ t ∈ perms (List.range 2), (invT t).Perm (List.range 2) ∧ t.map (fun l => (invT t).getD l 0) = List.range 2 ∧ (invT t).map (fun l => t.getD l 0) = List.range 2 := by decide
theorem inv_all3 : ∀ t ∈ perms (List.range 3), (invT t).Perm (List.range 3) ∧ t.map (fun l => (invT t).getD l 0) = List.range 3 ∧ (invT t).map (fun l => t.getD l 0) = List.range 3 := by decide
theorem inv_all4 : ∀ t ∈ perms (List.range 4), (invT t).Perm (List.range 4) ∧ t.map (fun l => (invT t).getD l 0) = List.range 4 ∧ (invT t).map (fun l => t.getD l 0) = List.range 4 := by decide +kernel
theorem inv_turn {k : Nat} (hk : K24 k) {t : List Nat} (ht : IsTurn k t) : IsTurn k (invT t) ∧ t.map (fun l => (invT t).getD l 0) = List.range k ∧ (invT t).map (fun l => t.getD l 0) = List.range k := by
  have hm := turn_in ht
  rcases hk.cases with rfl | rfl | rfl
  · exact inv_all2 t hm
  · exact inv_all3 t hm
  · exact inv_all4 t hm
theorem inv_ne {k : Nat} (hk : K24 k) {t : List Nat} (ht : IsTurn k t) (h : t ≠ List.range k) : invT t ≠ List.range k := fun e => by
  have h2 := (inv_turn hk ht).2.2
  rw [e] at h2
  apply h
  rw [← h2]
  apply List.ext_getElem
  · simp [ht.len]
  · intro i a b
    have hi : i < k := by rw [← ht.len]; exact a
    simp [a]
/-- what both tells of the chain and of what undoes it -/
theorem both_ans (n : Nat) (m : List U) {k R ar : Nat} {hm : Nat → Bool} {p : Nat → Nat} {T T' : List Nat} {M N A B : Mach} (hk : K24 k) (c : Chain k R ar hm p T M) (d : Chain k R ar hm p T' N) (hR : R ≤ 60) (gA : Good k A) (gB : Good k B) (hA : 1 ≤ A.length) (hA2 : A.length ≤ 60) (hB : 1 ≤ B.length) (hB2 : B.length ≤ 60) (eA : Eqv k A M 0 0) (eB : Eqv k B N 0 0) (hT : T.map (fun l => T'.getD l 0) = List.range k) :
    (S (n + 8)).call F.products_both [machU A, machU B] m = .ok (machU [(List.range k, List.replicate k 0)]) m := by
  obtain ⟨l1, l2, l3⟩ := leastL_ok gA (room := 0) hA
  obtain ⟨r1, r2, r3⟩ := leastL_ok gB (room := 0) hB
  have q := both_ok n m has hk gA gB hA hA2 hB hB2 (by show 5000 < 1000000000000; decide)
  have hmet := (both_met c d l1 r1 (l3.trans eA) (r3.trans eB)).1
  have hst := both_still c d l1 r1 (l3.trans eA) (r3.trans eB) hT
  rw [if_pos (by unfold bothMet; omega)] at q
  unfold bothL at q
  rw [hst] at q
  exact q
end K83
end MPE
set_option maxRecDepth 100000
set_option maxHeartbeats 4000000
/-! E83m: the law, put together. -/
namespace MPE
open MP
namespace K83
open MM
theorem law_tail (sc : U) (m0 m1 : List U) (N r : Nat) (hr : m0.length = r) (j1 : Slt) (a7 a9' : Slt) {k : Nat} (hk : K24 k) {R : Nat} (h1 : 58 ≤ R) (h2 : R ≤ 60) {pl : List Nat} (hp : pl.Perm (List.range R)) {ar : Nat} {hm : Nat → Bool} {T : List Nat} {M : Mach} (hTt : IsTurn k T) (hT1 : T ≠ List.range k) (hT0 : T.getD 0 0 ≠ 0) (c : Chain k R ar hm (fun i => pl.getD i 0) T M) (row : List Nat) (hr1 : row.length ≤ 100) (hr2 : ∀ x ∈ row, x < k) :
    ∃ s' m', execs (S 11) (d_law_law.body.drop 9) (LS (.val sc) j1 (.val (iu k)) (.val (iu R)) (.val (nls pl)) (.val (machU M)) (.val (.ref r)) a7 .no (.val (nts row)) .no .no .no .no .no .no (m0 ++ dig N :: m1)) = .ok (.ret (.bl true)) s' ∧ s'.m = m' := by
  have ht : 5000 < prog.turns := by show 5000 < 1000000000000; decide
  have hM0 : 1 ≤ M.length := by rw [c.len]; omega
  have hM1 : M.length ≤ 60 := by rw [c.len]; omega
  have hpl : ∀ i, i < R → pl[i]? = some (pl.getD i 0) := fun i hi => by
    have hl : pl.length = R := by rw [hp.length_eq]; simp
    rw [getD_eq (by omega), List.getElem?_eq_getElem (by omega)]
  obtain ⟨lL, lLn, lLe⟩ := chain_least c hT1
  have hI : ∀ t, IsTurn k t → IsTurn k (invT t) := fun t h => (inv_turn hk h).1
  have d := chain_back c hI
  obtain ⟨bL, bLn, bLe⟩ := chain_least d (inv_ne hk hTt hT1)
  obtain ⟨_, t2, t3⟩ := inv_turn hk hTt
  have n1 := next_ok 10 r N m0 m1 hr (R - 1) (by omega) (by omega)
  have ho1 : N % (R - 1) < R - 1 := Nat.mod_lt _ (by omega)
  have n2 := next_ok 10 r (N / (R - 1)) m0 m1 hr (R - 1 - N % (R - 1)) (by omega) (by omega)
  have ho2 : N / (R - 1) % (R - 1 - N % (R - 1)) < R - 1 - N % (R - 1) := Nat.mod_lt _ (by omega)
  generalize N / (R - 1) / (R - 1 - N % (R - 1)) = N2 at *
  generalize N / (R - 1) % (R - 1 - N % (R - 1)) = o2 at *
  generalize N / (R - 1) = N1 at *
  generalize N % (R - 1) = o1 at *
  let L := leastL M 0
  have hgood : ∀ m, ∀ {X : Mach}, Least k X → X.length ≤ 60 → (S 11).call F.law__law_good [machU X, iu k] m = .ok (.bl true) m := fun m X hX hl => good_ok 10 m hk hX.good hX.pos hl
  have hleast : ∀ m, ∀ {X : Mach}, Least k X → X.length ≤ 60 → (S 11).call F.law__law_least [machU X] m = .ok (.bl true) m := fun m X hX hl => least_okL 9 m hk hX hl
  have hN : ∀ {X : Mach}, X.length ≤ 60 → X.length * M.length ≤ 100000 := fun {X} h => Nat.le_trans (Nat.mul_le_mul h hM1) (by decide)
  -- least
  have q10 := least_ok 4 (m0 ++ dig N :: m1) has hk c.good hM0 hM1 ht
  have s10 : execS (S 11) (.set (.one 10) (.call F.machines_least [(.var 5)])) (LS (.val sc) j1 (.val (iu k)) (.val (iu R)) (.val (nls pl)) (.val (machU M)) (.val (.ref r)) a7 .no (.val (nts row)) .no .no .no .no .no .no (m0 ++ dig N :: m1)) = .ok .next (LS (.val sc) j1 (.val (iu k)) (.val (iu R)) (.val (nls pl)) (.val (machU M)) (.val (.ref r)) a7 .no (.val (nts row)) (.val (machU L)) .no .no .no .no .no (m0 ++ dig N :: m1)) := by
    generalize m0 ++ dig N :: m1 = mm at *
    have q : (S 11).call F.machines_least [machU M] mm = .ok (machU L) mm := q10
    simp [q]
  have hLl : L.length ≤ 60 := by show (leastL M 0).length ≤ 60; rw [lLn]; omega
  have s11 : execS (S 11) (.ife (.or [(.not (.call F.machines_is_machine [(.var 5)])), (.not (.call F.law__law_good [(.var 10), (.var 2)])), (.op .ne [(.op .len [(.var 10)]), (.var 3)]), (.not (.call F.law__law_least [(.var 10)]))]) [.ret (.lit (.bl false))] []) (LS (.val sc) j1 (.val (iu k)) (.val (iu R)) (.val (nls pl)) (.val (machU M)) (.val (.ref r)) a7 .no (.val (nts row)) (.val (machU L)) .no .no .no .no .no (m0 ++ dig N :: m1)) = .ok .next (LS (.val sc) j1 (.val (iu k)) (.val (iu R)) (.val (nls pl)) (.val (machU M)) (.val (.ref r)) a7 .no (.val (nts row)) (.val (machU L)) .no .no .no .no .no (m0 ++ dig N :: m1)) := by
    generalize m0 ++ dig N :: m1 = mm at *
    refine (x_ifF ?_).trans x_nil
    have q1 := is_machine_ok 6 mm has.toHMach hk c.good hM0 hM1
    have q1 : (S 11).call F.machines_is_machine [machU M] mm = .ok (.bl true) mm := q1
    have q2 := hgood mm lL hLl
    have q3 := hleast mm lL hLl
    have hlen : L.length = R := lLn
    simp only [iu_eq] at q2
    have q2 : (S 11).call F.law__law_good [machU L, .int (k : Int)] mm = .ok (.bl true) mm := q2
    have q3 : (S 11).call F.law__law_least [machU L] mm = .ok (.bl true) mm := q3
    simp [q1, q2, q3, hlen]
  have s12 : execS (S 11) (.ife (.or [(.not (.call F.law__law_same [(.var 10), (.lit (.int 0)), (.var 5), (.lit (.int 0))])), (.op .ne [(.op .tup [(.call F.machines_run [(.var 5), (.var 9)]), (.call F.machines_room_behind [(.var 5), (.var 9)])]), (.call F.law__law_led [(.var 5), (.var 9)])])]) [.ret (.lit (.bl false))] []) (LS (.val sc) j1 (.val (iu k)) (.val (iu R)) (.val (nls pl)) (.val (machU M)) (.val (.ref r)) a7 .no (.val (nts row)) (.val (machU L)) .no .no .no .no .no (m0 ++ dig N :: m1)) = .ok .next (LS (.val sc) j1 (.val (iu k)) (.val (iu R)) (.val (nls pl)) (.val (machU M)) (.val (.ref r)) a7 .no (.val (nts row)) (.val (machU L)) .no .no .no .no .no (m0 ++ dig N :: m1)) := by
    generalize m0 ++ dig N :: m1 = mm at *
    refine (x_ifF ?_).trans x_nil
    have q1 : (S 11).call F.law__law_same [machU L, iu 0, machU M, iu 0] mm = .ok (.bl true) mm := same_ok 10 mm hk lL.good c.good (hN hLl) ⟨by rw [lLn]; omega, hM0, lLe⟩
    have e0 : iu 0 = .int 0 := by rw [iu_eq]; rfl
    rw [e0] at q1
    have q2 : (S 11).call F.machines_run [machU M, nts row] mm = .ok (nts (madeL M row row.length)) mm := run_ok 1 mm more hk c.good hM0 hM1 hr2 hr1
    have q3 : (S 11).call F.machines_room_behind [machU M, nts row] mm = .ok (iu (go M 0 row)) mm := room_behind_ok 1 mm more hk c.good hM0 hM1 hr2 hr1
    have q4 : (S 11).call F.law__law_led [machU M, nts row] mm = .ok (ledU M row) mm := lawled_ok 10 mm hk c.good hM0 hr2 hr1
    unfold ledU at q4
    have hd : deepUs 5 ((madeL M row row.length).map iu) = true := deeps_iu 5 _
    generalize madeL M row row.length = z at *
    generalize go M 0 row = y at *
    have h2l : 2 ≤ line := by have := line_ge; omega
    simp [q1, q2, q3, q4, okT, h2l, hd]
  have hcp : 0 ≤ line := Nat.zero_le _
  have h1l : 1 ≤ line := by have := line_ge; omega
  have h2l : 2 ≤ line := by have := line_ge; omega
  obtain ⟨ot, hot⟩ : ∃ ot, ot = o1 + 1 + o2 := ⟨_, rfl⟩
  have hotR : ot < R := by omega
  have s13 : execS (S 11) (.set (.one 11) (.call F.law__law_next [(.var 6), (.op .sub [(.var 3), (.lit (.int 1))])])) (LS (.val sc) j1 (.val (iu k)) (.val (iu R)) (.val (nls pl)) (.val (machU M)) (.val (.ref r)) a7 .no (.val (nts row)) (.val (machU L)) .no .no .no .no .no (m0 ++ dig N :: m1)) = .ok .next (LS (.val sc) j1 (.val (iu k)) (.val (iu R)) (.val (nls pl)) (.val (machU M)) (.val (.ref r)) a7 .no (.val (nts row)) (.val (machU L)) (.val (iu o1)) .no .no .no .no (m0 ++ dig N1 :: m1)) := by
    have n1' : (S 11).call F.law__law_next [.ref r, .int ((R : Int) - 1)] (m0 ++ dig N :: m1) = .ok (iu o1) (m0 ++ dig N1 :: m1) := by
      rw [show (R : Int) - 1 = ((R - 1 : Nat) : Int) by omega, ← iu_eq]; exact n1
    generalize m0 ++ dig N :: m1 = mm at *
    generalize m0 ++ dig N1 :: m1 = mm1 at *
    simp [n1']
  have s14 : execS (S 11) (.set (.one 12) (.op .add [(.op .add [(.var 11), (.lit (.int 1))]), (.call F.law__law_next [(.var 6), (.op .sub [(.op .sub [(.var 3), (.lit (.int 1))]), (.var 11)])])])) (LS (.val sc) j1 (.val (iu k)) (.val (iu R)) (.val (nls pl)) (.val (machU M)) (.val (.ref r)) a7 .no (.val (nts row)) (.val (machU L)) (.val (iu o1)) .no .no .no .no (m0 ++ dig N1 :: m1)) = .ok .next (LS (.val sc) j1 (.val (iu k)) (.val (iu R)) (.val (nls pl)) (.val (machU M)) (.val (.ref r)) a7 .no (.val (nts row)) (.val (machU L)) (.val (iu o1)) (.val (iu ot)) .no .no .no (m0 ++ dig N2 :: m1)) := by
    have n2' : (S 11).call F.law__law_next [.ref r, .int ((R : Int) - 1 - (o1 : Int))] (m0 ++ dig N1 :: m1) = .ok (iu o2) (m0 ++ dig N2 :: m1) := by
      rw [show (R : Int) - 1 - (o1 : Int) = ((R - 1 - o1 : Nat) : Int) by omega, ← iu_eq]; exact n2
    have e : (o1 : Int) + 1 + (o2 : Int) = (ot : Int) := by omega
    generalize m0 ++ dig N1 :: m1 = mm at *
    generalize m0 ++ dig N2 :: m1 = mm1 at *
    simp [n2', e]
  generalize m0 ++ dig N2 :: m1 = mm at *
  let due := List.replicate (R - 1 - ot) 0 ++ [0]
  have s15 : execS (S 11) (.set (.one 13) (.op .add [(.op .mul [(.op .tup [(.lit (.int 0))]), (.op .sub [(.op .sub [(.var 3), (.lit (.int 1))]), (.var 12)])]), (.op .tup [(.lit (.int 0))])])) (LS (.val sc) j1 (.val (iu k)) (.val (iu R)) (.val (nls pl)) (.val (machU M)) (.val (.ref r)) a7 .no (.val (nts row)) (.val (machU L)) (.val (iu o1)) (.val (iu ot)) .no .no .no mm) = .ok .next (LS (.val sc) j1 (.val (iu k)) (.val (iu R)) (.val (nls pl)) (.val (machU M)) (.val (.ref r)) a7 .no (.val (nts row)) (.val (machU L)) (.val (iu o1)) (.val (iu ot)) (.val (nts due)) .no .no mm) := by
    have hm := mulT (S 11) (.int 0) (R - 1 - ot) (by omega)
    rw [show ((R - 1 - ot : Nat) : Int) = (R : Int) - 1 - (ot : Int) by omega] at hm
    have hz : List.replicate (R - 1 - ot) (U.int 0) = (List.replicate (R - 1 - ot) 0).map iu := by rw [List.map_replicate, iu_eq]; rfl
    rw [hz] at hm
    have ha := add_nts (S 11) (List.replicate (R - 1 - ot) 0) [0] (by simp; omega)
    have e0 : nts [0] = .tup [.int 0] := by simp
    rw [e0] at ha
    have ha : opSem (S 11) .add [nts (List.replicate (R - 1 - ot) 0), .tup [.int 0]] = some (nts due) := ha
    generalize due = w at *
    generalize List.replicate (R - 1 - ot) 0 = v at *
    simp [okT, h1l, hm, ha]
  have p1 : (S 11).call F.machines_parting_row [machU M, iu (pl.getD o1 0), iu (pl.getD ot 0)] mm = .ok (nts due) mm := by
    have := parting_ok 3 mm more hk c.good hM1 (chain_part c hT0 (i := o1) (j := ot) (by omega) (by omega) hotR) ht
    rw [Nat.max_eq_right (by omega)] at this
    exact this
  have p2 : (S 11).call F.machines_parting_row [machU M, iu (pl.getD ot 0), iu (pl.getD o1 0)] mm = .ok (nts due) mm := by
    have := parting_ok 3 mm more hk c.good hM1 (chain_part c hT0 (i := ot) (j := o1) (by omega) hotR (by omega)) ht
    rw [Nat.max_eq_left (by omega)] at this
    exact this
  have g1 := hpl o1 (by omega)
  have g2 := hpl ot hotR
  have b1 : (S 11).call F.machines_begun_at [machU M, iu (pl.getD ot 0)] mm = .ok (machU (leastL M (pl.getD ot 0))) mm := begun_at_ok 4 mm more hk c.good hM1 (by rw [c.len]; exact c.plt ot hotR) ht
  obtain ⟨xL, xLn, xLe⟩ := leastL_ok c.good (room := pl.getD ot 0) (by rw [c.len]; exact c.plt ot hotR)
  have xl : (leastL M (pl.getD ot 0)).length ≤ 60 := by omega
  have b2 : (S 11).call F.law__law_same [machU (leastL M (pl.getD ot 0)), iu 0, machU M, iu (pl.getD ot 0)] mm = .ok (.bl true) mm := same_ok 10 mm hk xL.good c.good (hN xl) ⟨xL.pos, by rw [c.len]; exact c.plt ot hotR, xLe⟩
  have b3 := hgood mm xL xl
  have b4 := hleast mm xL xl
  have e0 : iu 0 = .int 0 := by rw [iu_eq]; rfl
  rw [e0] at b2
  have t1 : (S 11).call F.products_turned_back [machU M] mm = .ok (machU (leastL (M.map backR) 0)) mm := turned_back_ok 3 mm more hk c.good hM0 hM1 hI d.good ht
  have bl : (leastL (M.map backR) 0).length ≤ 60 := by omega
  have c1 := hgood mm bL bl
  have c2 := both_ans 3 mm hk c d h2 c.good bL.good hM0 hM1 bL.pos bl (Eqv.refl) bLe t2
  have c3 := both_ans 3 mm hk d c h2 bL.good c.good bL.pos bl hM0 hM1 bLe (Eqv.refl) t3
  have c2 : (S 11).call F.products_both [machU M, machU (leastL (M.map backR) 0)] mm = .ok (machU [(List.range k, List.replicate k 0)]) mm := c2
  have c3 : (S 11).call F.products_both [machU (leastL (M.map backR) 0), machU M] mm = .ok (machU [(List.range k, List.replicate k 0)]) mm := c3
  generalize pl.getD o1 0 = z1 at *
  generalize pl.getD ot 0 = z2 at *
  generalize leastL M z2 = X at *
  generalize hB : leastL (M.map backR) 0 = B at *
  generalize due = dd at *
  have hd5 : deepUs 5 (dd.map iu) = true := deeps_iu 5 _
  simp only [iu_eq] at p1 p2 b1 b2 b3 c1
  have s16 : execS (S 11) (.set (.one 14) (.op .lst [(.call F.machines_parting_row [(.var 5), (.op .ix [(.var 4), (.var 11)]), (.op .ix [(.var 4), (.var 12)])]), (.call F.machines_parting_row [(.var 5), (.op .ix [(.var 4), (.var 12)]), (.op .ix [(.var 4), (.var 11)])])])) (LS (.val sc) j1 (.val (iu k)) (.val (iu R)) (.val (nls pl)) (.val (machU M)) (.val (.ref r)) a7 .no (.val (nts row)) (.val (machU L)) (.val (iu o1)) (.val (iu ot)) (.val (nts dd)) .no .no mm) = .ok .next (LS (.val sc) j1 (.val (iu k)) (.val (iu R)) (.val (nls pl)) (.val (machU M)) (.val (.ref r)) a7 .no (.val (nts row)) (.val (machU L)) (.val (iu o1)) (.val (iu ot)) (.val (nts dd)) (.val (.lst [nts dd, nts dd])) .no mm) := by
    simp [g1, g2, p1, p2, okL, h2l]
  have s17 : execS (S 11) (.ife (.op .ne [(.var 14), (.op .lst [(.var 13), (.var 13)])]) [.ret (.lit (.bl false))] []) (LS (.val sc) j1 (.val (iu k)) (.val (iu R)) (.val (nls pl)) (.val (machU M)) (.val (.ref r)) a7 .no (.val (nts row)) (.val (machU L)) (.val (iu o1)) (.val (iu ot)) (.val (nts dd)) (.val (.lst [nts dd, nts dd])) .no mm) = .ok .next (LS (.val sc) j1 (.val (iu k)) (.val (iu R)) (.val (nls pl)) (.val (machU M)) (.val (.ref r)) a7 .no (.val (nts row)) (.val (machU L)) (.val (iu o1)) (.val (iu ot)) (.val (nts dd)) (.val (.lst [nts dd, nts dd])) .no mm) := by
    refine (x_ifF ?_).trans x_nil
    simp [okL, h2l, hd5]
  have s18 : execS (S 11) (.set (.one 10) (.call F.machines_begun_at [(.var 5), (.op .ix [(.var 4), (.var 12)])])) (LS (.val sc) j1 (.val (iu k)) (.val (iu R)) (.val (nls pl)) (.val (machU M)) (.val (.ref r)) a7 .no (.val (nts row)) (.val (machU L)) (.val (iu o1)) (.val (iu ot)) (.val (nts dd)) (.val (.lst [nts dd, nts dd])) .no mm) = .ok .next (LS (.val sc) j1 (.val (iu k)) (.val (iu R)) (.val (nls pl)) (.val (machU M)) (.val (.ref r)) a7 .no (.val (nts row)) (.val (machU X)) (.val (iu o1)) (.val (iu ot)) (.val (nts dd)) (.val (.lst [nts dd, nts dd])) .no mm) := by
    simp [g2, b1]
  have s19 : execS (S 11) (.ife (.or [(.not (.call F.law__law_good [(.var 10), (.var 2)])), (.not (.call F.law__law_same [(.var 10), (.lit (.int 0)), (.var 5), (.op .ix [(.var 4), (.var 12)])])), (.not (.call F.law__law_least [(.var 10)]))]) [.ret (.lit (.bl false))] []) (LS (.val sc) j1 (.val (iu k)) (.val (iu R)) (.val (nls pl)) (.val (machU M)) (.val (.ref r)) a7 .no (.val (nts row)) (.val (machU X)) (.val (iu o1)) (.val (iu ot)) (.val (nts dd)) (.val (.lst [nts dd, nts dd])) .no mm) = .ok .next (LS (.val sc) j1 (.val (iu k)) (.val (iu R)) (.val (nls pl)) (.val (machU M)) (.val (.ref r)) a7 .no (.val (nts row)) (.val (machU X)) (.val (iu o1)) (.val (iu ot)) (.val (nts dd)) (.val (.lst [nts dd, nts dd])) .no mm) := by
    refine (x_ifF ?_).trans x_nil
    simp [g2, b2, b3, b4]
  have s20 : execS (S 11) (.set (.one 10) (.call F.products_turned_back [(.var 5)])) (LS (.val sc) j1 (.val (iu k)) (.val (iu R)) (.val (nls pl)) (.val (machU M)) (.val (.ref r)) a7 .no (.val (nts row)) (.val (machU X)) (.val (iu o1)) (.val (iu ot)) (.val (nts dd)) (.val (.lst [nts dd, nts dd])) .no mm) = .ok .next (LS (.val sc) j1 (.val (iu k)) (.val (iu R)) (.val (nls pl)) (.val (machU M)) (.val (.ref r)) a7 .no (.val (nts row)) (.val (machU B)) (.val (iu o1)) (.val (iu ot)) (.val (nts dd)) (.val (.lst [nts dd, nts dd])) .no mm) := by
    simp [t1]
  have hst : machU [(List.range k, List.replicate k 0)] = .tup [.tup [nts (List.range k), nts (List.replicate k 0)]] := rfl
  rw [hst] at c2 c3
  have s21 : execS (S 11) (.set (.one 15) (.op .tup [(.op .tup [(.op .tupR1 [(.var 2)]), (.op .mul [(.op .tup [(.lit (.int 0))]), (.var 2)])])])) (LS (.val sc) j1 (.val (iu k)) (.val (iu R)) (.val (nls pl)) (.val (machU M)) (.val (.ref r)) a7 .no (.val (nts row)) (.val (machU B)) (.val (iu o1)) (.val (iu ot)) (.val (nts dd)) (.val (.lst [nts dd, nts dd])) .no mm) = .ok .next (LS (.val sc) j1 (.val (iu k)) (.val (iu R)) (.val (nls pl)) (.val (machU M)) (.val (.ref r)) a7 .no (.val (nts row)) (.val (machU B)) (.val (iu o1)) (.val (iu ot)) (.val (nts dd)) (.val (.lst [nts dd, nts dd])) (.val (.tup [.tup [nts (List.range k), nts (List.replicate k 0)]])) mm) := by
    have hm := mulT (S 11) (.int 0) k (by have := hk.hi; omega)
    have hz : List.replicate k (U.int 0) = (List.replicate k 0).map iu := by rw [List.map_replicate, iu_eq]; rfl
    rw [hz] at hm
    have hR := tupR1_iu (g := S 11) k (by have := hk.hi; omega)
    generalize List.replicate k 0 = v at *
    generalize List.range k = w at *
    simp [okT, h1l, h2l, hm, hR]
  have s22 : execS (S 11) (.ife (.or [(.not (.call F.law__law_good [(.var 10), (.var 2)])), (.op .ne [(.op .len [(.var 10)]), (.var 3)])]) [.ret (.lit (.bl false))] []) (LS (.val sc) j1 (.val (iu k)) (.val (iu R)) (.val (nls pl)) (.val (machU M)) (.val (.ref r)) a7 .no (.val (nts row)) (.val (machU B)) (.val (iu o1)) (.val (iu ot)) (.val (nts dd)) (.val (.lst [nts dd, nts dd])) (.val (.tup [.tup [nts (List.range k), nts (List.replicate k 0)]])) mm) = .ok .next (LS (.val sc) j1 (.val (iu k)) (.val (iu R)) (.val (nls pl)) (.val (machU M)) (.val (.ref r)) a7 .no (.val (nts row)) (.val (machU B)) (.val (iu o1)) (.val (iu ot)) (.val (nts dd)) (.val (.lst [nts dd, nts dd])) (.val (.tup [.tup [nts (List.range k), nts (List.replicate k 0)]])) mm) := by
    refine (x_ifF ?_).trans x_nil
    simp [c1, bLn]
  have s23 : execS (S 11) (.ret (.and [(.op .eq [(.call F.products_both [(.var 5), (.var 10)]), (.var 15)]), (.op .eq [(.call F.products_both [(.var 10), (.var 5)]), (.var 15)])])) (LS (.val sc) j1 (.val (iu k)) (.val (iu R)) (.val (nls pl)) (.val (machU M)) (.val (.ref r)) a7 .no (.val (nts row)) (.val (machU B)) (.val (iu o1)) (.val (iu ot)) (.val (nts dd)) (.val (.lst [nts dd, nts dd])) (.val (.tup [.tup [nts (List.range k), nts (List.replicate k 0)]])) mm) = .ok (.ret (.bl true)) (LS (.val sc) j1 (.val (iu k)) (.val (iu R)) (.val (nls pl)) (.val (machU M)) (.val (.ref r)) a7 .no (.val (nts row)) (.val (machU B)) (.val (iu o1)) (.val (iu ot)) (.val (nts dd)) (.val (.lst [nts dd, nts dd])) (.val (.tup [.tup [nts (List.range k), nts (List.replicate k 0)]])) mm) := by
    have d1 : deepUs 4 ((List.range k).map iu) = true := deeps_iu 4 _
    have d2 : deepUs 4 ((List.replicate k 0).map iu) = true := deeps_iu 4 _
    generalize List.replicate k 0 = v at *
    generalize List.range k = w at *
    simp [c2, c3, d1, d2]
  exact ⟨_, _, (x_seq s10).trans ((x_seq s11).trans ((x_seq s12).trans ((x_seq s13).trans ((x_seq s14).trans ((x_seq s15).trans ((x_seq s16).trans ((x_seq s17).trans ((x_seq s18).trans ((x_seq s19).trans ((x_seq s20).trans ((x_seq s21).trans ((x_seq s22).trans (x_last s23))))))))))))), rfl⟩
end K83
end MPE
set_option maxRecDepth 100000
set_option maxHeartbeats 4000000
/-! E83n: the law's answer. -/
namespace MPE
open MP
namespace K83
open MM
theorem main (ns : List Int) : ∃ m', (stOf prog 12).call F.law_law [.scr (ns.map .int)] [] = .ok (.bl true) m' := by
  obtain ⟨N0, q1⟩ := state_ok 0 (by omega) 10 ns []
  have hk3 : N0 % 3 < 3 := Nat.mod_lt _ (by decide)
  have q2 := next_ok 10 0 N0 [] [] rfl 3 (by omega) (by omega)
  have q3 := next_ok 10 0 (N0 / 3) [] [] rfl 3 (by omega) (by omega)
  have hR3 : N0 / 3 % 3 < 3 := Nat.mod_lt _ (by decide)
  generalize N0 / 3 / 3 = N2 at *
  generalize N0 / 3 % 3 = z2 at *
  generalize N0 / 3 = N1 at *
  generalize N0 % 3 = z1 at *
  obtain ⟨k, hkk⟩ : ∃ k, k = 2 + z1 := ⟨_, rfl⟩
  obtain ⟨R, hRR⟩ : ∃ R, R = 58 + z2 := ⟨_, rfl⟩
  have hk : K24 k := ⟨by omega, by omega⟩
  obtain ⟨M1, q4⟩ := state_ok 1 (by omega) 10 ns [dig N2]
  obtain ⟨l, M2, hp, q5⟩ := mixed_ok 9 1 M1 [dig N2] [] rfl (R := R) (by omega) (by omega)
  obtain ⟨ar, home, T, N3, har, hT, hT1, hT0, q6⟩ := chain_ok 7 0 N2 [] [dig M2] rfl hk (R := R) (by omega) (by omega) hp
  have c := chM_chain (home := home) hk hT hp rfl (by omega) har
  generalize chM k R ar home (0 :: l) T = M at *
  obtain ⟨P0, q7⟩ := state_ok 2 (by omega) 10 ns [dig N3, dig M2]
  have q8 := next_ok 10 2 P0 [dig N3, dig M2] [] rfl 2 (by omega) (by omega)
  generalize hpl : 0 :: l = pl at *
  let sc : U := .scr (ns.map .int)
  have s1 : execS (S 11) (.set (.one 1) (.call F.law__law_state [(.var 0), (.lit (.int 0))])) (LS (.val sc) .no .no .no .no .no .no .no .no .no .no .no .no .no .no .no []) = .ok .next (LS (.val sc) (.val (.ref 0)) .no .no .no .no .no .no .no .no .no .no .no .no .no .no [dig N0]) := by
    have q : (S 11).call F.law__law_state [sc, .int 0] [] = .ok (.ref 0) [dig N0] := q1
    simp [q]
  have s2 : execS (S 11) (.set (.one 2) (.op .add [(.lit (.int 2)), (.call F.law__law_next [(.var 1), (.lit (.int 3))])])) (LS (.val sc) (.val (.ref 0)) .no .no .no .no .no .no .no .no .no .no .no .no .no .no [dig N0]) = .ok .next (LS (.val sc) (.val (.ref 0)) (.val (iu k)) .no .no .no .no .no .no .no .no .no .no .no .no .no [dig N1]) := by
    have q : (S 11).call F.law__law_next [.ref 0, .int 3] [dig N0] = .ok (iu z1) [dig N1] := q2
    have e : (2 : Int) + (z1 : Int) = (k : Int) := by omega
    simp [q, e]
  have s3 : execS (S 11) (.set (.one 3) (.op .add [(.lit (.int 58)), (.call F.law__law_next [(.var 1), (.lit (.int 3))])])) (LS (.val sc) (.val (.ref 0)) (.val (iu k)) .no .no .no .no .no .no .no .no .no .no .no .no .no [dig N1]) = .ok .next (LS (.val sc) (.val (.ref 0)) (.val (iu k)) (.val (iu R)) .no .no .no .no .no .no .no .no .no .no .no .no [dig N2]) := by
    have q : (S 11).call F.law__law_next [.ref 0, .int 3] [dig N1] = .ok (iu z2) [dig N2] := q3
    have e : (58 : Int) + (z2 : Int) = (R : Int) := by omega
    simp [q, e]
  have s4 : execS (S 11) (.set (.one 4) (.call F.law__law_mixed [(.call F.law__law_state [(.var 0), (.lit (.int 1))]), (.var 3)])) (LS (.val sc) (.val (.ref 0)) (.val (iu k)) (.val (iu R)) .no .no .no .no .no .no .no .no .no .no .no .no [dig N2]) = .ok .next (LS (.val sc) (.val (.ref 0)) (.val (iu k)) (.val (iu R)) (.val (nls pl)) .no .no .no .no .no .no .no .no .no .no .no [dig N2, dig M2]) := by
    have qa : (S 11).call F.law__law_state [sc, .int 1] [dig N2] = .ok (.ref 1) [dig N2, dig M1] := q4
    have qb : (S 11).call F.law__law_mixed [.ref 1, .int (R : Int)] [dig N2, dig M1] = .ok (nls pl) [dig N2, dig M2] := by
      rw [← iu_eq]; exact q5
    simp [qa, qb]
  have s5 : execS (S 11) (.set (.one 5) (.call F.law__law_chain [(.var 1), (.var 2), (.var 3), (.var 4)])) (LS (.val sc) (.val (.ref 0)) (.val (iu k)) (.val (iu R)) (.val (nls pl)) .no .no .no .no .no .no .no .no .no .no .no [dig N2, dig M2]) = .ok .next (LS (.val sc) (.val (.ref 0)) (.val (iu k)) (.val (iu R)) (.val (nls pl)) (.val (machU M)) .no .no .no .no .no .no .no .no .no .no [dig N3, dig M2]) := by
    have q : (S 11).call F.law__law_chain [.ref 0, .int (k : Int), .int (R : Int), nls pl] [dig N2, dig M2] = .ok (machU M) [dig N3, dig M2] := by
      rw [← iu_eq, ← iu_eq]; exact q6
    simp [q]
  have s6 : execS (S 11) (.set (.one 6) (.call F.law__law_state [(.var 0), (.lit (.int 2))])) (LS (.val sc) (.val (.ref 0)) (.val (iu k)) (.val (iu R)) (.val (nls pl)) (.val (machU M)) .no .no .no .no .no .no .no .no .no .no [dig N3, dig M2]) = .ok .next (LS (.val sc) (.val (.ref 0)) (.val (iu k)) (.val (iu R)) (.val (nls pl)) (.val (machU M)) (.val (.ref 2)) .no .no .no .no .no .no .no .no .no [dig N3, dig M2, dig P0]) := by
    have q : (S 11).call F.law__law_state [sc, .int 2] [dig N3, dig M2] = .ok (.ref 2) [dig N3, dig M2, dig P0] := q7
    simp [q]
  have s7 : execS (S 11) (.set (.one 7) (.op .eq [(.call F.law__law_next [(.var 6), (.lit (.int 2))]), (.lit (.int 1))])) (LS (.val sc) (.val (.ref 0)) (.val (iu k)) (.val (iu R)) (.val (nls pl)) (.val (machU M)) (.val (.ref 2)) .no .no .no .no .no .no .no .no .no [dig N3, dig M2, dig P0]) = .ok .next (LS (.val sc) (.val (.ref 0)) (.val (iu k)) (.val (iu R)) (.val (nls pl)) (.val (machU M)) (.val (.ref 2)) (.val (.bl (((P0 % 2 : Nat) : Int) == 1))) .no .no .no .no .no .no .no .no [dig N3, dig M2, dig (P0 / 2)]) := by
    have q : (S 11).call F.law__law_next [.ref 2, .int 2] [dig N3, dig M2, dig P0] = .ok (iu (P0 % 2)) [dig N3, dig M2, dig (P0 / 2)] := q8
    generalize P0 % 2 = z at *
    generalize P0 / 2 = z3 at *
    simp [q]
  obtain ⟨row, N9, r1, r2, s8⟩ := row_ok 10 2 (P0 / 2) [dig N3, dig M2] [] rfl hk (.val sc) (.val (.ref 0)) (.val (iu R)) (.val (nls pl)) (.val (machU M)) (.val (.bl (((P0 % 2 : Nat) : Int) == 1))) .no .no .no .no .no .no .no
  generalize (((P0 % 2 : Nat) : Int) == 1) = plain at *
  obtain ⟨row', w1, w2, s9⟩ : ∃ row' : List Nat, row'.length ≤ 100 ∧ (∀ x ∈ row', x < k) ∧ execS (S 11) (.set (.one 9) (.ifx (.var 7) (.op .mul [(.op .tup [(.lit (.int 0))]), (.lit (.int 100))]) (.var 9))) (LS (.val sc) (.val (.ref 0)) (.val (iu k)) (.val (iu R)) (.val (nls pl)) (.val (machU M)) (.val (.ref 2)) (.val (.bl plain)) .no (.val (nts row)) .no .no .no .no .no .no [dig N3, dig M2, dig N9]) = .ok .next (LS (.val sc) (.val (.ref 0)) (.val (iu k)) (.val (iu R)) (.val (nls pl)) (.val (machU M)) (.val (.ref 2)) (.val (.bl plain)) .no (.val (nts row')) .no .no .no .no .no .no [dig N3, dig M2, dig N9]) := by
    cases plain with
    | true =>
      refine ⟨List.replicate 100 0, by simp, fun x hx => by rw [(List.mem_replicate.1 hx).2]; have := hk.lo; omega, ?_⟩
      have hm := mulT (S 11) (.int 0) 100 (by omega)
      have hz : List.replicate 100 (U.int 0) = (List.replicate 100 0).map iu := by rw [List.map_replicate, iu_eq]; rfl
      rw [hz] at hm
      have h1l : 1 ≤ line := by have := line_ge; omega
      generalize List.replicate 100 0 = v at *
      have hm : opSem (S 11) .mul [.tup [.int 0], .int 100] = some (nts v) := hm
      simp [okT, h1l, hm]
    | false => exact ⟨row, r1, r2, by simp⟩
  obtain ⟨s', m', t1, _⟩ := law_tail sc [dig N3, dig M2] [] N9 2 rfl (.val (.ref 0)) (.val (.bl plain)) .no hk (R := R) (by omega) (by omega) hp hT hT1 hT0 c row' w1 w2
  refine ⟨s'.m, ?_⟩
  rw [h_law.call]
  refine run_ret (s := s') d_law_law [sc] [] rfl ?_
  exact (x_seq s1).trans ((x_seq s2).trans ((x_seq s3).trans ((x_seq s4).trans ((x_seq s5).trans ((x_seq s6).trans ((x_seq s7).trans ((x_seq s8).trans ((x_seq s9).trans t1))))))))
end K83
end MPE
set_option maxRecDepth 100000
set_option maxHeartbeats 1000000
/-! R1a: how the small language's values stand in the model's heap. -/
namespace MP
open PySem PySem.Spec PyProof.Rows L2

/-- what is shared, by number; what is never changed any more -/
structure Wd where
  al : List Addr
  fz : Addr → Prop

/-- the program's names -/
structure Nms where
  P : Program
  w : World
  K : PySem.W.Frag
  fA : Nat → Addr
  cA : Nat → Addr
  /-- an attribute's name -/
  aN : Nat → Str
  /-- class, place: the attribute -/
  aP : Nat → Nat → Option Nat

def sOf (s : List Nat) : Str := ⟨s.toArray⟩

/-- a key of a dict of ints and texts -/
def keyU : U → Option Key
  | .int i => some (.inl i)
  | .str s => some (.inr (sOf s))
  | _ => none
mutual
/-- a key that is a tuple -/
def nkU : U → Option NestedKey
  | .int i => some (.num i)
  | .bl b => some (.num (if b then 1 else 0))
  | .str s => some (.text (sOf s))
  | .tup us => (nkUs us).map .tup
  | _ => none
def nkUs : List U → Option (List NestedKey)
  | [] => some []
  | u :: us => match nkU u, nkUs us with
    | some k, some ks => some (k :: ks)
    | _, _ => none
end

/-- the script: known to the object, or one of the module's own -/
def Scr (K : PySem.W.Frag) (H : Hp) (a : Addr) (xs : List V) : Prop := (∃ o, H a = some (.frz o (.lst xs))) ∨
    ∃ (o : Obj) (its : Array Value) (n : Nat), K.lookup a = some o ∧ o.cls = .type "list" ∧ o.dict = none ∧ o.data = .seq its n ∧ its.size ≤ sizeLine ∧ Vals xs its.toList
theorem Scr.sq {K : PySem.W.Frag} {H : Hp} {a : Addr} {xs : List V} (h : Scr K H a xs) : SqL K H a xs := by
  rcases h with ⟨o, h⟩ | h
  · exact .inl (.inr ⟨o, h⟩)
  · exact .inr h

/-- an object that is a tuple's and has no dict -/
def Tx (o : Obj) : Prop := o.cls = .type "tuple" ∧ o.dict = none
/-- a tuple whose object is known -/
def TX (H : Hp) (a : Addr) (vs : List V) : Prop := ∃ o, H a = some (.frz o (.tup vs)) ∧ Tx o
theorem TX.sq {K : PySem.W.Frag} {H : Hp} {a : Addr} {xs : List V} (h : TX H a xs) : SqT K H a xs := .inl (.inr (let ⟨o, h, _⟩ := h; ⟨o, h⟩))
theorem TX.new {H : Hp} {a : Addr} {xs : List V} {o : Obj} (t : Tx o) : TX (L2.upd H a (.frz o (.tup xs))) a xs := ⟨o, upd_same, t⟩

/-- a dict whose keys are tuples: their keys, where they stand, the values -/
def NO (P : Program) (w : World) (a : Addr) (xs : List (NestedKey × Addr × V)) : HO := .ext fun h => xs.length ≤ sizeLine ∧ ∃ (o : Obj) (es : Array DictEntry) (ep : Nat) (ys : List (NestedKey × Addr × Value)),
  h.get? a = some o ∧ (a == sysModules) = false ∧ o.ExactDict ∧ o.data = .dict es ep ∧ es.toList = ys.map (entryOfKey (nestedKind P w)) ∧ (ys.map (·.1)).Nodup ∧ (∀ q ∈ ys, q.1.depth ≤ 8) ∧
    Paired (fun (p : NestedKey × Addr × V) (q : NestedKey × Addr × Value) => p.1 = q.1 ∧ p.2.1 = q.2.1 ∧ RelV p.2.2 q.2.2) xs ys

/-- an exception that is kept: its class; its own dict -/
def ExcO (cls : Value) (d : Option Addr) (a : Addr) : HO := .ext fun h => ∃ (oe : Obj) (vs : Array Value), h.get? a = some oe ∧ Zc cls d oe ∧ oe.data = .fields vs

section
variable (G : Nms) (W : Wd) (H : Hp)
mutual
/-- a value -/
def RepV : U → V → Prop
  | .non, v => v = .non
  | .bl b, v => v = .bl b
  | .int i, v => v = .int i
  | .str s, v => v = .str (sOf s)
  | .tup us, v => ∃ a vs, v = .ref a ∧ TX H a vs ∧ RepVs us vs
  | .prs us, v => ∃ a vs, v = .ref a ∧ H a = some (.tup vs) ∧ RepVs us vs
  | .lst us, v => ∃ a vs, v = .ref a ∧ W.fz a ∧ H a = some (.lst vs) ∧ RepVs us vs
  | .dic ks xs, v => ∃ a, v = .ref a ∧ W.fz a ∧
      ((∃ kvs : List (Key × V), H a = some (.dK kvs) ∧ ks.map keyU = kvs.map (fun p => some p.1) ∧ RepVs xs (kvs.map (·.2))) ∨
       (∃ ys : List (NestedKey × Addr × V), ys ≠ [] ∧ H a = some (NO G.P G.w a ys) ∧ ks.map nkU = ys.map (fun p => some p.1) ∧ ks.all isTupU = true ∧ RepVs ks (ys.map fun p => .ref p.2.1) ∧ RepVs xs (ys.map (·.2.2))))
  | .obj c fs, v => ∃ a dx fvs, v = .ref a ∧ W.fz a ∧ H a = some (.ins (G.cA c) dx fvs) ∧ ∃ ws, RepFs fs ws ∧ ∀ k n, G.aP c k = some n → (fvs.lookup (G.aN n)) = (ws[k]?).getD none
  | .exc c fs, v => ∃ a, v = .ref a ∧ W.fz a ∧ fs = [] ∧ H a = some (ExcO (.ref (G.cA c)) none a)
  | .ref n, v => ∃ a, W.al[n]? = some a ∧ v = .ref a
  | .fn f, v => v = .ref (G.fA f)
  | .clo _ _, _ => False
  | .hole, _ => False
  | .scr us, v => ∃ a vs, v = .ref a ∧ Scr G.K H a vs ∧ RepVs us vs
def RepVs : List U → List V → Prop
  | [], vs => vs = []
  | u :: us, vs => ∃ v r, vs = v :: r ∧ RepV u v ∧ RepVs us r
/-- fields: a hole where none is set -/
def RepFs : List U → List (Option V) → Prop
  | [], vs => vs = []
  | .hole :: us, vs => ∃ r, vs = none :: r ∧ RepFs us r
  | u :: us, vs => ∃ v r, vs = some v :: r ∧ RepV u v ∧ RepFs us r
end

/-- a list's, a dict's, an instance's content at its address -/
def Cont (a : Addr) : U → Prop
  | .lst us => ∃ vs, H a = some (.lst vs) ∧ RepVs G W H us vs
  | .dic ks xs => ((∃ kvs : List (Key × V), H a = some (.dK kvs) ∧ ks.map keyU = kvs.map (fun p => some p.1) ∧ RepVs G W H xs (kvs.map (·.2))) ∨
       (∃ ys : List (NestedKey × Addr × V), ys ≠ [] ∧ H a = some (NO G.P G.w a ys) ∧ ks.map nkU = ys.map (fun p => some p.1) ∧ ks.all isTupU = true ∧ RepVs G W H ks (ys.map fun p => .ref p.2.1) ∧ RepVs G W H xs (ys.map (·.2.2))))
  | .obj c fs => ∃ dx fvs, H a = some (.ins (G.cA c) dx fvs) ∧ ∃ ws, RepFs G W H fs ws ∧ ∀ k n, G.aP c k = some n → (fvs.lookup (G.aN n)) = (ws[k]?).getD none
  | _ => False
end

structure Wd.le (W W' : Wd) : Prop where
  al : ∃ r, W'.al = W.al ++ r
  fz : ∀ a, W.fz a → W'.fz a
structure Kp (W : Wd) (H H' : Hp) : Prop where
  fz : ∀ a o, W.fz a → H a = some o → H' a = some o
  tup : ∀ a xs, H a = some (.tup xs) → H' a = some (.tup xs)
  frz : ∀ a o u, H a = some (.frz o u) → H' a = some (.frz o u)
theorem Wd.le.refl (W : Wd) : W.le W := ⟨⟨[], by simp⟩, fun _ h => h⟩
theorem Wd.le.trans {W W1 W2 : Wd} (a : W.le W1) (b : W1.le W2) : W.le W2 := by
  obtain ⟨r, e⟩ := a.al
  obtain ⟨r', e'⟩ := b.al
  exact ⟨⟨r ++ r', by rw [e', e, List.append_assoc]⟩, fun x h => b.fz x (a.fz x h)⟩
theorem Kp.refl (W : Wd) (H : Hp) : Kp W H H := ⟨fun _ _ _ h => h, fun _ _ h => h, fun _ _ _ h => h⟩
theorem Kp.trans {W W1 : Wd} {H H1 H2 : Hp} (l : W.le W1) (a : Kp W H H1) (b : Kp W1 H1 H2) : Kp W H H2 :=
  ⟨fun x o f h => b.fz x o (l.fz x f) (a.fz x o f h), fun x xs h => b.tup x xs (a.tup x xs h), fun x o u h => b.frz x o u (a.frz x o u h)⟩
theorem Wd.le.at {W W' : Wd} (l : W.le W') {n : Nat} {a : Addr} (h : W.al[n]? = some a) : W'.al[n]? = some a := by
  obtain ⟨r, e⟩ := l.al
  rw [e, List.getElem?_append_left (List.getElem?_eq_some_iff.mp h).1]
  exact h
theorem TX.kp {W : Wd} {H H' : Hp} (k : Kp W H H') {a : Addr} {xs : List V} (r : TX H a xs) : TX H' a xs := let ⟨o, r, t⟩ := r; ⟨o, k.frz a _ _ r, t⟩
theorem Scr.kp {K : PySem.W.Frag} {W : Wd} {H H' : Hp} (k : Kp W H H') {a : Addr} {xs : List V} (r : Scr K H a xs) : Scr K H' a xs := by
  rcases r with ⟨o, r⟩ | r
  · exact .inl ⟨o, k.frz a _ _ r⟩
  · exact .inr r

section
variable {G : Nms} {W W' : Wd} {H H' : Hp} (l : W.le W') (k : Kp W H H')
include l k
mutual
theorem RepV.mono : ∀ (u : U) {v : V}, RepV G W H u v → RepV G W' H' u v
  | .non, _, h => by simpa only [RepV] using h
  | .bl _, _, h => by simpa only [RepV] using h
  | .int _, _, h => by simpa only [RepV] using h
  | .str _, _, h => by simpa only [RepV] using h
  | .tup us, v, h => by
    simp only [RepV] at h ⊢
    obtain ⟨a, vs, e, h1, h2⟩ := h
    exact ⟨a, vs, e, h1.kp k, RepVs.mono us h2⟩
  | .prs us, v, h => by
    simp only [RepV] at h ⊢
    obtain ⟨a, vs, e, h1, h2⟩ := h
    exact ⟨a, vs, e, k.tup a vs h1, RepVs.mono us h2⟩
  | .lst us, v, h => by
    simp only [RepV] at h ⊢
    obtain ⟨a, vs, e, f, h1, h2⟩ := h
    exact ⟨a, vs, e, l.fz a f, k.fz a _ f h1, RepVs.mono us h2⟩
  | .dic ks xs, v, h => by
    simp only [RepV] at h ⊢
    obtain ⟨a, e, f, h⟩ := h
    refine ⟨a, e, l.fz a f, ?_⟩
    rcases h with ⟨kvs, h1, h2, h3⟩ | ⟨ys, h0, h1, h2, h3, h4, h5⟩
    · exact .inl ⟨kvs, k.fz a _ f h1, h2, RepVs.mono xs h3⟩
    · exact .inr ⟨ys, h0, k.fz a _ f h1, h2, h3, RepVs.mono ks h4, RepVs.mono xs h5⟩
  | .obj c fs, v, h => by
    simp only [RepV] at h ⊢
    obtain ⟨a, dx, fvs, e, f, h1, ws, h2, h3⟩ := h
    exact ⟨a, dx, fvs, e, l.fz a f, k.fz a _ f h1, ws, RepFs.mono fs h2, h3⟩
  | .exc c fs, v, h => by
    simp only [RepV] at h ⊢
    obtain ⟨a, e, f, h1, h2⟩ := h
    exact ⟨a, e, l.fz a f, h1, k.fz a _ f h2⟩
  | .ref n, v, h => by
    simp only [RepV] at h ⊢
    obtain ⟨a, h1, e⟩ := h
    exact ⟨a, l.at h1, e⟩
  | .fn _, _, h => by simpa only [RepV] using h
  | .clo _ _, _, h => by simp only [RepV] at h
  | .hole, _, h => by simp only [RepV] at h
  | .scr us, v, h => by
    simp only [RepV] at h ⊢
    obtain ⟨a, vs, e, h1, h2⟩ := h
    exact ⟨a, vs, e, Scr.kp k h1, RepVs.mono us h2⟩
theorem RepVs.mono : ∀ (us : List U) {vs : List V}, RepVs G W H us vs → RepVs G W' H' us vs
  | [], _, h => by simpa only [RepVs] using h
  | u :: us, _, h => by
    simp only [RepVs] at h ⊢
    obtain ⟨v, r, e, h1, h2⟩ := h
    exact ⟨v, r, e, RepV.mono u h1, RepVs.mono us h2⟩
theorem RepFs.mono : ∀ (us : List U) {vs : List (Option V)}, RepFs G W H us vs → RepFs G W' H' us vs
  | [], _, h => by simpa only [RepFs] using h
  | u :: us, _, h => by
    cases u <;> simp only [RepFs] at h ⊢ <;> first
      | (obtain ⟨r, e, h2⟩ := h; exact ⟨r, e, RepFs.mono us h2⟩)
      | (obtain ⟨v, r, e, h1, h2⟩ := h; exact ⟨v, r, e, RepV.mono _ h1, RepFs.mono us h2⟩)
end
end
end MP
set_option maxRecDepth 100000
set_option maxHeartbeats 4000000
/-! R1z: making tuples whose object is known (its dict is none): displays, tuple(..), +, *. -/
namespace MP
open PySem PySem.Spec PyProof.Rows L2

section
variable {X : Cx}
/-- what is wanted of a new tuple -/
abbrev NewT (xs : List V) (H : Hp) (Q : VK) : Prop := ∀ p ob, Tx ob → H p = none → Q (.ref p) (L2.upd H p (.frz ob (.tup xs)))
theorem laidX {pins : List (Addr × Obj)} {σ : L2.St} {H : Hp} {s : Shared} {xs : List V} {its : List Value} {Q : VK} (I : Inv X pins σ H s) (hz : xs.length ≤ sizeLine) (r : Vals xs its) (q : NewT xs H Q) :
    EP X pins σ Q (.ref s.heap.objs.size) { s with heap := s.heap.push { cls := .type "tuple", data := .seq its.toArray } } := by
  refine ⟨.ref s.heap.objs.size, _, I.laid (t' := s.toks) (o := .frz { cls := .type "tuple", data := .seq its.toArray } (.tup xs)) (fun b ob q => Heap.get?_push_of_some _ q) (Nat.le_refl _) ?_, rfl, q _ _ ⟨rfl, rfl⟩ (I.hok.fresh (Nat.le_refl _))⟩
  exact ⟨Heap.get?_push_size _ rfl, hz, _, r, IsTup.new _ _⟩
/-- a display -/
def tTupX (t : TA) : TE := fun σ H Q => t σ H fun xs H1 => xs.length ≤ sizeLine ∧ NewT xs H1 Q
theorem pe_tupX {es : List Expr} {t : TA} {pos : Pos} {x1 : Nat} (h : PA X es t) : PE X (.Tuple es x1 pos) (tTupX t) := by
  refine ⟨fun pins s σ H Q I hq => ?_⟩
  refine wpAny_Tuple_spliced (thn (h.run pos pins s σ H _ I hq) fun us s1 ⟨xs, H1, I1, r, z, q⟩ => ⟨by rw [← r.length]; exact z, ?_⟩)
  exact laidX I1 z r q
/-- tuple(x) of a list: a new tuple; of a tuple: itself -/
def kTupX (K : PySem.W.Frag) (x : V) (H : Hp) (Q : VK) : Prop :=
  (∃ p xs, x = .ref p ∧ SqL K H p xs ∧ NewT xs H Q) ∨ (∃ p xs, x = .ref p ∧ SqT K H p xs ∧ Q (.ref p) H)
theorem rl_tupleX (pins : List (Addr × Obj)) (s : Shared) (σ : L2.St) (H : Hp) (x : V) (v : Value) (Q : VK) (I : Inv X pins σ H s) (r : RelV x v) (h : kTupX X.K x H Q) :
    wpAny (model X.prog X.w) X.A (call (.type "tuple") [v]) (EP X pins σ Q) X.xe s := by
  rcases h with ⟨p, xs, rfl, hs, q⟩ | ⟨p, xs, rfl, hs, q⟩
  · obtain rfl : v = .ref p := r
    obtain ⟨its, rv, pl, hz⟩ := I.list hs
    refine call_tuple_list pl.isList (fun h' hk => ?_) (by rw [List.size_toArray, ← rv.length]; exact hz)
    have I1 : Inv X pins σ H { s with heap := h' } := I.kept (t' := s.toks) hk
    exact laidX I1 hz rv q
  · obtain rfl : v = .ref p := r
    obtain ⟨its, rv, pl, hz⟩ := I.tuple hs
    exact call_tuple_tup pl ⟨.ref p, H, I, rfl, q⟩
/-- tuple(range) -/
def tTupRgX (te : L2.St → Hp → (Int → Int → Hp → Prop) → Prop) : TE := fun σ H Q => te σ H fun a b H1 => RgOk a b ∧ NewT (rgV a b) H1 Q
theorem pe_tupRgX {e : Expr} {te : L2.St → Hp → (Int → Int → Hp → Prop) → Prop} {p pos : Pos} (hc : X.calm = true) (hg : Gl X "tuple") (hm : X.mg "tuple" = none) (he : PRg X e te) (na : starEach [e] X.env = (false, eval e X.env) :: starEach [] X.env := by rfl) : PE X (.Call (.Name "tuple" p) [e] [] pos) (tTupRgX te) := by
  refine ⟨fun pins s σ H Q I h => ?_⟩
  refine Call_ (ld_blt I hg hm boot_tuple (PyProof.Rows.callWith_type1 (args_cons (thn (he pins s σ H _ I h) fun x s1 ⟨r, a, b, t, u, v, H1, ex, hr, I1, ok, q⟩ => args_nil ?_) na) na))
  subst ex
  obtain ⟨b1, b2, b3, b4, b5⟩ := ok
  refine call_tuple_range (n := (b - a).toNat) (I1.ok.hd hc) hr (small_one b1 b2 b3 b4) (rangeSize_nat a b) b5 fun h' tk acc hk hi => ?_
  have I2 : Inv X pins σ H1 { s1 with heap := h', toks := tk } := I1.kept hk
  have := laidX (xs := rgV a b) (its := acc.toList) I2 (by rw [rgV_length, sizeLine_eq]; omega) (vals_rg hi) q
  rw [Array.toArray_toList] at this
  exact this
/-- t + u -/
def rCatX (K : PySem.W.Frag) : R2 := fun x y H Q => ∃ a b xs ys, x = .ref a ∧ y = .ref b ∧ SqT K H a xs ∧ SqT K H b ys ∧ xs.length + ys.length ≤ sizeLine ∧
  (xs = [] → Q (.ref b) H) ∧ (xs ≠ [] → ys = [] → Q (.ref a) H) ∧ (xs ≠ [] → ys ≠ [] → NewT (xs ++ ys) H Q)
theorem op_catX : OpR X (binaryOp .Add) (rCatX X.K) := by
  intro pins s σ H x y v u Q I rx ry h
  obtain ⟨a, b, xs, ys, rfl, rfl, ha, hb, hz, q0, q1, q2⟩ := h
  cases rx
  cases ry
  obtain ⟨its, r1, p1, _⟩ := I.tuple ha
  obtain ⟨its2, r2, p2, _⟩ := I.tuple hb
  by_cases hx : xs = []
  · subst hx
    cases r1
    exact cat_tup0 p1 p2 ⟨.ref b, H, I, rfl, q0 rfl⟩
  · refine HT.cat_tup p1 p2 (fun z => hx (r1.nil_iff.mp z)) (fun z => ⟨.ref a, H, I, rfl, q1 hx (r2.nil_iff.mp z)⟩) (fun z => ?_) (by rw [← r1.length, ← r2.length]; exact hz)
    have := laidX (xs := xs ++ ys) I (by rw [List.length_append]; exact hz) (r1.append r2) (q2 hx fun w => z (r2.nil_iff.mpr w))
    exact this
/-- t * n -/
theorem tuple_mul0 (l : Addr) (items : Array Value) (n : Nat) (dd : Option Addr) (sl : Array (Option Value)) (x : Int) (u : Tok) (c0 : (decide (x < -(2 ^ 63)) || decide (x ≥ 2 ^ 63)) = false) (c1 : (items.isEmpty || x == 1) = false) (c2 : (decide (x ≤ 0) || items.isEmpty) = true) :
    Meets (Builtin.«tuple.__mul__» ⟨[.ref l, .int x u], []⟩) (fun _ R s => s.heap.get? l = some { cls := .type "tuple", dict := dd, data := .seq items n, slots := sl } ∧
      R (.ok (.ret (Value.ref s.heap.objs.size))) { s with heap := s.heap.push { cls := Value.type "tuple", data := Data.seq #[] }, toks := s.toks }) :=
  .of_wp fun prog w A R s h => by
    obtain ⟨hp, g, d, tk, os⟩ := s
    obtain ⟨hl, h⟩ := h
    have f1 := AutoSeq1.idx_int
    have hsz : (#[] : Array Value).size ≤ sizeLine := Nat.zero_le _
    wp_walk using AutoSeq1.wpAny_loadPart' hl
    repeat (first
      | (refine wpAny_ite_false (decide_eq_false (by rw [c0]; exact Bool.false_ne_true)) ?_; wp_walk using AutoSeq1.wpAny_loadPart' hl)
      | (refine wpAny_ite_false (decide_eq_false (by rw [c1]; exact Bool.false_ne_true)) ?_; wp_walk using AutoSeq1.wpAny_loadPart' hl)
      | (refine wpAny_ite_true (decide_eq_true (by rw [c2])) ?_; wp_walk using AutoSeq1.wpAny_loadPart' hl)
      | (refine wpAny_ite_false (decide_eq_false (Nat.not_lt.mpr hsz)) ?_; wp_walk using AutoSeq1.wpAny_loadPart' hl))
    exact ⟨_, rfl, h⟩
theorem tuple_mul1 (l : Addr) (items : Array Value) (n : Nat) (dd : Option Addr) (sl : Array (Option Value)) (u : Tok) :
    Meets (Builtin.«tuple.__mul__» ⟨[.ref l, .int 1 u], []⟩) (fun _ R s => s.heap.get? l = some { cls := .type "tuple", dict := dd, data := .seq items n, slots := sl } ∧
      R (.ok (.ret (Value.ref l))) s) :=
  .of_wp fun prog w A R s h => by
    obtain ⟨hp, g, d, tk, os⟩ := s
    obtain ⟨hl, h⟩ := h
    have f1 := AutoSeq1.idx_int
    have c0 : (decide ((1 : Int) < -(2 ^ 63)) || decide ((1 : Int) ≥ 2 ^ 63)) = false := by decide
    have c1 : (items.isEmpty || (1 : Int) == 1) = true := by simp
    wp_walk using AutoSeq1.wpAny_loadPart' hl
    repeat (first
      | (refine wpAny_ite_false (decide_eq_false (by rw [c0]; exact Bool.false_ne_true)) ?_; wp_walk using AutoSeq1.wpAny_loadPart' hl)
      | (refine wpAny_ite_true (decide_eq_true (by rw [c1])) ?_; wp_walk using AutoSeq1.wpAny_loadPart' hl))
    exact ⟨_, rfl, h⟩
def rRepX2 (K : PySem.W.Frag) : R2 := fun x y H Q => ∃ l k xs, x = .ref l ∧ y = .int k ∧ SqT K H l xs ∧ xs ≠ [] ∧ 2 ≤ k ∧ k ≤ 1000 ∧ xs.length ≤ 1000 ∧ NewT (List.replicate k.toNat xs).flatten H Q
theorem op_repX2 : OpR X (binaryOp .Mult) (rRepX2 X.K) := by
  intro pins s σ H x y v u Q I rx ry h
  obtain ⟨l, k, xs, rfl, rfl, hT, hne, h1, h2, hz, q⟩ := h
  cases rx
  obtain ⟨t, rfl⟩ := ry
  obtain ⟨its, r, ⟨⟨cls, dd, data, sl⟩, ho, hc, n, hd⟩, hs⟩ := I.tuple hT
  simp only at hc hd
  subst hc hd
  have hle : its.length = xs.length := r.length.symm
  have hn : its ≠ [] := fun e => hne (List.eq_nil_of_length_eq_zero (by rw [← hle, e]; rfl))
  have hi : its.toArray.isEmpty = false := by cases its with | nil => exact absurd rfl hn | cons a b => rfl
  have hsz0 : its.toArray.size = xs.length := by rw [List.size_toArray, hle]
  have hm : ((its.toArray.size : Nat) : Int) * k ≤ 1000000 := by
    have a1 : ((xs.length : Nat) : Int) * k ≤ 1000 * k := Int.mul_le_mul_of_nonneg_right (by omega) (by omega)
    rw [hsz0]; omega
  have a2 : k.toNat * xs.length ≤ 1000 * 1000 := Nat.mul_le_mul (by omega) hz
  have flen : (List.replicate k.toNat its).flatten.length ≤ sizeLine := by
    rw [PyProof.Rows.lm_len_rep_flat, hle, sizeLine_eq]; omega
  have c0 : (decide (k < -(2 ^ 63)) || decide (k ≥ 2 ^ 63)) = false := by
    rw [decide_eq_false (by omega), decide_eq_false (by omega)] <;> rfl
  have c1 : (its.toArray.isEmpty || k == 1) = false := by rw [hi, Bool.false_or]; exact beq_eq_false_iff_ne.mpr (by omega)
  have c2 : (decide (k ≤ 0) || its.toArray.isEmpty) = false := by rw [hi, Bool.or_false]; exact decide_eq_false (by omega)
  have c4 : Builtin.Tuple.tupleTooMany (((its.toArray.size : Nat) : Int) * k) = false := by
    unfold Builtin.Tuple.tupleTooMany
    rw [sizeLine_eq]; exact decide_eq_false (by omega)
  refine wpAny_binaryOp_repeat_ref (T := "tuple") (U := "int") (by decide) ⟨_, ho, rfl⟩ (fun s' => typeIs_int s' k t) noFill_tuple_mul F.fills_int_mul F.slot_int_rmul repeat_tuple F.slot_int_index.lookup
    (call_meets F.slot_int_rmul (typeIs_int s k t) F.entry_int_rmul (F.args_int_rmul_2 _ _) (int_rmul_tuple k t l its.toArray n dd sl)
      ⟨ho, rfl, ⟨_, ho, rfl⟩, call_meets F.slot_tuple_mul ⟨_, ho, rfl⟩ F.entry_tuple_mul (F.args_tuple_mul_2 _ _) (tuple_mulW l its.toArray n dd sl k t c0 c1 c2 (by omega) c4 (by rw [size_rep, List.size_toArray]; exact flen)) ⟨ho, ?_⟩⟩)
  rw [size_rep]
  exact laidX I (by rw [PyProof.Rows.lm_len_rep_flat, sizeLine_eq]; omega) (r.rep k.toNat) q
/-- t * n, n of any sign -/
def rRepX (K : PySem.W.Frag) : R2 := fun x y H Q => ∃ l k xs, x = .ref l ∧ y = .int k ∧ SqT K H l xs ∧ xs ≠ [] ∧ -1000 ≤ k ∧ k ≤ 1000 ∧ xs.length ≤ 1000 ∧ (k ≤ 0 → NewT [] H Q) ∧ (k = 1 → Q (.ref l) H) ∧ (2 ≤ k → NewT (List.replicate k.toNat xs).flatten H Q)
theorem op_repX : OpR X (binaryOp .Mult) (rRepX X.K) := by
  intro pins s σ H x y v u Q I rx ry h
  obtain ⟨l, k, xs, rfl, rfl, hT, hne, h1, h2, hz, q0, q1, q2⟩ := h
  by_cases hk : 2 ≤ k
  · exact op_repX2 pins s σ H _ _ v u Q I rx ry ⟨l, k, xs, rfl, rfl, hT, hne, hk, h2, hz, q2 hk⟩
  cases rx
  obtain ⟨t, rfl⟩ := ry
  obtain ⟨its, r, ⟨⟨cls, dd, data, sl⟩, ho, hc, n, hd⟩, hs⟩ := I.tuple hT
  simp only at hc hd
  subst hc hd
  have hle : its.length = xs.length := r.length.symm
  have hn : its ≠ [] := fun e => hne (List.eq_nil_of_length_eq_zero (by rw [← hle, e]; rfl))
  have hi : its.toArray.isEmpty = false := by cases its with | nil => exact absurd rfl hn | cons a b => rfl
  by_cases hk1 : k = 1
  · subst hk1
    refine wpAny_binaryOp_repeat_ref (T := "tuple") (U := "int") (by decide) ⟨_, ho, rfl⟩ (fun s' => typeIs_int s' 1 t) noFill_tuple_mul F.fills_int_mul F.slot_int_rmul repeat_tuple F.slot_int_index.lookup
      (call_meets F.slot_int_rmul (typeIs_int s 1 t) F.entry_int_rmul (F.args_int_rmul_2 _ _) (int_rmul_tuple 1 t l its.toArray n dd sl)
        ⟨ho, rfl, ⟨_, ho, rfl⟩, call_meets F.slot_tuple_mul ⟨_, ho, rfl⟩ F.entry_tuple_mul (F.args_tuple_mul_2 _ _) (tuple_mul1 l its.toArray n dd sl t) ⟨ho, ⟨.ref l, H, I, rfl, q1 rfl⟩⟩⟩)
  · have c0 : (decide (k < -(2 ^ 63)) || decide (k ≥ 2 ^ 63)) = false := by
      rw [decide_eq_false (by omega), decide_eq_false (by omega)] <;> rfl
    have c1 : (its.toArray.isEmpty || k == 1) = false := by rw [hi, Bool.false_or]; exact beq_eq_false_iff_ne.mpr hk1
    have c2 : (decide (k ≤ 0) || its.toArray.isEmpty) = true := by rw [decide_eq_true (by omega), Bool.true_or]
    refine wpAny_binaryOp_repeat_ref (T := "tuple") (U := "int") (by decide) ⟨_, ho, rfl⟩ (fun s' => typeIs_int s' k t) noFill_tuple_mul F.fills_int_mul F.slot_int_rmul repeat_tuple F.slot_int_index.lookup
      (call_meets F.slot_int_rmul (typeIs_int s k t) F.entry_int_rmul (F.args_int_rmul_2 _ _) (int_rmul_tuple k t l its.toArray n dd sl)
        ⟨ho, rfl, ⟨_, ho, rfl⟩, call_meets F.slot_tuple_mul ⟨_, ho, rfl⟩ F.entry_tuple_mul (F.args_tuple_mul_2 _ _) (tuple_mul0 l its.toArray n dd sl k t c0 c1 c2) ⟨ho, ?_⟩⟩)
    exact laidX (its := []) I (Nat.zero_le _) .nil (q0 (by omega))
end
end MP
set_option maxRecDepth 100000
set_option maxHeartbeats 1000000
/-! R1b: a frame's state, what an evaluation may change, readings of semantic results. -/
namespace MP
open PySem PySem.Spec PyProof.Rows L2

section
variable (G : Nms)
/-- the shared objects -/
structure RelSh (W : Wd) (m : List U) (H : Hp) : Prop where
  len : m.length = W.al.length
  nod : W.al.Nodup
  mem : ∀ (n : Nat) (a : Addr), W.al[n]? = some a → ¬ W.fz a ∧ ∃ u : U, m[n]? = some u ∧ Cont G W H a u
  sm : ∀ a, W.fz a → ∃ o, H a = some o
def SltOk (W : Wd) (H : Hp) (a : Option V) : Slt → Prop
  | .no => True
  | .val u => ∃ v, a = some v ∧ RepV G W H u v
  | .own u => ∃ p, a = some (.ref p) ∧ ¬ W.fz p ∧ p ∉ W.al ∧ Cont G W H p u
/-- a's object is the name's own -/
def Ownd (s : Sta) (σ : L2.St) (a : Addr) : Prop := ∃ (i : Nat) (u : U), s.r[i]? = some (Slt.own u) ∧ σ[i]? = some (some (V.ref a))
structure RelFr (W : Wd) (s : Sta) (σ : L2.St) (H : Hp) : Prop where
  len : s.r.length = σ.length
  slt : ∀ (i : Nat) (x : Slt), s.r[i]? = some x → ∃ y, σ[i]? = some y ∧ SltOk G W H y x
  apart : ∀ (i j : Nat) (u u' : U) (a : Addr), i ≠ j → s.r[i]? = some (Slt.own u) → s.r[j]? = some (Slt.own u') → σ[i]? = some (some (V.ref a)) → σ[j]? = some (some (V.ref a)) → False
  m : RelSh G W s.m H
end

/-- what a call may change -/
structure ExtM (W W' : Wd) (H H' : Hp) : Prop where
  le : W.le W'
  kp : Kp W H H'
  fr : ∀ a o, H a = some o → a ∉ W.al → H' a = some o
  new : ∀ a, ((W'.fz a ∧ ¬ W.fz a) ∨ (a ∈ W'.al ∧ a ∉ W.al)) → H a = none ∨ a ∈ W.al
/-- what an expression may change -/
structure Ext (s s' : Sta) (σ : L2.St) (W W' : Wd) (H H' : Hp) : Prop where
  le : W.le W'
  kp : Kp W H H'
  fr : ∀ a o, H a = some o → a ∉ W.al → ¬ Ownd s σ a → H' a = some o
  new : ∀ a, ((W'.fz a ∧ ¬ W.fz a) ∨ (a ∈ W'.al ∧ a ∉ W.al)) → H a = none ∨ Ownd s σ a ∨ a ∈ W.al
  own : ∀ (i : Nat) (u' : U), s'.r[i]? = some (Slt.own u') → ∃ u : U, s.r[i]? = some (Slt.own u)
  len : s'.r.length = s.r.length

theorem Ownd.mono {s s' : Sta} {σ : L2.St} (h : ∀ (i : Nat) (u' : U), s'.r[i]? = some (Slt.own u') → ∃ u : U, s.r[i]? = some (Slt.own u)) {a : Addr} (o : Ownd s' σ a) : Ownd s σ a := by
  obtain ⟨i, u', h1, h2⟩ := o
  obtain ⟨u, h3⟩ := h i u' h1
  exact ⟨i, u, h3, h2⟩
theorem Ext.refl (s : Sta) (σ : L2.St) (W : Wd) (H : Hp) : Ext s s σ W W H H :=
  ⟨.refl W, .refl W H, fun _ _ h _ _ => h, fun a h => by rcases h with ⟨h1, h2⟩ | ⟨h1, h2⟩ <;> exact absurd h1 h2, fun i u h => ⟨u, h⟩, rfl⟩
theorem Wd.le.mem {W W' : Wd} (l : W.le W') {a : Addr} (h : a ∈ W.al) : a ∈ W'.al := by
  obtain ⟨r, e⟩ := l.al
  rw [e]; exact List.mem_append_left _ h
theorem Ext.trans {s s1 s2 : Sta} {σ : L2.St} {W W1 W2 : Wd} {H H1 H2 : Hp} (a : Ext s s1 σ W W1 H H1) (b : Ext s1 s2 σ W1 W2 H1 H2) : Ext s s2 σ W W2 H H2 := by
  have key : ∀ x, H1 x = none → H x = none ∨ Ownd s σ x ∨ x ∈ W.al := fun x h1 => by
    cases e : H x with
    | none => exact .inl rfl
    | some o =>
      by_cases h2 : x ∈ W.al
      · exact .inr (.inr h2)
      · by_cases h3 : Ownd s σ x
        · exact .inr (.inl h3)
        · have z := a.fr x o e h2 h3
          rw [h1] at z; cases z
  refine ⟨a.le.trans b.le, a.kp.trans a.le b.kp, fun x o h h1 h2 => ?_, fun x h => ?_, fun i u h => ?_, b.len.trans a.len⟩
  · refine b.fr x o (a.fr x o h h1 h2) (fun h3 => ?_) fun h3 => h2 (h3.mono a.own)
    rcases a.new x (.inr ⟨h3, h1⟩) with z | z | z
    · rw [h] at z; cases z
    · exact h2 z
    · exact h1 z
  · have lift : (H1 x = none ∨ Ownd s1 σ x ∨ x ∈ W1.al) → H x = none ∨ Ownd s σ x ∨ x ∈ W.al := fun z => by
      rcases z with z | z | z
      · exact key x z
      · exact .inr (.inl (z.mono a.own))
      · by_cases h3 : x ∈ W.al
        · exact .inr (.inr h3)
        · exact a.new x (.inr ⟨z, h3⟩)
    rcases h with ⟨h1, h2⟩ | ⟨h1, h2⟩
    · by_cases h3 : W1.fz x
      · exact a.new x (.inl ⟨h3, h2⟩)
      · exact lift (b.new x (.inl ⟨h1, h3⟩))
    · by_cases h3 : x ∈ W1.al
      · exact a.new x (.inr ⟨h3, h2⟩)
      · exact lift (b.new x (.inr ⟨h1, h3⟩))
  · obtain ⟨u', h'⟩ := b.own i u h
    exact a.own i u' h'

section
variable {G : Nms}
theorem Cont.mono {W W' : Wd} {H H' : Hp} (l : W.le W') (k : Kp W H H') {a : Addr} (h : ∀ o, H a = some o → H' a = some o) : ∀ {u : U}, Cont G W H a u → Cont G W' H' a u := by
  intro u c
  cases u <;> simp only [Cont] at c ⊢
  · obtain ⟨vs, h1, h2⟩ := c
    exact ⟨vs, h _ h1, RepVs.mono l k _ h2⟩
  · rcases c with ⟨kvs, h1, h2, h3⟩ | ⟨ys, h0, h1, h2, h3, h4, h5⟩
    · exact .inl ⟨kvs, h _ h1, h2, RepVs.mono l k _ h3⟩
    · exact .inr ⟨ys, h0, h _ h1, h2, h3, RepVs.mono l k _ h4, RepVs.mono l k _ h5⟩
  · obtain ⟨dx, fvs, h1, ws, h2, h3⟩ := c
    exact ⟨dx, fvs, h _ h1, ws, RepFs.mono l k _ h2, h3⟩

/-- an exception as it is raised -/
def ExcOk (G : Nms) (W : Wd) (H : Hp) (e : U) (cls : Value) (d : Option Addr) : Prop := ∃ c, e = .exc c [] ∧ cls = .ref (G.cA c) ∧ d = none

/-- what is wanted behind a semantic result -/
def tAt {α β : Type} (G : Nms) (Wx : WX) (r : Rs α) (W : Wd) (s : Sta) (σ : L2.St) (H : Hp) (R : Wd → Sta → Hp → α → β → Prop) (Q : β → Hp → Prop) : Prop :=
  match r with
  | .ok a s' => ∀ W' H' b, Ext s s' σ W W' H H' → RelFr G W' s' σ H' → R W' s' H' a b → Q b H'
  | .exc e s' => ∀ W' H' cls d, Ext s s' σ W W' H H' → RelFr G W' s' σ H' → ExcOk G W' H' e cls d → Wx cls d σ H'
  | .stuck => False
theorem tAt.shift {α β : Type} {Wx : WX} {r : Rs α} {W W1 : Wd} {s s1 : Sta} {σ : L2.St} {H H1 : Hp} {R : Wd → Sta → Hp → α → β → Prop} {Q : β → Hp → Prop}
    (e : Ext s s1 σ W W1 H H1) (h : tAt G Wx r W s σ H R Q) : tAt G Wx r W1 s1 σ H1 R Q := by
  cases r with
  | ok a s' => exact fun W' H' b e' => h W' H' b (e.trans e')
  | exc x s' => exact fun W' H' cls d e' => h W' H' cls d (e.trans e')
  | stuck => exact h
theorem tAt.bind {α β γ δ : Type} {Wx : WX} {f : Rs α} {k : α → Sta → Rs γ} {W : Wd} {s : Sta} {σ : L2.St} {H : Hp} {R' : Wd → Sta → Hp → γ → δ → Prop} {Q : δ → Hp → Prop} (R : Wd → Sta → Hp → α → β → Prop)
    (h : tAt G Wx (f.bind k) W s σ H R' Q) :
    tAt G Wx f W s σ H R fun b H1 => ∃ a W1 s1, f = .ok a s1 ∧ Ext s s1 σ W W1 H H1 ∧ RelFr G W1 s1 σ H1 ∧ R W1 s1 H1 a b ∧ tAt G Wx (k a s1) W1 s1 σ H1 R' Q := by
  cases f with
  | ok a s' => exact fun W' H' b e r q => ⟨a, W', s', rfl, e, r, q, h.shift e⟩
  | exc x s' => exact h
  | stuck => exact h
theorem tAt.imp {α β β' : Type} {Wx : WX} {r : Rs α} {W : Wd} {s : Sta} {σ : L2.St} {H : Hp} {R : Wd → Sta → Hp → α → β → Prop} {R' : Wd → Sta → Hp → α → β' → Prop} {Q : β → Hp → Prop} {Q' : β' → Hp → Prop}
    (h : tAt G Wx r W s σ H R Q) (hq : ∀ a s' W' H' b, r = .ok a s' → Ext s s' σ W W' H H' → RelFr G W' s' σ H' → R' W' s' H' a b → (∀ b', R W' s' H' a b' → Q b' H') → Q' b H') : tAt G Wx r W s σ H R' Q' := by
  cases r with
  | ok a s' => exact fun W' H' b e rl rr => hq a s' W' H' b rfl e rl rr fun b' r' => h W' H' b' e rl r'
  | exc x s' => exact h
  | stuck => exact h

/-! ### readings -/
def RV (G : Nms) : Wd → Sta → Hp → U → V → Prop := fun W _ H u v => RepV G W H u v
def RVs (G : Nms) : Wd → Sta → Hp → List U → List V → Prop := fun W _ H u v => RepVs G W H u v
/-- an argument: a value, or the name's own object -/
def RA (G : Nms) (σ : L2.St) : Wd → Sta → Hp → AV → V → Prop := fun W s H a v => match a with
  | .v u => RepV G W H u v
  | .own i => σ[i]? = some (some v)
def RAs (G : Nms) (σ : L2.St) : Wd → Sta → Hp → List AV → List V → Prop := fun W s H as vs => Paired (fun a v => RA G σ W s H a v) as vs
def RB : Wd → Sta → Hp → Bool → Bool → Prop := fun _ _ _ a b => a = b

def tR {α β : Type} (G : Nms) (Wx : WX) (f : Sta → Rs α) (R : L2.St → Wd → Sta → Hp → α → β → Prop) : L2.St → Hp → (β → Hp → Prop) → Prop := fun σ H Q => ∃ W s, RelFr G W s σ H ∧ tAt G Wx (f s) W s σ H (R σ) Q
def tE (G : Nms) (Wx : WX) (g : Gst) (m : ME) : TE := tR G Wx (evalE g m) fun _ => RV G
def tEs (G : Nms) (Wx : WX) (g : Gst) (ms : List ME) : TA := tR G Wx (evalEs g ms) fun _ => RVs G
def tArg (G : Nms) (Wx : WX) (g : Gst) (m : ME) : TE := tR G Wx (argOf (fun s => evalE g m s) m) fun σ => RA G σ
def tArgs (G : Nms) (Wx : WX) (g : Gst) (ms : List ME) : TA := tR G Wx (evalAs g ms) fun σ => RAs G σ
def tCond (G : Nms) (Wx : WX) (g : Gst) (m : ME) : TT := tR G Wx (condOf (fun s => evalE g m s) m) fun _ => RB

/-! ### from a state to a later one -/
theorem RelFr.valAt {W : Wd} {s : Sta} {σ : L2.St} {H : Hp} (r : RelFr G W s σ H) {i : Nat} {u : U} (h : slot s i = .val u) : ∃ v, σ[i]? = some (some v) ∧ RepV G W H u v := by
  unfold slot at h
  cases e : s.r[i]? with
  | none => rw [List.getD_eq_getElem?_getD, e] at h; cases h
  | some x =>
    rw [List.getD_eq_getElem?_getD, e] at h
    have h' : x = .val u := h
    subst h'
    obtain ⟨y, h1, v, rfl, h2⟩ := r.slt i _ e
    exact ⟨v, h1, h2⟩
theorem RelFr.ownAt {W : Wd} {s : Sta} {σ : L2.St} {H : Hp} (r : RelFr G W s σ H) {i : Nat} {u : U} (h : slot s i = .own u) : s.r[i]? = some (Slt.own u) ∧ ∃ p, σ[i]? = some (some (V.ref p)) ∧ ¬ W.fz p ∧ p ∉ W.al ∧ Cont G W H p u := by
  unfold slot at h
  cases e : s.r[i]? with
  | none => rw [List.getD_eq_getElem?_getD, e] at h; cases h
  | some x =>
    rw [List.getD_eq_getElem?_getD, e] at h
    have h' : x = .own u := h
    subst h'
    obtain ⟨y, h1, p, rfl, h2, h3, h4⟩ := r.slt i _ e
    exact ⟨rfl, p, h1, h2, h3, h4⟩
theorem RepV.ext {W W1 : Wd} {s s1 : Sta} {σ : L2.St} {H H1 : Hp} (e : Ext s s1 σ W W1 H H1) {u : U} {v : V} (h : RepV G W H u v) : RepV G W1 H1 u v := RepV.mono e.le e.kp u h
theorem RepVs.ext {W W1 : Wd} {s s1 : Sta} {σ : L2.St} {H H1 : Hp} (e : Ext s s1 σ W W1 H H1) {u : List U} {v : List V} (h : RepVs G W H u v) : RepVs G W1 H1 u v := RepVs.mono e.le e.kp u h
theorem Cont.not_tup {W : Wd} {H : Hp} {a : Addr} {u : U} (c : Cont G W H a u) {xs : List V} (h : H a = some (.tup xs)) : False := by
  cases u <;> simp only [Cont] at c
  · obtain ⟨vs, h1, _⟩ := c; rw [h] at h1; cases h1
  · rcases c with ⟨kvs, h1, _⟩ | ⟨ys, _, h1, _⟩ <;> (rw [h] at h1; cases h1)
  · obtain ⟨dx, fvs, h1, _⟩ := c; rw [h] at h1; cases h1
theorem RepVs.length {W : Wd} {H : Hp} : ∀ {us : List U} {vs : List V}, RepVs G W H us vs → us.length = vs.length
  | [], _, h => by simp only [RepVs] at h; subst h; rfl
  | u :: us, _, h => by
    simp only [RepVs] at h
    obtain ⟨v, r, rfl, _, h2⟩ := h
    rw [List.length_cons, List.length_cons, RepVs.length h2]
theorem RepVs.get {W : Wd} {H : Hp} : ∀ {us : List U} {vs : List V} {i : Nat} {u : U}, RepVs G W H us vs → us[i]? = some u → ∃ v, vs[i]? = some v ∧ RepV G W H u v
  | [], _, _, _, _, e => by simp at e
  | u :: us, _, 0, _, h, e => by
    simp only [RepVs] at h
    obtain ⟨v, r, rfl, h1, _⟩ := h
    simp at e; subst e
    exact ⟨v, rfl, h1⟩
  | u :: us, _, i + 1, _, h, e => by
    simp only [RepVs] at h
    obtain ⟨v, r, rfl, _, h2⟩ := h
    obtain ⟨w, e1, e2⟩ := RepVs.get h2 (show us[i]? = _ by simpa using e)
    exact ⟨w, by simpa using e1, e2⟩
theorem RepVs.append {W : Wd} {H : Hp} : ∀ {us us' : List U} {vs vs' : List V}, RepVs G W H us vs → RepVs G W H us' vs' → RepVs G W H (us ++ us') (vs ++ vs')
  | [], _, _, _, h, h' => by simp only [RepVs] at h; subst h; exact h'
  | u :: us, _, _, _, h, h' => by
    simp only [RepVs] at h
    obtain ⟨v, r, rfl, h1, h2⟩ := h
    simp only [List.cons_append, RepVs]
    exact ⟨v, _, rfl, h1, RepVs.append h2 h'⟩

/-! ### ends: nothing new, a new tuple, list, dict -/
/-- a result without a new object -/
theorem tAt.fin {α β : Type} {Wx : WX} {a : α} {W : Wd} {s : Sta} {σ : L2.St} {H : Hp} {R : Wd → Sta → Hp → α → β → Prop} {Q : β → Hp → Prop} {b : β} (h : tAt G Wx (.ok a s) W s σ H R Q) (r : RelFr G W s σ H) (q : R W s H a b) : Q b H :=
  h W H b (.refl s σ W H) r q
theorem kp_upd {W : Wd} {H : Hp} {p : Addr} {o : HO} (hp : H p = none) : Kp W H (upd H p o) :=
  ⟨fun a x _ h => by rw [upd_ne (ne_of_none h hp)]; exact h, fun a xs h => by rw [upd_ne (ne_of_none h hp)]; exact h, fun a o u h => by rw [upd_ne (ne_of_none h hp)]; exact h⟩
theorem RelSh.upd {W : Wd} {m : List U} {H : Hp} {p : Addr} {o : HO} (hp : H p = none) (r : RelSh G W m H) : RelSh G W m (upd H p o) :=
  ⟨r.len, r.nod, fun n a h => by
    obtain ⟨h1, u, h2, h3⟩ := r.mem n a h
    exact ⟨h1, u, h2, h3.mono (.refl W) (kp_upd hp) fun o' e => by rw [upd_ne (ne_of_none e hp)]; exact e⟩, fun a h => by
    obtain ⟨x, e⟩ := r.sm a h
    exact ⟨x, by rw [upd_ne (ne_of_none e hp)]; exact e⟩⟩
theorem Cont.some {W : Wd} {H : Hp} {a : Addr} {u : U} (c : Cont G W H a u) : ∃ o, H a = Option.some o := by
  cases u <;> simp only [Cont] at c
  · obtain ⟨vs, h1, _⟩ := c; exact ⟨_, h1⟩
  · rcases c with ⟨kvs, h1, _⟩ | ⟨ys, _, h1, _⟩ <;> exact ⟨_, h1⟩
  · obtain ⟨dx, fvs, h1, _⟩ := c; exact ⟨_, h1⟩
theorem RelFr.upd {W : Wd} {s : Sta} {σ : L2.St} {H : Hp} {p : Addr} {o : HO} (hp : H p = none) (r : RelFr G W s σ H) : RelFr G W s σ (upd H p o) :=
  ⟨r.len, fun i x h => by
    obtain ⟨y, h1, h2⟩ := r.slt i x h
    refine ⟨y, h1, ?_⟩
    cases x with
    | no => trivial
    | val u => obtain ⟨v, e, q⟩ := h2; exact ⟨v, e, RepV.mono (.refl W) (kp_upd hp) _ q⟩
    | own u => obtain ⟨q, e, f, n, c⟩ := h2; exact ⟨q, e, f, n, c.mono (.refl W) (kp_upd hp) fun o' e => by rw [upd_ne (ne_of_none e hp)]; exact e⟩, r.apart, r.m.upd hp⟩
theorem Ext.upd {s : Sta} {σ : L2.St} {W : Wd} {H : Hp} {p : Addr} {o : HO} (hp : H p = none) : Ext s s σ W W H (upd H p o) :=
  ⟨.refl W, kp_upd hp, fun a x h _ _ => by rw [upd_ne (ne_of_none h hp)]; exact h, fun a h => by rcases h with ⟨h1, h2⟩ | ⟨h1, h2⟩ <;> exact absurd h1 h2, fun i u h => ⟨u, h⟩, rfl⟩
theorem tAt.finT {α : Type} {Wx : WX} {a : α} {W : Wd} {s : Sta} {σ : L2.St} {H : Hp} {R : Wd → Sta → Hp → α → V → Prop} {Q : VK} {vs : List V} (h : tAt G Wx (.ok a s) W s σ H R Q) (r : RelFr G W s σ H)
    (q : ∀ p, H p = none → R W s (upd H p (.tup vs)) a (.ref p)) (p : Addr) (hp : H p = none) : Q (.ref p) (upd H p (.tup vs)) :=
  h W _ _ (.upd hp) (r.upd hp) (q p hp)
/-- a world with one more frozen object -/
def Wd.ice (W : Wd) (p : Addr) : Wd := ⟨W.al, fun a => W.fz a ∨ a = p⟩
theorem Wd.le_ice {W : Wd} {p : Addr} : W.le (W.ice p) := ⟨⟨[], by simp [Wd.ice]⟩, fun _ h => .inl h⟩
theorem RelSh.ice {W : Wd} {m : List U} {H : Hp} {p : Addr} {o : HO} (hp : p ∉ W.al) (ho : H p = Option.some o) (r : RelSh G W m H) : RelSh G (W.ice p) m H :=
  ⟨r.len, r.nod, fun n a h => by
    obtain ⟨h1, u, h2, h3⟩ := r.mem n a h
    refine ⟨fun z => ?_, u, h2, h3.mono Wd.le_ice (.refl W H) fun _ e => e⟩
    rcases z with z | z
    · exact h1 z
    · subst z; exact hp (List.mem_of_getElem? h), fun a h => by
    rcases h with h | h
    · exact r.sm a h
    · subst h; exact ⟨o, ho⟩⟩
theorem RelFr.ice {W : Wd} {s : Sta} {σ : L2.St} {H : Hp} {p : Addr} {o : HO} (hp : p ∉ W.al) (hsm : H p = Option.some o) (ho : ¬ Ownd s σ p) (r : RelFr G W s σ H) : RelFr G (W.ice p) s σ H :=
  ⟨r.len, fun i x h => by
    obtain ⟨y, h1, h2⟩ := r.slt i x h
    refine ⟨y, h1, ?_⟩
    cases x with
    | no => trivial
    | val u => obtain ⟨v, e, q⟩ := h2; exact ⟨v, e, RepV.mono Wd.le_ice (.refl W H) _ q⟩
    | own u =>
      obtain ⟨q, e, f, n, c⟩ := h2
      refine ⟨q, e, fun z => ?_, n, c.mono Wd.le_ice (.refl W H) fun _ e => e⟩
      rcases z with z | z
      · exact f z
      · subst z
        rw [e] at h1
        exact ho ⟨i, u, h, h1⟩, r.apart, r.m.ice hp hsm⟩
theorem RelSh.al_some {W : Wd} {m : List U} {H : Hp} (r : RelSh G W m H) {a : Addr} (h : a ∈ W.al) : ∃ o, H a = Option.some o := by
  obtain ⟨n, hn⟩ := List.getElem?_of_mem h
  obtain ⟨_, u, _, c⟩ := r.mem n a hn
  exact c.some
theorem RelFr.own_some {W : Wd} {s : Sta} {σ : L2.St} {H : Hp} (r : RelFr G W s σ H) {a : Addr} (h : Ownd s σ a) : ∃ o, H a = Option.some o := by
  obtain ⟨i, u, h1, h2⟩ := h
  obtain ⟨y, h3, p, e, _, _, c⟩ := r.slt i _ h1
  rw [e] at h3
  rw [h2] at h3
  cases h3
  exact c.some
/-- a new list, dict, frozen at once -/
theorem tAt.finO {α : Type} {Wx : WX} {a : α} {W : Wd} {s : Sta} {σ : L2.St} {H : Hp} {R : Wd → Sta → Hp → α → V → Prop} {Q : VK} {o : HO} (h : tAt G Wx (.ok a s) W s σ H R Q) (r : RelFr G W s σ H)
    (p : Addr) (hp : H p = none) (q : R (W.ice p) s (L2.upd H p o) a (.ref p)) : Q (.ref p) (L2.upd H p o) := by
  have n1 : p ∉ W.al := fun z => by
    obtain ⟨x, e⟩ := r.m.al_some z
    rw [hp] at e; cases e
  have n2 : ¬ Ownd s σ p := fun z => by
    obtain ⟨x, e⟩ := r.own_some z
    rw [hp] at e; cases e
  refine h (W.ice p) _ _ ⟨Wd.le_ice, kp_upd hp, fun a x h _ _ => by rw [upd_ne (ne_of_none h hp)]; exact h, fun a h => ?_, fun i u h => ⟨u, h⟩, rfl⟩ ((r.upd hp).ice n1 upd_same n2) q
  rcases h with ⟨h1, h2⟩ | ⟨h1, h2⟩
  · rcases h1 with h1 | h1
    · exact absurd h1 h2
    · subst h1; exact .inl hp
  · exact absurd h1 h2
end
end MP
set_option maxRecDepth 100000
set_option maxHeartbeats 1000000
/-! R1c: what each reading operation comes to, by the hand layer's rules of values. -/
namespace MP
open PySem PySem.Spec PyProof.Rows L2

section
variable {G : Nms} {W : Wd} {H : Hp}
/-- a content: a value, or what stands at an address that may be changed -/
def CRep (G : Nms) (W : Wd) (H : Hp) (u : U) (v : V) : Prop := RepV G W H u v ∨ ∃ p, v = .ref p ∧ Cont G W H p u

theorem CRep.non {v : V} (h : CRep G W H .non v) : v = .non := by
  rcases h with h | ⟨p, _, c⟩
  · simpa only [RepV] using h
  · simp only [Cont] at c
theorem CRep.bl {b : Bool} {v : V} (h : CRep G W H (.bl b) v) : v = .bl b := by
  rcases h with h | ⟨p, _, c⟩
  · simpa only [RepV] using h
  · simp only [Cont] at c
theorem CRep.int {i : Int} {v : V} (h : CRep G W H (.int i) v) : v = .int i := by
  rcases h with h | ⟨p, _, c⟩
  · simpa only [RepV] using h
  · simp only [Cont] at c
theorem CRep.str {x : List Nat} {v : V} (h : CRep G W H (.str x) v) : v = .str (sOf x) := by
  rcases h with h | ⟨p, _, c⟩
  · simpa only [RepV] using h
  · simp only [Cont] at c
theorem CRep.tup {us : List U} {v : V} (h : CRep G W H (.tup us) v) : ∃ p vs, v = .ref p ∧ TX H p vs ∧ RepVs G W H us vs := by
  rcases h with h | ⟨p, _, c⟩
  · simpa only [RepV] using h
  · simp only [Cont] at c
theorem CRep.prs {us : List U} {v : V} (h : CRep G W H (.prs us) v) : ∃ p vs, v = .ref p ∧ H p = some (.tup vs) ∧ RepVs G W H us vs := by
  rcases h with h | ⟨p, _, c⟩
  · simpa only [RepV] using h
  · simp only [Cont] at c
theorem CRep.lst {us : List U} {v : V} (h : CRep G W H (.lst us) v) : ∃ p vs, v = .ref p ∧ H p = some (.lst vs) ∧ RepVs G W H us vs := by
  rcases h with h | ⟨p, e, c⟩
  · simp only [RepV] at h
    obtain ⟨p, vs, e, _, h1, h2⟩ := h
    exact ⟨p, vs, e, h1, h2⟩
  · simp only [Cont] at c
    obtain ⟨vs, h1, h2⟩ := c
    exact ⟨p, vs, e, h1, h2⟩
theorem CRep.scr {us : List U} {v : V} (h : CRep G W H (.scr us) v) : ∃ p vs, v = .ref p ∧ SqL G.K H p vs ∧ RepVs G W H us vs := by
  rcases h with h | ⟨p, e, c⟩
  · simp only [RepV] at h
    obtain ⟨p, vs, e, h1, h2⟩ := h
    exact ⟨p, vs, e, h1.sq, h2⟩
  · simp only [Cont] at c

/-! ### data as a whole -/
mutual
def pyU : U → PyData
  | .non => .none
  | .bl b => .bool b
  | .int i => .int i
  | .str s => .str (sOf s)
  | .tup us => .tuple (pyUs us)
  | .lst us => .list (pyUs us)
  | .scr us => .list (pyUs us)
  | _ => .none
def pyUs : List U → List PyData
  | [] => []
  | u :: us => pyU u :: pyUs us
end
mutual
theorem RepV.dp : ∀ (n : Nat) (u : U) {v : V}, deepU n u = true → RepV G W H u v → Dp G.K H v (pyU u)
  | _, .non, v, _, h => by simp only [RepV] at h; subst h; exact .non
  | _, .bl b, v, _, h => by simp only [RepV] at h; subst h; exact .bl b
  | _, .int i, v, _, h => by simp only [RepV] at h; subst h; exact .int i
  | _, .str s, v, _, h => by simp only [RepV] at h; subst h; exact .str _
  | n + 1, .tup us, v, d, h => by
    simp only [RepV] at h
    obtain ⟨a, vs, rfl, h1, h2⟩ := h
    simp only [deepU] at d
    exact .tup (TX.sq h1) (RepVs.dp n us d h2)
  | n + 1, .lst us, v, d, h => by
    simp only [RepV] at h
    obtain ⟨a, vs, rfl, _, h1, h2⟩ := h
    simp only [deepU] at d
    exact .lst (SqL.of h1) (RepVs.dp n us d h2)
  | 0, .tup us, _, d, _ => by simp [deepU] at d
  | n + 1, .scr us, v, d, h => by
    simp only [RepV] at h
    obtain ⟨a, vs, rfl, h1, h2⟩ := h
    simp only [deepU] at d
    exact .lst h1.sq (RepVs.dp n us d h2)
  | 0, .lst us, _, d, _ => by simp [deepU] at d
  | 0, .scr us, _, d, _ => by simp [deepU] at d
  | n, .dic _ _, _, d, _ => by cases n <;> simp [deepU] at d
  | n, .obj _ _, _, d, _ => by cases n <;> simp [deepU] at d
  | n, .exc _ _, _, d, _ => by cases n <;> simp [deepU] at d
  | n, .ref _, _, d, _ => by cases n <;> simp [deepU] at d
  | n, .fn _, _, d, _ => by cases n <;> simp [deepU] at d
  | n, .clo _ _, _, d, _ => by cases n <;> simp [deepU] at d
  | n, .hole, _, d, _ => by cases n <;> simp [deepU] at d
theorem RepVs.dp : ∀ (n : Nat) (us : List U) {vs : List V}, deepUs n us = true → RepVs G W H us vs → DpAll G.K H vs (pyUs us)
  | _, [], vs, _, h => by simp only [RepVs] at h; subst h; exact .nil
  | n, u :: us, vs, d, h => by
    simp only [RepVs] at h
    obtain ⟨v, r, rfl, h1, h2⟩ := h
    simp only [deepUs, Bool.and_eq_true] at d
    exact .cons (RepV.dp n u d.1 h1) (RepVs.dp n us d.2 h2)
end
theorem CRep.dp {n : Nat} {u : U} {v : V} (d : deepU n u = true) (h : CRep G W H u v) : Dp G.K H v (pyU u) := by
  rcases h with h | ⟨p, e, c⟩
  · exact RepV.dp n u d h
  · cases u <;> simp only [Cont] at c
    · obtain ⟨vs, h1, h2⟩ := c
      subst e
      cases n with
      | zero => simp [deepU] at d
      | succ n => simp only [deepU] at d; exact .lst (SqL.of h1) (RepVs.dp n _ d h2)
    · cases n <;> simp [deepU] at d
    · cases n <;> simp [deepU] at d

theorem sOf_inj {a b : List Nat} (h : sOf a = sOf b) : a = b := by
  have e : (sOf a).cps.toList = (sOf b).cps.toList := by rw [h]
  simpa [sOf] using e
theorem sOf_beq (a b : List Nat) : (sOf a == sOf b) = (a == b) := by
  rw [Bool.eq_iff_iff, beq_iff_eq, beq_iff_eq]
  exact ⟨sOf_inj, fun h => by rw [h]⟩
mutual
theorem eqv_py : ∀ (n m : Nat) (a b : U), deepU n a = true → deepU m b = true → PyData.eqv (pyU a) (pyU b) = eqU a b
  | n, m, a, b, ha, hb => by
    cases a <;> cases b <;> first
      | (simp only [pyU, PyData.eqv, eqU]; done)
      | (simp only [pyU, PyData.eqv, eqU]; exact sOf_beq _ _)
      | (cases n <;> simp [deepU] at ha; done)
      | (cases m <;> simp [deepU] at hb; done)
      | (simp only [pyU, PyData.eqv, eqU]
         cases n with
         | zero => simp [deepU] at ha
         | succ n =>
           cases m with
           | zero => simp [deepU] at hb
           | succ m =>
             simp only [deepU] at ha hb
             exact eqv_pys n m _ _ ha hb)
theorem eqv_pys : ∀ (n m : Nat) (a b : List U), deepUs n a = true → deepUs m b = true → PyData.eqvAll (pyUs a) (pyUs b) = eqUs a b
  | n, m, [], [], _, _ => by simp only [pyUs, PyData.eqvAll, eqUs]
  | n, m, [], b :: bs, _, _ => by simp only [pyUs, PyData.eqvAll, eqUs]
  | n, m, a :: as, [], _, _ => by simp only [pyUs, PyData.eqvAll, eqUs]
  | n, m, a :: as, b :: bs, ha, hb => by
    simp only [deepUs, Bool.and_eq_true] at ha hb
    simp only [pyUs, PyData.eqvAll, eqUs]
    rw [eqv_py n m a b ha.1 hb.1, eqv_pys n m as bs ha.2 hb.2]
end
end
end MP
set_option maxRecDepth 100000
set_option maxHeartbeats 1000000
/-! R1d: the reading operations, one by one. -/
namespace MP
open PySem PySem.Spec PyProof.Rows L2

theorem strOk_of {s : List Nat} (h : strU s = true) : PyData.strOk (sOf s) = true := by
  unfold strU at h
  simp only [Bool.and_eq_true, List.all_eq_true, decide_eq_true_eq] at h
  unfold PyData.strOk sOf
  simp only [Array.all_eq_true']
  intro x hx
  have := h.2 x (by simpa using hx)
  exact decide_eq_true (by omega)
mutual
theorem lay_py : ∀ (n : Nat) (u : U), deepU n u = true → (pyU u).canLay0 = true ∧ (pyU u).depth ≤ n
  | _, .non, _ => by simp [pyU, PyData.canLay0, PyData.depth]
  | _, .bl _, _ => by simp [pyU, PyData.canLay0, PyData.depth]
  | _, .int _, _ => by simp [pyU, PyData.canLay0, PyData.depth]
  | n, .str s, d => by
    have : strU s = true := by cases n <;> simpa [deepU] using d
    simp [pyU, PyData.canLay0, PyData.depth, strOk_of this]
  | n + 1, .tup us, d => by
    simp only [deepU] at d
    have := lay_pys n us d
    simp only [pyU, PyData.canLay0, PyData.depth]
    exact ⟨this.1, by omega⟩
  | n + 1, .lst us, d => by
    simp only [deepU] at d
    have := lay_pys n us d
    simp only [pyU, PyData.canLay0, PyData.depth]
    exact ⟨this.1, by omega⟩
  | n + 1, .scr us, d => by
    simp only [deepU] at d
    have := lay_pys n us d
    simp only [pyU, PyData.canLay0, PyData.depth]
    exact ⟨this.1, by omega⟩
  | 0, .scr us, d => by simp [deepU] at d
  | 0, .tup us, d => by simp [deepU] at d
  | 0, .lst us, d => by simp [deepU] at d
  | n, .dic _ _, d => by cases n <;> simp [deepU] at d
  | n, .obj _ _, d => by cases n <;> simp [deepU] at d
  | n, .exc _ _, d => by cases n <;> simp [deepU] at d
  | n, .ref _, d => by cases n <;> simp [deepU] at d
  | n, .fn _, d => by cases n <;> simp [deepU] at d
  | n, .clo _ _, d => by cases n <;> simp [deepU] at d
  | n, .hole, d => by cases n <;> simp [deepU] at d
theorem lay_pys : ∀ (n : Nat) (us : List U), deepUs n us = true → PyData.canLayAll0 (pyUs us) = true ∧ PyData.depthAll (pyUs us) ≤ n
  | n, [], _ => by simp [pyUs, PyData.canLayAll0, PyData.depthAll]
  | n, u :: us, d => by
    simp only [deepUs, Bool.and_eq_true] at d
    have h1 := lay_py n u d.1
    have h2 := lay_pys n us d.2
    simp only [pyUs, PyData.canLayAll0, PyData.depthAll]
    exact ⟨by rw [h1.1, h2.1]; rfl, by omega⟩
end
theorem shaped_py {n : Nat} {u : U} (d : deepU n u = true) (hn : n ≤ 64) : SeqAt.shaped (pyU u) = true := by
  have h := lay_py n u d
  unfold SeqAt.shaped
  rw [h.1]
  simp only [Bool.true_and, decide_eq_true_eq]
  omega

theorem sOf_append (a b : List Nat) : sOf (a ++ b) = sOf a ++ sOf b := by
  show (⟨(a ++ b).toArray⟩ : Str) = ⟨a.toArray ++ b.toArray⟩
  simp
theorem sOf_length (a : List Nat) : (sOf a).length = a.length := by simp [sOf, Str.length]
theorem le_line {n : Nat} (h : n ≤ line) : n ≤ sizeLine := by rw [sizeLine_eq]; unfold line at h; exact h

section
variable {G : Nms} {g : Gst} {Wx : WX} {W : Wd} {s : Sta} {σ : L2.St} {H : Hp} {Q : VK} {a b u : U} {x y : V}
/-- what is wanted of a result -/
abbrev Wants (G : Nms) (Wx : WX) (u : U) (W : Wd) (s : Sta) (σ : L2.St) (H : Hp) (Q : VK) : Prop := tAt G Wx (.ok u s) W s σ H (RV G) Q
theorem Wants.val (k : Wants G Wx u W s σ H Q) (r : RelFr G W s σ H) {v : V} (h : RepV G W H u v) : Q v H := tAt.fin k r h
theorem Wants.int {i : Int} (k : Wants G Wx (.int i) W s σ H Q) (r : RelFr G W s σ H) : Q (.int i) H := k.val r (by simp only [RepV])
theorem Wants.bl {i : Bool} (k : Wants G Wx (.bl i) W s σ H Q) (r : RelFr G W s σ H) : Q (.bl i) H := k.val r (by simp only [RepV])
theorem Wants.tup {us : List U} (k : Wants G Wx (.tup us) W s σ H Q) (r : RelFr G W s σ H) {vs : List V} (h : RepVs G W H us vs) : NewT vs H Q := fun p ob ht hp =>
  k W _ _ (.upd hp) (r.upd hp) (by unfold RV; simp only [RepV]; exact ⟨p, vs, rfl, .new ht, RepVs.mono (.refl W) (kp_upd hp) us h⟩)
theorem Wants.lst {us : List U} (k : Wants G Wx (.lst us) W s σ H Q) (r : RelFr G W s σ H) {vs : List V} (h : RepVs G W H us vs) (p : Addr) (hp : H p = none) : Q (.ref p) (L2.upd H p (.lst vs)) :=
  tAt.finO k r p hp (by unfold RV; simp only [RepV]; exact ⟨p, vs, rfl, .inr rfl, upd_same, RepVs.mono Wd.le_ice (kp_upd hp) us h⟩)

/-! arithmetic -/
theorem ol_addI (e : opAdd [a, b] = some u) (ha : CRep G W H a x) (hb : CRep G W H b y) (r : RelFr G W s σ H) (k : Wants G Wx u W s σ H Q) :
    (rI0 (fun i j => V.int (i + j)) x y H Q) ∨ (rCatX G.K x y H Q) ∨ (∃ p q xs ys, x = .ref p ∧ y = .ref q ∧ H p = some (.lst xs) ∧ H q = some (.lst ys) ∧ xs.length + ys.length ≤ sizeLine ∧ ∀ z, H z = none → Q (.ref z) (L2.upd H z (.lst (xs ++ ys)))) ∨
      (∃ i j, x = .str i ∧ y = .str j ∧ i.length + j.length ≤ sizeLine ∧ Q (.str (i ++ j)) H) := by
  unfold opAdd at e
  split at e
  · rename_i us i j eq
    simp only [List.cons.injEq, and_true] at eq
    obtain ⟨rfl, rfl⟩ := eq
    cases e
    exact .inl ⟨i, j, ha.int, hb.int, k.int r⟩
  · rename_i us i j eq
    simp only [List.cons.injEq, and_true] at eq
    obtain ⟨rfl, rfl⟩ := eq
    obtain ⟨p, vs, rfl, h1, h2⟩ := ha.tup
    obtain ⟨q, ws, rfl, h3, h4⟩ := hb.tup
    unfold okT at e
    split at e
    · rename_i hl
      cases e
      have l1 := RepVs.length h2
      have l2 := RepVs.length h4
      refine .inr (.inl ⟨p, q, vs, ws, rfl, rfl, TX.sq h1, TX.sq h3, ?_, fun z => ?_, fun z1 z2 => ?_, fun _ _ => ?_⟩)
      · rw [List.length_append] at hl
        rw [← l1, ← l2]; rw [sizeLine_eq]; unfold line at hl; omega
      · have : i = [] := by rw [z] at l1; simpa using l1
        subst this
        exact k.val r (by simp only [List.nil_append, RepV]; exact ⟨q, ws, rfl, h3, h4⟩)
      · have : j = [] := by rw [z2] at l2; simpa using l2
        subst this
        exact k.val r (by simp only [List.append_nil, RepV]; exact ⟨p, vs, rfl, h1, h2⟩)
      · exact k.tup r (RepVs.append h2 h4)
    · cases e
  · rename_i us i j eq
    simp only [List.cons.injEq, and_true] at eq
    obtain ⟨rfl, rfl⟩ := eq
    obtain ⟨p, vs, rfl, h1, h2⟩ := ha.lst
    obtain ⟨q, ws, rfl, h3, h4⟩ := hb.lst
    unfold okL at e
    split at e
    · rename_i hl
      cases e
      have l1 := RepVs.length h2
      have l2 := RepVs.length h4
      refine .inr (.inr (.inl ⟨p, q, vs, ws, rfl, rfl, h1, h3, ?_, fun z hz => ?_⟩))
      · rw [List.length_append] at hl
        rw [← l1, ← l2]; rw [sizeLine_eq]; unfold line at hl; omega
      · exact k.lst r (RepVs.append h2 h4) z hz
    · cases e
  · rename_i us i j eq
    simp only [List.cons.injEq, and_true] at eq
    obtain ⟨rfl, rfl⟩ := eq
    split at e
    · rename_i hl
      cases e
      refine .inr (.inr (.inr ⟨sOf i, sOf j, ha.str, hb.str, ?_, ?_⟩))
      · have e1 : (sOf i).length = i.length := by simp [sOf, Str.length]
        have e2 : (sOf j).length = j.length := by simp [sOf, Str.length]
        rw [e1, e2, sizeLine_eq]; unfold line at hl; omega
      · refine k.val r ?_
        simp only [RepV]
        rw [sOf_append]
    · cases e
  · cases e

/-! numbers -/
theorem ol_sub (e : opSub [a, b] = some u) (ha : CRep G W H a x) (hb : CRep G W H b y) (r : RelFr G W s σ H) (k : Wants G Wx u W s σ H Q) : rI0 (fun i j => V.int (i - j)) x y H Q := by
  unfold opSub at e
  split at e
  · rename_i us i j eq
    simp only [List.cons.injEq, and_true] at eq
    obtain ⟨rfl, rfl⟩ := eq
    cases e
    exact ⟨i, j, ha.int, hb.int, k.int r⟩
  · cases e
theorem repN_flat (us : List U) : ∀ n, repN us n = (List.replicate n us).flatten
  | 0 => rfl
  | n + 1 => by rw [repN, List.replicate_succ, List.flatten_cons, repN_flat us n]
theorem RepVs.rep {us : List U} {vs : List V} (h : RepVs G W H us vs) : ∀ n, RepVs G W H (repN us n) (List.replicate n vs).flatten
  | 0 => by simp [repN, RepVs]
  | n + 1 => by rw [repN, List.replicate_succ, List.flatten_cons]; exact RepVs.append h (RepVs.rep h n)
theorem ol_mul (e : opMul [a, b] = some u) (ha : CRep G W H a x) (hb : CRep G W H b y) (r : RelFr G W s σ H) (k : Wants G Wx u W s σ H Q) :
    (rI CMulW (fun i j => V.int (i * j)) x y H Q) ∨ (rRepX G.K x y H Q) ∨ (rRep x y H Q) := by
  unfold opMul at e
  split at e
  · rename_i us i j eq
    simp only [List.cons.injEq, and_true] at eq
    obtain ⟨rfl, rfl⟩ := eq
    split at e
    · rename_i h
      cases e
      have h := of_decide_eq_true h
      exact .inl ⟨i, j, ha.int, hb.int, wide_mul h.1 h.2 (by decide) (by decide) (by decide), k.int r⟩
    · cases e
  · rename_i us xs n eq
    simp only [List.cons.injEq, and_true] at eq
    obtain ⟨rfl, rfl⟩ := eq
    obtain ⟨p, vs, rfl, h1, h2⟩ := ha.tup
    split at e
    · rename_i h
      cases e
      have h := of_decide_eq_true h
      have l := RepVs.length h2
      refine .inr (.inl ⟨p, n, vs, rfl, hb.int, TX.sq h1, fun z => ?_, h.1, by omega, by omega, fun hn => ?_, fun hn => ?_, fun _ => k.tup r (RepVs.rep h2 _)⟩)
      · rw [z, List.length_nil] at l
        omega
      · rw [show n.toNat = 0 by omega] at k
        exact k.tup r (by simp [repN, RepVs])
      · subst hn
        rw [show (1 : Int).toNat = 1 by rfl, repN, repN, List.append_nil] at k
        exact k.val r (by simp only [RepV]; exact ⟨p, vs, rfl, h1, h2⟩)
    · cases e
  · rename_i us xs n eq
    simp only [List.cons.injEq, and_true] at eq
    obtain ⟨rfl, rfl⟩ := eq
    obtain ⟨p, vs, rfl, h1, h2⟩ := ha.lst
    split at e
    · rename_i h
      cases e
      have h := of_decide_eq_true h
      have l := RepVs.length h2
      exact .inr (.inr ⟨p, n, vs, rfl, hb.int, h1, by omega, by omega, le_line (by rw [← l]; exact h.2.2), fun q hq => k.lst r (RepVs.rep h2 _) q hq⟩)
    · cases e
  · cases e
theorem ol_fdiv (e : opFdiv [a, b] = some u) (ha : CRep G W H a x) (hb : CRep G W H b y) (r : RelFr G W s σ H) (k : Wants G Wx u W s σ H Q) : rI CDivW (fun i j => V.int (i / j)) x y H Q := by
  unfold opFdiv at e
  split at e
  · rename_i us i j eq
    simp only [List.cons.injEq, and_true] at eq
    obtain ⟨rfl, rfl⟩ := eq
    split at e
    · rename_i h
      cases e
      have h := of_decide_eq_true h
      exact ⟨i, j, ha.int, hb.int, wide_div h.1 h.2 (by decide) (by decide), k.int r⟩
    · cases e
  · cases e
theorem ol_mod (e : opMod [a, b] = some u) (ha : CRep G W H a x) (hb : CRep G W H b y) (r : RelFr G W s σ H) (k : Wants G Wx u W s σ H Q) : rI (fun _ j => 0 < j) (fun i j => V.int (i % j)) x y H Q := by
  unfold opMod at e
  split at e
  · rename_i us i j eq
    simp only [List.cons.injEq, and_true] at eq
    obtain ⟨rfl, rfl⟩ := eq
    split at e
    · rename_i h
      cases e
      exact ⟨i, j, ha.int, hb.int, of_decide_eq_true h, k.int r⟩
    · cases e
  · cases e
theorem ol_pow (e : opPow [a, b] = some u) (ha : CRep G W H a x) (hb : CRep G W H b y) (r : RelFr G W s σ H) (k : Wants G Wx u W s σ H Q) : rI CPow (fun i j => V.int (i ^ j.toNat)) x y H Q := by
  unfold opPow at e
  split at e
  · rename_i us i j eq
    simp only [List.cons.injEq, and_true] at eq
    obtain ⟨rfl, rfl⟩ := eq
    split at e
    · rename_i h
      cases e
      have h := of_decide_eq_true h
      exact ⟨i, j, ha.int, hb.int, ⟨h.1, by omega, h.2.2⟩, k.int r⟩
    · cases e
  · cases e
theorem ol_neg (e : opNeg [a] = some u) (ha : CRep G W H a x) (r : RelFr G W s σ H) (k : Wants G Wx u W s σ H Q) : rU (fun i => V.int (-i)) x H Q := by
  unfold opNeg at e
  split at e
  · rename_i us i eq
    simp only [List.cons.injEq, and_true] at eq
    subst eq
    cases e
    exact ⟨i, ha.int, k.int r⟩
  · cases e
theorem ol_abs (e : opAbs [a] = some u) (ha : CRep G W H a x) (r : RelFr G W s σ H) (k : Wants G Wx u W s σ H Q) : ∃ i, [x] = [.int i] ∧ Q (.int (if i < 0 then -i else i)) H := by
  unfold opAbs at e
  split at e
  · rename_i us i eq
    simp only [List.cons.injEq, and_true] at eq
    subst eq
    cases e
    refine ⟨i, by rw [ha.int], ?_⟩
    have : (if i < 0 then -i else i) = (i.natAbs : Int) := by split <;> omega
    rw [this]
    exact k.int r
  · cases e
theorem ol_max2 (e : opMax2 [a, b] = some u) (ha : CRep G W H a x) (hb : CRep G W H b y) (r : RelFr G W s σ H) (k : Wants G Wx u W s σ H Q) : ∃ i j, [x, y] = [.int i, .int j] ∧ Q (.int (if j > i then j else i)) H := by
  unfold opMax2 at e
  split at e
  · rename_i us i j eq
    simp only [List.cons.injEq, and_true] at eq
    obtain ⟨rfl, rfl⟩ := eq
    cases e
    refine ⟨i, j, by rw [ha.int, hb.int], ?_⟩
    have : (if j > i then j else i) = Max.max i j := by split <;> omega
    rw [this]
    exact k.int r
  · cases e
theorem ol_min2 (e : opMin2 [a, b] = some u) (ha : CRep G W H a x) (hb : CRep G W H b y) (r : RelFr G W s σ H) (k : Wants G Wx u W s σ H Q) : ∃ i j, [x, y] = [.int i, .int j] ∧ Q (.int (if j < i then j else i)) H := by
  unfold opMin2 at e
  split at e
  · rename_i us i j eq
    simp only [List.cons.injEq, and_true] at eq
    obtain ⟨rfl, rfl⟩ := eq
    cases e
    refine ⟨i, j, by rw [ha.int, hb.int], ?_⟩
    have : (if j < i then j else i) = Min.min i j := by split <;> omega
    rw [this]
    exact k.int r
  · cases e
/-! comparisons -/
theorem ol_lt (e : opLt [a, b] = some u) (ha : CRep G W H a x) (hb : CRep G W H b y) (r : RelFr G W s σ H) (k : Wants G Wx u W s σ H Q) : rI0 (fun i j => V.bl (decide (i < j))) x y H Q := by
  unfold opLt at e
  split at e
  · rename_i us i j eq
    simp only [List.cons.injEq, and_true] at eq
    obtain ⟨rfl, rfl⟩ := eq
    cases e
    exact ⟨i, j, ha.int, hb.int, k.bl r⟩
  · cases e
theorem ol_le (e : opLe [a, b] = some u) (ha : CRep G W H a x) (hb : CRep G W H b y) (r : RelFr G W s σ H) (k : Wants G Wx u W s σ H Q) : rI0 (fun i j => V.bl (decide (i ≤ j))) x y H Q := by
  unfold opLe at e
  split at e
  · rename_i us i j eq
    simp only [List.cons.injEq, and_true] at eq
    obtain ⟨rfl, rfl⟩ := eq
    cases e
    exact ⟨i, j, ha.int, hb.int, k.bl r⟩
  · cases e
theorem ol_gt (e : opGt [a, b] = some u) (ha : CRep G W H a x) (hb : CRep G W H b y) (r : RelFr G W s σ H) (k : Wants G Wx u W s σ H Q) : rI0 (fun i j => V.bl (decide (j < i))) x y H Q := by
  unfold opGt at e
  split at e
  · rename_i us i j eq
    simp only [List.cons.injEq, and_true] at eq
    obtain ⟨rfl, rfl⟩ := eq
    cases e
    exact ⟨i, j, ha.int, hb.int, k.bl r⟩
  · cases e
theorem ol_ge (e : opGe [a, b] = some u) (ha : CRep G W H a x) (hb : CRep G W H b y) (r : RelFr G W s σ H) (k : Wants G Wx u W s σ H Q) : rI0 (fun i j => V.bl (decide (j ≤ i))) x y H Q := by
  unfold opGe at e
  split at e
  · rename_i us i j eq
    simp only [List.cons.injEq, and_true] at eq
    obtain ⟨rfl, rfl⟩ := eq
    cases e
    exact ⟨i, j, ha.int, hb.int, k.bl r⟩
  · cases e
theorem ol_eq (e : opEq [a, b] = some u) (ha : CRep G W H a x) (hb : CRep G W H b y) (r : RelFr G W s σ H) (k : Wants G Wx u W s σ H Q) : rEqD G.K x y H Q := by
  have e : (if a.plain && b.plain then some (U.bl (eqU a b)) else none) = some u := e
  split at e
  · rename_i h
    cases e
    simp only [Bool.and_eq_true] at h
    refine ⟨_, _, ha.dp h.1, hb.dp h.2, shaped_py h.1 (by decide), shaped_py h.2 (by decide), ?_⟩
    rw [eqv_py _ _ _ _ h.1 h.2]
    exact k.bl r
  · cases e
theorem ol_ne (e : opNe [a, b] = some u) (ha : CRep G W H a x) (hb : CRep G W H b y) (r : RelFr G W s σ H) (k : Wants G Wx u W s σ H Q) : rNeD G.K x y H Q := by
  have e : (if a.plain && b.plain then some (U.bl (!eqU a b)) else none) = some u := e
  split at e
  · rename_i h
    cases e
    simp only [Bool.and_eq_true] at h
    refine ⟨_, _, ha.dp h.1, hb.dp h.2, shaped_py h.1 (by decide), shaped_py h.2 (by decide), ?_⟩
    rw [eqv_py _ _ _ _ h.1 h.2]
    exact k.bl r
  · cases e
end
end MP
set_option maxRecDepth 100000
set_option maxHeartbeats 1000000
/-! R1e: the reading operations on lists, tuples, dicts. -/
namespace MP
open PySem PySem.Spec PyProof.Rows L2
section
variable {G : Nms} {g : Gst} {Wx : WX} {W : Wd} {s : Sta} {σ : L2.St} {H : Hp} {Q : VK} {a b u : U} {x y : V}

theorem atI_rep {us : List U} {vs : List V} {i : Int} {u : U} (h : RepVs G W H us vs) (e : MP.atI us i = some u) : ∃ v, L2.atI vs i = some v ∧ RepV G W H u v := by
  have l := RepVs.length h
  unfold MP.atI at e
  split at e
  · rename_i h0
    have hlt := (List.getElem?_eq_some_iff.mp e).1
    obtain ⟨v, h1, h2⟩ := RepVs.get h e
    refine ⟨v, ?_, h2⟩
    unfold L2.atI ixN
    rw [if_pos h0, if_pos (by omega)]
    exact h1
  · rename_i h0
    split at e
    · rename_i h1
      obtain ⟨v, h2, h3⟩ := RepVs.get h e
      refine ⟨v, ?_, h3⟩
      unfold L2.atI ixN
      rw [if_neg h0, if_pos (by omega), ← l]
      exact h2
    · cases e
theorem ol_ixT {us : List U} {i : Int} (e : MP.atI us i = some u) (ha : CRep G W H (.tup us) x) (hb : CRep G W H (.int i) y) (r : RelFr G W s σ H) (k : Wants G Wx u W s σ H Q) : rIxT G.K x y H Q := by
  obtain ⟨p, vs, rfl, h1, h2⟩ := ha.tup
  obtain ⟨v, h3, h4⟩ := atI_rep h2 e
  exact ⟨p, vs, i, v, rfl, hb.int, TX.sq h1, h3, k.val r h4⟩
theorem ol_ixL {us : List U} {i : Int} (e : MP.atI us i = some u) (ha : CRep G W H (.lst us) x) (hb : CRep G W H (.int i) y) (r : RelFr G W s σ H) (k : Wants G Wx u W s σ H Q) : rIxL G.K x y H Q := by
  obtain ⟨p, vs, rfl, h1, h2⟩ := ha.lst
  obtain ⟨v, h3, h4⟩ := atI_rep h2 e
  exact ⟨p, vs, i, v, rfl, hb.int, SqL.of h1, h3, k.val r h4⟩
theorem ol_ixS {us : List U} {i : Int} (e : MP.atI us i = some u) (ha : CRep G W H (.scr us) x) (hb : CRep G W H (.int i) y) (r : RelFr G W s σ H) (k : Wants G Wx u W s σ H Q) : rIxL G.K x y H Q := by
  obtain ⟨p, vs, rfl, h1, h2⟩ := ha.scr
  obtain ⟨v, h3, h4⟩ := atI_rep h2 e
  exact ⟨p, vs, i, v, rfl, hb.int, h1, h3, k.val r h4⟩

/-- a sequence -/
def isSq : U → Option (List U)
  | .tup us | .lst us | .scr us => some us
  | _ => none
theorem CRep.sq {us : List U} (e : isSq a = some us) (h : CRep G W H a x) : ∃ p vs, x = .ref p ∧ (SqL G.K H p vs ∨ SqT G.K H p vs) ∧ RepVs G W H us vs := by
  cases a <;> simp only [isSq] at e <;> cases e
  · obtain ⟨p, vs, e, h1, h2⟩ := h.tup
    exact ⟨p, vs, e, .inr (TX.sq h1), h2⟩
  · obtain ⟨p, vs, e, h1, h2⟩ := h.lst
    exact ⟨p, vs, e, .inl (SqL.of h1), h2⟩
  · obtain ⟨p, vs, e, h1, h2⟩ := h.scr
    exact ⟨p, vs, e, .inl h1, h2⟩

theorem ol_lenS {us : List U} (e : isSq a = some us) (ha : CRep G W H a x) (r : RelFr G W s σ H) (k : Wants G Wx (.int us.length) W s σ H Q) : ∃ p ys, [x] = [.ref p] ∧ (SqL G.K H p ys ∨ SqT G.K H p ys) ∧ Q (.int ys.length) H := by
  obtain ⟨p, vs, rfl, h1, h2⟩ := ha.sq e
  refine ⟨p, vs, rfl, h1, ?_⟩
  rw [← RepVs.length h2]
  exact k.int r

/-! displays -/
theorem ol_tup {us : List U} {vs : List V} (e : opTup us = some u) (h : RepVs G W H us vs) (r : RelFr G W s σ H) (k : Wants G Wx u W s σ H Q) : vs.length ≤ sizeLine ∧ NewT vs H Q := by
  have e : okT us = some u := e
  unfold okT at e
  split at e
  · rename_i hl
    cases e
    exact ⟨by rw [← RepVs.length h]; exact le_line hl, k.tup r h⟩
  · cases e
theorem ol_lst {us : List U} {vs : List V} (e : opLst us = some u) (h : RepVs G W H us vs) (r : RelFr G W s σ H) (k : Wants G Wx u W s σ H Q) : vs.length ≤ sizeLine ∧ ∀ p, H p = none → Q (.ref p) (L2.upd H p (.lst vs)) := by
  have e : okL us = some u := e
  unfold okL at e
  split at e
  · rename_i hl
    cases e
    exact ⟨by rw [← RepVs.length h]; exact le_line hl, fun p hp => k.lst r h p hp⟩
  · cases e
theorem ol_tupOf (e : opTupOf [a] = some u) (ha : CRep G W H a x) (r : RelFr G W s σ H) (k : Wants G Wx u W s σ H Q) : kTupX G.K x H Q := by
  unfold opTupOf at e
  split at e
  · rename_i us eq
    simp only [List.cons.injEq, and_true] at eq
    subst eq
    cases e
    obtain ⟨p, vs, rfl, h1, h2⟩ := ha.tup
    exact .inr ⟨p, vs, rfl, TX.sq h1, k.val r (by simp only [RepV]; exact ⟨p, vs, rfl, h1, h2⟩)⟩
  · rename_i us eq
    simp only [List.cons.injEq, and_true] at eq
    subst eq
    cases e
    obtain ⟨p, vs, rfl, h1, h2⟩ := ha.lst
    exact .inl ⟨p, vs, rfl, SqL.of h1, k.tup r h2⟩
  · cases e
theorem ol_lstOf {us : List U} (e : isSq a = some us) (ha : CRep G W H a x) (r : RelFr G W s σ H) (k : Wants G Wx (.lst us) W s σ H Q) : ∃ p ys, [x] = [.ref p] ∧ (SqL G.K H p ys ∨ SqT G.K H p ys) ∧ ∀ l, H l = none → Q (.ref l) (L2.upd H l (.lst ys)) := by
  obtain ⟨p, vs, rfl, h1, h2⟩ := ha.sq e
  exact ⟨p, vs, rfl, h1, fun q hq => k.lst r h2 q hq⟩
theorem rng_rep (a b : Int) : RepVs G W H (rng a b) (rgV a b) := by
  unfold rng rgV
  generalize List.range (b - a).toNat = l
  induction l with
  | nil => simp [RepVs]
  | cons n l ih =>
    simp only [List.map_cons, RepVs]
    exact ⟨_, _, rfl, by simp only [RepV], ih⟩
theorem small_of {i : Int} (h : small i = true) : -(2 ^ 62) ≤ i ∧ i < 2 ^ 62 := by
  unfold small bound at h
  have := of_decide_eq_true h
  omega

/-! truth, sums -/
theorem allT_bls : ∀ {us : List U} {b : Bool}, allT us = some b → ∃ bs : List Bool, us = bs.map U.bl ∧ b = bs.all id
  | [], b, e => by simp only [allT, Option.some.injEq] at e; exact ⟨[], rfl, by simp [← e]⟩
  | u :: us, b, e => by
    cases u <;> simp only [allT] at e <;> first | cases e | skip
    rename_i c
    cases h : allT us with
    | none => rw [h] at e; cases e
    | some d =>
      rw [h] at e
      simp only [Option.map_some, Option.some.injEq] at e
      obtain ⟨bs, rfl, rfl⟩ := allT_bls h
      exact ⟨c :: bs, rfl, by rw [← e]; simp⟩
theorem anyT_bls : ∀ {us : List U} {b : Bool}, anyT us = some b → ∃ bs : List Bool, us = bs.map U.bl ∧ b = bs.any id
  | [], b, e => by simp only [anyT, Option.some.injEq] at e; exact ⟨[], rfl, by simp [← e]⟩
  | u :: us, b, e => by
    cases u <;> simp only [anyT] at e <;> first | cases e | skip
    rename_i c
    cases h : anyT us with
    | none => rw [h] at e; cases e
    | some d =>
      rw [h] at e
      simp only [Option.map_some, Option.some.injEq] at e
      obtain ⟨bs, rfl, rfl⟩ := anyT_bls h
      exact ⟨c :: bs, rfl, by rw [← e]; simp⟩
theorem bls_rep : ∀ {bs : List Bool} {vs : List V}, RepVs G W H (bs.map U.bl) vs → vs = bs.map V.bl
  | [], vs, h => by simpa only [List.map_nil, RepVs] using h
  | b :: bs, vs, h => by
    simp only [List.map_cons, RepVs] at h
    obtain ⟨v, r, rfl, h1, h2⟩ := h
    simp only [RepV] at h1
    rw [h1, bls_rep h2, List.map_cons]
theorem ints_of {us : List U} : ∀ {is : List Int}, ints? us = some is → us = is.map U.int := by
  induction us with
  | nil => intro is e; simp only [ints?, Option.some.injEq] at e; subst e; rfl
  | cons u us ih =>
    intro is e
    cases u <;> simp only [ints?] at e <;> first | cases e | skip
    cases h : ints? us with
    | none => rw [h] at e; cases e
    | some js =>
      rw [h] at e
      simp only [Option.map_some, Option.some.injEq] at e
      subst e
      rw [ih h, List.map_cons]
theorem ints_rep : ∀ {is : List Int} {vs : List V}, RepVs G W H (is.map U.int) vs → vs = is.map V.int
  | [], vs, h => by simpa only [List.map_nil, RepVs] using h
  | b :: bs, vs, h => by
    simp only [List.map_cons, RepVs] at h
    obtain ⟨v, r, rfl, h1, h2⟩ := h
    simp only [RepV] at h1
    rw [h1, ints_rep h2, List.map_cons]
theorem rep_ints : ∀ (is : List Int), RepVs G W H (is.map U.int) (is.map V.int)
  | [] => by simp only [List.map_nil, RepVs]
  | i :: is => by
    simp only [List.map_cons, RepVs]
    exact ⟨_, _, rfl, by simp only [RepV], rep_ints is⟩
theorem ol_all (e : opAll [a] = some u) (ha : CRep G W H a x) (r : RelFr G W s σ H) (k : Wants G Wx u W s σ H Q) : rAll G.K [x] H Q := by
  unfold opAll at e
  split at e
  · rename_i us eq
    simp only [List.cons.injEq, and_true] at eq
    subst eq
    cases h : allT us with
    | none => rw [h] at e; cases e
    | some b =>
      rw [h] at e
      cases e
      obtain ⟨bs, rfl, rfl⟩ := allT_bls h
      obtain ⟨p, vs, rfl, h1, h2⟩ := ha.lst
      have := bls_rep h2
      subst this
      exact ⟨p, bs, rfl, SqL.of h1, k.bl r⟩
  · cases e
theorem ol_any (e : opAny [a] = some u) (ha : CRep G W H a x) (r : RelFr G W s σ H) (k : Wants G Wx u W s σ H Q) : rAny G.K [x] H Q := by
  unfold opAny at e
  split at e
  · rename_i us eq
    simp only [List.cons.injEq, and_true] at eq
    subst eq
    cases h : anyT us with
    | none => rw [h] at e; cases e
    | some b =>
      rw [h] at e
      cases e
      obtain ⟨bs, rfl, rfl⟩ := anyT_bls h
      obtain ⟨p, vs, rfl, h1, h2⟩ := ha.lst
      have := bls_rep h2
      subst this
      exact ⟨p, bs, rfl, SqL.of h1, k.bl r⟩
  · cases e
theorem maxI_is : ∀ {is : List Int} {m : Int}, maxI is = some m → m ∈ is ∧ ∀ y ∈ is, y ≤ m
  | [], m, e => by simp [maxI] at e
  | a :: as, m, e => by
    unfold maxI at e
    cases h : maxI as with
    | none =>
      rw [h] at e
      cases e
      cases as with
      | nil => simp
      | cons c cs =>
        unfold maxI at h
        split at h <;> cases h
    | some n =>
      rw [h] at e
      simp only [Option.some.injEq] at e
      obtain ⟨h1, h2⟩ := maxI_is h
      refine ⟨?_, fun y hy => ?_⟩
      · rcases Int.le_total a n with q | q
        · have : m = n := by omega
          subst this
          exact List.mem_cons_of_mem _ h1
        · have : m = a := by omega
          subst this
          exact List.mem_cons_self
      · rcases List.mem_cons.mp hy with q | q
        · omega
        · have := h2 y q
          omega
theorem ol_max1 (e : opMax1 [a] = some u) (ha : CRep G W H a x) (r : RelFr G W s σ H) (k : Wants G Wx u W s σ H Q) : rMax G.K [x] H Q := by
  unfold opMax1 at e
  split at e
  · rename_i us eq
    simp only [List.cons.injEq, and_true] at eq
    subst eq
    cases h : ints? us with
    | none => rw [h] at e; cases e
    | some is =>
      rw [h, Option.bind_some] at e
      cases h' : maxI is with
      | none => rw [h'] at e; cases e
      | some m =>
        rw [h'] at e
        cases e
        have := ints_of h
        subst this
        obtain ⟨p, vs, rfl, h1, h2⟩ := ha.lst
        have := ints_rep h2
        subst this
        obtain ⟨q1, q2⟩ := maxI_is h'
        refine ⟨p, is, rfl, SqL.of h1, List.length_pos_of_mem q1, fun n hn hm => ?_⟩
        have : n = m := Int.le_antisymm (q2 n hn) (hm m q1)
        subst this
        exact k.int r
  · cases e
end
end MP
set_option maxRecDepth 100000
set_option maxHeartbeats 1000000
/-! R1f: dicts: keys of ints and texts (the layer's own), keys that are tuples. -/
namespace MP
open PySem PySem.Spec PyProof.Rows L2

mutual
theorem nk_eq : ∀ (n m : Nat) (a b : U) (k l : NestedKey), nkU a = some k → nkU b = some l → eqU a b = decide (k = l)
  | n, m, .int i, b, k, l, ha, hb => by
    simp only [nkU, Option.some.injEq] at ha; subst ha
    cases b <;> simp only [nkU] at hb <;> first
      | (cases hb; done)
      | (simp only [Option.some.injEq] at hb; subst hb; simp only [eqU, NestedKey.num.injEq, Bool.beq_eq_decide_eq]; done)
      | (simp only [Option.some.injEq] at hb; subst hb; simp [eqU]; done)
      | (obtain ⟨ks, _, rfl⟩ := Option.map_eq_some_iff.mp hb; simp [eqU]; done)
  | n, m, .bl i, b, k, l, ha, hb => by
    simp only [nkU, Option.some.injEq] at ha; subst ha
    cases b <;> simp only [nkU] at hb <;> first
      | (cases hb; done)
      | (rename_i j; simp only [Option.some.injEq] at hb; subst hb; cases i <;> cases j <;> simp [eqU]; done)
      | (simp only [Option.some.injEq] at hb; subst hb; simp only [eqU, NestedKey.num.injEq, Bool.beq_eq_decide_eq]; done)
      | (simp only [Option.some.injEq] at hb; subst hb; simp [eqU]; done)
      | (obtain ⟨ks, _, rfl⟩ := Option.map_eq_some_iff.mp hb; simp [eqU]; done)
  | n, m, .str i, b, k, l, ha, hb => by
    simp only [nkU, Option.some.injEq] at ha; subst ha
    cases b <;> simp only [nkU] at hb <;> first
      | (cases hb; done)
      | (simp only [Option.some.injEq] at hb; subst hb; simp only [eqU, NestedKey.text.injEq]; rw [← sOf_beq, Bool.beq_eq_decide_eq]; done)
      | (simp only [Option.some.injEq] at hb; subst hb; simp [eqU]; done)
      | (obtain ⟨ks, _, rfl⟩ := Option.map_eq_some_iff.mp hb; simp [eqU]; done)
  | n, m, .tup as, b, k, l, ha, hb => by
    simp only [nkU] at ha
    obtain ⟨ks, h1, rfl⟩ := Option.map_eq_some_iff.mp ha
    cases b <;> simp only [nkU] at hb <;> first
      | (cases hb; done)
      | (simp only [Option.some.injEq] at hb; subst hb; simp [eqU]; done)
      | (obtain ⟨ls, h2, rfl⟩ := Option.map_eq_some_iff.mp hb
         simp only [eqU, NestedKey.tup.injEq]
         exact nk_eqs n m as _ ks ls h1 h2)
  | n, m, .non, _, _, _, ha, _ => by simp [nkU] at ha
  | n, m, .lst _, _, _, _, ha, _ => by simp [nkU] at ha
  | n, m, .dic _ _, _, _, _, ha, _ => by simp [nkU] at ha
  | n, m, .obj _ _, _, _, _, ha, _ => by simp [nkU] at ha
  | n, m, .exc _ _, _, _, _, ha, _ => by simp [nkU] at ha
  | n, m, .ref _, _, _, _, ha, _ => by simp [nkU] at ha
  | n, m, .fn _, _, _, _, ha, _ => by simp [nkU] at ha
  | n, m, .clo _ _, _, _, _, ha, _ => by simp [nkU] at ha
  | n, m, .hole, _, _, _, ha, _ => by simp [nkU] at ha
  | n, m, .scr _, _, _, _, ha, _ => by simp [nkU] at ha
theorem nk_eqs : ∀ (n m : Nat) (a b : List U) (k l : List NestedKey), nkUs a = some k → nkUs b = some l → eqUs a b = decide (k = l)
  | n, m, [], [], k, l, ha, hb => by simp only [nkUs, Option.some.injEq] at ha hb; subst ha hb; simp [eqUs]
  | n, m, [], b :: bs, k, l, ha, hb => by
    simp only [nkUs, Option.some.injEq] at ha; subst ha
    simp only [nkUs] at hb
    split at hb <;> cases hb
    simp [eqUs]
  | n, m, a :: as, [], k, l, ha, hb => by
    simp only [nkUs, Option.some.injEq] at hb; subst hb
    simp only [nkUs] at ha
    split at ha <;> cases ha
    simp [eqUs]
  | n, m, a :: as, b :: bs, k, l, ha, hb => by
    simp only [nkUs] at ha hb
    split at ha <;> cases ha
    split at hb <;> cases hb
    rename_i k1 k2 h1 h2 _ _ l1 l2 h3 h4
    simp only [eqUs, List.cons.injEq]
    rw [nk_eq n m a b k1 l1 h1 h3, nk_eqs n m as bs k2 l2 h2 h4, Bool.decide_and]
end
mutual
theorem nk_some : ∀ (n : Nat) (a : U), keyT n a = true → ∃ k, nkU a = some k ∧ k.depth ≤ n
  | n, .int i, _ => ⟨_, rfl, by simp [NestedKey.depth]⟩
  | n, .bl i, _ => ⟨_, rfl, by simp [NestedKey.depth]⟩
  | n, .str i, _ => ⟨_, rfl, by simp [NestedKey.depth]⟩
  | n + 1, .tup us, h => by
    simp only [keyT] at h
    obtain ⟨ks, h1, h2⟩ := nks_some n us h
    exact ⟨.tup ks, by simp [nkU, h1], by simp only [NestedKey.depth]; omega⟩
  | 0, .tup us, h => by simp [keyT] at h
  | n, .non, h => by cases n <;> simp [keyT] at h
  | n, .lst _, h => by cases n <;> simp [keyT] at h
  | n, .dic _ _, h => by cases n <;> simp [keyT] at h
  | n, .obj _ _, h => by cases n <;> simp [keyT] at h
  | n, .exc _ _, h => by cases n <;> simp [keyT] at h
  | n, .ref _, h => by cases n <;> simp [keyT] at h
  | n, .fn _, h => by cases n <;> simp [keyT] at h
  | n, .clo _ _, h => by cases n <;> simp [keyT] at h
  | n, .hole, h => by cases n <;> simp [keyT] at h
  | n, .scr _, h => by cases n <;> simp [keyT] at h
theorem nks_some : ∀ (n : Nat) (a : List U), keyTs n a = true → ∃ k, nkUs a = some k ∧ NestedKey.depthAll k ≤ n
  | n, [], _ => ⟨[], rfl, by simp [NestedKey.depthAll]⟩
  | n, u :: us, h => by
    simp only [keyTs, Bool.and_eq_true] at h
    obtain ⟨k, h1, h2⟩ := nk_some n u h.1
    obtain ⟨ks, h3, h4⟩ := nks_some n us h.2
    exact ⟨k :: ks, by simp [nkUs, h1, h3], by simp only [NestedKey.depthAll]; omega⟩
end
end MP
set_option maxRecDepth 100000
set_option maxHeartbeats 1000000
/-! R1g: dicts read, by values. -/
namespace MP
open PySem PySem.Spec PyProof.Rows L2

/-- the context is the program's -/
structure Of (G : Nms) (X : Cx) : Prop where
  P : X.prog = G.P
  w : X.w = G.w
  K : X.K = G.K
  un : X.A.units + 150 < cLine

section
variable {G : Nms} {X : Cx} {pins : List (Addr × Obj)} {W : Wd} {σ : L2.St} {H : Hp} {s : Shared}
mutual
theorem key_is (I : Inv X pins σ H s) : ∀ (u : U) (k : NestedKey) (v : V) (w : Value), nkU u = some k → RepV G W H u v → RelV v w → NestedIs s.heap k w
  | .int i, k, v, w, e, h, r => by
    simp only [nkU, Option.some.injEq] at e; subst e
    simp only [RepV] at h; subst h
    obtain ⟨t, rfl⟩ := r
    exact .int i t
  | .bl b, k, v, w, e, h, r => by
    simp only [nkU, Option.some.injEq] at e; subst e
    simp only [RepV] at h; subst h
    have r' : w = Value.bool b := r
    subst r'
    exact .bool rfl
  | .str x, k, v, w, e, h, r => by
    simp only [nkU, Option.some.injEq] at e; subst e
    simp only [RepV] at h; subst h
    obtain ⟨t, rfl⟩ := r
    exact .text _ t
  | .tup us, k, v, w, e, h, r => by
    simp only [nkU] at e
    obtain ⟨ks, h1, rfl⟩ := Option.map_eq_some_iff.mp e
    simp only [RepV] at h
    obtain ⟨a, vs, rfl, h2, h3⟩ := h
    have r' : w = Value.ref a := r
    subst r'
    obtain ⟨its, rv, p, _⟩ := I.tuple (TX.sq h2)
    obtain ⟨o, h4, h5, n, h6⟩ := p
    exact .tup h4 h5 h6 (by simpa using key_iss I us ks vs its h1 h3 rv)
  | .non, _, _, _, e, _, _ => by simp [nkU] at e
  | .lst _, _, _, _, e, _, _ => by simp [nkU] at e
  | .dic _ _, _, _, _, e, _, _ => by simp [nkU] at e
  | .obj _ _, _, _, _, e, _, _ => by simp [nkU] at e
  | .exc _ _, _, _, _, e, _, _ => by simp [nkU] at e
  | .ref _, _, _, _, e, _, _ => by simp [nkU] at e
  | .fn _, _, _, _, e, _, _ => by simp [nkU] at e
  | .clo _ _, _, _, _, e, _, _ => by simp [nkU] at e
  | .hole, _, _, _, e, _, _ => by simp [nkU] at e
  | .scr _, _, _, _, e, _, _ => by simp [nkU] at e
theorem key_iss (I : Inv X pins σ H s) : ∀ (us : List U) (ks : List NestedKey) (vs : List V) (ws : List Value), nkUs us = some ks → RepVs G W H us vs → Vals vs ws → NestedAll s.heap ks ws
  | [], ks, vs, ws, e, h, r => by
    simp only [nkUs, Option.some.injEq] at e; subst e
    simp only [RepVs] at h; subst h
    cases r
    exact .nil
  | u :: us, ks, vs, ws, e, h, r => by
    simp only [nkUs] at e
    split at e <;> cases e
    rename_i k1 k2 h1 h2
    simp only [RepVs] at h
    obtain ⟨v, rr, rfl, h3, h4⟩ := h
    cases r with
    | cons r1 r2 => exact .cons (key_is I u k1 v _ h1 h3 r1) (key_iss I us k2 rr _ h2 h4 r2)
end

theorem CRep.dic {ks xs : List U} {v : V} (h : CRep G W H (.dic ks xs) v) : ∃ p, v = .ref p ∧ Cont G W H p (.dic ks xs) := by
  rcases h with h | h
  · simp only [RepV] at h
    obtain ⟨p, e, _, c⟩ := h
    exact ⟨p, e, by simpa only [Cont] using c⟩
  · exact h

theorem Paired.map_l {α β γ : Type} {F : γ → β → Prop} {f : α → γ} : ∀ {l : List α} {m : List β}, Paired (fun a b => F (f a) b) l m → Paired F (l.map f) m
  | _, _, .nil => .nil
  | _, _, .cons r t => .cons r (Paired.map_l t)
theorem Paired.map_r {α β γ : Type} {F : α → γ → Prop} {f : β → γ} : ∀ {l : List α} {m : List β}, Paired (fun a b => F a (f b)) l m → Paired F l (m.map f)
  | _, _, .nil => .nil
  | _, _, .cons r t => .cons r (Paired.map_r t)

/-- a dict whose keys are tuples (or that is empty), as the library has it -/
theorem dict_tup (O : Of G X) (I : Inv X pins σ H s) {p : Addr} {ks xs : List U} (c : Cont G W H p (.dic ks xs)) (ht : ks.all isTupU = true) :
    ∃ (zs : List (NestedKey × Addr × Value)) (ws : List V), s.heap.DictOfH (nestedKind G.P G.w) p zs ∧ (p == sysModules) = false ∧ ks.map nkU = zs.map (fun z => some z.1) ∧ RepVs G W H ks (zs.map fun z => .ref z.2.1) ∧ RepVs G W H xs ws ∧ Vals ws (zs.map (·.2.2)) := by
  simp only [Cont] at c
  rcases c with ⟨kvs, h1, h2, h3⟩ | ⟨ys, h0, h1, h2, h3, h4, h5⟩
  · have e : ks = [] := by
      cases ks with
      | nil => rfl
      | cons k r =>
        cases kvs with
        | nil => simp at h2
        | cons q kvs =>
          simp only [List.map_cons, List.cons.injEq] at h2
          simp only [List.all_cons, Bool.and_eq_true] at ht
          cases k <;> simp [isTupU] at ht
          simp [keyU] at h2
    subst e
    have e2 : kvs = [] := by
      cases kvs with
      | nil => rfl
      | cons q kvs => simp at h2
    subst e2
    obtain ⟨_, hs, vs, rel, o, es, ep, g1, g2, g3, _, g5, _⟩ := I.hok p _ h1
    cases rel
    have es0 : es.toList = [] := by
      generalize es.toList = l at g5
      cases g5
      rfl
    refine ⟨[], [], ⟨o, es, ep, g1, g2, g3, by rw [es0]; rfl, fun x hx => absurd hx (by simp), List.nodup_nil⟩, hs, rfl, by simp only [List.map_nil, RepVs], by simpa using h3, .nil⟩
  · obtain ⟨gz, o, es, ep, zs, g1, gs, g2, g3, g4, g5, g7, g6⟩ := (I.hok p _ h1).1
    have e1 : ys.map (fun y => y.1) = zs.map (fun z => z.1) := by
      clear gz h0 h1 h2 h3 h4 h5 g4 g5 g7
      induction g6 with
      | nil => rfl
      | cons r t ih => simp only [List.map_cons]; rw [r.1, ih]
    have e2 : ys.map (fun y => V.ref y.2.1) = zs.map (fun z => V.ref z.2.1) := by
      clear gz h0 h1 h2 h3 h4 h5 g4 g5 g7 e1
      induction g6 with
      | nil => rfl
      | cons r t ih => simp only [List.map_cons]; rw [r.2.1, ih]
    have e3 : ks.map nkU = zs.map (fun z => some z.1) := by
      rw [h2]
      have : ys.map (fun p => some p.1) = (ys.map fun y => y.1).map some := by rw [List.map_map]; rfl
      rw [this, e1, List.map_map]; rfl
    have rk : RepVs G W H ks (zs.map fun z => .ref z.2.1) := by rw [← e2]; exact h4
    refine ⟨zs, ys.map (·.2.2), ⟨o, es, ep, g1, g2, g3, g4, fun z hz => ?_, g5⟩, gs, e3, rk, h5, ?_⟩
    · obtain ⟨j, hj⟩ := List.getElem?_of_mem hz
      have l : ks.length = zs.length := by have := congrArg List.length e3; simpa using this
      have hlt : j < ks.length := by rw [l]; exact (List.getElem?_eq_some_iff.mp hj).1
      have hu : ks[j]? = some ks[j] := List.getElem?_eq_getElem hlt
      obtain ⟨v, hv1, hv2⟩ := RepVs.get rk hu
      rw [List.getElem?_map, hj] at hv1
      simp only [Option.map_some, Option.some.injEq] at hv1
      have hn : nkU ks[j] = some z.1 := by
        have q : (ks.map nkU)[j]? = (zs.map (fun z => some z.1))[j]? := by rw [e3]
        rw [List.getElem?_map, List.getElem?_map, hu, hj] at q
        simpa using q
      exact ⟨key_is I _ _ v _ hn hv2 (by rw [← hv1]; rfl), g7 z hz⟩
    · clear gz h0 h1 h2 h3 h4 h5 g4 g5 g7 e1 e2 e3 rk
      induction g6 with
      | nil => exact .nil
      | cons r t ih => exact .cons r.2.2 ih
end
end MP
set_option maxRecDepth 100000
set_option maxHeartbeats 1000000
/-! R1h: dicts: in, not in, [], get, len, by values. -/
namespace MP
open PySem PySem.Spec PyProof.Rows L2

theorem atKey_mem {a : U} {ka : NestedKey} (ha : nkU a = some ka) : ∀ {ks : List U} {zs : List (NestedKey × Addr × Value)}, ks.map nkU = zs.map (fun z => some z.1) → (atKey zs ka).isSome = memU a ks
  | [], [], _ => rfl
  | [], _ :: _, e => by simp at e
  | _ :: _, [], e => by simp at e
  | k :: ks, z :: zs, e => by
    simp only [List.map_cons, List.cons.injEq] at e
    have ih := atKey_mem ha e.2
    unfold atKey at ih ⊢
    unfold memU at ih ⊢
    rw [List.any_cons, nk_eq 0 0 k a z.1 ka e.1 ha, List.find?_cons]
    by_cases h : z.1 = ka
    · simp [h]
    · simp only [h, decide_false, Bool.false_or]
      exact ih
theorem atKey_get {G : Nms} {W : Wd} {H : Hp} {a : U} {ka : NestedKey} (ha : nkU a = some ka) : ∀ {ks xs : List U} {zs : List (NestedKey × Addr × Value)} {ws : List V}, ks.map nkU = zs.map (fun z => some z.1) → RepVs G W H xs ws → Vals ws (zs.map (·.2.2)) →
    (∀ u, dget ks xs a = some u → ∃ v w b, atKey zs ka = some (b, w) ∧ RepV G W H u v ∧ RelV v w) ∧ (dget ks xs a = none → atKey zs ka = none)
  | [], xs, [], ws, _, _, _ => by
    refine ⟨fun u h => ?_, fun _ => rfl⟩
    unfold dget at h
    cases h
  | [], _, _ :: _, _, e, _, _ => by simp at e
  | _ :: _, _, [], _, e, _, _ => by simp at e
  | k :: ks, [], z :: zs, ws, e, hx, hv => by
    simp only [RepVs] at hx
    subst hx
    cases hv
  | k :: ks, x :: xs, z :: zs, ws, e, hx, hv => by
    simp only [List.map_cons, List.cons.injEq] at e
    simp only [RepVs] at hx
    obtain ⟨v, r, rfl, h1, h2⟩ := hx
    cases hv with
    | cons r1 r2 =>
      have ih := atKey_get ha e.2 h2 r2
      have q := nk_eq 0 0 k a z.1 ka e.1 ha
      unfold atKey at ih ⊢
      simp only [dget]
      rw [List.find?_cons]
      by_cases h : z.1 = ka
      · rw [q, decide_eq_true h]
        simp only [if_true, Option.map_some, Option.some.injEq]
        exact ⟨fun u hu => ⟨v, z.2.2, z.2.1, rfl, by rw [← hu]; exact h1, r1⟩, fun hu => by cases hu⟩
      · rw [q, decide_eq_false h]
        simp only [Bool.false_eq_true, if_false]
        exact ih

theorem keyU_eq {a b : U} {k l : Key} (ha : keyU a = some k) (hb : keyU b = some l) : eqU a b = decide (k = l) := by
  cases a <;> simp only [keyU] at ha <;> cases ha <;> cases b <;> simp only [keyU] at hb <;> cases hb
  · rename_i i j; rw [key_ll]; simp only [eqU]
  · rename_i i j; rw [key_lr]; simp only [eqU]
  · rename_i i j; rw [key_rl]; simp only [eqU]
  · rename_i i j; rw [key_rr]; simp only [eqU]; rw [← sOf_beq, Bool.beq_eq_decide_eq]
theorem valV_mem {a : U} {ka : Key} (ha : keyU a = some ka) : ∀ {ks : List U} {kvs : List (Key × V)}, ks.map keyU = kvs.map (fun p => some p.1) → (valV kvs ka).isSome = memU a ks
  | [], [], _ => rfl
  | [], _ :: _, e => by simp at e
  | _ :: _, [], e => by simp at e
  | k :: ks, z :: zs, e => by
    simp only [List.map_cons, List.cons.injEq] at e
    have ih := valV_mem ha e.2
    unfold memU at ih ⊢
    rw [List.any_cons, keyU_eq e.1 ha]
    by_cases h : z.1 = ka
    · rw [valV_pos h]; simp [h]
    · rw [valV_neg h, ih]; simp [h]
theorem valV_get {G : Nms} {W : Wd} {H : Hp} {a : U} {ka : Key} (ha : keyU a = some ka) : ∀ {ks xs : List U} {kvs : List (Key × V)}, ks.map keyU = kvs.map (fun p => some p.1) → RepVs G W H xs (kvs.map (·.2)) →
    (∀ u, dget ks xs a = some u → ∃ v, valV kvs ka = some v ∧ RepV G W H u v) ∧ (dget ks xs a = none → valV kvs ka = none)
  | [], xs, [], _, _ => by
    refine ⟨fun u h => ?_, fun _ => rfl⟩
    unfold dget at h
    cases h
  | [], _, _ :: _, e, _ => by simp at e
  | _ :: _, _, [], e, _ => by simp at e
  | k :: ks, [], z :: zs, e, hx => by simp only [RepVs] at hx; simp at hx
  | k :: ks, x :: xs, z :: zs, e, hx => by
    simp only [List.map_cons, List.cons.injEq] at e
    simp only [List.map_cons, RepVs, List.cons.injEq] at hx
    obtain ⟨v, r, ⟨rfl, rfl⟩, h1, h2⟩ := hx
    have ih := valV_get ha e.2 h2
    have q := keyU_eq e.1 ha
    simp only [dget]
    by_cases h : z.1 = ka
    · rw [q, decide_eq_true h, valV_pos h]
      simp only [if_true, Option.some.injEq]
      exact ⟨fun u hu => ⟨_, rfl, by rw [← hu]; exact h1⟩, fun hu => by cases hu⟩
    · rw [q, decide_eq_false h, valV_neg h]
      simp only [Bool.false_eq_true, if_false]
      exact ih

section
variable {G : Nms} {X : Cx} {pins : List (Addr × Obj)} {W : Wd} {σ : L2.St} {H : Hp} {s : Shared}
theorem kOk_cases {ks : List U} {a : U} (h : kOk ks a = true) : (∃ k, keyU a = some k ∧ ks.all isIS = true) ∨ (∃ us, a = .tup us ∧ keyT 7 a = true ∧ ks.all isTupU = true) := by
  unfold kOk at h
  simp only [Bool.or_eq_true, Bool.and_eq_true] at h
  rcases h with ⟨h1, h2⟩ | ⟨⟨h1, h2⟩, h3⟩
  · cases a <;> simp [isIS] at h1
    · exact .inl ⟨_, rfl, h2⟩
    · exact .inl ⟨_, rfl, h2⟩
  · cases a <;> simp [isTupU] at h1
    exact .inr ⟨_, rfl, h2, h3⟩
/-- keys of ints and texts: the layer's own dict -/
theorem dict_is {p : Addr} {ks xs : List U} (c : Cont G W H p (.dic ks xs)) (h : ks.all isIS = true) : ∃ kvs : List (Key × V), H p = some (.dK kvs) ∧ ks.map keyU = kvs.map (fun p => some p.1) ∧ RepVs G W H xs (kvs.map (·.2)) := by
  simp only [Cont] at c
  rcases c with c | ⟨ys, h0, h1, h2, h3, h4, h5⟩
  · exact c
  · exfalso
    cases ks with
    | nil => cases ys with
      | nil => exact h0 rfl
      | cons y ys => simp at h2
    | cons k ks =>
      simp only [List.all_cons, Bool.and_eq_true] at h h3
      cases k <;> simp [isIS, isTupU] at h h3
theorem RepV.key {a : U} {k : Key} {v : V} (e : keyU a = some k) (h : RepV G W H a v) : v = kV k := by
  cases a <;> simp only [keyU] at e <;> cases e <;> (simp only [RepV] at h; exact h)
theorem room_n (O : Of G X) : (nestedKind G.P G.w).room X.A.in1 := by
  show X.A.units + 1 + 8 < cLine
  have := O.un
  omega
theorem nk_key {us : List U} (h : keyT 7 (.tup us) = true) : ∃ k, nkU (.tup us) = some k ∧ k.depth ≤ 8 := by
  obtain ⟨k, h1, h2⟩ := nk_some 7 _ h
  exact ⟨k, h1, by omega⟩

/-- x in d -/
def rDicIn (G : Nms) (neg : Bool) : R2 := fun x y H Q => ∃ W a ks xs, kOk ks a = true ∧ RepV G W H a x ∧ (∃ p, y = .ref p ∧ Cont G W H p (.dic ks xs)) ∧ Q (.bl (if neg then !memU a ks else memU a ks)) H
theorem or_in (O : Of G X) : OpR X (compareOp .In) (rDicIn G false) := by
  intro pins s σ H x y v u Q I rx ry h
  obtain ⟨W, a, ks, xs, hk, ha, ⟨p, rfl, c⟩, q⟩ := h
  have hp := O.P; have hw := O.w
  obtain rfl : u = Value.ref p := ry
  have hu := O.un
  rcases kOk_cases hk with ⟨k, h1, h2⟩ | ⟨us, rfl, h1, h2⟩
  · obtain ⟨kvs, g1, g2, g3⟩ := dict_is c h2
    refine d_in (by omega) I (DGet.k (k := k) g1) (by rw [← RepV.key h1 ha]; exact rx) fun s' I' => ⟨.bl _, H, I', rfl, ?_⟩
    rw [valV_mem h1 g2]
    exact q
  · obtain ⟨zs, ws, g1, g2, g3, g4, g5, g6⟩ := dict_tup O I c h2
    obtain ⟨k, e1, e2⟩ := nk_key h1
    have hn := key_is I _ k x v e1 ha rx
    simp only [RepV] at ha
    obtain ⟨b, vs, rfl, _, _⟩ := ha
    obtain rfl : v = Value.ref b := rx
    rw [hp, hw]
    refine wpAny_in_heap (knd := nestedKind G.P G.w) (room_n O) ⟨hn, e2⟩ g2 g1 ?_
    rw [atKey_mem e1 g3]
    exact ⟨.bl _, H, I.tok _, rfl, q⟩
theorem or_notin (O : Of G X) : OpR X (compareOp .NotIn) (rDicIn G true) := by
  intro pins s σ H x y v u Q I rx ry h
  obtain ⟨W, a, ks, xs, hk, ha, ⟨p, rfl, c⟩, q⟩ := h
  have hp := O.P; have hw := O.w
  obtain rfl : u = Value.ref p := ry
  have hu := O.un
  rcases kOk_cases hk with ⟨k, h1, h2⟩ | ⟨us, rfl, h1, h2⟩
  · obtain ⟨kvs, g1, g2, g3⟩ := dict_is c h2
    refine d_notIn (by omega) I (DGet.k (k := k) g1) (by rw [← RepV.key h1 ha]; exact rx) fun s' I' => ⟨.bl _, H, I', rfl, ?_⟩
    rw [valV_mem h1 g2]
    exact q
  · obtain ⟨zs, ws, g1, g2, g3, g4, g5, g6⟩ := dict_tup O I c h2
    obtain ⟨k, e1, e2⟩ := nk_key h1
    have hn := key_is I _ k x v e1 ha rx
    simp only [RepV] at ha
    obtain ⟨b, vs, rfl, _, _⟩ := ha
    obtain rfl : v = Value.ref b := rx
    rw [hp, hw]
    refine notIn_keyed (knd := nestedKind G.P G.w) (room_n O) ⟨hn, e2⟩ g2 ⟨_, g1, rfl⟩ ?_
    rw [valueAt_pairsH, Option.isSome_map, atKey_mem e1 g3]
    exact ⟨.bl _, H, I.tok _, rfl, q⟩
/-- d[x] -/
def rDicIx (G : Nms) : R2 := fun y x H Q => ∃ W a ks xs u, kOk ks a = true ∧ RepV G W H a x ∧ (∃ p, y = .ref p ∧ Cont G W H p (.dic ks xs)) ∧ dget ks xs a = some u ∧ ∀ v, RepV G W H u v → Q v H
theorem getItem_dic (O : Of G X) {x : V} {v : Value} {Q : VK} {W : Wd} {a u : U} {ks xs : List U} {p : Addr} (I : Inv X pins σ H s) (rx : RelV x v) (hk : kOk ks a = true) (ha : RepV G W H a x) (c : Cont G W H p (.dic ks xs)) (hd : dget ks xs a = some u) (q : ∀ v, RepV G W H u v → Q v H) :
    wpAny (model X.prog X.w) X.A (getItem (.ref p) v) (EP X pins σ Q) X.xe s := by
  have hp := O.P; have hw := O.w
  have hu := O.un
  rcases kOk_cases hk with ⟨k, h1, h2⟩ | ⟨us, rfl, h1, h2⟩
  · obtain ⟨kvs, g1, g2, g3⟩ := dict_is c h2
    obtain ⟨v', e, r⟩ := (valV_get h1 g2 g3).1 u hd
    exact d_getItem (by omega) I (by rw [← e]; exact DGet.k (k := k) g1) (by rw [← RepV.key h1 ha]; exact rx) fun w' s' I' rw' => ⟨v', H, I', rw', q v' r⟩
  · obtain ⟨zs, ws, g1, g2, g3, g4, g5, g6⟩ := dict_tup O I c h2
    obtain ⟨k, e1, e2⟩ := nk_key h1
    have hn := key_is I _ k x v e1 ha rx
    simp only [RepV] at ha
    obtain ⟨b, vs, rfl, _, _⟩ := ha
    obtain rfl : v = Value.ref b := rx
    obtain ⟨v', w', b', e, r, rr⟩ := (atKey_get e1 g3 g5 g6).1 u hd
    rw [hp, hw]
    exact wpAny_getItem_heap (knd := nestedKind G.P G.w) (room_n O) ⟨hn, e2⟩ g1 e ⟨v', H, I.tok _, rr, q v' r⟩

theorem subTail_of {prog : Program} {w : World} {A : Around} {E : Value → Shared → Prop} {s : Shared} {value slice : Expr} {T id : String} {o i : Value} {Q : Value → Shared → Prop}
    (hl : typeLookup (.type T) "__getitem__" = pure (some (.builtin id))) (hT : s.TypeIs o T) (hs : subscripted slice false o i = operate [o, i] (getItem o i))
    (h : wpAny (model prog w) A (getItem o i) Q E s) : wpAny (model prog w) A (subscriptTail value slice o i) Q E s := by
  unfold subscriptTail
  refine wpAny_bind ?_
  rw [getitemInPython_of_ne hT.not_modules]
  refine wpAny_bind (wpAny_specialOf hT hl ?_)
  have fin : wpAny (model prog w) A (subscripted slice false o i) (fun r s₃ => wpAny (model prog w) A (letTemporaryGo value o r >>= fun _ => pure r) Q E s₃) E s := by
    rw [hs]
    exact wpAny_operating (wpAny_mono h (fun r s₃ h₃ => wpAny_bind (wpAny_letTemporaryGo (wpAny_pure h₃))) fun _ _ x => x)
  first
    | exact wpAny_pure (wpAny_bind fin)
    | exact wpAny_pure fin
    | exact wpAny_bind (wpAny_pure (wpAny_bind fin))
    | exact wpAny_bind (wpAny_pure fin)
theorem cont_dict_type (I : Inv X pins σ H s) {p : Addr} {ks xs : List U} (c : Cont G W H p (.dic ks xs)) : s.TypeIs (.ref p) "dict" := by
  simp only [Cont] at c
  rcases c with ⟨kvs, h1, _⟩ | ⟨ys, _, h1, _⟩
  · exact dict_typeIs I (DGet.k (k := .inl 0) h1)
  · obtain ⟨_, o, es, ep, zs, g1, gs, g2, _⟩ := (I.hok p _ h1).1
    exact ⟨o, g1, g2.1⟩
theorem ix_dic (O : Of G X) : IxR X (rDicIx G) := by
  intro value slice pins s σ H y x u v Q I ry rx h hs
  obtain ⟨W, a, ks, xs, r, hk, ha, ⟨p, rfl, c⟩, hd, q⟩ := h
  obtain rfl : u = Value.ref p := ry
  exact subTail_of PySem.F.slot_dict_getitem.lookup (cont_dict_type I c) hs (getItem_dic O I rx hk ha c hd q)
/-- len(d) -/
theorem call_lenDic (O : Of G X) : CallR X (.builtin "len") (fun xs H Q => ∃ W p ks vs, xs = [.ref p] ∧ Cont G W H p (.dic ks vs) ∧ Q (.int ks.length) H) := by
  intro pins s σ H xs us Q I r h
  obtain ⟨W, p, ks, vs, rfl, c, q⟩ := h
  have c0 := c
  simp only [Cont] at c
  rcases c with ⟨kvs, h1, h2, _⟩ | ⟨ys, h0, h1, h2, h3, h4, h5⟩
  · have l : ks.length = kvs.length := by have := congrArg List.length h2; simpa using this
    rw [l] at q
    exact call_lenD pins s σ H _ us Q I r ⟨p, kvs, rfl, h1, q⟩
  · obtain ⟨zs, ws, g1, g2, g3, _⟩ := dict_tup O I c0 h3
    obtain ⟨u, rfl, ru⟩ := vals1 r
    obtain rfl : u = Value.ref p := ru
    have l : ks.length = zs.length := by have := congrArg List.length g3; simpa using this
    have l2 : ks.length = ys.length := by have := congrArg List.length h2; simpa using this
    have sz : ys.length ≤ sizeLine := (I.hok p _ h1).1.1
    rw [sizeLine_eq] at sz
    have hp := O.P; have hw := O.w
    rw [hp, hw]
    have dk : s.heap.DictKeyed (nestedKind G.P G.w) p (pairsH zs) := ⟨_, g1, rfl⟩
    have lz : (pairsH zs).length = ks.length := by rw [pairsH_length, l]
    refine PyProof.Rows.call_len_slot (n := ks.length) dk.typeIs F.slot_dict_len (fun Q' hq => len_keyed g2 dk (by rw [lz]; exact hq)) (by omega) (by omega) ?_
    exact ⟨.int ks.length, H, I.tok _, ⟨_, rfl⟩, q⟩
end
end MP
set_option maxRecDepth 100000
set_option maxHeartbeats 1000000
/-! R1i: dicts written, by values. -/
namespace MP
open PySem PySem.Spec PyProof.Rows L2
section
variable {G : Nms} {X : Cx} {pins : List (Addr × Obj)} {W : Wd} {σ : L2.St} {H : Hp} {s : Shared}
theorem kp_own {p : Addr} {o o' : HO} (hf : ¬ W.fz p) (h : H p = some o) (ht : ∀ xs, o ≠ .tup xs) (hz : ∀ x u, o ≠ .frz x u) : Kp W H (L2.upd H p o') := by
  refine ⟨fun a x f e => ?_, fun a xs e => ?_, fun a x u e => ?_⟩
  · rw [upd_ne (fun z => hf (by subst z; exact f))]; exact e
  · rw [upd_ne (fun z => ht xs (by subst z; rw [h] at e; exact Option.some.inj e))]; exact e
  · rw [upd_ne (fun z => hz x u (by subst z; rw [h] at e; exact Option.some.inj e))]; exact e
theorem cont_kp {p : Addr} {u : U} {o' : HO} (hf : ¬ W.fz p) (c : Cont G W H p u) : Kp W H (L2.upd H p o') := by
  cases u <;> simp only [Cont] at c
  · obtain ⟨vs, h, _⟩ := c
    exact kp_own hf h (fun _ z => by cases z) (fun _ _ z => by cases z)
  · rcases c with ⟨kvs, h, _⟩ | ⟨ys, _, h, _⟩
    · exact kp_own hf h (fun _ z => by cases z) (fun _ _ z => by cases z)
    · exact kp_own hf h (fun _ z => by cases z) (fun _ _ z => by cases z)
  · obtain ⟨dx, fvs, h, _⟩ := c
    exact kp_own hf h (fun _ z => by cases z) (fun _ _ z => by cases z)

theorem put_keys {a u : U} {ka : Key} {v : V} (ha : keyU a = some ka) (hu : RepV G W H u v) : ∀ {ks xs : List U} {kvs : List (Key × V)}, ks.map keyU = kvs.map (fun p => some p.1) → RepVs G W H xs (kvs.map (·.2)) →
    RepVs G W H (List.zipWith (fun k' w => if eqU k' a then u else w) ks xs) ((kvs.map fun kv => if kv.1 = ka then (kv.1, v) else kv).map (·.2))
  | [], xs, [], _, h => by simp only [List.map_nil, List.zipWith_nil_left, RepVs]
  | [], _, _ :: _, e, _ => by simp at e
  | _ :: _, _, [], e, _ => by simp at e
  | k :: ks, [], z :: zs, e, hx => by simp only [RepVs] at hx; simp at hx
  | k :: ks, x :: xs, z :: zs, e, hx => by
    simp only [List.map_cons, List.cons.injEq] at e
    simp only [List.map_cons, RepVs, List.cons.injEq] at hx
    obtain ⟨w, r, ⟨rfl, rfl⟩, h1, h2⟩ := hx
    simp only [List.zipWith_cons_cons, List.map_cons, RepVs]
    refine ⟨_, _, rfl, ?_, put_keys ha hu e.2 h2⟩
    rw [keyU_eq e.1 ha]
    by_cases h : z.1 = ka
    · simp only [h, decide_true, if_true]; exact hu
    · simp only [h, decide_false, Bool.false_eq_true, if_false]; exact h1
theorem put_nks {a u : U} {ka : NestedKey} {v : V} (ha : nkU a = some ka) (hu : RepV G W H u v) : ∀ {ks xs : List U} {ys : List (NestedKey × Addr × V)}, ks.map nkU = ys.map (fun p => some p.1) → RepVs G W H xs (ys.map (·.2.2)) →
    RepVs G W H (List.zipWith (fun k' w => if eqU k' a then u else w) ks xs) ((ys.map fun q => if q.1 = ka then (q.1, q.2.1, v) else q).map (·.2.2))
  | [], xs, [], _, h => by simp only [List.map_nil, List.zipWith_nil_left, RepVs]
  | [], _, _ :: _, e, _ => by simp at e
  | _ :: _, _, [], e, _ => by simp at e
  | k :: ks, [], z :: zs, e, hx => by simp only [RepVs] at hx; simp at hx
  | k :: ks, x :: xs, z :: zs, e, hx => by
    simp only [List.map_cons, List.cons.injEq] at e
    simp only [List.map_cons, RepVs, List.cons.injEq] at hx
    obtain ⟨w, r, ⟨rfl, rfl⟩, h1, h2⟩ := hx
    simp only [List.zipWith_cons_cons, List.map_cons, RepVs]
    refine ⟨_, _, rfl, ?_, put_nks ha hu e.2 h2⟩
    rw [nk_eq 0 0 _ _ _ _ e.1 ha]
    by_cases h : z.1 = ka
    · simp only [h, decide_true, if_true]; exact hu
    · simp only [h, decide_false, Bool.false_eq_true, if_false]; exact h1

/-- the values' list beside the entries -/
def besides : List (NestedKey × Addr × Value) → List V → List (NestedKey × Addr × V)
  | z :: zs, w :: ws => (z.1, z.2.1, w) :: besides zs ws
  | _, _ => []
theorem besides_paired : ∀ {zs : List (NestedKey × Addr × Value)} {ws : List V}, Vals ws (zs.map (·.2.2)) → Paired (fun (p : NestedKey × Addr × V) (q : NestedKey × Addr × Value) => p.1 = q.1 ∧ p.2.1 = q.2.1 ∧ RelV p.2.2 q.2.2) (besides zs ws) zs
  | [], [], _ => .nil
  | z :: zs, w :: ws, h => by
    cases h with
    | cons r t => exact .cons ⟨rfl, rfl, r⟩ (besides_paired t)
  | [], w :: ws, h => by cases h
  | z :: zs, [], h => by cases h
theorem besides_vals : ∀ {zs : List (NestedKey × Addr × Value)} {ws : List V}, Vals ws (zs.map (·.2.2)) → (besides zs ws).map (·.2.2) = ws ∧ (besides zs ws).map (·.1) = zs.map (·.1) ∧ (besides zs ws).map (fun q => V.ref q.2.1) = zs.map (fun q => V.ref q.2.1)
  | [], [], _ => ⟨rfl, rfl, rfl⟩
  | z :: zs, w :: ws, h => by
    cases h with
    | cons r t =>
      obtain ⟨h1, h2, h3⟩ := besides_vals t
      refine ⟨?_, ?_, ?_⟩ <;> simp only [besides, List.map_cons, h1, h2, h3]
  | [], w :: ws, h => by cases h
  | z :: zs, [], h => by cases h

/-- behind a store under a tuple -/
theorem stored_dic (O : Of G X) {y : V} {r : Value} {u : U} {us ks xs : List U} {p b : Addr} {zs : List (NestedKey × Addr × Value)} {ws : List V} {k : NestedKey} {h' : Heap} {tk : Nat} (I : Inv X pins σ H s) (hf : ¬ W.fz p) (ry : RelV y r) (hl : ks.length < line)
    (ha0 : RepV G W H (.tup us) (.ref b)) (hu : RepV G W H u y) (c : Cont G W H p (.dic ks xs)) (h2 : ks.all isTupU = true) (e1 : nkU (.tup us) = some k) (g2 : (p == sysModules) = false) (g3 : ks.map nkU = zs.map (fun z => some z.1)) (g4 : RepVs G W H ks (zs.map fun z => .ref z.2.1)) (g5 : RepVs G W H xs ws) (g6 : Vals ws (zs.map (·.2.2)))
    (hm' : h'.DictOfH (nestedKind G.P G.w) p (storedH zs k b r)) (hs : Heap.SameBut p s.heap h') :
    ∃ o', Inv X pins σ (L2.upd H p o') { s with heap := h', toks := tk } ∧ Cont G W (L2.upd H p o') p (.dic (dput ks xs (.tup us) u).1 (dput ks xs (.tup us) u).2) := by
    have hp := O.P; have hw := O.w
    have hkp : ∀ o', Kp W H (L2.upd H p o') := fun o' => cont_kp hf c
    have l : ks.length = zs.length := by have := congrArg List.length g3; simpa using this
    obtain ⟨b1, b2, b3⟩ := besides_vals g6
    have b0 := besides_paired g6
    have e3 : ks.map nkU = (besides zs ws).map (fun p => some p.1) := by
      rw [g3]
      have : (besides zs ws).map (fun p => some p.1) = ((besides zs ws).map (·.1)).map some := by rw [List.map_map]; rfl
      rw [this, b2, List.map_map]; rfl
    have bl : (besides zs ws).length = ks.length := by have := congrArg List.length e3; simpa using this.symm
    obtain ⟨o, es, ep, m1, m2, m3, m4, m5, m6⟩ := hm'
    -- the new description
    obtain ⟨yv, hy1, hy2, hy3, hy4, hy5⟩ : ∃ yv : List (NestedKey × Addr × V), yv ≠ [] ∧ Paired (fun (p : NestedKey × Addr × V) (q : NestedKey × Addr × Value) => p.1 = q.1 ∧ p.2.1 = q.2.1 ∧ RelV p.2.2 q.2.2) yv (storedH zs k b r) ∧
        (dput ks xs (.tup us) u).1.map nkU = yv.map (fun p => some p.1) ∧ RepVs G W H (dput ks xs (.tup us) u).1 (yv.map fun q => .ref q.2.1) ∧ RepVs G W H (dput ks xs (.tup us) u).2 (yv.map (·.2.2)) := by
      unfold storedH dput
      rw [atKey_mem e1 g3]
      by_cases hm : memU (.tup us) ks = true
      · rw [if_pos hm, if_pos hm]
        refine ⟨(besides zs ws).map fun q => if q.1 = k then (q.1, q.2.1, y) else q, ?_, ?_, ?_, ?_, ?_⟩
        · intro z
          rw [List.map_eq_nil_iff] at z
          rw [z] at bl
          have : ks = [] := List.length_eq_zero_iff.mp bl.symm
          rw [this] at hm
          simp [memU] at hm
        · clear b1 b2 b3 e3 bl m4 m5 m6 g3 g4 g5 g6 l
          generalize besides zs ws = bz at b0
          induction b0 with
          | nil => exact .nil
          | cons rr t ih =>
            simp only [List.map_cons]
            refine .cons ?_ ih
            unfold putAt
            rw [rr.1]
            split
            · exact ⟨rfl, rr.2.1, ry⟩
            · exact rr
        · rw [e3, List.map_map]
          apply List.map_congr_left
          intro q _
          simp only [Function.comp]
          split <;> rfl
        · have : (((besides zs ws).map fun q => if q.1 = k then (q.1, q.2.1, y) else q).map fun q => V.ref q.2.1) = (besides zs ws).map fun q => V.ref q.2.1 := by
            rw [List.map_map]
            apply List.map_congr_left
            intro q _
            simp only [Function.comp]
            split <;> rfl
          rw [this, b3]
          exact g4
        · exact put_nks e1 hu e3 (by rw [b1]; exact g5)
      · rw [if_neg hm, if_neg hm]
        refine ⟨besides zs ws ++ [(k, b, y)], by simp, ?_, ?_, ?_, ?_⟩
        · clear b1 b2 b3 e3 bl m4 m5 m6 g3 g4 g5 g6 l
          generalize besides zs ws = bz at b0
          induction b0 with
          | nil => exact .cons ⟨rfl, rfl, ry⟩ .nil
          | cons rr t ih => exact .cons rr ih
        · rw [List.map_append, List.map_append, e3]
          simp [e1]
        · rw [List.map_append, b3]
          exact RepVs.append g4 (by simp only [List.map_cons, List.map_nil, RepVs]; exact ⟨_, _, rfl, ha0, rfl⟩)
        · rw [List.map_append, b1]
          exact RepVs.append g5 (by simp only [List.map_cons, List.map_nil, RepVs]; exact ⟨_, _, rfl, hu, rfl⟩)
    have hyl : yv.length ≤ sizeLine := by
      have e5 : yv.length = (dput ks xs (.tup us) u).1.length := by have := congrArg List.length hy3; simpa using this.symm
      have e6 : (dput ks xs (.tup us) u).1.length ≤ ks.length + 1 := by unfold dput; split <;> simp
      rw [sizeLine_eq]; unfold line at hl; omega
    have hall : (dput ks xs (.tup us) u).1.all isTupU = true := by
      unfold dput
      split
      · exact h2
      · rw [List.all_append, h2]; rfl
    have mu : Mut (H p) := by
      simp only [Cont] at c
      rcases c with ⟨kvs, h, _⟩ | ⟨ys, _, h, _⟩ <;> (rw [h]; trivial)
    have hNO : ObjOk X.prog X.w (L2.upd H p (NO G.P G.w p yv)) h' p (NO G.P G.w p yv) := by
      refine ⟨⟨hyl, o, es, ep, _, m1, g2, m2, m3, m4, m6, fun z hz => (m5 z hz).2, hy2⟩, ⟨o, m1⟩, ?_⟩
      rintro h1' h2' ⟨l1, o1, es1, ep1, ys1, k1, kr⟩ st
      exact ⟨l1, o1, es1, ep1, ys1, st _ k1, kr⟩
    have I' : Inv X pins σ (L2.upd H p (NO G.P G.w p yv)) { s with heap := h', toks := tk } :=
      I.write mu (.inl rfl) (fun b' u' hb' e => (hs.2 b' hb').trans e) ⟨o, m1⟩ hNO
    refine ⟨_, I', ?_⟩
    simp only [Cont]
    exact .inr ⟨yv, hy1, upd_same, hy3, hall, RepVs.mono (.refl W) (hkp _) _ hy4, RepVs.mono (.refl W) (hkp _) _ hy5⟩

theorem stored_dicK {y : V} {a u : U} {ks xs : List U} {p : Addr} {kvs : List (Key × V)} {k : Key} (hf : ¬ W.fz p) (hu : RepV G W H u y) (c : Cont G W H p (.dic ks xs)) (h1 : keyU a = some k) (g2 : ks.map keyU = kvs.map (fun p => some p.1)) (g3 : RepVs G W H xs (kvs.map (·.2))) :
    Cont G W (L2.upd H p (.dK (putK kvs k y))) p (.dic (dput ks xs a u).1 (dput ks xs a u).2) := by
    have hkp : ∀ o', Kp W H (L2.upd H p o') := fun o' => cont_kp hf c
    simp only [Cont]
    refine .inl ⟨_, upd_same, ?_, ?_⟩
    · unfold dput putK
      rw [valV_any, valV_mem h1 g2]
      by_cases hm : memU a ks = true
      · rw [if_pos hm, if_pos hm, List.map_map]
        rw [g2]
        apply List.map_congr_left
        intro kv _
        simp only [Function.comp]
        split <;> rfl
      · rw [if_neg hm, if_neg hm, List.map_append, List.map_append, g2]
        simp [h1]
    · unfold dput putK
      rw [valV_any, valV_mem h1 g2]
      by_cases hm : memU a ks = true
      · rw [if_pos hm, if_pos hm]
        exact RepVs.mono (.refl W) (hkp _) _ (put_keys h1 hu g2 g3)
      · rw [if_neg hm, if_neg hm, List.map_append]
        exact RepVs.mono (.refl W) (hkp _) _ (RepVs.append g3 (by simp only [List.map_cons, List.map_nil, RepVs]; exact ⟨_, _, rfl, hu, rfl⟩))

/-- the store of an entry -/
theorem set_dic (O : Of G X) {Q : Unit → Shared → Prop} {E : Value → Shared → Prop} {x y : V} {v r : Value} {a u : U} {ks xs : List U} {p : Addr} (I : Inv X pins σ H s) (hf : ¬ W.fz p) (rx : RelV x v) (ry : RelV y r) (hk : kOk ks a = true) (hl : ks.length < line) (ha : RepV G W H a x) (hu : RepV G W H u y) (c : Cont G W H p (.dic ks xs))
    (q : ∀ o' s', Inv X pins σ (L2.upd H p o') s' → Cont G W (L2.upd H p o') p (.dic (dput ks xs a u).1 (dput ks xs a u).2) → Q () s') :
    wpAny (model X.prog X.w) X.A (setItem (.ref p) v r) Q E s := by
  have hp := O.P; have hw := O.w
  have hun := O.un
  have hkp : ∀ o', Kp W H (L2.upd H p o') := fun o' => cont_kp hf c
  rcases kOk_cases hk with ⟨k, h1, h2⟩ | ⟨us, rfl, h1, h2⟩
  · obtain ⟨kvs, g1, g2, g3⟩ := dict_is c h2
    have l : ks.length = kvs.length := by have := congrArg List.length g2; simpa using this
    have ek := RepV.key h1 ha
    subst ek
    refine d_setItem (by omega) I (DPut.k (k := k) (v := y) g1 (by rw [← l, sizeLine_eq]; exact hl)) rx ry fun s' I' => q _ s' I' (stored_dicK hf hu c h1 g2 g3)
  · obtain ⟨zs, ws, g1, g2, g3, g4, g5, g6⟩ := dict_tup O I c h2
    obtain ⟨k, e1, e2⟩ := nk_key h1
    have hn := key_is I _ k x v e1 ha rx
    have ha0 := ha
    simp only [RepV] at ha
    obtain ⟨b, vs, rfl, hb, _⟩ := ha
    obtain rfl : v = Value.ref b := rx
    have l : ks.length = zs.length := by have := congrArg List.length g3; simpa using this
    rw [hp, hw]
    refine wpAny_setItem_heap (knd := nestedKind G.P G.w) (room_n O) ⟨hn, e2⟩ g1 (fun h' hm' hs => ?_) (by rw [← l, sizeLine_eq]; unfold line at hl; omega)
    obtain ⟨o', I', c'⟩ := stored_dic (tk := s.toks + (nestedKind G.P G.w).draws k) O I hf ry hl ha0 hu c h2 e1 g2 g3 g4 g5 g6 hm' hs
    exact q _ _ I' c'
/-- setdefault -/
theorem setd_dic (O : Of G X) {Q : Value → Shared → Prop} {E : Value → Shared → Prop} {x y : V} {v r : Value} {a u : U} {ks xs : List U} {p : Addr} (I : Inv X pins σ H s) (hf : ¬ W.fz p) (rx : RelV x v) (ry : RelV y r) (hk : kOk ks a = true) (hl : ks.length < line) (ha : RepV G W H a x) (hu : RepV G W H u y) (c : Cont G W H p (.dic ks xs))
    (q1 : ∀ w, dget ks xs a = some w → ∀ z zv s', Inv X pins σ H s' → RelV z zv → RepV G W H w z → Q zv s')
    (q2 : dget ks xs a = none → ∀ o' s', Inv X pins σ (L2.upd H p o') s' → Cont G W (L2.upd H p o') p (.dic (ks ++ [a]) (xs ++ [u])) → ∀ rv, RelV y rv → Q rv s') :
    wpAny (model X.prog X.w) X.A (call (.builtin "dict.setdefault") [.ref p, v, r]) Q E s := by
  rcases kOk_cases hk with ⟨k, h1, h2⟩ | ⟨us, rfl, h1, h2⟩
  · obtain ⟨kvs, g1, g2, g3⟩ := dict_is c h2
    have l : ks.length = kvs.length := by have := congrArg List.length g2; simpa using this
    have ek := RepV.key h1 ha
    subst ek
    have gg := valV_get h1 g2 g3
    refine d_setd (k := k) (d := y) I g1 rx ry (by rw [← l, sizeLine_eq]; exact hl) (fun v0 hv w' s' I' rw' => ?_) fun hn w' s' I' rw' => ?_
    · cases e : dget ks xs a with
      | none => rw [gg.2 e] at hv; cases hv
      | some w =>
        obtain ⟨v1, e1, e2⟩ := gg.1 w e
        rw [hv] at e1; cases e1
        exact q1 w e _ _ s' I' rw' e2
    · have hm : memU a ks = false := by
        rw [← valV_mem h1 g2, hn]; rfl
      cases e : dget ks xs a with
      | some w =>
        obtain ⟨v1, e1, e2⟩ := gg.1 w e
        rw [hn] at e1; cases e1
      | none =>
        have c' := stored_dicK hf hu c h1 g2 g3
        unfold dput at c'
        rw [hm] at c'
        exact q2 e _ s' I' c' _ rw'
  · obtain ⟨zs, ws, g1, g2, g3, g4, g5, g6⟩ := dict_tup O I c h2
    obtain ⟨k, e1, e2⟩ := nk_key h1
    have hn := key_is I _ k x v e1 ha rx
    have ha0 := ha
    simp only [RepV] at ha
    obtain ⟨b, vs, rfl, hb, _⟩ := ha
    obtain rfl : v = Value.ref b := rx
    have l : ks.length = zs.length := by have := congrArg List.length g3; simpa using this
    rw [O.P, O.w]
    have gg := atKey_get e1 g3 g5 g6
    refine call_setdefault_heap (knd := nestedKind G.P G.w) (room_n O) ⟨hn, e2⟩ g2 g1 (fun pp hp => ?_) (fun hnn h' hm' hs => ?_) (by rw [← l, sizeLine_eq]; unfold line at hl; omega)
    · cases e : dget ks xs (.tup us) with
      | none => rw [gg.2 e] at hp; cases hp
      | some w =>
        obtain ⟨v1, w1, b1, e3, e4, e5⟩ := gg.1 w e
        rw [hp] at e3; cases e3
        exact q1 w e _ _ _ (I.tok _) e5 e4
    · have hm : memU (.tup us) ks = false := by
        rw [← atKey_mem e1 g3, hnn]; rfl
      cases e : dget ks xs (.tup us) with
      | some w =>
        obtain ⟨v1, w1, b1, e3, e4, e5⟩ := gg.1 w e
        rw [hnn] at e3; cases e3
      | none =>
        obtain ⟨o', I', c'⟩ := stored_dic (tk := s.toks + (nestedKind G.P G.w).draws k) O I hf ry hl ha0 hu c h2 e1 g2 g3 g4 g5 g6 hm' hs
        unfold dput at c'
        rw [hm] at c'
        exact q2 e _ _ I' c' _ ry
end
end MP
set_option maxRecDepth 100000
set_option maxHeartbeats 1000000
/-! R1j: from expressions to their arguments. -/
namespace MP
open PySem PySem.Spec PyProof.Rows L2

theorem PEi {X : Cx} {e : Expr} {t t' : TE} (h : PE X e t) (hi : ∀ σ H Q, t' σ H Q → t σ H Q) : PE X e t' := ⟨fun pins s σ H Q I q => h.run pins s σ H Q I (hi σ H Q q)⟩
theorem PAi {X : Cx} {e : List Expr} {t t' : TA} (h : PA X e t) (hi : ∀ σ H Q, t' σ H Q → t σ H Q) : PA X e t' := ⟨fun pos pins s σ H Q I q => h.run pos pins s σ H Q I (hi σ H Q q)⟩
theorem PTi {X : Cx} {e : Expr} {t t' : TT} (h : PT X e t) (hi : ∀ σ H Q, t' σ H Q → t σ H Q) : PT X e t' := ⟨fun pins s σ H Q I q => h.run pins s σ H Q I (hi _ _ _ q)⟩

section
variable {G : Nms} {Wx : WX} {g : Gst} {W W1 : Wd} {s s1 : Sta} {σ : L2.St} {H H1 : Hp}
theorem RA.ext (e : Ext s s1 σ W W1 H H1) {a : AV} {v : V} (h : RA G σ W s H a v) : RA G σ W1 s1 H1 a v := by
  cases a with
  | v u => exact RepV.ext e h
  | own i => exact h
theorem RAs.ext (e : Ext s s1 σ W W1 H H1) : ∀ {as : List AV} {vs : List V}, RAs G σ W s H as vs → RAs G σ W1 s1 H1 as vs
  | [], [], _ => .nil
  | a :: as, v :: vs, h => by cases h with | cons h t => exact .cons (h.ext e) (RAs.ext e t)
  | [], _ :: _, h => by cases h
  | _ :: _, [], h => by cases h
theorem crep_cont (r : RelSh G W s.m H) {u : U} {v : V} (h : RepV G W H u v) : CRep G W H (MP.cont s.m u) v := by
  cases u <;> first
    | exact .inl h
    | (rename_i n
       simp only [RepV] at h
       obtain ⟨a, e, rfl⟩ := h
       obtain ⟨_, u, h2, h3⟩ := r.mem n a e
       refine .inr ⟨a, rfl, ?_⟩
       show Cont G W H a (s.m.getD n .non)
       rw [List.getD_eq_getElem?_getD, h2]
       exact h3)
theorem crep_of (r : RelFr G W s σ H) {a : AV} {v : V} (h : RA G σ W s H a v) (ho : a.ok s = true) : CRep G W H (a.get s) v := by
  cases a with
  | v u => exact crep_cont r.m h
  | own i =>
    have ho : (match slot s i with | .own _ => true | _ => false) = true := ho
    split at ho
    · rename_i u e
      obtain ⟨_, p, h1, _, _, c⟩ := r.ownAt e
      have : σ[i]? = some (some v) := h
      rw [h1] at this
      obtain rfl : V.ref p = v := Option.some.inj (Option.some.inj this)
      refine .inr ⟨p, rfl, ?_⟩
      unfold AV.get
      simp only [e]
      exact c
    · cases ho
theorem creps_of (r : RelFr G W s σ H) : ∀ {as : List AV} {vs : List V}, RAs G σ W s H as vs → as.all (AV.ok s) = true → Paired (fun u v => CRep G W H u v) (as.map (AV.get s)) vs
  | [], [], _, _ => .nil
  | a :: as, v :: vs, h, ho => by
    simp only [List.all_cons, Bool.and_eq_true] at ho
    cases h with | cons h t => exact .cons (crep_of r h ho.1) (creps_of r t ho.2)
  | [], _ :: _, h, _ => by cases h
  | _ :: _, [], h, _ => by cases h

/-! lists of arguments -/
theorem tArgs_nil {Q : List V → Hp → Prop} (h : tArgs G Wx g [] σ H Q) : tNil σ H Q := by
  obtain ⟨W, s, r, h⟩ := h
  unfold evalAs at h
  exact tAt.fin h r .nil
theorem tArgs_cons {m : ME} {ms : List ME} {Q : List V → Hp → Prop} (h : tArgs G Wx g (m :: ms) σ H Q) : tCons (tArg G Wx g m) (tArgs G Wx g ms) σ H Q := by
  obtain ⟨W, s, r, h⟩ := h
  unfold evalAs at h
  refine ⟨W, s, r, ?_⟩
  refine tAt.imp (tAt.bind (RA G σ) h) ?_
  intro a s' W' H' b _ e1 r1 ra k
  obtain ⟨a1, W1, s1, _, e2, r2, ra2, h2⟩ := k b ra
  refine ⟨W1, s1, r2, ?_⟩
  refine tAt.imp (tAt.bind (RAs G σ) h2) ?_
  intro as s'' W'' H'' bs _ e3 r3 ras k'
  obtain ⟨as1, W2, s2, _, e4, r4, ra4, h4⟩ := k' bs ras
  exact tAt.fin h4 r4 (.cons (ra2.ext e4) ra4)
theorem tEs_nil {Q : List V → Hp → Prop} (h : tEs G Wx g [] σ H Q) : tNil σ H Q := by
  obtain ⟨W, s, r, h⟩ := h
  unfold evalEs at h
  exact tAt.fin h r (by show RepVs G W H [] []; simp only [RepVs])
theorem tEs_cons {m : ME} {ms : List ME} {Q : List V → Hp → Prop} (h : tEs G Wx g (m :: ms) σ H Q) : tCons (tE G Wx g m) (tEs G Wx g ms) σ H Q := by
  obtain ⟨W, s, r, h⟩ := h
  unfold evalEs at h
  refine ⟨W, s, r, ?_⟩
  refine tAt.imp (tAt.bind (RV G) h) ?_
  intro a s' W' H' b _ e1 r1 ra k
  obtain ⟨a1, W1, s1, _, e2, r2, ra2, h2⟩ := k b ra
  refine ⟨W1, s1, r2, ?_⟩
  refine tAt.imp (tAt.bind (RVs G) h2) ?_
  intro as s'' W'' H'' bs _ e3 r3 ras k'
  obtain ⟨as1, W2, s2, _, e4, r4, ra4, h4⟩ := k' bs ras
  refine tAt.fin h4 r4 ?_
  show RepVs G W2 H'' (a1 :: as1) (b :: bs)
  simp only [RepVs]
  exact ⟨b, bs, rfl, RepV.ext e4 ra2, ra4⟩

/-! an operation on what is read, an operation that holds -/
def rA (G : Nms) (g : Gst) (o : Opr) (xs : List V) (H : Hp) (Q : VK) : Prop := ∃ Wx W s σ us u, RelFr G W s σ H ∧ Paired (fun u v => CRep G W H u v) us xs ∧ opSem g o us = some u ∧ Wants G Wx u W s σ H Q
def rH (G : Nms) (g : Gst) (o : Opr) (xs : List V) (H : Hp) (Q : VK) : Prop := ∃ Wx W s σ us u, RelFr G W s σ H ∧ RepVs G W H us xs ∧ opSem g o us = some u ∧ Wants G Wx u W s σ H Q
theorem tE_op {o : Opr} {ms : List ME} {Q : VK} (ho : o.holds = false) (hm : o.meth = false) (h : tE G Wx g (.op o ms) σ H Q) : tArgs G Wx g ms σ H fun xs H' => rA G g o xs H' Q := by
  obtain ⟨W, s, r, h⟩ := h
  unfold evalE at h
  rw [ho, hm] at h
  simp only [Bool.false_eq_true, if_false] at h
  refine ⟨W, s, r, ?_⟩
  refine tAt.imp (tAt.bind (RAs G σ) h) ?_
  intro as s' W' H' b _ e1 r1 ra k
  obtain ⟨as1, W1, s1, _, e2, r2, ra2, h2⟩ := k b ra
  by_cases hk : as1.all (AV.ok s1) = true
  · rw [if_pos hk] at h2
    cases eo : opSem g o (as1.map (AV.get s1)) with
    | none => rw [eo] at h2; exact h2.elim
    | some u =>
      rw [eo] at h2
      exact ⟨Wx, W1, s1, σ, _, u, r2, creps_of r2 ra2 hk, eo, h2⟩
  · rw [if_neg hk] at h2; exact h2.elim
theorem tE_opH {o : Opr} {ms : List ME} {Q : VK} (ho : o.holds = true) (h : tE G Wx g (.op o ms) σ H Q) : tEs G Wx g ms σ H fun xs H' => rH G g o xs H' Q := by
  obtain ⟨W, s, r, h⟩ := h
  unfold evalE at h
  rw [ho] at h
  simp only [if_true] at h
  refine ⟨W, s, r, ?_⟩
  refine tAt.imp (tAt.bind (RVs G) h) ?_
  intro as s' W' H' b _ e1 r1 ra k
  obtain ⟨as1, W1, s1, _, e2, r2, ra2, h2⟩ := k b ra
  cases eo : opSem g o as1 with
  | none => rw [eo] at h2; exact h2.elim
  | some u =>
    rw [eo] at h2
    exact ⟨Wx, W1, s1, σ, _, u, r2, ra2, eo, h2⟩

/-! an argument: a name, any other expression -/
theorem arg_var {X : Cx} {i : Nat} {x : Str} {pos : Pos} (hN : X.N[i]? = some x) (hv : Vis X.env.scope x) (hd : (x == ("__debug__" : Str)) = false) (hcd : (x == ("__classdict__" : Str)) = false) : PE X (.Name x pos) (tArg G Wx g (.var i)) :=
  PEi (pe_var hN hv hd hcd) fun σ H Q h => by
    obtain ⟨W, s, r, h⟩ := h
    unfold argOf isOwn at h
    cases e : slot s i with
    | no =>
      simp only [e] at h
      unfold evalE at h
      simp only [e] at h
      exact h.elim
    | val u =>
      simp only [e] at h
      unfold evalE at h
      simp only [e] at h
      obtain ⟨v, h1, h2⟩ := r.valAt e
      exact ⟨v, h1, tAt.fin h r h2⟩
    | own u =>
      simp only [e] at h
      obtain ⟨_, p, h1, _⟩ := r.ownAt e
      exact ⟨_, h1, tAt.fin h r h1⟩
theorem ex_var {X : Cx} {i : Nat} {x : Str} {pos : Pos} (hN : X.N[i]? = some x) (hv : Vis X.env.scope x) (hd : (x == ("__debug__" : Str)) = false) (hcd : (x == ("__classdict__" : Str)) = false) : PE X (.Name x pos) (tE G Wx g (.var i)) :=
  PEi (pe_var hN hv hd hcd) fun σ H Q h => by
    obtain ⟨W, s, r, h⟩ := h
    unfold evalE at h
    cases e : slot s i with
    | val u =>
      simp only [e] at h
      obtain ⟨v, h1, h2⟩ := r.valAt e
      exact ⟨v, h1, tAt.fin h r h2⟩
    | no => simp only [e] at h; exact h.elim
    | own u => simp only [e] at h; exact h.elim
def isVar : ME → Bool
  | .var _ => true
  | _ => false
theorem tArg_tE {m : ME} {Q : VK} (hm : isVar m = false) (h : tArg G Wx g m σ H Q) : tE G Wx g m σ H Q := by
  obtain ⟨W, s, r, h⟩ := h
  have e : isOwn s m = none := by cases m <;> first | rfl | cases hm
  unfold argOf at h
  rw [e] at h
  refine ⟨W, s, r, ?_⟩
  refine tAt.imp (tAt.bind (RV G) h) ?_
  intro a s' W' H' b _ e1 r1 ra k
  obtain ⟨a1, W1, s1, _, e2, r2, ra2, h2⟩ := k b ra
  exact tAt.fin h2 r2 ra2
end
end MP
set_option maxRecDepth 100000
set_option maxHeartbeats 1000000
/-! R1k: operations on values, each by its rule. -/
namespace MP
open PySem PySem.Spec PyProof.Rows L2

theorem OpRi {X : Cx} {f : Value → Value → Sem Value} {r r' : R2} (h : OpR X f r) (hi : ∀ x y H Q, r' x y H Q → r x y H Q) : OpR X f r' := fun pins s σ H x y v u Q I rx ry q => h pins s σ H x y v u Q I rx ry (hi _ _ _ _ q)
theorem UnRi {X : Cx} {f : Value → Sem Value} {r r' : V → Hp → VK → Prop} (h : UnR X f r) (hi : ∀ x H Q, r' x H Q → r x H Q) : UnR X f r' := fun pins s σ H x v Q I rx q => h pins s σ H x v Q I rx (hi _ _ _ q)
theorem CallRi {X : Cx} {f : Value} {r r' : List V → Hp → VK → Prop} (h : CallR X f r) (hi : ∀ xs H Q, r' xs H Q → r xs H Q) : CallR X f r' := fun pins s σ H xs us Q I rx q => h pins s σ H xs us Q I rx (hi _ _ _ q)
theorem IxRi {X : Cx} {r r' : R2} (h : IxR X r) (hi : ∀ x y H Q, r' x y H Q → r x y H Q) : IxR X r' := fun va sl pins s σ H x y v u Q I rx ry q => h va sl pins s σ H x y v u Q I rx ry (hi _ _ _ _ q)

section
variable {G : Nms} {X : Cx} {g : Gst} {o : Opr} {x y z : V} {H : Hp} {Q : VK}
theorem rA.one (h : rA G g o [x] H Q) : ∃ Wx W s σ a u, RelFr G W s σ H ∧ CRep G W H a x ∧ opSem g o [a] = some u ∧ Wants G Wx u W s σ H Q := by
  obtain ⟨Wx, W, s, σ, us, u, r, c, e, k⟩ := h
  cases c with | cons c t => cases t with | nil => exact ⟨Wx, W, s, σ, _, u, r, c, e, k⟩
theorem rA.two (h : rA G g o [x, y] H Q) : ∃ Wx W s σ a b u, RelFr G W s σ H ∧ CRep G W H a x ∧ CRep G W H b y ∧ opSem g o [a, b] = some u ∧ Wants G Wx u W s σ H Q := by
  obtain ⟨Wx, W, s, σ, us, u, r, c, e, k⟩ := h
  cases c with | cons c t => cases t with | cons d t => cases t with | nil => exact ⟨Wx, W, s, σ, _, _, u, r, c, d, e, k⟩
theorem rA.three (h : rA G g o [x, y, z] H Q) : ∃ Wx W s σ a b c u, RelFr G W s σ H ∧ CRep G W H a x ∧ CRep G W H b y ∧ CRep G W H c z ∧ opSem g o [a, b, c] = some u ∧ Wants G Wx u W s σ H Q := by
  obtain ⟨Wx, W, s, σ, us, u, r, c, e, k⟩ := h
  cases c with | cons c t => cases t with | cons d t => cases t with | cons f t => cases t with | nil => exact ⟨Wx, W, s, σ, _, _, _, u, r, c, d, f, e, k⟩

abbrev r2 (G : Nms) (g : Gst) (o : Opr) : R2 := fun x y H Q => rA G g o [x, y] H Q
abbrev r1 (G : Nms) (g : Gst) (o : Opr) : V → Hp → VK → Prop := fun x H Q => rA G g o [x] H Q
abbrev rX (G : Nms) (g : Gst) (o : Opr) (n : Nat) : List V → Hp → VK → Prop := fun xs H Q => xs.length = n ∧ rA G g o xs H Q

variable (O : Of G X)
include O
theorem so_add : OpR X (binaryOp .Add) (r2 G g .add) := OpRi (op_add.or (op_catX.or (op_cat.or op_add_str))) fun x y H Q h => by
  obtain ⟨Wx, W, s, σ, a, b, u, r, ha, hb, e, k⟩ := h.two
  rw [O.K]
  exact ol_addI e ha hb r k
theorem so_sub : OpR X (binaryOp .Sub) (r2 G g .sub) := OpRi op_sub fun x y H Q h => by
  obtain ⟨Wx, W, s, σ, a, b, u, r, ha, hb, e, k⟩ := h.two
  exact ol_sub e ha hb r k
theorem so_mul : OpR X (binaryOp .Mult) (r2 G g .mul) := OpRi (op_mulW.or (op_repX.or op_rep)) fun x y H Q h => by
  obtain ⟨Wx, W, s, σ, a, b, u, r, ha, hb, e, k⟩ := h.two
  rw [O.K]
  exact ol_mul e ha hb r k
theorem so_fdiv : OpR X (binaryOp .FloorDiv) (r2 G g .fdiv) := OpRi op_fdivW fun x y H Q h => by
  obtain ⟨Wx, W, s, σ, a, b, u, r, ha, hb, e, k⟩ := h.two
  exact ol_fdiv e ha hb r k
theorem so_mod : OpR X (binaryOp .Mod) (r2 G g .mod) := OpRi op_mod fun x y H Q h => by
  obtain ⟨Wx, W, s, σ, a, b, u, r, ha, hb, e, k⟩ := h.two
  exact ol_mod e ha hb r k
theorem so_pow : OpR X (binaryOp .Pow) (r2 G g .pow) := OpRi op_pow fun x y H Q h => by
  obtain ⟨Wx, W, s, σ, a, b, u, r, ha, hb, e, k⟩ := h.two
  exact ol_pow e ha hb r k
theorem so_neg : UnR X (unaryOp .USub) (r1 G g .neg) := UnRi un_neg fun x H Q h => by
  obtain ⟨Wx, W, s, σ, a, u, r, ha, e, k⟩ := h.one
  exact ol_neg e ha r k
theorem so_eq : OpR X (compareOp .Eq) (r2 G g .eq) := OpRi (op_eqD (Nat.lt_of_le_of_lt (by omega) O.un)) fun x y H Q h => by
  obtain ⟨Wx, W, s, σ, a, b, u, r, ha, hb, e, k⟩ := h.two
  rw [O.K]
  exact ol_eq e ha hb r k
theorem so_ne : OpR X (compareOp .NotEq) (r2 G g .ne) := OpRi (op_neD (Nat.lt_of_le_of_lt (by omega) O.un)) fun x y H Q h => by
  obtain ⟨Wx, W, s, σ, a, b, u, r, ha, hb, e, k⟩ := h.two
  rw [O.K]
  exact ol_ne e ha hb r k
theorem so_lt : OpR X (compareOp .Lt) (r2 G g .lt) := OpRi op_lt fun x y H Q h => by
  obtain ⟨Wx, W, s, σ, a, b, u, r, ha, hb, e, k⟩ := h.two
  exact ol_lt e ha hb r k
theorem so_le : OpR X (compareOp .LtE) (r2 G g .le) := OpRi op_le fun x y H Q h => by
  obtain ⟨Wx, W, s, σ, a, b, u, r, ha, hb, e, k⟩ := h.two
  exact ol_le e ha hb r k
theorem so_gt : OpR X (compareOp .Gt) (r2 G g .gt) := OpRi op_gt fun x y H Q h => by
  obtain ⟨Wx, W, s, σ, a, b, u, r, ha, hb, e, k⟩ := h.two
  exact ol_gt e ha hb r k
theorem so_ge : OpR X (compareOp .GtE) (r2 G g .ge) := OpRi op_ge fun x y H Q h => by
  obtain ⟨Wx, W, s, σ, a, b, u, r, ha, hb, e, k⟩ := h.two
  exact ol_ge e ha hb r k
theorem so_ix : IxR X (r2 G g .ix) := IxRi (ix_tup.or (ix_list.or (ix_dic O))) fun x y H Q h => by
  obtain ⟨Wx, W, s, σ, a, b, u, r, ha, hb, e, k⟩ := h.two
  have e : opIx [a, b] = some u := e
  rw [O.K]
  unfold opIx at e
  split at e
  · rename_i us i eq
    simp only [List.cons.injEq, and_true] at eq
    obtain ⟨rfl, rfl⟩ := eq
    exact .inl (ol_ixT e ha hb r k)
  · rename_i us i eq
    simp only [List.cons.injEq, and_true] at eq
    obtain ⟨rfl, rfl⟩ := eq
    exact .inr (.inl (ol_ixL e ha hb r k))
  · rename_i us i eq
    simp only [List.cons.injEq, and_true] at eq
    obtain ⟨rfl, rfl⟩ := eq
    exact .inr (.inl (ol_ixS e ha hb r k))
  · rename_i ks vs kk eq
    simp only [List.cons.injEq, and_true] at eq
    obtain ⟨rfl, rfl⟩ := eq
    split at e
    · rename_i hk
      obtain ⟨p, rfl, c⟩ := ha.dic
      refine .inr (.inr ⟨W, b, ks, vs, u, hk, ?_, ⟨p, rfl, c⟩, e, fun v hv => k.val r hv⟩)
      rcases hb with hb | ⟨q, rfl, cq⟩
      · exact hb
      · exfalso
        rcases kOk_cases hk with ⟨kk, h1, _⟩ | ⟨us, rfl, _, _⟩
        · cases b <;> simp only [Cont] at cq <;> cases h1
        · simp only [Cont] at cq
    · cases e
  · cases e
theorem so_len : CallR X (.builtin "len") (rX G g .len 1) := CallRi (call_len_seq.or ((call_lenDic O).or call_len_str)) fun xs H Q h => by
  obtain ⟨hl, h⟩ := h
  match xs, hl with
  | [x], _ =>
  obtain ⟨Wx, W, s, σ, a, u, r, ha, e, k⟩ := h.one
  have e : opLen [a] = some u := e
  rw [O.K]
  unfold opLen at e
  split at e
  · rename_i us eq
    simp only [List.cons.injEq, and_true] at eq
    subst eq; cases e
    exact .inl (ol_lenS (a := .tup us) rfl ha r k)
  · rename_i us eq
    simp only [List.cons.injEq, and_true] at eq
    subst eq; cases e
    exact .inl (ol_lenS (a := .lst us) rfl ha r k)
  · rename_i us eq
    simp only [List.cons.injEq, and_true] at eq
    subst eq; cases e
    exact .inl (ol_lenS (a := .scr us) rfl ha r k)
  · rename_i ks vs eq
    simp only [List.cons.injEq, and_true] at eq
    subst eq; cases e
    obtain ⟨p, rfl, c⟩ := ha.dic
    exact .inr (.inl ⟨W, p, ks, vs, rfl, c, k.int r⟩)
  · rename_i cs eq
    simp only [List.cons.injEq, and_true] at eq
    subst eq
    rename_i e0
    split at e0
    · rename_i hl
      cases e0
      obtain rfl := ha.str
      refine .inr (.inr ⟨_, rfl, ?_, ?_⟩)
      · rw [sOf_length]; exact le_line hl
      · rw [sOf_length]; exact k.int r
    · cases e0
  · cases e
theorem so_abs : CallR X (.builtin "abs") (rX G g .abs 1) := CallRi call_abs fun xs H Q h => by
  obtain ⟨hl, h⟩ := h
  match xs, hl with
  | [x], _ =>
  obtain ⟨Wx, W, s, σ, a, u, r, ha, e, k⟩ := h.one
  exact ol_abs e ha r k
theorem so_max2 (hc : X.calm = true) : CallR X (.builtin "max") (rX G g .max2 2) := CallRi (call_max2 hc) fun xs H Q h => by
  obtain ⟨hl, h⟩ := h
  match xs, hl with
  | [x, y], _ =>
  obtain ⟨Wx, W, s, σ, a, b, u, r, ha, hb, e, k⟩ := h.two
  exact ol_max2 e ha hb r k
theorem so_min2 (hc : X.calm = true) : CallR X (.builtin "min") (rX G g .min2 2) := CallRi (call_min2 hc) fun xs H Q h => by
  obtain ⟨hl, h⟩ := h
  match xs, hl with
  | [x, y], _ =>
  obtain ⟨Wx, W, s, σ, a, b, u, r, ha, hb, e, k⟩ := h.two
  exact ol_min2 e ha hb r k
theorem so_max1 (hc : X.calm = true) : CallR X (.builtin "max") (rX G g .max1 1) := CallRi (cr_max hc) fun xs H Q h => by
  obtain ⟨hl, h⟩ := h
  match xs, hl with
  | [x], _ =>
  obtain ⟨Wx, W, s, σ, a, u, r, ha, e, k⟩ := h.one
  rw [O.K]
  exact ol_max1 e ha r k
theorem so_all (hc : X.calm = true) : CallR X (.builtin "all") (rX G g .all 1) := CallRi (cr_all hc) fun xs H Q h => by
  obtain ⟨hl, h⟩ := h
  match xs, hl with
  | [x], _ =>
  obtain ⟨Wx, W, s, σ, a, u, r, ha, e, k⟩ := h.one
  rw [O.K]
  exact ol_all e ha r k
theorem so_any (hc : X.calm = true) : CallR X (.builtin "any") (rX G g .any 1) := CallRi (cr_any hc) fun xs H Q h => by
  obtain ⟨hl, h⟩ := h
  match xs, hl with
  | [x], _ =>
  obtain ⟨Wx, W, s, σ, a, u, r, ha, e, k⟩ := h.one
  rw [O.K]
  exact ol_any e ha r k
theorem rl1 {f : Value} {r : V → Hp → VK → Prop} (h : ∀ (pins : List (Addr × Obj)) (s : Shared) (σ : L2.St) (H : Hp) (x : V) (v : Value) (Q : VK), Inv X pins σ H s → RelV x v → r x H Q → wpAny (model X.prog X.w) X.A (call f [v]) (EP X pins σ Q) X.xe s) :
    CallR X f (fun xs H Q => ∃ x, xs = [x] ∧ r x H Q) := by
  intro pins s σ H xs us Q I rx ⟨x, e, q⟩
  subst e
  cases rx with | cons r1 t => cases t with | nil => exact h pins s σ H x _ Q I r1 q
theorem so_tupOf : CallR X (.type "tuple") (rX G g .tupOf 1) := CallRi (rl1 O fun pins s σ H x v Q I r h => rl_tupleX pins s σ H x v Q I r h) fun xs H Q h => by
  obtain ⟨hl, h⟩ := h
  match xs, hl with
  | [x], _ =>
  obtain ⟨Wx, W, s, σ, a, u, r, ha, e, k⟩ := h.one
  rw [O.K]
  exact ⟨x, rfl, ol_tupOf e ha r k⟩
end
end MP
set_option maxRecDepth 100000
set_option maxHeartbeats 1000000
/-! R1l: containers changed. -/
namespace MP
open PySem PySem.Spec PyProof.Rows L2
section
variable {G : Nms} {Wx : WX} {g : Gst} {W W1 : Wd} {s s1 : Sta} {σ : L2.St} {H H1 : Hp}
theorem slot_put (s : Sta) (i j : Nat) (x : Slt) (h : i < s.r.length) : (s.put i x).r[j]? = if i = j then some x else s.r[j]? := by
  unfold Sta.put
  rw [List.getElem?_set]
  split
  · simp [h]
  · rfl
/-- what is changed: where it is -/
theorem mut_at (r : RelFr G W s σ H) {av : AV} {v : V} (ra : RA G σ W s H av v) {c' : U} {s' : Sta} (hs : setC s av c' = some s') (hn : av.get s ≠ .non) :
    ∃ p, v = .ref p ∧ ¬ W.fz p ∧ Cont G W H p (av.get s) ∧
      ∀ o', Kp W H (L2.upd H p o') → Cont G W (L2.upd H p o') p c' → RelFr G W s' σ (L2.upd H p o') ∧ Ext s s' σ W W H (L2.upd H p o') := by
  cases av with
  | own i =>
    have hs : some (s.put i (.own c')) = some s' := hs
    cases hs
    have hn : (match slot s i with | .own u => u | _ => U.non) ≠ .non := hn
    cases e : slot s i with
    | no => rw [e] at hn; exact absurd rfl hn
    | val u => rw [e] at hn; exact absurd rfl hn
    | own u =>
      obtain ⟨e1, p, h1, f1, n1, c⟩ := r.ownAt e
      have e2 : σ[i]? = some (some v) := ra
      rw [h1] at e2
      obtain rfl : V.ref p = v := Option.some.inj (Option.some.inj e2)
      have hg : (AV.own i).get s = u := by unfold AV.get; simp only [e]
      have hi : i < s.r.length := (List.getElem?_eq_some_iff.mp e1).1
      refine ⟨p, rfl, f1, by rw [hg]; exact c, fun o' hk hc => ⟨⟨?_, ?_, ?_, ?_⟩, ?_⟩⟩
      · show (s.r.set i _).length = _
        rw [List.length_set]; exact r.len
      · intro j x hj
        rw [slot_put _ _ _ _ hi] at hj
        split at hj
        · rename_i ij
          subst ij
          cases hj
          exact ⟨_, h1, p, rfl, f1, n1, hc⟩
        · rename_i ij
          obtain ⟨y, q1, q2⟩ := r.slt j x hj
          refine ⟨y, q1, ?_⟩
          cases x with
          | no => trivial
          | val u' => obtain ⟨v', z1, z2⟩ := q2; exact ⟨v', z1, RepV.mono (.refl W) hk _ z2⟩
          | own u' =>
            obtain ⟨q, z1, z2, z3, z4⟩ := q2
            refine ⟨q, z1, z2, z3, z4.mono (.refl W) hk fun o ho => ?_⟩
            rw [upd_ne (fun z => ?_)]
            · exact ho
            · subst z
              rw [z1] at q1
              exact r.apart i j _ _ q ij e1 hj h1 q1
      · intro j k u1 u2 a jk hj hk2 a1 a2
        have key : ∀ m um, (s.put i (.own c')).r[m]? = some (Slt.own um) → ∃ um', s.r[m]? = some (Slt.own um') := fun m um hm => by
          rw [slot_put _ _ _ _ hi] at hm
          split at hm
          · rename_i im; subst im; exact ⟨_, e1⟩
          · exact ⟨_, hm⟩
        obtain ⟨w1, hw1⟩ := key j u1 hj
        obtain ⟨w2, hw2⟩ := key k u2 hk2
        exact r.apart j k _ _ a jk hw1 hw2 a1 a2
      · refine ⟨r.m.len, r.m.nod, fun n a hn => ?_, ?_⟩
        rotate_left
        · intro a ha
          by_cases z : a = p
          · subst z; exact absurd ha f1
          · rw [upd_ne z]; exact r.m.sm a ha
        obtain ⟨z1, u', z2, z3⟩ := r.m.mem n a hn
        refine ⟨z1, u', z2, z3.mono (.refl W) hk fun o ho => ?_⟩
        rw [upd_ne (fun z => ?_)]
        · exact ho
        · subst z; exact n1 (List.mem_of_getElem? hn)
      · refine ⟨.refl W, hk, fun a o ho ha hw => ?_, fun a h => ?_, fun j u' hj => ?_, ?_⟩
        · rw [upd_ne (fun z => ?_)]
          · exact ho
          · subst z; exact hw ⟨i, u, e1, h1⟩
        · rcases h with ⟨q1, q2⟩ | ⟨q1, q2⟩ <;> exact absurd q1 q2
        · rw [slot_put _ _ _ _ hi] at hj
          split at hj
          · rename_i im; subst im; exact ⟨_, e1⟩
          · exact ⟨_, hj⟩
        · show (s.r.set i _).length = _
          rw [List.length_set]
  | v u =>
    cases u with
    | ref n =>
      have hs : (if n < s.m.length then some { s with m := s.m.set n c' } else none) = some s' := hs
      split at hs
      · rename_i hl
        cases hs
        have ra : RepV G W H (.ref n) v := ra
        simp only [RepV] at ra
        obtain ⟨p, e, rfl⟩ := ra
        obtain ⟨f1, u, h2, c⟩ := r.m.mem n p e
        have hg : (AV.v (.ref n)).get s = u := by
          show s.m.getD n .non = u
          rw [List.getD_eq_getElem?_getD, h2]; rfl
        have pm : p ∈ W.al := List.mem_of_getElem? e
        have inj : ∀ m, W.al[m]? = some p → m = n := fun m hm => by
          have hm' : m < W.al.length := (List.getElem?_eq_some_iff.mp hm).1
          exact (List.getElem?_inj hm' r.m.nod).mp (hm.trans e.symm)
        refine ⟨p, rfl, f1, by rw [hg]; exact c, fun o' hk hc => ⟨⟨r.len, ?_, r.apart, ?_⟩, ?_⟩⟩
        · intro j x hj
          obtain ⟨y, q1, q2⟩ := r.slt j x hj
          refine ⟨y, q1, ?_⟩
          cases x with
          | no => trivial
          | val u' => obtain ⟨v', z1, z2⟩ := q2; exact ⟨v', z1, RepV.mono (.refl W) hk _ z2⟩
          | own u' =>
            obtain ⟨q, z1, z2, z3, z4⟩ := q2
            refine ⟨q, z1, z2, z3, z4.mono (.refl W) hk fun o ho => ?_⟩
            rw [upd_ne (fun z => ?_)]
            · exact ho
            · subst z; exact z3 pm
        · refine ⟨?_, r.m.nod, fun m a hm => ?_, fun a ha => ?_⟩
          rotate_left 2
          · by_cases z : a = p
            · subst z; exact absurd ha f1
            · rw [upd_ne z]; exact r.m.sm a ha
          · show (s.m.set n c').length = _
            rw [List.length_set]; exact r.m.len
          · obtain ⟨z1, u', z2, z3⟩ := r.m.mem m a hm
            by_cases hmn : m = n
            · subst hmn
              rw [e] at hm; cases hm
              refine ⟨f1, c', ?_, hc⟩
              show (s.m.set m c')[m]? = _
              rw [List.getElem?_set_self hl]
            · refine ⟨z1, u', ?_, z3.mono (.refl W) hk fun o ho => ?_⟩
              · show (s.m.set n c')[m]? = _
                rw [List.getElem?_set_ne (fun z => hmn z.symm)]; exact z2
              · rw [upd_ne (fun z => ?_)]
                · exact ho
                · subst z; exact hmn (inj m hm)
        · refine ⟨.refl W, hk, fun a o ho ha hw => ?_, fun a h => ?_, fun j u' hj => ⟨u', hj⟩, rfl⟩
          · rw [upd_ne (fun z => ?_)]
            · exact ho
            · subst z; exact ha pm
          · rcases h with ⟨q1, q2⟩ | ⟨q1, q2⟩ <;> exact absurd q1 q2
      · cases hs
    | _ => cases hs

/-- a container's method: what it is given, what is wanted behind it -/
def rM (G : Nms) (o : Mop) : V → List V → Hp → VK → Prop := fun x xs H Q => ∃ Wx W s σ av us u c' s', RelFr G W s σ H ∧ RA G σ W s H av x ∧ RepVs G W H us xs ∧ mutSem o (av.get s) us = some (c', u) ∧ setC s av c' = some s' ∧ tAt G Wx (.ok u s') W s σ H (RV G) Q
theorem mut_some {o : Mop} {c : U} {us : List U} {z : U × U} (h : mutSem o c us = some z) : c ≠ .non := by
  rintro rfl
  have : mutSem o .non us = none := by
    cases o <;> (unfold mutSem; first | rfl | (unfold muAppend; cases us <;> rfl))
  rw [this] at h
  cases h
variable {x y z : V} {xs : List V} {Q : VK} {o : Mop}
theorem RepVs.nil_of (h : RepVs G W H [] xs) : xs = [] := by simpa only [RepVs] using h
theorem RepVs.one_of {a : U} (h : RepVs G W H [a] xs) : ∃ v, xs = [v] ∧ RepV G W H a v := by
  simp only [RepVs] at h
  obtain ⟨v, r, rfl, h1, rfl⟩ := h
  exact ⟨v, rfl, h1⟩
theorem RepVs.two_of {a b : U} (h : RepVs G W H [a, b] xs) : ∃ v w, xs = [v, w] ∧ RepV G W H a v ∧ RepV G W H b w := by
  simp only [RepVs] at h
  obtain ⟨v, r, rfl, h1, w, r', rfl, h2, rfl⟩ := h
  exact ⟨v, w, rfl, h1, h2⟩
theorem cont_lst {p : Addr} {us : List U} (c : Cont G W H p (.lst us)) : ∃ vs, H p = some (HO.lst vs) ∧ RepVs G W H us vs := by simpa only [Cont] using c
theorem cont_lst_of {p : Addr} {us : List U} {vs : List V} (h : H p = some (HO.lst vs)) (r : RepVs G W H us vs) : Cont G W H p (.lst us) := by simp only [Cont]; exact ⟨vs, h, r⟩
/-- a list changed, by values -/
theorem lst_put {p : Addr} {us us' : List U} {vs' : List V} (hf : ¬ W.fz p) (c : Cont G W H p (.lst us)) (r : RepVs G W H us' vs') : Kp W H (L2.upd H p (HO.lst vs')) ∧ Cont G W (L2.upd H p (HO.lst vs')) p (.lst us') := by
  have k := cont_kp (o' := HO.lst vs') hf c
  exact ⟨k, cont_lst_of upd_same (RepVs.mono (.refl W) k _ r)⟩

theorem RepVs.take : ∀ {us : List U} {vs : List V} (_ : RepVs G W H us vs) (n : Nat), RepVs G W H (us.take n) (vs.take n)
  | [], _, h, n => by obtain rfl := h.nil_of; simp only [List.take_nil, RepVs]
  | u :: us, _, h, 0 => by simp only [List.take_zero, RepVs]
  | u :: us, _, h, n + 1 => by
    simp only [RepVs] at h
    obtain ⟨v, r, rfl, h1, h2⟩ := h
    simp only [List.take_succ_cons, RepVs]
    exact ⟨v, _, rfl, h1, RepVs.take h2 n⟩
theorem RepVs.drop : ∀ {us : List U} {vs : List V} (_ : RepVs G W H us vs) (n : Nat), RepVs G W H (us.drop n) (vs.drop n)
  | [], _, h, n => by obtain rfl := h.nil_of; simp only [List.drop_nil, RepVs]
  | u :: us, _, h, 0 => h
  | u :: us, _, h, n + 1 => by
    simp only [RepVs] at h
    obtain ⟨v, r, rfl, h1, h2⟩ := h
    simp only [List.drop_succ_cons]
    exact RepVs.drop h2 n
theorem RepVs.set {a : U} {b : V} (hb : RepV G W H a b) : ∀ {us : List U} {vs : List V} (_ : RepVs G W H us vs) (n : Nat), RepVs G W H (us.set n a) (vs.set n b)
  | [], _, h, n => by obtain rfl := h.nil_of; simp only [List.set_nil, RepVs]
  | u :: us, _, h, 0 => by
    simp only [RepVs] at h
    obtain ⟨v, r, rfl, h1, h2⟩ := h
    simp only [List.set_cons_zero, RepVs]
    exact ⟨b, _, rfl, hb, h2⟩
  | u :: us, _, h, n + 1 => by
    simp only [RepVs] at h
    obtain ⟨v, r, rfl, h1, h2⟩ := h
    simp only [List.set_cons_succ, RepVs]
    exact ⟨v, _, rfl, h1, RepVs.set hb h2 n⟩
theorem RepVs.erase : ∀ {us : List U} {vs : List V} (_ : RepVs G W H us vs) (n : Nat), RepVs G W H (us.eraseIdx n) (vs.eraseIdx n)
  | [], _, h, n => by obtain rfl := h.nil_of; simp only [List.eraseIdx_nil, RepVs]
  | u :: us, _, h, 0 => by
    simp only [RepVs] at h
    obtain ⟨v, r, rfl, h1, h2⟩ := h
    simpa only [List.eraseIdx_cons_zero] using h2
  | u :: us, _, h, n + 1 => by
    simp only [RepVs] at h
    obtain ⟨v, r, rfl, h1, h2⟩ := h
    simp only [List.eraseIdx_cons_succ, RepVs]
    exact ⟨v, _, rfl, h1, RepVs.erase h2 n⟩

theorem om_append (h : rM G .append x xs H Q) : rAppend x xs H Q := by
  obtain ⟨Wx, W, s, σ, av, us, u, c', s', r, ra, rs, e, hs, k⟩ := h
  obtain ⟨p, rfl, hf, c, done⟩ := mut_at r ra hs (mut_some e)
  change muAppend (av.get s) us = some (c', u) at e
  unfold muAppend at e
  split at e
  · rename_i ys a eq1
    rw [eq1] at c
    obtain ⟨vs, h1, h2⟩ := (cont_lst c)
    obtain ⟨v, rfl, h3⟩ := rs.one_of
    split at e
    · rename_i hl
      cases e
      have hr : RepVs G W H (ys ++ [a]) (vs ++ [v]) := h2.append rs
      obtain ⟨k1, k2⟩ := lst_put hf c hr
      obtain ⟨d1, d2⟩ := done _ k1 k2
      refine ⟨p, vs, v, rfl, rfl, h1, ?_, k W _ _ d2 d1 (by show RepV G W _ .non .non; simp only [RepV])⟩
      rw [← RepVs.length h2, sizeLine_eq]; exact hl
    · cases e
  · cases e
theorem om_pop (h : rM G .pop x xs H Q) : rPop x xs H Q := by
  obtain ⟨Wx, W, s, σ, av, us, u, c', s', r, ra, rs, e, hs, k⟩ := h
  obtain ⟨p, rfl, hf, c, done⟩ := mut_at r ra hs (mut_some e)
  change muPop (av.get s) us = some (c', u) at e
  unfold muPop at e
  split at e
  · rename_i ys eq1
    rw [eq1] at c
    obtain ⟨vs, h1, h2⟩ := (cont_lst c)
    obtain rfl := rs.nil_of
    split at e
    · rename_i a hl
      cases e
      rw [List.getLast?_eq_getElem?] at hl
      obtain ⟨v, h3, h4⟩ := RepVs.get h2 hl
      rw [RepVs.length h2] at h3
      have hr : RepVs G W H ys.dropLast vs.dropLast := by
        rw [List.dropLast_eq_take, List.dropLast_eq_take, ← RepVs.length h2]
        exact RepVs.take h2 _
      obtain ⟨k1, k2⟩ := lst_put hf c hr
      obtain ⟨d1, d2⟩ := done _ k1 k2
      exact ⟨p, vs, v, rfl, rfl, h1, h3, k W _ _ d2 d1 (RepV.mono (.refl W) k1 _ h4)⟩
    · cases e
  · cases e
theorem om_popAt (h : rM G .popAt x xs H Q) : rPopAt x xs H Q := by
  obtain ⟨Wx, W, s, σ, av, us, u, c', s', r, ra, rs, e, hs, k⟩ := h
  obtain ⟨p, rfl, hf, c, done⟩ := mut_at r ra hs (mut_some e)
  change muPopAt (av.get s) us = some (c', u) at e
  unfold muPopAt at e
  split at e
  · rename_i ys i eq1
    rw [eq1] at c
    obtain ⟨vs, h1, h2⟩ := (cont_lst c)
    obtain ⟨v, rfl, h3⟩ := rs.one_of
    split at e
    · rename_i h0
      split at e
      · rename_i a hl
        cases e
        obtain ⟨w, h4, h5⟩ := RepVs.get h2 hl
        have hr := RepVs.erase h2 i.toNat
        obtain ⟨k1, k2⟩ := lst_put hf c hr
        obtain ⟨d1, d2⟩ := done _ k1 k2
        simp only [RepV] at h3
        subst h3
        have hlt := (List.getElem?_eq_some_iff.mp h4).1
        refine ⟨p, vs, i, i.toNat, w, rfl, rfl, h1, by have := h0.1; omega, ?_, ?_, h4, k W _ _ d2 d1 (RepV.mono (.refl W) k1 _ h5)⟩
        · have := h0.2; unfold bound at this; omega
        · have h00 := h0.1
          have e1 : (i.toNat : Int) = i := Int.toNat_of_nonneg h00
          unfold seqIndex?
          have e2 : ¬ i < 0 := by omega
          simp only [e2, if_false]
          rw [if_pos]
          simp only [Bool.and_eq_true, decide_eq_true_eq]
          omega
      · cases e
    · cases e
  · cases e
end
end MP
set_option maxRecDepth 100000
set_option maxHeartbeats 1000000
/-! R1m: an item set, read, set anew. -/
namespace MP
open PySem PySem.Spec PyProof.Rows L2
section
variable {G : Nms} {g : Gst} {X : Cx}
def tSetU (G : Nms) : TSet := fun o i v H Q => ∃ W s σ av a u c' u0 s', RelFr G W s σ H ∧ RA G σ W s H av o ∧ RepV G W H a i ∧ RepV G W H u v ∧ mutSem .setIx (av.get s) [a, u] = some (c', u0) ∧ setC s av c' = some s' ∧ ∀ H', RelFr G W s' σ H' → Ext s s' σ W W H H' → Q H'
theorem pset_U (O : Of G X) : PSet X (tSetU G) := by
  intro pins s0 σ0 H o i v ov iv uv Q I ro ri rv ⟨W, s, σ, av, a, u, c', u0, s', r, ra, ha, hu, e, hs, k⟩
  obtain ⟨p, rfl, hf, c, done⟩ := mut_at r ra hs (mut_some e)
  change muSetIx (av.get s) [a, u] = some (c', u0) at e
  unfold muSetIx at e
  split at e
  · rename_i xs kk b eq1 eq2
    rw [eq1] at c
    simp only [List.cons.injEq, and_true] at eq2
    obtain ⟨rfl, rfl⟩ := eq2
    obtain ⟨vs, h1, h2⟩ := cont_lst c
    simp only [RepV] at ha
    subst ha
    have hl := RepVs.length h2
    have fin : ∀ j, ixN vs.length kk = some j → c' = .lst (xs.set j u) → wpAny (model X.prog X.w) X.A (setItem ov iv uv) (fun _ s' => ∃ H', Inv X pins σ0 H' s' ∧ Q H') X.xe s0 := fun j hj hc => by
      subst hc
      obtain ⟨k1, k2⟩ := lst_put hf c (RepVs.set hu h2 j)
      obtain ⟨d1, d2⟩ := done _ k1 k2
      exact set_list pins s0 σ0 H _ _ v ov iv uv Q I ro ri rv ⟨p, vs, kk, j, rfl, rfl, h1, hj, k _ d1 d2⟩
    split at e
    · rename_i h0
      split at e
      · rename_i h3
        cases e
        refine fin kk.toNat ?_ rfl
        unfold ixN
        rw [if_pos h0, if_pos (by omega)]
      · cases e
    · rename_i h0
      split at e
      · rename_i h3
        cases e
        refine fin (kk + xs.length).toNat ?_ rfl
        unfold ixN
        rw [if_neg h0, if_pos (by omega), hl]
      · cases e
  · rename_i ks ws kk b eq1 eq2
    rw [eq1] at c
    simp only [List.cons.injEq, and_true] at eq2
    obtain ⟨rfl, rfl⟩ := eq2
    split at e
    · rename_i hk
      simp only [Bool.and_eq_true, decide_eq_true_eq] at hk
      cases e
      cases ro
      refine wpAny_mono (set_dic (Q := fun _ s' => ∃ H', Inv X pins σ0 H' s' ∧ Q H') (E := X.xe) O I hf ri rv hk.1 hk.2 ha hu c fun o' s1 I1 c1 => ?_) (fun _ _ h => h) (fun _ _ h => h)
      obtain ⟨d1, d2⟩ := done o' (cont_kp hf c) c1
      exact ⟨_, I1, k _ d1 d2⟩
    · cases e
  · cases e
def tGetU (G : Nms) (g : Gst) : V → V → Hp → VK → Prop := r2 G g .ix
theorem pget_U (O : Of G X) : PGet X (tGetU G g) := by
  intro pins s0 σ0 H o i ov iv Q I ro ri h
  obtain ⟨Wx, W, s, σ, a, b, u, r, ha, hb, e, k⟩ := rA.two h
  change opIx [a, b] = some u at e
  have hn := line63
  have hlist : ∀ (p : Addr) (vs : List V) (z : V) (j : Int), o = .ref p → i = .int j → SqL X.K H p vs → L2.atI vs j = some z → Q z H → wpAny (model X.prog X.w) X.A (getItem ov iv) (EP X pins σ0 Q) X.xe s0 := by
    rintro p vs z j rfl rfl hq he q
    cases ro
    obtain ⟨t, rfl⟩ := ri
    obtain ⟨its, r, pl, hz⟩ := I.list hq
    obtain ⟨jj, h1, h2, h3, h4, h5⟩ := atI_get he
    obtain ⟨w, ew, rw'⟩ := r.get h2
    have hl := r.length
    have fin : EP X pins σ0 Q w s0 := ⟨z, H, I, rw', q⟩
    by_cases h0 : 0 ≤ j
    · have hj : j.toNat = jj := by
        rw [seqIndex_of h0 h5] at h1
        exact Option.some.inj h1
      exact wpAny_getItem_list pl.isList h0 (by omega) (by rw [hj]; simpa using ew) fin
    · have hj : (j + (its.toArray.size : Int)).toNat = jj := by
        rw [seqIndex_neg (by omega) h4] at h1
        rw [List.size_toArray, ← hl]
        exact Option.some.inj h1
      exact wpAny_getItem_list_neg pl.isList (by omega) (by rw [List.size_toArray] <;> omega) (by omega) (by rw [hj]; simpa using ew) fin
  unfold opIx at e
  split at e
  · rename_i us j eq
    simp only [List.cons.injEq, and_true] at eq
    obtain ⟨rfl, rfl⟩ := eq
    obtain ⟨p, vs, rfl, h1, h2⟩ := ha.tup
    obtain ⟨z, h3, h4⟩ := atI_rep h2 e
    obtain rfl := hb.int
    cases ro
    obtain ⟨t, rfl⟩ := ri
    obtain ⟨its, r', pl, hz⟩ := I.tuple (TX.sq (K := X.K) h1)
    obtain ⟨jj, q1, q2, q3, q4, q5⟩ := atI_get h3
    obtain ⟨w, ew, rw'⟩ := r'.get q2
    have hl := r'.length
    exact getItem_tuple (j := jj) (Q := fun r s' => EP X pins σ0 Q r s') pl (by omega) (by omega) (by rw [List.size_toArray, ← hl]; exact q1) (by simpa using ew) ⟨z, H, I, rw', k.val r h4⟩
  · rename_i us j eq
    simp only [List.cons.injEq, and_true] at eq
    obtain ⟨rfl, rfl⟩ := eq
    have := ol_ixL e ha hb r k
    obtain ⟨p, vs, jj, z, rfl, rfl, hq, he, q⟩ := this
    rw [← O.K] at hq
    exact hlist p vs z jj rfl rfl hq he q
  · rename_i us j eq
    simp only [List.cons.injEq, and_true] at eq
    obtain ⟨rfl, rfl⟩ := eq
    have := ol_ixS e ha hb r k
    obtain ⟨p, vs, jj, z, rfl, rfl, hq, he, q⟩ := this
    rw [← O.K] at hq
    exact hlist p vs z jj rfl rfl hq he q
  · rename_i ks vs kk eq
    simp only [List.cons.injEq, and_true] at eq
    obtain ⟨rfl, rfl⟩ := eq
    split at e
    · rename_i hk
      obtain ⟨p, rfl, c⟩ := ha.dic
      cases ro
      refine getItem_dic O I ri hk ?_ c e fun v hv => k.val r hv
      rcases hb with hb | ⟨q, rfl, cq⟩
      · exact hb
      · exfalso
        rcases kOk_cases hk with ⟨kk, h1, _⟩ | ⟨us, rfl, _, _⟩
        · cases b <;> simp only [Cont] at cq <;> cases h1
        · simp only [Cont] at cq
    · cases e
  · cases e

/-! x op= y -/
def rAug (G : Nms) (o : Opr) : R2 := fun x y H Q => ∃ Wx W s σ a b, RelFr G W s σ H ∧ CRep G W H a x ∧ CRep G W H b y ∧ tAt G Wx (opAug o a b s) W s σ H (RV G) Q
def augOp : Opr → Option Operator
  | .add => some .Add
  | .sub => some .Sub
  | .mul => some .Mult
  | .fdiv => some .FloorDiv
  | .mod => some .Mod
  | _ => none
theorem pip_U {o : Opr} {op : Operator} (ho : augOp o = some op) : OpR X (inplaceOp op) (rAug G o) := by
  intro pins s0 σ0 H x y v u Q I rx ry ⟨Wx, W, s, σ, a, b, r, ha, hb, k⟩
  unfold opAug at k
  split at k
  · cases ho
    obtain rfl := ha.int
    obtain rfl := hb.int
    exact iop_add pins s0 σ0 H _ _ v u Q I rx ry ⟨_, _, rfl, rfl, tAt.fin k r (by show RepV G W H _ _; simp only [RepV])⟩
  · cases ho
    obtain rfl := ha.int
    obtain rfl := hb.int
    exact iop_sub pins s0 σ0 H _ _ v u Q I rx ry ⟨_, _, rfl, rfl, tAt.fin k r (by show RepV G W H _ _; simp only [RepV])⟩
  · split at k
    · rename_i hc
      cases ho
      obtain rfl := ha.int
      obtain rfl := hb.int
      refine iop_mul pins s0 σ0 H _ _ v u Q I rx ry ⟨_, _, rfl, rfl, .inl ?_, tAt.fin k r (by show RepV G W H _ _; simp only [RepV])⟩
      unfold two64 at hc
      omega
    · exact k.elim
  · split at k
    · rename_i hc
      cases ho
      obtain rfl := ha.int
      obtain rfl := hb.int
      exact iop_fdiv pins s0 σ0 H _ _ v u Q I rx ry ⟨_, _, rfl, rfl, hc, tAt.fin k r (by show RepV G W H _ _; simp only [RepV])⟩
    · exact k.elim
  · split at k
    · rename_i hc
      cases ho
      obtain rfl := ha.int
      obtain rfl := hb.int
      exact iop_mod pins s0 σ0 H _ _ v u Q I rx ry ⟨_, _, rfl, rfl, hc, tAt.fin k r (by show RepV G W H _ _; simp only [RepV])⟩
    · exact k.elim
  · split at k
    · rename_i hc
      cases ho
      obtain rfl := ha.str
      obtain rfl := hb.str
      refine iop_add_str pins s0 σ0 H _ _ v u Q I rx ry ⟨_, _, rfl, rfl, by rw [sOf_length, sOf_length]; exact le_line hc, ?_⟩
      rw [← sOf_append]
      exact tAt.fin k r (by show RepV G W H _ _; simp only [RepV])
    · exact k.elim
  · exact k.elim
end
end MP
set_option maxRecDepth 100000
set_option maxHeartbeats 1000000
/-! R1n: new objects. -/
namespace MP
open PySem PySem.Spec PyProof.Rows L2
section
variable {G : Nms} {Wx : WX} {g : Gst} {W W0 W1 : Wd} {s s0 s1 : Sta} {σ : L2.St} {H H0 H1 : Hp} {Q : VK} {u : U}
theorem Ext.none (a : Ext s s1 σ W W1 H H1) {x : Addr} (h1 : H1 x = Option.none) : H x = Option.none ∨ Ownd s σ x ∨ x ∈ W.al := by
  cases e : H x with
  | none => exact .inl rfl
  | some o =>
    by_cases h2 : x ∈ W.al
    · exact .inr (.inr h2)
    · by_cases h3 : Ownd s σ x
      · exact .inr (.inl h3)
      · have z := a.fr x o e h2 h3
        rw [h1] at z; cases z
/-- a new object, still one's own -/
def RN (G : Nms) (σ : L2.St) (W0 : Wd) (s0 : Sta) (H0 : Hp) : Wd → Sta → Hp → U → V → Prop := fun W s H u v => ∃ p, v = .ref p ∧ ¬ W.fz p ∧ p ∉ W.al ∧ ¬ Ownd s σ p ∧ (H0 p = none ∨ Ownd s0 σ p ∨ p ∈ W0.al) ∧ Cont G W H p u
def tN (G : Nms) (Wx : WX) (g : Gst) (m : ME) : TE := fun σ H Q => ∃ W s, RelFr G W s σ H ∧ tAt G Wx (newOf (evalE g m s)) W s σ H (RN G σ W s H) Q
def WantsN (G : Nms) (u : U) (W : Wd) (H : Hp) (Q : VK) : Prop := ∀ p o, H p = none → Cont G W (L2.upd H p o) p u → Q (.ref p) (L2.upd H p o)
theorem new_RV (r : RelFr G W s σ H) (k : tAt G Wx (.ok u s) W s σ H (RV G) Q) (hu : isLD u = true) : WantsN G u W H Q := fun p o hp c => by
  refine tAt.finO k r p hp ?_
  show RepV G (W.ice p) (L2.upd H p o) u (.ref p)
  have c' : Cont G (W.ice p) (L2.upd H p o) p u := c.mono Wd.le_ice (.refl W _) fun _ h => h
  cases u <;> first | cases hu | skip
  · simp only [Cont] at c'
    obtain ⟨vs, h1, h2⟩ := c'
    simp only [RepV]
    exact ⟨p, vs, rfl, .inr rfl, h1, h2⟩
  · simp only [RepV]
    refine ⟨p, rfl, .inr rfl, ?_⟩
    simpa only [Cont] using c'
theorem new_RN (e : Ext s0 s1 σ W0 W1 H0 H1) (r : RelFr G W1 s1 σ H1) (k : tAt G Wx (.ok u s1) W1 s1 σ H1 (RN G σ W0 s0 H0) Q) : WantsN G u W1 H1 Q := fun p o hp c => by
  refine k W1 _ _ (.upd hp) (r.upd hp) ⟨p, rfl, fun z => ?_, fun z => ?_, fun z => ?_, e.none hp, c⟩
  · obtain ⟨x, h⟩ := r.m.sm p z
    rw [hp] at h; cases h
  · obtain ⟨x, h⟩ := r.m.al_some z
    rw [hp] at h; cases h
  · obtain ⟨x, h⟩ := r.own_some z
    rw [hp] at h; cases h
def rN (G : Nms) (g : Gst) (o : Opr) (xs : List V) (H : Hp) (Q : VK) : Prop := ∃ W us u, Paired (fun u v => CRep G W H u v) us xs ∧ opSem g o us = some u ∧ isLD u = true ∧ WantsN G u W H Q
def rNH (G : Nms) (g : Gst) (o : Opr) (xs : List V) (H : Hp) (Q : VK) : Prop := ∃ W us u, RepVs G W H us xs ∧ opSem g o us = some u ∧ isLD u = true ∧ WantsN G u W H Q
theorem rA_N {o : Opr} (hn : ∀ us u, opSem g o us = some u → isLD u = true) {xs : List V} (h : rA G g o xs H Q) : rN G g o xs H Q := by
  obtain ⟨Wx, W, s, σ, us, u, r, c, e, k⟩ := h
  exact ⟨W, us, u, c, e, hn _ _ e, new_RV r k (hn _ _ e)⟩
theorem rH_N {o : Opr} (hn : ∀ us u, opSem g o us = some u → isLD u = true) {xs : List V} (h : rH G g o xs H Q) : rNH G g o xs H Q := by
  obtain ⟨Wx, W, s, σ, us, u, r, c, e, k⟩ := h
  exact ⟨W, us, u, c, e, hn _ _ e, new_RV r k (hn _ _ e)⟩
theorem tN_op {o : Opr} {ms : List ME} (ho : o.holds = false) (hm : o.meth = false) (h : tN G Wx g (.op o ms) σ H Q) : tArgs G Wx g ms σ H fun xs H' => rN G g o xs H' Q := by
  obtain ⟨W, s, r, h⟩ := h
  unfold evalE newOf at h
  rw [ho, hm] at h
  simp only [Bool.false_eq_true, if_false] at h
  refine ⟨W, s, r, ?_⟩
  cases ea : evalAs g ms s with
  | stuck => rw [ea] at h; exact h
  | exc x s' => rw [ea] at h; exact h
  | ok as s' =>
    rw [ea] at h
    intro W' H' b e1 r1 ra
    simp only [Rs.bind] at h
    by_cases hk : as.all (AV.ok s') = true
    · rw [if_pos hk] at h
      cases eo : opSem g o (as.map (AV.get s')) with
      | none => rw [eo] at h; exact h.elim
      | some u =>
        rw [eo] at h
        simp only at h
        by_cases hu : isLD u = true
        · rw [if_pos hu] at h
          exact ⟨W', _, u, creps_of r1 ra hk, eo, hu, new_RN e1 r1 (h.shift e1)⟩
        · rw [if_neg hu] at h; exact h.elim
    · rw [if_neg hk] at h; exact h.elim
theorem tN_opH {o : Opr} {ms : List ME} (ho : o.holds = true) (h : tN G Wx g (.op o ms) σ H Q) : tEs G Wx g ms σ H fun xs H' => rNH G g o xs H' Q := by
  obtain ⟨W, s, r, h⟩ := h
  unfold evalE newOf at h
  rw [ho] at h
  simp only [if_true] at h
  refine ⟨W, s, r, ?_⟩
  cases ea : evalEs g ms s with
  | stuck => rw [ea] at h; exact h
  | exc x s' => rw [ea] at h; exact h
  | ok as s' =>
    rw [ea] at h
    intro W' H' b e1 r1 ra
    simp only [Rs.bind] at h
    cases eo : opSem g o as with
    | none => rw [eo] at h; exact h.elim
    | some u =>
      rw [eo] at h
      simp only at h
      by_cases hu : isLD u = true
      · rw [if_pos hu] at h
        exact ⟨W', _, u, ra, eo, hu, new_RN e1 r1 (h.shift e1)⟩
      · rw [if_neg hu] at h; exact h.elim
end
end MP
set_option maxRecDepth 100000
set_option maxHeartbeats 1000000
/-! R1o: lists, tuples laid; ranges; sorted; once. -/
namespace MP
open PySem PySem.Spec PyProof.Rows L2
section
variable {G : Nms} {g : Gst} {X : Cx} {x y : V} {xs : List V} {H : Hp} {Q : VK}
theorem rN.one {o : Opr} (h : rN G g o [x] H Q) : ∃ W a u, CRep G W H a x ∧ opSem g o [a] = some u ∧ isLD u = true ∧ WantsN G u W H Q := by
  obtain ⟨W, us, u, c, e, hl, k⟩ := h
  cases c with | cons c t => cases t with | nil => exact ⟨W, _, u, c, e, hl, k⟩
theorem rN.two {o : Opr} (h : rN G g o [x, y] H Q) : ∃ W a b u, CRep G W H a x ∧ CRep G W H b y ∧ opSem g o [a, b] = some u ∧ isLD u = true ∧ WantsN G u W H Q := by
  obtain ⟨W, us, u, c, e, hl, k⟩ := h
  cases c with | cons c t => cases t with | cons d t => cases t with | nil => exact ⟨W, _, _, u, c, d, e, hl, k⟩
theorem WantsN.lst {W : Wd} {us : List U} {vs : List V} (k : WantsN G (.lst us) W H Q) (h : RepVs G W H us vs) (p : Addr) (hp : H p = none) : Q (.ref p) (L2.upd H p (HO.lst vs)) :=
  k p _ hp (cont_lst_of upd_same (RepVs.mono (.refl W) (kp_upd hp) _ h))

theorem tR_mono {α β : Type} {Wx : WX} {f : Sta → Rs α} {R : L2.St → Wd → Sta → Hp → α → β → Prop} {σ : L2.St} {H : Hp} {Q Q' : β → Hp → Prop} (h : tR G Wx f R σ H Q) (hq : ∀ b H', Q b H' → Q' b H') : tR G Wx f R σ H Q' := by
  obtain ⟨W, s, r, h⟩ := h
  exact ⟨W, s, r, h.imp fun a s' W' H' b _ _ _ _ k => hq b H' (k b (by assumption))⟩

/-! displays -/
variable {Wx : WX} {es : List Expr} {ms : List ME} {pos : Pos}
theorem okL_is {us : List U} {u : U} (e : okL us = some u) : u = .lst us ∧ us.length ≤ line := by
  unfold okL at e
  split at e
  · cases e; exact ⟨rfl, by assumption⟩
  · cases e
theorem okT_is {us : List U} {u : U} (e : okT us = some u) : u = .tup us ∧ us.length ≤ line := by
  unfold okT at e
  split at e
  · cases e; exact ⟨rfl, by assumption⟩
  · cases e
theorem lst_N (h : rNH G g .lst xs H Q) : xs.length ≤ sizeLine ∧ ∀ p, H p = none → Q (.ref p) (L2.upd H p (HO.lst xs)) := by
  obtain ⟨W, us, u, c, e, hl, k⟩ := h
  obtain ⟨rfl, hz⟩ := okL_is (show okL us = some u from e)
  exact ⟨by rw [← RepVs.length c]; exact le_line hz, fun p hp => k.lst c p hp⟩
theorem opLst_LD (us : List U) (u : U) (e : opSem g .lst us = some u) : isLD u = true := by
  obtain ⟨rfl, _⟩ := okL_is (show okL us = some u from e)
  rfl
theorem se_lst (h : PA X es (tEs G Wx g ms)) : PE X (.List es pos) (tE G Wx g (.op .lst ms)) :=
  PEi (pe_lst h) fun σ H Q q => tR_mono (tE_opH rfl q) fun xs H' h' => lst_N (rH_N opLst_LD h')
theorem sn_lst (h : PA X es (tEs G Wx g ms)) : PE X (.List es pos) (tN G Wx g (.op .lst ms)) :=
  PEi (pe_lst h) fun σ H Q q => tR_mono (tN_opH rfl q) fun xs H' h' => lst_N h'
theorem se_tup {z : Nat} (h : PA X es (tEs G Wx g ms)) : PE X (.Tuple es z pos) (tE G Wx g (.op .tup ms)) :=
  PEi (pe_tupX h) fun σ H Q q => tR_mono (tE_opH rfl q) fun xs H' h' => by
    obtain ⟨Wx, W, s, σ, us, u, r, c, e, k⟩ := h'
    exact ol_tup e c r k

/-! list(..), ranges -/
variable (O : Of G X)
include O
theorem sn_lstOf : CallR X (.type "list") (fun xs H Q => xs.length = 1 ∧ rN G g .lstOf xs H Q) := CallRi call_list_of fun xs H Q h => by
  obtain ⟨hl, h⟩ := h
  match xs, hl with
  | [x], _ =>
  obtain ⟨W, a, u, ha, e, _, k⟩ := h.one
  change opLstOf [a] = some u at e
  rw [O.K]
  unfold opLstOf at e
  split at e
  · rename_i us eq
    simp only [List.cons.injEq, and_true] at eq
    subst eq
    cases e
    obtain ⟨p, vs, rfl, h1, h2⟩ := ha.sq (us := us) rfl
    exact ⟨p, vs, rfl, h1, fun l hl => k.lst h2 l hl⟩
  · rename_i us eq
    simp only [List.cons.injEq, and_true] at eq
    subst eq
    cases e
    obtain ⟨p, vs, rfl, h1, h2⟩ := ha.sq (us := us) rfl
    exact ⟨p, vs, rfl, h1, fun l hl => k.lst h2 l hl⟩
  · cases e
omit O in
theorem opLstOf_LD (us : List U) (u : U) (e : opSem g .lstOf us = some u) : isLD u = true := by
  change opLstOf us = some u at e
  unfold opLstOf at e
  split at e <;> first | (cases e; rfl) | cases e
omit O in
theorem opLstR1_LD (us : List U) (u : U) (e : opSem g .lstR1 us = some u) : isLD u = true := by
  change opLstR1 us = some u at e
  unfold opLstR1 at e
  split at e
  · split at e <;> first | (cases e; rfl) | cases e
  · cases e
omit O in
theorem opLstR2_LD (us : List U) (u : U) (e : opSem g .lstR2 us = some u) : isLD u = true := by
  change opLstR2 us = some u at e
  unfold opLstR2 at e
  split at e
  · split at e <;> first | (cases e; rfl) | cases e
  · cases e
omit O in
theorem rg_ok {a b : Int} (ha : small a = true) (hb : small b = true) (h : (b - a).toNat ≤ line) : RgOk a b := by
  obtain ⟨a1, a2⟩ := small_of ha
  obtain ⟨b1, b2⟩ := small_of hb
  refine ⟨a1, a2, b1, b2, ?_⟩
  unfold line at h
  omega
omit O in
theorem sn_lstR1 (h : rN G g .lstR1 [x] H Q) : ∃ n, x = .int n ∧ RgOk 0 n ∧ ∀ q, H q = none → Q (.ref q) (L2.upd H q (HO.lst (rgV 0 n))) := by
  obtain ⟨W, a, u, ha, e, _, k⟩ := h.one
  change opLstR1 [a] = some u at e
  unfold opLstR1 at e
  split at e
  · rename_i n eq
    simp only [List.cons.injEq, and_true] at eq
    subst eq
    split at e
    · rename_i hh
      simp only [Bool.and_eq_true, decide_eq_true_eq] at hh
      cases e
      exact ⟨n, ha.int, rg_ok rfl hh.1 (by rw [Int.sub_zero]; exact hh.2), fun q hq => k.lst (rng_rep 0 n) q hq⟩
    · cases e
  · cases e
omit O in
theorem sn_lstR2 (h : rN G g .lstR2 [x, y] H Q) : ∃ i j, x = .int i ∧ y = .int j ∧ RgOk i j ∧ ∀ q, H q = none → Q (.ref q) (L2.upd H q (HO.lst (rgV i j))) := by
  obtain ⟨W, a, b, u, ha, hb, e, _, k⟩ := h.two
  change opLstR2 [a, b] = some u at e
  unfold opLstR2 at e
  split at e
  · rename_i i j eq
    simp only [List.cons.injEq, and_true] at eq
    obtain ⟨rfl, rfl⟩ := eq
    split at e
    · rename_i hh
      simp only [Bool.and_eq_true, decide_eq_true_eq] at hh
      cases e
      exact ⟨i, j, ha.int, hb.int, rg_ok hh.1.1 hh.1.2 hh.2, fun q hq => k.lst (rng_rep i j) q hq⟩
    · cases e
  · cases e
omit O in
theorem sa_tupR1 (h : rA G g .tupR1 [x] H Q) : ∃ n, x = .int n ∧ RgOk 0 n ∧ NewT (rgV 0 n) H Q := by
  obtain ⟨Wx, W, s, σ, a, u, r, ha, e, k⟩ := h.one
  change opTupR1 [a] = some u at e
  unfold opTupR1 at e
  split at e
  · rename_i n eq
    simp only [List.cons.injEq, and_true] at eq
    subst eq
    split at e
    · rename_i hh
      simp only [Bool.and_eq_true, decide_eq_true_eq] at hh
      cases e
      exact ⟨n, ha.int, rg_ok rfl hh.1 (by rw [Int.sub_zero]; exact hh.2), k.tup r (rng_rep 0 n)⟩
    · cases e
  · cases e
omit O in
theorem sa_tupR2 (h : rA G g .tupR2 [x, y] H Q) : ∃ i j, x = .int i ∧ y = .int j ∧ RgOk i j ∧ NewT (rgV i j) H Q := by
  obtain ⟨Wx, W, s, σ, a, b, u, r, ha, hb, e, k⟩ := h.two
  change opTupR2 [a, b] = some u at e
  unfold opTupR2 at e
  split at e
  · rename_i i j eq
    simp only [List.cons.injEq, and_true] at eq
    obtain ⟨rfl, rfl⟩ := eq
    split at e
    · rename_i hh
      simp only [Bool.and_eq_true, decide_eq_true_eq] at hh
      cases e
      exact ⟨i, j, ha.int, hb.int, rg_ok hh.1.1 hh.1.2 hh.2, k.tup r (rng_rep i j)⟩
    · cases e
  · cases e
/-- list * int, anew -/
theorem sn_mul : OpR X (binaryOp .Mult) (fun x y H Q => rN G g .mul [x, y] H Q) := OpRi op_rep fun x y H Q h => by
  obtain ⟨W, a, b, u, ha, hb, e, hu, k⟩ := h.two
  change opMul [a, b] = some u at e
  unfold opMul at e
  split at e
  · split at e
    · cases e; cases hu
    · cases e
  · split at e
    · cases e; cases hu
    · cases e
  · rename_i xs n eq
    simp only [List.cons.injEq, and_true] at eq
    obtain ⟨rfl, rfl⟩ := eq
    obtain ⟨p, vs, rfl, h1, h2⟩ := ha.lst
    split at e
    · rename_i h
      cases e
      have h := of_decide_eq_true h
      have l := RepVs.length h2
      exact ⟨p, n, vs, rfl, hb.int, h1, by omega, by omega, le_line (by rw [← l]; exact h.2.2), fun q hq => k.lst (RepVs.rep h2 _) q hq⟩
    · cases e
  · cases e

/-! sorted, once -/
omit O in
theorem insI_perm (x : Int) : ∀ ys, (insI x ys).Perm (x :: ys)
  | [] => by unfold insI; exact .refl _
  | y :: ys => by
    unfold insI
    split
    · exact .refl _
    · exact ((insI_perm x ys).cons y).trans (.swap x y ys)
omit O in
theorem sortI_perm : ∀ xs, (sortI xs).Perm xs
  | [] => by unfold sortI; exact .refl _
  | x :: xs => by unfold sortI; exact (insI_perm x _).trans ((sortI_perm xs).cons x)
omit O in
theorem insI_pw (x : Int) : ∀ {ys : List Int}, ys.Pairwise (· ≤ ·) → (insI x ys).Pairwise (· ≤ ·)
  | [], _ => by unfold insI; simp
  | y :: ys, h => by
    unfold insI
    rw [List.pairwise_cons] at h
    split
    · rename_i hxy
      rw [List.pairwise_cons, List.pairwise_cons]
      refine ⟨fun z hz => ?_, h⟩
      rcases List.mem_cons.mp hz with rfl | hz
      · exact hxy
      · exact Int.le_trans hxy (h.1 z hz)
    · rename_i hxy
      rw [List.pairwise_cons]
      refine ⟨fun z hz => ?_, insI_pw x h.2⟩
      rcases List.mem_cons.mp ((insI_perm x ys).mem_iff.mp hz) with rfl | hz
      · omega
      · exact h.1 z hz
omit O in
theorem sortI_pw : ∀ xs : List Int, (sortI xs).Pairwise (· ≤ ·)
  | [] => by unfold sortI; exact .nil
  | x :: xs => by unfold sortI; exact insI_pw x (sortI_pw xs)
omit O in
theorem sortI_only {xs ys : List Int} (hp : ys.Perm xs) (hs : ys.Pairwise (· ≤ ·)) : ys = sortI xs :=
  List.Perm.eq_of_pairwise (fun a b _ _ h1 h2 => by omega) hs (sortI_pw xs) (hp.trans (sortI_perm xs).symm)
end
end MP
set_option maxRecDepth 100000
set_option maxHeartbeats 1000000
/-! R1p: sorted over ints, in a list or a tuple. -/
namespace MP
open PySem PySem.Spec PyProof.Rows
section
variable {prog : Program} {w : World} {A : Around} {E : Value → Shared → Prop} {s : Shared}
/-- a tuple collected -/
theorem collect_tup {l : Addr} {vs : List Value} {Q : List Value → Shared → Prop} (hl : s.heap.IsTuple l vs.toArray)
    (h : Q vs { s with heap := (s.heap.push (seqObj "list" #[] 0)).update s.heap.objs.size (Obj.mapSeq (· ++ vs.toArray)) }) (hsz : vs.length ≤ sizeLine) :
    wpAny (model prog w) A (collect (.ref l)) Q E s := by
  obtain ⟨o, ho, hc, n, hd⟩ := id hl
  have ho' : (s.heap.push (seqObj "list" #[] 0)).get? l = some o := Heap.get?_push_of_some _ ho
  have hnew := Heap.get?_push_size s.heap (o := seqObj "list" #[] 0) rfl
  unfold collect
  refine wpAny_bind (wpAny_runValue (codeAny_builtin entry_proto_collect' ?_))
  show wpAny _ _ (do again (.builtin "list.__iadd__" ⟨[← newList [], .ref l], []⟩)) _ _ s
  refine wpAny_bind (wpAny_newList (wpAny_pure ⟨Code.quiet_builtin _ (by decide +kernel), codeAny_builtin entry_list_iadd' ?_⟩))
  show wpAny _ _ (Builtin.List.listExtendWith (.ref s.heap.objs.size) (.ref l) (.ref s.heap.objs.size)) _ _ { s with heap := s.heap.push (seqObj "list" #[] 0) }
  unfold Builtin.List.listExtendWith
  refine wpAny_bind (wpAny_typeOf (T := "tuple") ⟨o, ho', hc⟩ ?_)
  have ht : (Value.type "tuple" == Value.type "tuple") = true := by rfl
  rw [if_pos (by rw [ht]; simp)]
  refine wpAny_bind (listItems_at ho' hd ?_)
  refine wpAny_bind (listItems_at (xs := #[]) (n := 0) hnew rfl ?_)
  rw [if_neg (by simp)]
  refine wpAny_bind (listUpdate_at (xs := #[]) (n := 0) hnew rfl ?_ (Nat.zero_le _) (by show (#[] ++ vs.toArray).size ≤ sizeLine + 1; simp only [Array.size_append, List.size_toArray, List.length_nil]; omega))
  refine wpAny_pure ?_
  show wpAny (model prog w) A (do
      let o ← load s.heap.objs.size
      match o.data with
      | .seq xs _ => pure xs.toList
      | _ => unsupported "internal:collect") Q E { s with heap := (s.heap.push (seqObj "list" #[] 0)).update s.heap.objs.size (Obj.mapSeq (· ++ vs.toArray)) }
  refine wpAny_bind (wpAny_load (get?_update_seq hnew _) ?_)
  show wpAny _ _ (pure ((#[] : Array Value) ++ vs.toArray).toList) Q E _
  rw [show ((#[] : Array Value) ++ vs.toArray).toList = vs by simp]
  exact wpAny_pure h
open SrtO in
theorem sorted_tup {l : Addr} {vs : List Value} {ltv : Value → Value → Bool} {Q : Value → Shared → Prop} (O : Swo ltv) (hl : s.heap.IsTuple l vs.toArray) (hz : vs.length ≤ sizeLine)
    (hS : 2 ≤ vs.length → ∀ (h₁ : Heap) (a : Addr), h₁.get? a = some (seqObj "list" vs.toArray 0) → (∀ b o, s.heap.get? b = some o → b ≠ a ∧ h₁.get? b = some o) → SortableO prog w A.in1.in1 { s with heap := h₁ } a vs ltv)
    (h : ∀ out : List Value, Srtd ltv out → Stb ltv out vs → Q (.ref (s.heap.objs.size + 1)) { s with heap := sortedAll s.heap vs out.toArray }) :
    wpAny (model prog w) A (call (.builtin "sorted") [.ref l]) Q E s := by
  refine Calls.call_function_entry kind_sorted plain_sorted entry_sorted (args_sorted1 _) ?_
  unfold Builtin.«sorted»
  refine wpAny_bind (m := checkCount "sorted" 1 1 _) (wpAny_pure ?_)
  refine wpAny_bind (collect_tup hl ?_ hz)
  refine wpAny_bind (wpAny_newList ?_ hz)
  have hsz : ((s.heap.push (seqObj "list" #[] 0)).update s.heap.objs.size (Obj.mapSeq (· ++ vs.toArray))).objs.size = s.heap.objs.size + 1 := by
    rw [Heap.size_update, size_push']
  have hoL : (((s.heap.push (seqObj "list" #[] 0)).update s.heap.objs.size (Obj.mapSeq (· ++ vs.toArray))).push (seqObj "list" vs.toArray 0)).get? (s.heap.objs.size + 1) = some (seqObj "list" vs.toArray 0) := by
    rw [← hsz]; exact Heap.get?_push_size _ rfl
  have keep : ∀ b o, s.heap.get? b = some o → b ≠ s.heap.objs.size + 1 ∧ (((s.heap.push (seqObj "list" #[] 0)).update s.heap.objs.size (Obj.mapSeq (· ++ vs.toArray))).push (seqObj "list" vs.toArray 0)).get? b = some o := fun b o q => by
    have hlt : b < s.heap.objs.size := Heap.lt_size q
    refine ⟨Nat.ne_of_lt (Nat.lt_succ_of_lt hlt), Heap.get?_push_of_some _ ?_⟩
    rw [Heap.get?_update_ne _ _ _ _ (Nat.ne_of_lt hlt)]
    exact Heap.get?_push_of_some _ q
  show wpAny _ _ _ _ _ { s with heap := ((s.heap.push (seqObj "list" #[] 0)).update s.heap.objs.size (Obj.mapSeq (· ++ vs.toArray))).push (seqObj "list" vs.toArray 0) }
  rw [hsz]
  refine wpAny_bind (wpAny_holding (wpAny_call_entry slot_list_sort ⟨_, hoL, rfl⟩ entry_list_sort (list_sort_ord O hoL hz (fun h2 => hS h2 _ _ hoL keep) fun out hs hb => ⟨_, rfl, ?_⟩) (args_list_sort _)))
  exact wpAny_pure ⟨_, rfl, h out hs hb⟩
end
open L2
section
variable {G : Nms} {g : Gst} {X : Cx}
def rSortedTI (K : PySem.W.Frag) : List V → Hp → VK → Prop := fun vs H Q => ∃ (a : Addr) (ns : List Int), vs = [V.ref a] ∧ SqT K H a (ns.map V.int) ∧
  ∀ (ns' : List Int) (p : Addr), ns'.Perm ns → ns'.Pairwise (· ≤ ·) → H p = none → Q (.ref p) (L2.upd H p (HO.lst (ns'.map V.int)))
theorem cr_sortedTI : CallR X (.builtin "sorted") (rSortedTI X.K) := by
  intro pins s σ H vs us Q I r h
  obtain ⟨a, ns, rfl, hs, q⟩ := h
  obtain ⟨its, rv, hl, hz⟩ := I.tuple hs
  rw [Vals.ref1 r]
  have hi := rv.ints
  refine sorted_tup SrtO.swo_int (by obtain ⟨o, h1, h2, n, h3⟩ := hl; exact ⟨o, h1, h2, n, h3⟩) (by rw [← rv.length]; exact hz) (fun h2 h₁ a' _ _ => SrtO.ints_sortable hi h2) fun out h1 h2 => ?_
  obtain ⟨k1, k2, k3⟩ := SrtO.ints_out hi h1 h2
  obtain ⟨ep, he'⟩ := PyProof.Rows.sortedAll_at s.heap its out.toArray
  have hlen : ((out.map SrtO.iv).map V.int).length ≤ sizeLine := by
    rw [List.length_map, k2.length_eq]
    rw [List.length_map] at hz
    exact hz
  exact ⟨.ref _, L2.upd H (s.heap.objs.size + 1) (.lst ((out.map SrtO.iv).map V.int)), I.laid (t' := s.toks) (fun _ _ => PyProof.Rows.sortedAll_old) (Nat.le_succ _) ⟨hlen, out, ep, vals_of_ints k1, he'⟩, rfl, q _ _ k2 k3 (I.hok.fresh (Nat.le_succ _))⟩
theorem opSorted_LD (us : List U) (u : U) (e : opSem g .sorted us = some u) : isLD u = true := by
  change opSorted us = some u at e
  unfold opSorted at e
  split at e
  · rename_i us
    cases h : ints? us with
    | none => rw [h] at e; cases e
    | some is => rw [h] at e; cases e; rfl
  · rename_i us
    cases h : ints? us with
    | none => rw [h] at e; cases e
    | some is => rw [h] at e; cases e; rfl
  · cases e
theorem sn_sorted (O : Of G X) : CallR X (.builtin "sorted") (fun xs H Q => xs.length = 1 ∧ rN G g .sorted xs H Q) := CallRi (cr_sortedI.or cr_sortedTI) fun xs H Q h => by
  obtain ⟨hl, h⟩ := h
  match xs, hl with
  | [x], _ =>
  obtain ⟨W, a, u, ha, e, _, k⟩ := h.one
  change opSorted [a] = some u at e
  rw [O.K]
  unfold opSorted at e
  split at e
  · rename_i us eq
    simp only [List.cons.injEq, and_true] at eq
    subst eq
    cases hi : ints? us with
    | none => rw [hi] at e; cases e
    | some is =>
      rw [hi] at e
      cases e
      obtain rfl := ints_of hi
      obtain ⟨p, vs, rfl, h1, h2⟩ := ha.tup
      obtain rfl := ints_rep h2
      exact .inr ⟨p, is, rfl, TX.sq h1, fun ns' q hp hs hq => by rw [sortI_only hp hs]; exact k.lst (rep_ints _) q hq⟩
  · rename_i us eq
    simp only [List.cons.injEq, and_true] at eq
    subst eq
    cases hi : ints? us with
    | none => rw [hi] at e; cases e
    | some is =>
      rw [hi] at e
      cases e
      obtain rfl := ints_of hi
      obtain ⟨p, vs, rfl, h1, h2⟩ := ha.lst
      obtain rfl := ints_rep h2
      exact .inl ⟨p, is, rfl, SqL.of h1, fun ns' q hp hs hq => by rw [sortI_only hp hs]; exact k.lst (rep_ints _) q hq⟩
  · cases e
end
end MP
set_option maxRecDepth 100000
set_option maxHeartbeats 1000000
/-! R1q: isinstance; each once; in; index. -/
namespace MP
open PySem PySem.Spec PyProof.Rows L2
def tyNm : U → Option String
  | .non => some "NoneType"
  | .bl _ => some "bool"
  | .int _ => some "int"
  | .str _ => some "str"
  | .tup _ => some "tuple"
  | .lst _ => some "list"
  | _ => none
def kindNm : Nat → Option String
  | 0 => some "int"
  | 1 => some "bool"
  | 2 => some "tuple"
  | 3 => some "list"
  | 4 => some "str"
  | _ => none
abbrev baseT : List String := ["NoneType", "bool", "int", "str", "tuple", "list"]
abbrev kindT : List String := ["int", "bool", "tuple", "list", "str"]
def clsV (G : Nms) (t : Nat) : V := match kindNm t with
  | some n => .ty n
  | none => .ref (G.cA (t - 10))
/-- what isinstance answers here -/
structure KitOk (G : Nms) (g : Gst) (cs : List Nat) : Prop where
  own : ∀ c ∈ cs, ∀ t ∈ baseT, PySem.W.kitOne G.K (.type t) (.ref (G.cA c)) = some false
  exO : ∀ d ∈ g.excs, ∀ c ∈ cs, PySem.W.kitOne G.K (.ref (G.cA d)) (.ref (G.cA c)) = some (g.sub d c)
  exT : ∀ d ∈ g.excs, ∀ n ∈ kindT, PySem.W.kitOne G.K (.ref (G.cA d)) (.type n) = some false
  exC : ∀ d ∈ g.excs, ExcC G.K (G.cA d)
  exM : ∀ d ∈ g.excs, ∀ c ∈ cs, PySem.W.exmOne G.K (.ref (G.cA d)) (.ref (G.cA c)) = some (g.sub d c)
theorem kit_base : ∀ t ∈ baseT, ∀ n ∈ kindT, kitB t n = some (t == n || (t == "bool" && n == "int")) := by decide +kernel
section
variable {G : Nms} {g : Gst} {X : Cx} {x y : V} {xs : List V} {H : Hp} {Q : VK} {W : Wd} {a : U}
theorem tyNm_mem {n : String} (h : tyNm a = some n) : n ∈ baseT := by
  cases a <;> simp only [tyNm, Option.some.injEq, reduceCtorEq] at h <;> subst h <;> decide
theorem kindNm_mem {t : Nat} {n : String} (h : kindNm t = some n) : n ∈ kindT ∧ t < 10 := by
  unfold kindNm at h
  split at h <;> first | (cases h; exact ⟨by decide, by omega⟩) | cases h
theorem tyx_of {n : String} (h : CRep G W H a x) (e : tyNm a = some n) : TyX G.K H x (.type n) := by
  cases a <;> simp only [tyNm, Option.some.injEq, reduceCtorEq] at e <;> subst e
  · obtain rfl := h.non; exact .base .non
  · obtain rfl := h.bl; exact .base (.bl _)
  · obtain rfl := h.int; exact .base (.int _)
  · obtain rfl := h.str; exact .base (.str _)
  · obtain ⟨p, vs, rfl, h1, _⟩ := h.tup; obtain ⟨o, h1, _⟩ := h1; exact .fTuple h1
  · obtain ⟨p, vs, rfl, h1, _⟩ := h.lst; exact .base (.lst h1)
theorem isK_kind {t : Nat} {n m : String} (h : tyNm a = some n) (hk : kindNm t = some m) : isT g a t = (n == m || (n == "bool" && m == "int")) := by
  have ht := (kindNm_mem hk).2
  unfold isT
  rw [if_pos ht]
  unfold kindNm at hk
  split at hk <;> first | cases hk | skip
  all_goals (cases a <;> simp only [tyNm, Option.some.injEq, reduceCtorEq] at h <;> subst h <;> rfl)
theorem isT_own {t : Nat} {n : String} (h : tyNm a = some n) (ht : 10 ≤ t) : isT g a t = false := by
  unfold isT
  rw [if_neg (by omega)]
  cases a <;> first | rfl | (simp only [tyNm, reduceCtorEq] at h)
/-- isinstance of an exception that is kept -/
theorem call_isX {D : Addr} (C : ExcC X.K D) : CallR X (.builtin "isinstance") (fun xs H Q => ∃ (a : Addr) (c : V) (cv : Value) (b : Bool), xs = [.ref a, c] ∧ H a = some (ExcO (.ref D) none a) ∧ (∀ u, RelV c u → u = cv) ∧ PySem.W.kitOne X.K (.ref D) cv = some b ∧ Q (.bl b) H) := by
  intro pins s σ H xs us Q I r h
  obtain ⟨a, c, cv, b, rfl, hH, hcv, e, q⟩ := h
  cases r with
  | cons rx rr =>
    cases rr with
    | cons rt rr =>
      cases rr
      cases rx
      have ec := hcv _ rt
      subst ec
      obtain ⟨⟨oe, vs, hget, hz, hv⟩, _, _⟩ := (show ObjOk X.prog X.w H s.heap a (ExcO (.ref D) none a) from I.hok a _ hH)
      have J : PySem.W.InstAt s.heap a oe D none := by
        obtain ⟨oc, od, oda, osl⟩ := oe
        obtain ⟨h1, h2⟩ := hz
        dsimp only at h1 h2 hv
        subst h1 h2 hv
        exact ⟨hget, rfl, rfl, trivial⟩
      exact PySem.W.kia_one (PySem.W.handS_kitx_exc C.hg C.hk C.hs C.hd C.ha C.hn C.ht C.hm) I.kIn J e (fun z => nomatch z) fun tk => ⟨.bl b, H, I.kept (t' := tk) fun _ _ z => z, rfl, q⟩
theorem clsV_ty {t : Nat} : ∃ cv, ClsV (clsV G t) cv := by
  unfold clsV
  split
  · exact ⟨_, .ty _⟩
  · exact ⟨_, .own _⟩
theorem clsV_val {t : Nat} {cv u : Value} (h : ClsV (clsV G t) cv) (r : RelV (clsV G t) u) : u = cv := h.eq r
theorem so_isi (O : Of G X) {cs : List Nat} (KK : KitOk G g cs) {t : Nat} (ht : kindNm t = none → 10 ≤ t ∧ t - 10 ∈ cs) : CallR X (.builtin "isinstance") (fun xs H Q => ∃ x, xs = [x, clsV G t] ∧ rA G g (.isi [t]) [x] H Q) := by
  intro pins s0 σ0 H xs us Q I rr ⟨x, hx, h⟩
  obtain ⟨Wx, W, s, σ, a, u, r, ha, e, k⟩ := h.one
  have e0 : (if isiOk g a then some (U.bl ([t].any (isT g a))) else none) = some u := e
  split at e0
  · rename_i hok
    cases e0
    have k := k.bl r
    simp only [List.any_cons, List.any_nil, Bool.or_false] at k
    cases hn : tyNm a with
    | some n =>
      have tx := tyx_of ha hn
      rw [← O.K] at tx
      refine call_isi pins s0 σ0 H xs us Q I rr ?_
      cases hk : kindNm t with
      | some m =>
        rw [isK_kind hn hk] at k
        refine ⟨x, clsV G t, _, _, _, hx, ?_, tx, kit_ty (kit_base n (tyNm_mem hn) m (kindNm_mem hk).1), k⟩
        unfold clsV
        rw [hk]
        exact .ty m
      | none =>
        obtain ⟨h10, hc⟩ := ht hk
        rw [isT_own hn h10] at k
        refine ⟨x, clsV G t, _, Value.ref (G.cA (t - 10)), false, hx, ?_, tx, ?_, k⟩
        · unfold clsV
          rw [hk]
          exact .own _
        · rw [O.K]; exact KK.own _ hc n (tyNm_mem hn)
    | none =>
      cases a with
      | exc d fs =>
        have hd : d ∈ g.excs := by
          have : g.excs.contains d = true := hok
          simpa using this
        rcases ha with ha | ⟨_, _, c⟩
        · simp only [RepV] at ha
          obtain ⟨p, rfl, _, _, hH⟩ := ha
          have C := KK.exC d hd
          rw [← O.K] at C
          refine call_isX C pins s0 σ0 H xs us Q I rr ?_
          obtain ⟨cv, hcv⟩ := clsV_ty (G := G) (t := t)
          refine ⟨p, clsV G t, cv, isT g (.exc d fs) t, hx, hH, fun u hu => hcv.eq hu, ?_, k⟩
          rw [O.K]
          cases hk : kindNm t with
          | some m =>
            have e1 : clsV G t = .ty m := by unfold clsV; rw [hk]
            rw [e1] at hcv
            cases hcv
            rw [KK.exT d hd m (kindNm_mem hk).1]
            have := (kindNm_mem hk).2
            unfold isT
            rw [if_pos this]
            unfold kindNm at hk
            split at hk <;> first | (cases hk; rfl) | cases hk
          | none =>
            obtain ⟨h10, hc⟩ := ht hk
            have e1 : clsV G t = .ref (G.cA (t - 10)) := by unfold clsV; rw [hk]
            rw [e1] at hcv
            cases hcv
            rw [KK.exO d hd _ hc]
            unfold isT
            rw [if_neg (by omega)]
        · simp only [Cont] at c
      | non => cases hn
      | bl b => cases hn
      | int b => cases hn
      | str b => cases hn
      | tup b => cases hn
      | prs b => exact absurd hok (by simp [isiOk])
      | lst b => cases hn
      | dic b c => exact absurd hok (by simp [isiOk])
      | obj b c => exact absurd hok (by simp [isiOk])
      | ref b => exact absurd hok (by simp [isiOk])
      | fn b => exact absurd hok (by simp [isiOk])
      | clo b c => exact absurd hok (by simp [isiOk])
      | hole => exact absurd hok (by simp [isiOk])
      | scr b => exact absurd hok (by simp [isiOk])
  · cases e0
end
end MP
set_option maxRecDepth 100000
set_option maxHeartbeats 1000000
/-! R1r: each once; in; index. -/
namespace MP
open PySem PySem.Spec PyProof.Rows L2
section
variable {G : Nms} {g : Gst} {X : Cx} {x y : V} {xs : List V} {H : Hp} {Q : VK} {W : Wd} {a : U}
/-! len(set(xs)) -/
theorem met_fold (ns : List Int) : PyProof.Rows.firstMet (fun i => ns.getD i 0) ns.length = onceI ns := by
  unfold PyProof.Rows.firstMet onceI
  have : (List.range ns.length).map (fun i => ns.getD i 0) = ns := by
    apply List.ext_getElem?
    intro i
    rw [List.getElem?_map]
    by_cases h : i < ns.length
    · rw [List.getElem?_range h]
      simp [List.getD_eq_getElem?_getD, List.getElem?_eq_getElem h]
    · rw [List.getElem?_eq_none (by simpa using h), List.getElem?_eq_none (by simpa using h)]; rfl
  rw [this]
  rfl
def tOnce (K : PySem.W.Frag) (ta : TE) : TE := fun σ H Q => ta σ H fun x H1 => ∃ (l : Addr) (ns : List Int), x = .ref l ∧ SqL K H1 l (ns.map V.int) ∧ ns.length ≤ 4000 ∧ Q (.int ((onceI ns).length : Nat)) H1
theorem pe_once {e : Expr} {ta : TE} {p p2 q pos : Pos} (hg : Gl X "len") (hm : X.mg "len" = none) (hg2 : Gl X "set") (hm2 : X.mg "set" = none) (ha : PE X e ta) (hc : X.calm = true)
    (na : starEach [e] X.env = (false, eval e X.env) :: starEach [] X.env) : PE X (.Call (.Name "len" p) [.Call (.Name "set" p2) [e] [] q] [] pos) (tOnce X.K ta) := by
  refine ⟨fun pins s σ H Q I h => ?_⟩
  refine Call_ (ld_blt I hg hm boot_len ?_)
  refine PyProof.Rows.callWith_builtin1 (PyProof.Rows.args_cons ?_ rfl) rfl rfl
  refine Call_ (ld_blt I hg2 hm2 boot_set ?_)
  refine PyProof.Rows.callWith_type1 (PyProof.Rows.args_cons (thn (ha.run pins s σ H _ I h) fun v s1 ⟨x, H1, I1, r1, q1⟩ => PyProof.Rows.args_nil ?_) na) na rfl
  obtain ⟨l, ns, rfl, hq, hl, q1⟩ := q1
  cases r1
  obtain ⟨its, r, pl, hz⟩ := I1.list hq
  have hlen : its.toArray.size = ns.length := by rw [List.size_toArray, ← r.length, List.length_map]
  refine call_set_list (I1.ok.hd hc) pl.isList (by simpa using r.ints) (by rw [hlen]; unfold scanBound; omega) fun h' tk hS hk => ?_
  refine PyProof.Rows.args_nil ?_
  rw [hlen, met_fold] at hS
  have hb : (onceI ns).length ≤ ns.length := by rw [← met_fold]; exact PyProof.Rows.firstMet_length_le _ _
  obtain ⟨o, es, ep, t, ho, hex, hd, _, _, _, hf, hn⟩ := hS
  have I2 : Inv X pins σ H1 { s1 with heap := h', toks := tk } := I1.kept fun b o e => hk b o (Heap.lt_size e) e
  exact call_len_set ho hex hd hf (by rw [hn] <;> omega) ⟨.int (onceI ns).length, H1, I2.tok _, ⟨_, by rw [hn]⟩, q1⟩
theorem sa_once (O : Of G X) (h : rA G g .lenSet [x] H Q) : ∃ (l : Addr) (ns : List Int), x = .ref l ∧ SqL X.K H l (ns.map V.int) ∧ ns.length ≤ 4000 ∧ Q (.int ((onceI ns).length : Nat)) H := by
  obtain ⟨Wx, W, s, σ, a, u, r, ha, e, k⟩ := h.one
  change opLenSet [a] = some u at e
  unfold opLenSet at e
  split at e
  · rename_i us eq
    simp only [List.cons.injEq, and_true] at eq
    subst eq
    cases hi : ints? us with
    | none => rw [hi] at e; cases e
    | some is =>
      rw [hi] at e
      simp only [Option.bind_some] at e
      split at e
      · rename_i hl
        cases e
        obtain rfl := ints_of hi
        obtain ⟨p, vs, rfl, h1, h2⟩ := ha.lst
        obtain rfl := ints_rep h2
        exact ⟨p, is, rfl, SqL.of h1, hl, k.int r⟩
      · cases e
  · cases e

/-! in, not in, over lists -/
theorem mem_py (ha : deepU 7 a = true) : ∀ {us : List U}, deepUs 6 us = true → (pyUs us).any (fun z => PyData.eqv z (pyU a)) = memU a us
  | [], _ => by simp only [pyUs, memU, List.any_nil]
  | u :: us, h => by
    simp only [deepUs, Bool.and_eq_true] at h
    simp only [pyUs, memU, List.any_cons]
    rw [eqv_py 6 7 u a h.1 ha, mem_py ha h.2]
    rfl
theorem sz_lst {us : List U} (h : deepUs 6 us = true) : SeqAt.shaped (.list (pyUs us)) = true := shaped_py (u := .lst us) (n := 7) (by simpa only [deepU] using h) (by omega)
def rInU (G : Nms) (neg : Bool) : R2 := fun x y H Q => ∃ W a us, CRep G W H a x ∧ CRep G W H (.lst us) y ∧ a.plain = true ∧ plains us = true ∧ Q (.bl (if neg then !memU a us else memU a us)) H
theorem or_inL (O : Of G X) : OpR X (compareOp .In) (rInU G false) := OpRi (op_inD (Nat.lt_of_le_of_lt (by omega) O.un)) fun x y H Q ⟨W, a, us, ha, hu, p1, p2, k⟩ => by
  rw [O.K]
  refine ⟨pyU a, pyUs us, ha.dp p1, hu.dp (n := 7) (u := .lst us) (by simpa only [deepU] using p2), shaped_py p1 (by omega), sz_lst p2, ?_⟩
  rw [mem_py p1 p2]
  exact k
theorem or_notinL (O : Of G X) : OpR X (compareOp .NotIn) (rInU G true) := OpRi (op_notInD (Nat.lt_of_le_of_lt (by omega) O.un)) fun x y H Q ⟨W, a, us, ha, hu, p1, p2, k⟩ => by
  rw [O.K]
  refine ⟨pyU a, pyUs us, ha.dp p1, hu.dp (n := 7) (u := .lst us) (by simpa only [deepU] using p2), shaped_py p1 (by omega), sz_lst p2, ?_⟩
  rw [mem_py p1 p2]
  exact k
theorem so_in (O : Of G X) : OpR X (compareOp .In) (r2 G g .inn) := OpRi ((or_inL O).or (or_in O)) fun x y H Q h => by
  obtain ⟨Wx, W, s, σ, a, b, u, r, ha, hb, e, k⟩ := rA.two h
  change opInn [a, b] = some u at e
  unfold opInn at e
  split at e
  · rename_i a' us eq
    simp only [List.cons.injEq, and_true] at eq
    obtain ⟨rfl, rfl⟩ := eq
    split at e
    · rename_i hp
      simp only [Bool.and_eq_true] at hp
      cases e
      exact .inl ⟨W, a, us, ha, hb, hp.1, hp.2, k.bl r⟩
    · cases e
  · rename_i a' ks vs eq
    simp only [List.cons.injEq, and_true] at eq
    obtain ⟨rfl, rfl⟩ := eq
    split at e
    · rename_i hk
      cases e
      obtain ⟨p, rfl, c⟩ := hb.dic
      refine .inr ⟨W, a, ks, vs, hk, ?_, ⟨p, rfl, c⟩, k.bl r⟩
      rcases ha with ha | ⟨q, rfl, cq⟩
      · exact ha
      · exfalso
        rcases kOk_cases hk with ⟨kk, h1, _⟩ | ⟨us, rfl, _, _⟩
        · cases a <;> simp only [Cont] at cq <;> cases h1
        · simp only [Cont] at cq
    · cases e
  · cases e
theorem so_notin (O : Of G X) : OpR X (compareOp .NotIn) (r2 G g .notin) := OpRi ((or_notinL O).or (or_notin O)) fun x y H Q h => by
  obtain ⟨Wx, W, s, σ, a, b, u, r, ha, hb, e, k⟩ := rA.two h
  change opNotin [a, b] = some u at e
  unfold opNotin at e
  split at e
  · rename_i a' us eq
    simp only [List.cons.injEq, and_true] at eq
    obtain ⟨rfl, rfl⟩ := eq
    split at e
    · rename_i hp
      simp only [Bool.and_eq_true] at hp
      cases e
      exact .inl ⟨W, a, us, ha, hb, hp.1, hp.2, k.bl r⟩
    · cases e
  · rename_i a' ks vs eq
    simp only [List.cons.injEq, and_true] at eq
    obtain ⟨rfl, rfl⟩ := eq
    split at e
    · rename_i hk
      cases e
      obtain ⟨p, rfl, c⟩ := hb.dic
      refine .inr ⟨W, a, ks, vs, hk, ?_, ⟨p, rfl, c⟩, k.bl r⟩
      rcases ha with ha | ⟨q, rfl, cq⟩
      · exact ha
      · exfalso
        rcases kOk_cases hk with ⟨kk, h1, _⟩ | ⟨us, rfl, _, _⟩
        · cases a <;> simp only [Cont] at cq <;> cases h1
        · simp only [Cont] at cq
    · cases e
  · cases e

/-! index, of a list -/
theorem idx_py (ha : deepU 7 a = true) : ∀ {us : List U} {j : Nat}, deepUs 6 us = true → idxU a us = some j → ∃ z, (pyUs us)[j]? = some z ∧ PyData.eqv z (pyU a) = true ∧ ∀ (m : Nat) (z' : PyData), m < j → (pyUs us)[m]? = some z' → PyData.eqv z' (pyU a) = false
  | [], j, _, e => by cases e
  | u :: us, j, h, e => by
    simp only [deepUs, Bool.and_eq_true] at h
    have q := eqv_py 6 7 u a h.1 ha
    unfold idxU at e
    split at e
    · rename_i hq
      cases e
      refine ⟨pyU u, rfl, q.trans hq, fun m z' hm => absurd hm (Nat.not_lt_zero m)⟩
    · rename_i hq
      cases ei : idxU a us with
      | none => rw [ei] at e; cases e
      | some i =>
        rw [ei] at e
        cases e
        obtain ⟨z, h1, h2, h3⟩ := idx_py ha h.2 ei
        refine ⟨z, by simpa only [pyUs, List.getElem?_cons_succ] using h1, h2, fun m z' hm hz => ?_⟩
        cases m with
        | zero =>
          simp only [pyUs, List.getElem?_cons_zero, Option.some.injEq] at hz
          subst hz
          rw [q]
          simpa using hq
        | succ m =>
          simp only [pyUs, List.getElem?_cons_succ] at hz
          exact h3 m z' (Nat.lt_of_succ_lt_succ hm) hz
/-- t.index(x): the first place of an equal one, in a tuple -/
theorem mt_indexT (hu : X.A.units + 65 < cLine) : MtR X "tuple.index" (fun x xs H Q => ∃ (a : Addr) (y : V) (d : PyData) (ds : List PyData) (j : Nat) (z : PyData), x = V.ref a ∧ xs = [y] ∧ Dp X.K H (V.ref a) (.tuple ds) ∧ Dp X.K H y d ∧
    SeqAt.shaped (.tuple ds) = true ∧ SeqAt.shaped d = true ∧ ds[j]? = some z ∧ PyData.eqv z d = true ∧ (∀ (m : Nat) (z' : PyData), m < j → ds[m]? = some z' → PyData.eqv z' d = false) ∧ Q (.int (j : Nat)) H) := by
  intro pins s σ H x xs v us Q I rx rxs h
  obtain ⟨a, y, d, ds, j, z, rfl, rfl, hl, hy, sl, sd, hz, hzj, hno, q⟩ := h
  cases rx
  obtain ⟨uy, rfl, ry⟩ := Vals.one rxs
  obtain ⟨bs, r1⟩ := Dp.reads I d y uy hy ry
  have hxs : PyData.canLayAll0 ds = true := SeqAt.canLay_of_shaped sl
  have hroom : X.A.units + 1 + min (PyData.depthAll ds) d.depth < cLine := room_in_shaped sd hu
  cases hl with
  | tup hs ha =>
    obtain ⟨its, rv, ⟨⟨cls, dd, data, sls⟩, ho, hc, n, hdt⟩, hlen⟩ := I.tuple hs
    simp only at hc hdt
    subst hc hdt
    obtain ⟨as, h4⟩ := Dp.readsAll I ds _ its ha rv
    have hn : its.length = ds.length := SeqAt.ReadsAll.length ds its as h4
    have hmap : its.map (SeqAt.readOf s.heap) = ds := SeqAt.readsAll_map ds its as hxs h4
    obtain ⟨hjd, _⟩ := List.getElem?_eq_some_iff.mp hz
    have hj : j < its.toArray.size := by simp only [List.size_toArray]; omega
    have at_ : ∀ (m : Nat) (hm : m < its.toArray.size) (z' : PyData), ds[m]? = some z' → SeqAt.readOf s.heap its.toArray[m] = z' := by
      intro m hm z' hz'
      have hml : m < its.length := by simpa using hm
      rw [← hmap, List.getElem?_map, List.getElem?_eq_getElem hml] at hz'
      simpa using hz'
    refine call_meets PySem.F.slot_tuple_index ⟨_, ho, rfl⟩ PySem.F.entry_tuple_index (PySem.F.args_tuple_index_2 _ _)
      (TI.tuple_indexAt a its.toArray n dd sls uy (fun u => PyData.eqv (SeqAt.readOf s.heap u) d) j hj ?_ ?_) ⟨ho, SeqAt.items_eqAt (vs := its.toArray) (show ReadsAll s.heap its.toArray.toList ds as from h4) r1 hxs (SeqAt.canLay_of_shaped sd) hroom, ?_⟩
    · show PyData.eqv (SeqAt.readOf s.heap its.toArray[j]) d = true
      rw [at_ j hj z hz]
      exact hzj
    · intro m hm hmj
      have hmd : m < ds.length := by omega
      show PyData.eqv (SeqAt.readOf s.heap its.toArray[m]) d = false
      rw [at_ m hm _ (List.getElem?_eq_getElem hmd)]
      exact hno m _ hmj (List.getElem?_eq_getElem hmd)
    · exact ⟨.int (j : Nat), H, I.tok _, ⟨_, rfl⟩, q⟩
theorem op_index {us : List U} {b u : U} (e : opIndex [.lst us, b] = some u ∨ opIndex [.tup us, b] = some u) : b.plain = true ∧ plains us = true ∧ ∃ j, idxU b us = some j ∧ u = .int (j : Nat) := by
  have e : (if b.plain && plains us then (idxU b us).map fun k => U.int k else none) = some u := by rcases e with e | e <;> exact e
  split at e
  · rename_i hp
    simp only [Bool.and_eq_true] at hp
    cases ei : idxU b us with
    | none => rw [ei] at e; cases e
    | some j => rw [ei] at e; cases e; exact ⟨hp.1, hp.2, j, rfl, rfl⟩
  · cases e
/-- the method's rule, by values -/
theorem sm_index (O : Of G X) : MtR X "list.index" (fun x xs H Q => xs.length = 1 ∧ (∃ Wx W s σ us b u, RelFr G W s σ H ∧ CRep G W H (.lst us) x ∧ (∃ y, xs = [y] ∧ CRep G W H b y) ∧ opIndex [.lst us, b] = some u ∧ Wants G Wx u W s σ H Q)) := by
  intro pins s0 σ0 H x xs v us Q I rx rxs h
  obtain ⟨hl, Wx, W, s, σ, us', b, u, r, ha, ⟨y, rfl, hb⟩, e, k⟩ := h
  obtain ⟨p1, p2, j, ei, rfl⟩ := op_index (.inl e)
  obtain ⟨z, h1, h2, h3⟩ := idx_py p1 p2 ei
  have hd := ha.dp (n := 7) (u := .lst us') (by simpa only [deepU] using p2)
  obtain ⟨p, vs, rfl, _, _⟩ := ha.lst
  rw [← O.K] at hd
  have hy := hb.dp p1
  rw [← O.K] at hy
  exact mt_indexD (X := X) (Nat.lt_of_le_of_lt (by omega) O.un) pins s0 σ0 H _ _ v _ Q I rx rxs ⟨p, y, pyU b, pyUs us', j, z, rfl, rfl, hd, hy, sz_lst p2, shaped_py p1 (by omega), h1, h2, h3, k.int r⟩
theorem sm_indexT (O : Of G X) : MtR X "tuple.index" (fun x xs H Q => xs.length = 1 ∧ (∃ Wx W s σ us b u, RelFr G W s σ H ∧ CRep G W H (.tup us) x ∧ (∃ y, xs = [y] ∧ CRep G W H b y) ∧ opIndex [.tup us, b] = some u ∧ Wants G Wx u W s σ H Q)) := by
  intro pins s0 σ0 H x xs v us Q I rx rxs h
  obtain ⟨hl, Wx, W, s, σ, us', b, u, r, ha, ⟨y, rfl, hb⟩, e, k⟩ := h
  obtain ⟨p1, p2, j, ei, rfl⟩ := op_index (.inr e)
  obtain ⟨z, h1, h2, h3⟩ := idx_py p1 p2 ei
  have hd := ha.dp (n := 7) (u := .tup us') (by simpa only [deepU] using p2)
  obtain ⟨p, vs, rfl, _, _⟩ := ha.tup
  rw [← O.K] at hd
  have hy := hb.dp p1
  rw [← O.K] at hy
  exact mt_indexT (X := X) (Nat.lt_of_le_of_lt (by omega) O.un) pins s0 σ0 H _ _ v _ Q I rx rxs ⟨p, y, pyU b, pyUs us', j, z, rfl, rfl, hd, hy, shaped_py (n := 7) (u := .tup us') (by simpa only [deepU] using p2) (by omega), shaped_py p1 (by omega), h1, h2, h3, k.int r⟩
end
end MP
set_option maxRecDepth 100000
set_option maxHeartbeats 1000000
/-! R2a: which expression of the program an operation is. -/
namespace MP
open PySem PySem.Spec PyProof.Rows L2

/-- what is known of the text's names -/
structure SC where
  N : List Str
  cls : List (Str × Nat)
  fn : List (Str × Nat)
  glo : List (Str × Nat × U)
  isi : List Nat

def glB (sc : Scope) (x : Str) : Bool := decide (sc.names.lookup x = some .globalImplicit) && !(x == ("__debug__" : Str))
def visB (sc : Scope) (x : Str) : Bool := match sc.names.lookup x with
  | some .local => true
  | some .cell => true
  | some .free => true
  | _ => false
def bnames : List String := ["len", "abs", "max", "min", "all", "any", "tuple", "list", "sorted", "set", "isinstance", "range", "enumerate", "zip", "reversed", "int", "bool", "str", "dict", "KeyError", "ValueError"]
/-- the builtin of that name -/
def isB (sc : Scope) (x : Str) (n : String) : Bool := x == Str.ofString n && glB sc x
def notStar : Expr → Bool
  | .Starred _ _ => false
  | _ => true
def plainIx : Expr → Bool
  | .Slice _ _ _ _ => false
  | _ => true
def notBare : Expr → Bool
  | .Call _ _ _ _ => false
  | _ => true
def isNone : Expr → Bool
  | .Constant .none _ _ => true
  | _ => false

def binOf : Opr → Option Operator
  | .add => some .Add
  | .sub => some .Sub
  | .mul => some .Mult
  | .fdiv => some .FloorDiv
  | .mod => some .Mod
  | .pow => some .Pow
  | _ => none
def cmpOf : Opr → Option CmpOp
  | .eq => some .Eq
  | .ne => some .NotEq
  | .lt => some .Lt
  | .le => some .LtE
  | .gt => some .Gt
  | .ge => some .GtE
  | .inn => some .In
  | .notin => some .NotIn
  | _ => none
/-- a builtin, called with one, with two arguments -/
def funOf : Opr → Option (String × Nat)
  | .len => some ("len", 1)
  | .abs => some ("abs", 1)
  | .max1 => some ("max", 1)
  | .all => some ("all", 1)
  | .any => some ("any", 1)
  | .sorted => some ("sorted", 1)
  | .tupOf => some ("tuple", 1)
  | .lstOf => some ("list", 1)
  | .max2 => some ("max", 2)
  | .min2 => some ("min", 2)
  | _ => none
/-- list(range(..)), tuple(range(..)), len(set(..)) -/
def nestOf : Opr → Option (String × String × Nat)
  | .lstR1 => some ("list", "range", 1)
  | .lstR2 => some ("list", "range", 2)
  | .tupR1 => some ("tuple", "range", 1)
  | .tupR2 => some ("tuple", "range", 2)
  | .lenSet => some ("len", "set", 1)
  | _ => none
def clsOk (C : SC) (sc : Scope) (t : Nat) : Expr → Bool
  | .Name x _ => glB sc x && (match kindNm t with
    | some n => x == Str.ofString n
    | none => decide (10 ≤ t) && C.isi.contains (t - 10) && decide (C.cls.lookup x = some (t - 10)))
  | _ => false
def callArgs (C : SC) (sc : Scope) (o : Opr) (x : Str) (es : List Expr) : Option (List Expr) :=
  match o with
  | .isi ts => match ts, es with
    | [t], [a, c] => if isB sc x "isinstance" && clsOk C sc t c && notStar a then some [a] else none
    | _, _ => none
  | _ => match funOf o with
    | some (n, k) => if isB sc x n && es.length == k && es.all notStar then some es else none
    | none => match nestOf o with
      | some (n, m, k) => match es with
        | [.Call (.Name y _) bs [] _] => if isB sc x n && isB sc y m && bs.length == k && bs.all notStar then some bs else none
        | _ => none
      | none => none
/-- the operation's arguments in the text -/
def opArgs (C : SC) (sc : Scope) (o : Opr) (e : Expr) : Option (List Expr) :=
  match e with
  | .BinOp a op b _ => if decide (binOf o = some op) then some [a, b] else none
  | .UnaryOp op a _ => if decide (op = .USub) && decide (o = .neg) then some [a] else none
  | .Compare a ops bs _ => match ops, bs with
    | [op], [b] => if decide (cmpOf o = some op) && !behindInMarks op b then some [a, b] else if decide (op = .Is) && decide (o = .isN) && isNone b then some [a] else none
    | _, _ => none
  | .Subscript a b _ => if decide (o = .ix) && plainIx b then some [a, b] else none
  | .Tuple es _ _ => if decide (o = .tup) then some es else none
  | .List es _ => if decide (o = .lst) then some es else none
  | .Call f es kws cpos => match f, kws with
    | .Name x _, [] => callArgs C sc o x es
    | .Attribute r name apos, [] => if decide (o = .index) && name == ("index" : Str) && notBare r && (apos.endLine == cpos.line) then (match es with
      | [a] => if notStar a then some [r, a] else none
      | _ => none) else none
    | _, _ => none
  | _ => none
end MP
set_option maxRecDepth 100000
set_option maxHeartbeats 1000000
/-! R2b: operations in the text do what they say. -/
namespace MP
open PySem PySem.Spec PyProof.Rows L2

/-- what is true of the module -/
structure St0 (C : SC) (G : Nms) (g : Gst) (mg : Str → Option Value) : Prop where
  nd : C.N.Nodup
  kit : KitOk G g C.isi
  nob : ∀ n ∈ bnames, mg (Str.ofString n) = none
  cls : ∀ x c, C.cls.lookup x = some c → mg x = some (.ref (G.cA c))
  glo : ∀ x n u, (x, n, u) ∈ C.glo → ∃ v w, mg x = some w ∧ RelV v w ∧ ∀ W H, RepV G W H u v
/-- the context -/
structure Good (C : SC) (G : Nms) (g : Gst) (X : Cx) (sc : Scope) : Prop where
  s0 : St0 C G g X.mg
  of : Of G X
  N : X.N = C.N
  scp : X.env.scope = sc
  calm : X.calm = true

section
variable {C : SC} {G : Nms} {g : Gst} {X : Cx} {sc : Scope} {Wx : WX} {σ : L2.St} {H : Hp}
theorem glB_gl (D : Good C G g X sc) {x : Str} (h : glB sc x = true) : Gl X x ∧ (x == ("__debug__" : Str)) = false := by
  unfold glB at h
  simp only [Bool.and_eq_true, decide_eq_true_eq, Bool.not_eq_true'] at h
  refine ⟨?_, h.2⟩
  show X.env.kindOf x = _
  unfold Env.kindOf
  rw [D.scp]
  exact h.1
theorem isB_is (D : Good C G g X sc) {x : Str} {n : String} (hn : n ∈ bnames) (h : isB sc x n = true) : x = Str.ofString n ∧ Gl X x ∧ X.mg x = none ∧ (x == ("__debug__" : Str)) = false := by
  unfold isB at h
  simp only [Bool.and_eq_true, beq_iff_eq] at h
  obtain ⟨h1, h2⟩ := glB_gl D h.2
  exact ⟨h.1, h1, by rw [h.1]; exact D.s0.nob n hn, h2⟩
theorem star1 {e : Expr} {es : List Expr} {env : Env} (h : notStar e = true) : starEach (e :: es) env = (false, eval e env) :: starEach es env := by
  cases e <;> first | rfl | cases h
theorem two_args {m1 m2 : ME} {Q : List V → Hp → Prop} (h : tArgs G Wx g [m1, m2] σ H Q) : tArg G Wx g m1 σ H fun x H1 => tArg G Wx g m2 σ H1 fun y H2 => Q [x, y] H2 :=
  tR_mono (tArgs_cons h) fun x H1 h1 => tR_mono (tArgs_cons h1) fun y H2 h2 => tArgs_nil h2
theorem one_arg' {m1 : ME} {Q : List V → Hp → Prop} (h : tArgs G Wx g [m1] σ H Q) : tArg G Wx g m1 σ H fun x H1 => Q [x] H1 :=
  tR_mono (tArgs_cons h) fun x H1 h1 => tArgs_nil h1
abbrev PX (G : Nms) (Wx : WX) (g : Gst) (X : Cx) (m : ME) (e : Expr) : Prop := PE X e (tArg G Wx g m)
theorem pa_nil' : PA X [] (tArgs G Wx g []) := PAi pa_nil fun σ H Q h => tArgs_nil h
theorem pa_of : ∀ {ms : List ME} {es : List Expr}, Paired (PX G Wx g X) ms es → es.all notStar = true → PA X es (tArgs G Wx g ms)
  | [], [], _, _ => pa_nil'
  | m :: ms, e :: es, h, hs => by
    simp only [List.all_cons, Bool.and_eq_true] at hs
    cases h with | cons h t => exact PAi (pa_cons h (pa_of t hs.2) (star1 hs.1)) fun σ H Q q => tArgs_cons q
  | [], _ :: _, h, _ => by cases h
  | _ :: _, [], h, _ => by cases h
theorem paE_of : ∀ {ms : List ME} {es : List Expr}, Paired (fun m e => PE X e (tE G Wx g m)) ms es → es.all notStar = true → PA X es (tEs G Wx g ms)
  | [], [], _, _ => PAi pa_nil fun σ H Q h => tEs_nil h
  | m :: ms, e :: es, h, hs => by
    simp only [List.all_cons, Bool.and_eq_true] at hs
    cases h with | cons h t => exact PAi (pa_cons h (paE_of t hs.2) (star1 hs.1)) fun σ H Q q => tEs_cons q
  | [], _ :: _, h, _ => by cases h
  | _ :: _, [], h, _ => by cases h

theorem so_bin (O : Of G X) {o : Opr} {op : Operator} (h : binOf o = some op) : OpR X (binaryOp op) (r2 G g o) := by
  cases o <;> simp only [binOf, Option.some.injEq, reduceCtorEq] at h <;> subst h
  · exact so_add O
  · exact so_sub O
  · exact so_mul O
  · exact so_fdiv O
  · exact so_mod O
  · exact so_pow O
theorem so_cmp (O : Of G X) {o : Opr} {op : CmpOp} (h : cmpOf o = some op) : OpR X (compareOp op) (r2 G g o) := by
  cases o <;> simp only [cmpOf, Option.some.injEq, reduceCtorEq] at h <;> subst h
  · exact so_eq O
  · exact so_ne O
  · exact so_lt O
  · exact so_le O
  · exact so_gt O
  · exact so_ge O
  · exact so_in O
  · exact so_notin O
theorem bin_free {o : Opr} {op : Operator} (h : binOf o = some op) : o.holds = false ∧ o.meth = false := by cases o <;> first | exact ⟨rfl, rfl⟩ | cases h
theorem cmp_free {o : Opr} {op : CmpOp} (h : cmpOf o = some op) : o.holds = false ∧ o.meth = false := by cases o <;> first | exact ⟨rfl, rfl⟩ | cases h
theorem se_bin (O : Of G X) {o : Opr} {op : Operator} {a b : Expr} {pos : Pos} {m1 m2 : ME} (h : binOf o = some op) (ha : PX G Wx g X m1 a) (hb : PX G Wx g X m2 b) : PE X (.BinOp a op b pos) (tE G Wx g (.op o [m1, m2])) :=
  PEi (pe_op (so_bin O h) ha hb) fun σ H Q q => two_args (tE_op (bin_free h).1 (bin_free h).2 q)
theorem sn_mulE (O : Of G X) {a b : Expr} {pos : Pos} {m1 m2 : ME} (ha : PX G Wx g X m1 a) (hb : PX G Wx g X m2 b) : PE X (.BinOp a .Mult b pos) (tN G Wx g (.op .mul [m1, m2])) :=
  PEi (pe_op (sn_mul O) ha hb) fun σ H Q q => two_args (tN_op rfl rfl q)
theorem se_neg (O : Of G X) {a : Expr} {pos : Pos} {m1 : ME} (ha : PX G Wx g X m1 a) : PE X (.UnaryOp .USub a pos) (tE G Wx g (.op .neg [m1])) :=
  PEi (pe_un (so_neg O) ha) fun σ H Q q => one_arg' (tE_op rfl rfl q)
theorem se_cmp (O : Of G X) {o : Opr} {op : CmpOp} {a b : Expr} {pos : Pos} {m1 m2 : ME} (h : cmpOf o = some op) (hm : behindInMarks op b = false) (ha : PX G Wx g X m1 a) (hb : PX G Wx g X m2 b) : PE X (.Compare a [op] [b] pos) (tE G Wx g (.op o [m1, m2])) :=
  PEi (pe_cmpR (so_cmp O h) ha hb hm) fun σ H Q q => two_args (tE_op (cmp_free h).1 (cmp_free h).2 q)
theorem se_ix (O : Of G X) {a b : Expr} {pos : Pos} {m1 m2 : ME} (hp : plainIx b = true) (ha : PX G Wx g X m1 a) (hb : PX G Wx g X m2 b) : PE X (.Subscript a b pos) (tE G Wx g (.op .ix [m1, m2])) :=
  PEi (pe_ix (so_ix O) ha hb (by intro o i; cases b <;> first | rfl | cases hp)) fun σ H Q q => two_args (tE_op rfl rfl q)
theorem so_isN : OpR X (compareOp .Is) (fun x y H Q => y = .non ∧ rA G g .isN [x] H Q) := OpRi op_isN fun x y H Q ⟨hy, h⟩ => by
  obtain ⟨Wx, W, s, σ, a, u, r, ha, e, k⟩ := rA.one h
  refine ⟨hy, ?_⟩
  cases e
  have k := k.bl r
  cases a with
  | non => obtain rfl := ha.non; exact k
  | bl b => obtain rfl := ha.bl; exact k
  | int b => obtain rfl := ha.int; exact k
  | str b => obtain rfl := ha.str; exact k
  | tup b => obtain ⟨p, vs, rfl, _⟩ := ha.tup; exact k
  | prs b => obtain ⟨p, vs, rfl, _⟩ := ha.prs; exact k
  | lst b => obtain ⟨p, vs, rfl, _⟩ := ha.lst; exact k
  | scr b => obtain ⟨p, vs, rfl, _⟩ := ha.scr; exact k
  | dic b c => obtain ⟨p, rfl, _⟩ := ha.dic; exact k
  | obj b c => rcases ha with ha | ⟨p, rfl, _⟩
               · simp only [RepV] at ha; obtain ⟨p, _, _, rfl, _⟩ := ha; exact k
               · exact k
  | exc b c => rcases ha with ha | ⟨p, rfl, _⟩
               · simp only [RepV] at ha; obtain ⟨p, rfl, _⟩ := ha; exact k
               · exact k
  | ref b => rcases ha with ha | ⟨p, rfl, _⟩
             · simp only [RepV] at ha; obtain ⟨p, _, rfl⟩ := ha; exact k
             · exact k
  | fn b => rcases ha with ha | ⟨p, rfl, _⟩
            · simp only [RepV] at ha; subst ha; exact k
            · exact k
  | clo b c => rcases ha with ha | ⟨p, rfl, c⟩
               · simp only [RepV] at ha
               · simp only [Cont] at c
  | hole => rcases ha with ha | ⟨p, rfl, c⟩
            · simp only [RepV] at ha
            · simp only [Cont] at c
theorem se_isN (O : Of G X) {a b : Expr} {pos : Pos} {m1 : ME} (hb : isNone b = true) (ha : PX G Wx g X m1 a) : PE X (.Compare a [.Is] [b] pos) (tE G Wx g (.op .isN [m1])) := by
  cases b <;> first | cases hb | skip
  rename_i c k p
  cases c <;> first | cases hb | skip
  exact PEi (pe_cmpR so_isN ha pe_non (by rfl)) fun σ H Q q => tR_mono (one_arg' (tE_op rfl rfl q)) fun x H1 h => ⟨rfl, h⟩
end
end MP
set_option maxRecDepth 100000
set_option maxHeartbeats 1000000
/-! R2c: builtins called. -/
namespace MP
open PySem PySem.Spec PyProof.Rows L2
section
variable {C : SC} {G : Nms} {g : Gst} {X : Cx} {sc : Scope} {Wx : WX} {σ : L2.St} {H : Hp}
theorem hpl1 {es : List Expr} {env : Env} {pos : Pos} (h : es.all notStar = true) : (backTo pos (starEach es env)).any (·.1) = false := by
  induction es with
  | nil => rfl
  | cons e es ih =>
    simp only [List.all_cons, Bool.and_eq_true] at h
    rw [star1 h.1]
    show ((false, _).1 || (backTo pos (starEach es env)).any (·.1)) = false
    rw [ih h.2]; rfl
theorem se_fB {n : String} {o : Opr} {r : List V → Hp → VK → Prop} {e : Expr} {es : List Expr} {ms : List ME} {p pos : Pos} {x : Str} (D : Good C G g X sc) (hn : n ∈ bnames) (hx : isB sc x n = true) (hv : bootBuiltins (Str.ofString n) = some (.builtin n)) (hc : CallR X (.builtin n) r)
    (hs : (e :: es).all notStar = true) (ha : Paired (PX G Wx g X) ms (e :: es)) (hne : Str.ofString n ≠ "__name__") {tt : TE} (ht : ∀ σ H Q, tt σ H Q → tArgs G Wx g ms σ H fun xs H' => r xs H' Q) : PE X (.Call (.Name x p) (e :: es) [] pos) tt := by
  obtain ⟨rfl, h1, h2, h3⟩ := isB_is D hn hx
  have hs' := hs
  simp only [List.all_cons, Bool.and_eq_true] at hs'
  exact PEi (pe_callB hc h1 h2 hv (pa_of ha hs) hne h3 (star1 hs'.1) (hpl1 hs'.2)) ht
theorem se_fT {n : String} {o : Opr} {r : List V → Hp → VK → Prop} {e : Expr} {es : List Expr} {ms : List ME} {p pos : Pos} {x : Str} (D : Good C G g X sc) (hn : n ∈ bnames) (hx : isB sc x n = true) (hv : bootBuiltins (Str.ofString n) = some (.type n)) (hc : CallR X (.type n) r)
    (hs : (e :: es).all notStar = true) (ha : Paired (PX G Wx g X) ms (e :: es)) (hne : Str.ofString n ≠ "__name__") {tt : TE} (ht : ∀ σ H Q, tt σ H Q → tArgs G Wx g ms σ H fun xs H' => r xs H' Q) : PE X (.Call (.Name x p) (e :: es) [] pos) tt := by
  obtain ⟨rfl, h1, h2, h3⟩ := isB_is D hn hx
  have hs' := hs
  simp only [List.all_cons, Bool.and_eq_true] at hs'
  exact PEi (pe_callTy hc h1 h2 hv (pa_of ha hs) hne h3 (star1 hs'.1) (hpl1 hs'.2)) ht
theorem len_args {n : Nat} {ms : List ME} {Q : List V → Hp → Prop} (hl : ms.length = n) (h : tArgs G Wx g ms σ H Q) : tArgs G Wx g ms σ H fun xs H' => xs.length = n ∧ Q xs H' := by
  obtain ⟨W, s, r, h⟩ := h
  refine ⟨W, s, r, ?_⟩
  have key : ∀ (ms : List ME) (s s' : Sta) (as : List AV), evalAs g ms s = .ok as s' → as.length = ms.length := by
    intro ms
    induction ms with
    | nil => intro s s' as e; unfold evalAs at e; cases e; rfl
    | cons m ms ih =>
      intro s s' as e
      unfold evalAs at e
      cases e1 : argOf (fun s => evalE g m s) m s with
      | stuck => rw [e1] at e; cases e
      | exc _ _ => rw [e1] at e; cases e
      | ok a s1 =>
        rw [e1] at e
        simp only [Rs.bind] at e
        cases e2 : evalAs g ms s1 with
        | stuck => rw [e2] at e; cases e
        | exc _ _ => rw [e2] at e; cases e
        | ok as2 s2 =>
          rw [e2] at e
          simp only [Rs.bind] at e
          cases e
          rw [List.length_cons, List.length_cons, ih _ _ _ e2]
  refine h.imp fun as s' W' H' b ee _ _ ra k => ⟨?_, k b ra⟩
  have h1 := key ms s s' as ee
  have h2 : as.length = b.length := Paired.length ra
  omega
theorem rA_lenX {o : Opr} {n : Nat} {ms : List ME} {Q : VK} (hl : ms.length = n) (ho : o.holds = false) (hm : o.meth = false) (h : tE G Wx g (.op o ms) σ H Q) : tArgs G Wx g ms σ H fun xs H' => rX G g o n xs H' Q := len_args hl (tE_op ho hm h)
theorem rN_lenX {o : Opr} {n : Nat} {ms : List ME} {Q : VK} (hl : ms.length = n) (ho : o.holds = false) (hm : o.meth = false) (h : tN G Wx g (.op o ms) σ H Q) : tArgs G Wx g ms σ H fun xs H' => xs.length = n ∧ rN G g o xs H' Q := len_args hl (tN_op ho hm h)
theorem boot_fns : bootBuiltins "len" = some (.builtin "len") ∧ bootBuiltins "abs" = some (.builtin "abs") ∧ bootBuiltins "max" = some (.builtin "max") ∧ bootBuiltins "min" = some (.builtin "min") ∧ bootBuiltins "all" = some (.builtin "all") ∧
    bootBuiltins "any" = some (.builtin "any") ∧ bootBuiltins "sorted" = some (.builtin "sorted") ∧ bootBuiltins "isinstance" = some (.builtin "isinstance") ∧ bootBuiltins "tuple" = some (.type "tuple") ∧ bootBuiltins "list" = some (.type "list") := by decide +kernel

/-- a builtin called -/
theorem se_fun (D : Good C G g X sc) {o : Opr} {n : String} {k : Nat} {es : List Expr} {ms : List ME} {p pos : Pos} {x : Str} (h : funOf o = some (n, k)) (hx : isB sc x n = true) (hl : es.length = k) (hs : es.all notStar = true) (ha : Paired (PX G Wx g X) ms es) :
    PE X (.Call (.Name x p) es [] pos) (tE G Wx g (.op o ms)) := by
  obtain ⟨b1, b2, b3, b4, b5, b6, b7, b8, b9, b10⟩ := boot_fns
  have lm : ms.length = k := by rw [← hl]; exact Paired.length ha
  match es, hl, hs, ha with
  | [], hl, _, _ => exfalso; cases o <;> simp only [funOf, Option.some.injEq, Prod.mk.injEq, reduceCtorEq] at h <;> (obtain ⟨_, rfl⟩ := h; cases hl)
  | e :: es, hl, hs, ha =>
  cases o <;> simp only [funOf, Option.some.injEq, Prod.mk.injEq, reduceCtorEq] at h <;> obtain ⟨rfl, rfl⟩ := h
  case abs => exact se_fB (o := .abs) D (by decide) hx b2 (so_abs D.of) hs ha (by decide +kernel) fun σ H Q q => rA_lenX (by omega) rfl rfl q
  case len => exact se_fB (o := .len) D (by decide) hx b1 (so_len D.of) hs ha (by decide +kernel) fun σ H Q q => rA_lenX (by omega) rfl rfl q
  case tupOf => exact se_fT (o := .tupOf) D (by decide) hx b9 (so_tupOf D.of) hs ha (by decide +kernel) fun σ H Q q => rA_lenX (by omega) rfl rfl q
  case lstOf => exact se_fT (o := .lstOf) D (by decide) hx b10 (sn_lstOf (g := g) D.of) hs ha (by decide +kernel) fun σ H Q q => tR_mono (rA_lenX (n := 1) (by omega) rfl rfl q) fun xs H' h => ⟨h.1, rA_N opLstOf_LD h.2⟩
  case sorted => exact se_fB (o := .sorted) D (by decide) hx b7 (sn_sorted (g := g) D.of) hs ha (by decide +kernel) fun σ H Q q => tR_mono (rA_lenX (n := 1) (by omega) rfl rfl q) fun xs H' h => ⟨h.1, rA_N opSorted_LD h.2⟩
  case max1 => exact se_fB (o := .max1) D (by decide) hx b3 (so_max1 D.of D.calm) hs ha (by decide +kernel) fun σ H Q q => rA_lenX (by omega) rfl rfl q
  case max2 => exact se_fB (o := .max2) D (by decide) hx b3 (so_max2 D.of D.calm) hs ha (by decide +kernel) fun σ H Q q => rA_lenX (by omega) rfl rfl q
  case min2 => exact se_fB (o := .min2) D (by decide) hx b4 (so_min2 D.of D.calm) hs ha (by decide +kernel) fun σ H Q q => rA_lenX (by omega) rfl rfl q
  case all => exact se_fB (o := .all) D (by decide) hx b5 (so_all D.of D.calm) hs ha (by decide +kernel) fun σ H Q q => rA_lenX (by omega) rfl rfl q
  case any => exact se_fB (o := .any) D (by decide) hx b6 (so_any D.of D.calm) hs ha (by decide +kernel) fun σ H Q q => rA_lenX (by omega) rfl rfl q
theorem sn_fun (D : Good C G g X sc) {o : Opr} {n : String} {k : Nat} {es : List Expr} {ms : List ME} {p pos : Pos} {x : Str} (ho : o = .lstOf ∨ o = .sorted) (h : funOf o = some (n, k)) (hx : isB sc x n = true) (hl : es.length = k) (hs : es.all notStar = true) (ha : Paired (PX G Wx g X) ms es) :
    PE X (.Call (.Name x p) es [] pos) (tN G Wx g (.op o ms)) := by
  obtain ⟨b1, b2, b3, b4, b5, b6, b7, b8, b9, b10⟩ := boot_fns
  have lm : ms.length = k := by rw [← hl]; exact Paired.length ha
  match es, hl, hs, ha with
  | [], hl, _, _ => exfalso; rcases ho with rfl | rfl <;> (simp only [funOf, Option.some.injEq, Prod.mk.injEq] at h; obtain ⟨_, rfl⟩ := h; cases hl)
  | e :: es, hl, hs, ha =>
  rcases ho with rfl | rfl <;> simp only [funOf, Option.some.injEq, Prod.mk.injEq] at h <;> obtain ⟨rfl, rfl⟩ := h
  · exact se_fT (o := .lstOf) D (by decide) hx b10 (sn_lstOf (g := g) D.of) hs ha (by decide +kernel) fun σ H Q q => rN_lenX (by omega) rfl rfl q
  · exact se_fB (o := .sorted) D (by decide) hx b7 (sn_sorted (g := g) D.of) hs ha (by decide +kernel) fun σ H Q q => rN_lenX (by omega) rfl rfl q

/-- isinstance(x, c) -/
theorem pe_cls (D : Good C G g X sc) {t : Nat} {c : Expr} (h : clsOk C sc t c = true) : PE X c (tC (clsV G t)) ∧ notStar c = true ∧ (kindNm t = none → 10 ≤ t ∧ t - 10 ∈ C.isi) := by
  cases c <;> first | cases h | skip
  rename_i x p
  simp only [clsOk, Bool.and_eq_true] at h
  obtain ⟨h1, h2⟩ := h
  obtain ⟨g1, g2⟩ := glB_gl D h1
  unfold clsV
  cases hk : kindNm t with
  | some n =>
    rw [hk] at h2
    simp only [beq_iff_eq] at h2
    subst h2
    refine ⟨?_, rfl, fun z => by cases z⟩
    have hb : ∀ n ∈ kindT, n ∈ bnames ∧ bootBuiltins (Str.ofString n) = some (.type n) ∧ Str.ofString n ≠ "__name__" := by decide +kernel
    obtain ⟨q1, q2, q3⟩ := hb n (kindNm_mem hk).1
    exact pe_bltn g1 (D.s0.nob n q1) q2 rfl q3 g2
  | none =>
    rw [hk] at h2
    simp only [Bool.and_eq_true, decide_eq_true_eq, List.contains_eq_mem] at h2
    refine ⟨?_, rfl, fun _ => ⟨h2.1.1, h2.1.2⟩⟩
    exact pe_glob g1 (D.s0.cls x _ h2.2) rfl g2
theorem se_isi (D : Good C G g X sc) {t : Nat} {a c : Expr} {m : ME} {p pos : Pos} {x : Str} (hx : isB sc x "isinstance" = true) (hc : clsOk C sc t c = true) (hs : notStar a = true) (ha : PX G Wx g X m a) :
    PE X (.Call (.Name x p) [a, c] [] pos) (tE G Wx g (.op (.isi [t]) [m])) := by
  obtain ⟨b1, b2, b3, b4, b5, b6, b7, b8, b9, b10⟩ := boot_fns
  obtain ⟨pc, sc', hk⟩ := pe_cls D hc
  obtain ⟨rfl, h1, h2, h3⟩ := isB_is D (n := "isinstance") (by decide) hx
  refine PEi (pe_callB (so_isi (t := t) D.of D.s0.kit hk) h1 h2 b8 (pa_cons ha (pa_cons pc pa_nil (star1 sc')) (star1 hs)) (by decide +kernel) h3 (star1 hs) (hpl1 (by simp [sc']))) fun σ H Q q => ?_
  exact tR_mono (one_arg' (tE_op rfl rfl q)) fun x H1 h => ⟨x, rfl, h⟩

/-- list(range(..)), tuple(range(..)), len(set(..)) -/
theorem boot_nest : bootBuiltins "set" = some (.type "set") ∧ bootBuiltins "range" = some (.type "range") := by decide +kernel
theorem se_nest (D : Good C G g X sc) {o : Opr} {n m : String} {k : Nat} {es : List Expr} {ms : List ME} {p p2 q pos : Pos} {x y : Str} (h : nestOf o = some (n, m, k)) (hx : isB sc x n = true) (hy : isB sc y m = true) (hl : es.length = k) (hs : es.all notStar = true) (ha : Paired (PX G Wx g X) ms es) :
    PE X (.Call (.Name x p) [.Call (.Name y p2) es [] q] [] pos) (tE G Wx g (.op o ms)) := by
  cases o <;> simp only [nestOf, Option.some.injEq, Prod.mk.injEq, reduceCtorEq] at h <;> obtain ⟨rfl, rfl, rfl⟩ := h
  case lstR1 =>
    obtain ⟨rfl, h1, h2, _⟩ := isB_is D (by decide) hx
    obtain ⟨rfl, h3, h4, _⟩ := isB_is D (by decide) hy
    match es, hl, hs, ha with
    | [e], _, hs, .cons ha .nil =>
    simp only [List.all_cons, List.all_nil, Bool.and_true] at hs
    exact PEi (pe_listRg D.calm h1 h2 (prg_1 h3 h4 ha (star1 hs))) fun σ H Q q => tR_mono (one_arg' (tE_op rfl rfl q)) fun x H1 h => by
      obtain ⟨i, rfl, h5, h6⟩ := sn_lstR1 (rA_N opLstR1_LD h)
      exact ⟨i, rfl, h5, h6⟩
  case lstR2 =>
    obtain ⟨rfl, h1, h2, _⟩ := isB_is D (by decide) hx
    obtain ⟨rfl, h3, h4, _⟩ := isB_is D (by decide) hy
    match es, hl, hs, ha with
    | [e, f], _, hs, .cons ha (.cons hb .nil) =>
    simp only [List.all_cons, List.all_nil, Bool.and_true, Bool.and_eq_true] at hs
    exact PEi (pe_listRg D.calm h1 h2 (prg_2 h3 h4 ha hb (star1 hs.1) (star1 hs.2) (hpl1 (by simp [hs.2])))) fun σ H Q q => tR_mono (two_args (tE_op rfl rfl q)) fun x H1 h => tR_mono h fun y H2 h => by
      obtain ⟨i, j, rfl, rfl, h5, h6⟩ := sn_lstR2 (rA_N opLstR2_LD h)
      exact ⟨i, j, rfl, rfl, h5, h6⟩
  case tupR1 =>
    obtain ⟨rfl, h1, h2, _⟩ := isB_is D (by decide) hx
    obtain ⟨rfl, h3, h4, _⟩ := isB_is D (by decide) hy
    match es, hl, hs, ha with
    | [e], _, hs, .cons ha .nil =>
    simp only [List.all_cons, List.all_nil, Bool.and_true] at hs
    exact PEi (pe_tupRgX D.calm h1 h2 (prg_1 h3 h4 ha (star1 hs))) fun σ H Q q => tR_mono (one_arg' (tE_op rfl rfl q)) fun x H1 h => by
      obtain ⟨i, rfl, h5, h6⟩ := sa_tupR1 h
      exact ⟨i, rfl, h5, h6⟩
  case tupR2 =>
    obtain ⟨rfl, h1, h2, _⟩ := isB_is D (by decide) hx
    obtain ⟨rfl, h3, h4, _⟩ := isB_is D (by decide) hy
    match es, hl, hs, ha with
    | [e, f], _, hs, .cons ha (.cons hb .nil) =>
    simp only [List.all_cons, List.all_nil, Bool.and_true, Bool.and_eq_true] at hs
    exact PEi (pe_tupRgX D.calm h1 h2 (prg_2 h3 h4 ha hb (star1 hs.1) (star1 hs.2) (hpl1 (by simp [hs.2])))) fun σ H Q q => tR_mono (two_args (tE_op rfl rfl q)) fun x H1 h => tR_mono h fun y H2 h => by
      obtain ⟨i, j, rfl, rfl, h5, h6⟩ := sa_tupR2 h
      exact ⟨i, j, rfl, rfl, h5, h6⟩
  case lenSet =>
    obtain ⟨rfl, h1, h2, _⟩ := isB_is D (by decide) hx
    obtain ⟨rfl, h3, h4, _⟩ := isB_is D (by decide) hy
    match es, hl, hs, ha with
    | [e], _, hs, .cons ha .nil =>
    simp only [List.all_cons, List.all_nil, Bool.and_true] at hs
    exact PEi (pe_once h1 h2 h3 h4 ha D.calm (star1 hs)) fun σ H Q q => tR_mono (one_arg' (tE_op rfl rfl q)) fun x H1 h => sa_once D.of h
theorem sn_nest (D : Good C G g X sc) {o : Opr} {n m : String} {k : Nat} {es : List Expr} {ms : List ME} {p p2 q pos : Pos} {x y : Str} (ho : o = .lstR1 ∨ o = .lstR2) (h : nestOf o = some (n, m, k)) (hx : isB sc x n = true) (hy : isB sc y m = true) (hl : es.length = k) (hs : es.all notStar = true) (ha : Paired (PX G Wx g X) ms es) :
    PE X (.Call (.Name x p) [.Call (.Name y p2) es [] q] [] pos) (tN G Wx g (.op o ms)) := by
  rcases ho with rfl | rfl <;> simp only [nestOf, Option.some.injEq, Prod.mk.injEq] at h <;> obtain ⟨rfl, rfl, rfl⟩ := h
  · obtain ⟨rfl, h1, h2, _⟩ := isB_is D (by decide) hx
    obtain ⟨rfl, h3, h4, _⟩ := isB_is D (by decide) hy
    match es, hl, hs, ha with
    | [e], _, hs, .cons ha .nil =>
    simp only [List.all_cons, List.all_nil, Bool.and_true] at hs
    exact PEi (pe_listRg D.calm h1 h2 (prg_1 h3 h4 ha (star1 hs))) fun σ H Q q => tR_mono (one_arg' (tN_op rfl rfl q)) fun x H1 h => by
      obtain ⟨i, rfl, h5, h6⟩ := sn_lstR1 h
      exact ⟨i, rfl, h5, h6⟩
  · obtain ⟨rfl, h1, h2, _⟩ := isB_is D (by decide) hx
    obtain ⟨rfl, h3, h4, _⟩ := isB_is D (by decide) hy
    match es, hl, hs, ha with
    | [e, f], _, hs, .cons ha (.cons hb .nil) =>
    simp only [List.all_cons, List.all_nil, Bool.and_true, Bool.and_eq_true] at hs
    exact PEi (pe_listRg D.calm h1 h2 (prg_2 h3 h4 ha hb (star1 hs.1) (star1 hs.2) (hpl1 (by simp [hs.2])))) fun σ H Q q => tR_mono (two_args (tN_op rfl rfl q)) fun x H1 h => tR_mono h fun y H2 h => by
      obtain ⟨i, j, rfl, rfl, h5, h6⟩ := sn_lstR2 h
      exact ⟨i, j, rfl, rfl, h5, h6⟩
end
end MP
set_option maxRecDepth 100000
set_option maxHeartbeats 1000000
/-! R2d: an operation in the text. -/
namespace MP
open PySem PySem.Spec PyProof.Rows L2
section
variable {C : SC} {G : Nms} {g : Gst} {X : Cx} {sc : Scope} {Wx : WX} {σ : L2.St} {H : Hp}
theorem ok_of_kind {s : Sta} {av : AV} (h : kindN (av.get s) ≠ 0) : av.ok s = true := by
  cases av with
  | v u => rfl
  | own i =>
    show (match slot s i with | .own _ => true | _ => false) = true
    have h : kindN (match slot s i with | .own u => u | _ => .non) ≠ 0 := h
    cases e : slot s i with
    | own u => rfl
    | no => rw [e] at h; exact absurd rfl h
    | val u => rw [e] at h; exact absurd rfl h
theorem kind1 {u : U} (h : kindN u = 1) : ∃ us, u = .lst us := by cases u <;> first | exact ⟨_, rfl⟩ | (simp [kindN] at h)
theorem kind3 {u : U} (h : kindN u = 3) : ∃ ks vs, u = .dic ks vs := by cases u <;> first | exact ⟨_, _, rfl⟩ | (simp [kindN] at h)
theorem kind2 {u : U} (h : kindN u = 2) : ∃ us, u = .tup us := by cases u <;> first | exact ⟨_, rfl⟩ | (simp [kindN] at h)
/-- an operation that is a method: its first argument is of the kind -/
def rMe (G : Nms) (g : Gst) (o : Opr) (k : Nat) (xs : List V) (H : Hp) (Q : VK) : Prop := ∃ Wx W s σ a us u, RelFr G W s σ H ∧ Paired (fun u v => CRep G W H u v) (a :: us) xs ∧ kindN a = k ∧ opSem g o (a :: us) = some u ∧ Wants G Wx u W s σ H Q
theorem tE_opM {o : Opr} {m : ME} {ms : List ME} {Q : VK} (ho : o.holds = false) (hm : o.meth = true) (h : tE G Wx g (.op o (m :: ms)) σ H Q) :
    tArg G Wx g m σ H fun x H1 => ((∃ W us, CRep G W H1 (.lst us) x) ∧ tArgs G Wx g ms σ H1 fun xs H2 => rMe G g o 1 (x :: xs) H2 Q) ∨ ((∃ W us, CRep G W H1 (.tup us) x) ∧ tArgs G Wx g ms σ H1 fun xs H2 => rMe G g o 2 (x :: xs) H2 Q) := by
  obtain ⟨W, s, r, h⟩ := h
  unfold evalE at h
  rw [ho, hm] at h
  simp only [Bool.false_eq_true, if_false, if_true] at h
  unfold evalRecv at h
  refine ⟨W, s, r, ?_⟩
  cases ea : argOf (fun s => evalE g m s) m s with
  | stuck => rw [ea] at h; exact h
  | exc x s' => rw [ea] at h; exact h
  | ok av s1 =>
    rw [ea] at h
    intro W1 H1 x e1 r1 ra
    simp only [Rs.bind] at h
    have key : ∀ k, kindN (av.get s1) = k → k = 1 ∨ k = 2 → tArgs G Wx g ms σ H1 fun xs H2 => rMe G g o k (x :: xs) H2 Q := fun k hk h12 => by
      rw [if_neg (by rcases h12 with z | z <;> simp [hk, z])] at h
      refine ⟨W1, s1, r1, ?_⟩
      cases eb : evalAs g ms s1 with
      | stuck => rw [eb] at h; exact h
      | exc x s' => rw [eb] at h; exact h.shift e1
      | ok as s2 =>
        rw [eb] at h
        intro W2 H2 xs e2 r2 ras
        simp only [Rs.bind] at h
        by_cases hk2 : kindN (av.get s2) = kindN (av.get s1)
        · rw [if_neg (by simp [hk2])] at h
          simp only [] at h
          by_cases hall : (av :: as).all (AV.ok s2) = true
          · rw [if_pos hall] at h
            cases eo : opSem g o ((av :: as).map (AV.get s2)) with
            | none => rw [eo] at h; exact h.elim
            | some u =>
              rw [eo] at h
              exact ⟨Wx, W2, s2, σ, _, _, u, r2, creps_of r2 (.cons (ra.ext e2) ras) hall, by rw [hk2, hk], eo, h.shift (e1.trans e2)⟩
          · rw [if_neg hall] at h; exact h.elim
        · rw [if_pos (by simp [hk2])] at h; exact h.elim
    by_cases h1 : kindN (av.get s1) = 1
    · obtain ⟨us, hu⟩ := kind1 h1
      have hc := crep_of r1 ra (ok_of_kind (by rw [h1]; decide))
      exact .inl ⟨⟨W1, us, by rw [← hu]; exact hc⟩, key 1 h1 (.inl rfl)⟩
    · by_cases h2 : kindN (av.get s1) = 2
      · obtain ⟨us, hu⟩ := kind2 h2
        have hc := crep_of r1 ra (ok_of_kind (by rw [h2]; decide))
        exact .inr ⟨⟨W1, us, by rw [← hu]; exact hc⟩, key 2 h2 (.inr rfl)⟩
      · rw [if_pos (by simp [h1, h2])] at h; exact h.elim
theorem notBare_base {e : Expr} {n : Str} {env : Env} (h : notBare e = true) : attributeBase e n env (eval e env) = eval e env := by
  cases e <;> first | rfl | cases h
theorem few1 {a : Expr} {env : Env} {pos : Pos} (h : notStar a = true) : ((backTo pos (starEach [a] env)).all (fun x => !x.1) && (backToKw pos (keywordEach [] env)).all (fun x => x.1.isSome)
      && decide (([a] : List Expr).length + ([] : List Keyword).length + (if ([] : List Keyword).isEmpty then 0 else 1) < 30)) = true := by
  rw [star1 h]; rfl
/-- what pe_bm asks, with the type known behind the receiver -/
theorem pe_index {o e : Expr} {to : TE} {t : TA} {apos cpos : Pos} {rl rt : V → List V → Hp → VK → Prop} (ml : MtR X "list.index" rl) (mt : MtR X "tuple.index" rt) (ho : PE X o to) (ha : PA X [e] t)
    (hbase : attributeBase o ("index" : Str) X.env (eval o X.env) = eval o X.env)
    (hfew : ((backTo cpos (starEach [e] X.env)).all (fun x => !x.1) && (backToKw cpos (keywordEach [] X.env)).all (fun x => x.1.isSome)
      && decide (([e] : List Expr).length + ([] : List Keyword).length + (if ([] : List Keyword).isEmpty then 0 else 1) < 30)) = true)
    (hline : (apos.endLine == cpos.line) = true) (hs : starEach [e] X.env = (false, eval e X.env) :: starEach [] X.env) :
    PE X (.Call (.Attribute o ("index" : Str) apos) [e] [] cpos) (fun σ H Q => to σ H fun x H1 => ((∃ p vs, x = .ref p ∧ H1 p = some (.lst vs)) ∧ t σ H1 fun xs H2 => rl x xs H2 Q) ∨ ((∃ p vs, x = .ref p ∧ TX H1 p vs) ∧ t σ H1 fun xs H2 => rt x xs H2 Q)) := by
  refine ⟨fun pins s σ H Q I h => ?_⟩
  refine wpAny_Call_method_late hbase hfew hline rfl (thn (ho.run pins s σ H _ I h) fun v s1 ⟨x, H1, I1, r1, q⟩ => ?_)
  rcases q with ⟨⟨p, vs, rfl, hp⟩, q1⟩ | ⟨⟨p, vs, rfl, ob, hp, hx⟩, q1⟩
  · obtain ⟨h1, h2⟩ := tyV_is (T := "list") I1 r1 (.inl ⟨rfl, vs, SqL.of hp⟩)
    refine ⟨"list", "list.index", PySem.F.plainAttrs_list, PySem.F.slot_list_index, PySem.F.type_list_index, h1, h2, ?_⟩
    have hA := ha.run cpos pins s1 σ H1 _ I1 q1
    rw [hs] at hA ⊢
    refine Calls.callWith_builtin rfl (Calls.evalArgs_plain ?_)
    exact thn hA fun us s2 ⟨vs, H2, I2, r2, q2⟩ => ml pins s2 σ H2 _ vs v us Q I2 r1 r2 q2
  · cases r1
    have e1 : s1.heap.get? p = some ob := (show ObjOk X.prog X.w H1 s1.heap p (.frz ob (.tup vs)) from I1.hok p _ hp).1
    refine ⟨"tuple", "tuple.index", PySem.F.plainAttrs_tuple, PySem.F.slot_tuple_index, PySem.F.type_tuple_index, ⟨ob, e1, hx.1⟩, fun a e => by cases e; exact ⟨ob, e1, hx.2⟩, ?_⟩
    have hA := ha.run cpos pins s1 σ H1 _ I1 q1
    rw [hs] at hA ⊢
    refine Calls.callWith_builtin rfl (Calls.evalArgs_plain ?_)
    exact thn hA fun us s2 ⟨vs, H2, I2, r2, q2⟩ => mt pins s2 σ H2 (V.ref p) vs _ us Q I2 rfl r2 q2
theorem se_index (D : Good C G g X sc) {r a : Expr} {m1 m2 : ME} {apos cpos : Pos} {name : Str} (hn : name = ("index" : Str)) (hb : notBare r = true) (hl : (apos.endLine == cpos.line) = true) (hs : notStar a = true) (h1 : PX G Wx g X m1 r) (h2 : PX G Wx g X m2 a) :
    PE X (.Call (.Attribute r name apos) [a] [] cpos) (tE G Wx g (.op .index [m1, m2])) := by
  subst hn
  refine PEi (pe_index (sm_index D.of) (sm_indexT D.of) h1 (PAi (pa_cons h2 pa_nil (star1 hs)) (t' := tArgs G Wx g [m2]) fun σ H Q q => tR_mono (tArgs_cons q) fun x H1 h => tArgs_nil h) (notBare_base hb) (few1 hs) hl (star1 hs)) fun σ H Q q => ?_
  refine tR_mono (tE_opM rfl rfl q) fun x H1 hh => ?_
  rcases hh with ⟨⟨W, us, hc⟩, h⟩ | ⟨⟨W, us, hc⟩, h⟩
  · obtain ⟨p, vs, rfl, hp, _⟩ := hc.lst
    refine .inl ⟨⟨p, vs, rfl, hp⟩, tR_mono (len_args (n := 1) rfl h) fun xs H2 hh => ⟨hh.1, ?_⟩⟩
    obtain ⟨hlen, Wx', W', s', σ', a', us', u', r', c', hk, e', k'⟩ := hh
    obtain ⟨vs', rfl⟩ := kind1 hk
    cases c' with | cons c1 c2 =>
    match xs, hlen with
    | [y], _ =>
    cases c2 with | cons c2 c3 =>
    cases c3
    exact ⟨Wx', W', s', σ', vs', _, u', r', c1, ⟨y, rfl, c2⟩, e', k'⟩
  · obtain ⟨p, vs, rfl, hp, _⟩ := hc.tup
    refine .inr ⟨⟨p, vs, rfl, hp⟩, tR_mono (len_args (n := 1) rfl h) fun xs H2 hh => ⟨hh.1, ?_⟩⟩
    obtain ⟨hlen, Wx', W', s', σ', a', us', u', r', c', hk, e', k'⟩ := hh
    obtain ⟨vs', rfl⟩ := kind2 hk
    cases c' with | cons c1 c2 =>
    match xs, hlen with
    | [y], _ =>
    cases c2 with | cons c2 c3 =>
    cases c3
    exact ⟨Wx', W', s', σ', vs', _, u', r', c1, ⟨y, rfl, c2⟩, e', k'⟩

theorem paired1 {α β : Type} {F : α → β → Prop} {ms : List α} {b : β} (h : Paired F ms [b]) : ∃ m, ms = [m] ∧ F m b := by
  cases h with | cons a t => cases t with | nil => exact ⟨_, rfl, a⟩
theorem paired2 {α β : Type} {F : α → β → Prop} {ms : List α} {b c : β} (h : Paired F ms [b, c]) : ∃ m n, ms = [m, n] ∧ F m b ∧ F n c := by
  cases h with | cons a t => cases t with | cons a2 t => cases t with | nil => exact ⟨_, _, rfl, a, a2⟩
/-- every operation -/
theorem op_sound (D : Good C G g X sc) {o : Opr} {e : Expr} {es : List Expr} {ms : List ME} (h : opArgs C sc o e = some es) (ha : Paired (PX G Wx g X) ms es) (hE : Paired (fun m e => PE X e (tE G Wx g m)) ms es) (hst : es.all notStar = true) : PE X e (tE G Wx g (.op o ms)) := by
  unfold opArgs at h
  split at h
  · -- BinOp
    split at h
    · rename_i hb
      cases h
      obtain ⟨m1, m2, rfl, a1, a2⟩ := paired2 ha
      exact se_bin D.of (of_decide_eq_true hb) a1 a2
    · cases h
  · -- UnaryOp
    split at h
    · rename_i hb
      simp only [Bool.and_eq_true, decide_eq_true_eq] at hb
      obtain ⟨rfl, rfl⟩ := hb
      cases h
      obtain ⟨m1, rfl, a1⟩ := paired1 ha
      exact se_neg D.of a1
    · cases h
  · -- Compare
    split at h
    · split at h
      · rename_i hb
        simp only [Bool.and_eq_true, decide_eq_true_eq, Bool.not_eq_true'] at hb
        cases h
        obtain ⟨m1, m2, rfl, a1, a2⟩ := paired2 ha
        exact se_cmp D.of hb.1 hb.2 a1 a2
      · split at h
        · rename_i hb
          simp only [Bool.and_eq_true, decide_eq_true_eq] at hb
          obtain ⟨⟨rfl, rfl⟩, hn⟩ := hb
          cases h
          obtain ⟨m1, rfl, a1⟩ := paired1 ha
          exact se_isN D.of hn a1
        · cases h
    · cases h
  · -- Subscript
    split at h
    · rename_i hb
      simp only [Bool.and_eq_true, decide_eq_true_eq] at hb
      obtain ⟨rfl, hp⟩ := hb
      cases h
      obtain ⟨m1, m2, rfl, a1, a2⟩ := paired2 ha
      exact se_ix D.of hp a1 a2
    · cases h
  · -- Tuple
    split at h
    · rename_i hb
      obtain rfl := of_decide_eq_true hb
      cases h
      exact se_tup (paE_of hE hst)
    · cases h
  · -- List
    split at h
    · rename_i hb
      obtain rfl := of_decide_eq_true hb
      cases h
      exact se_lst (paE_of hE hst)
    · cases h
  · -- Call
    split at h
    · unfold callArgs at h
      split at h
      · split at h
        · split at h
          · rename_i hb
            simp only [Bool.and_eq_true] at hb
            cases h
            obtain ⟨m1, rfl, a1⟩ := paired1 ha
            exact se_isi D hb.1.1 hb.1.2 hb.2 a1
          · cases h
        · cases h
      · split at h
        · rename_i n k hf
          split at h
          · rename_i hb
            simp only [Bool.and_eq_true, beq_iff_eq] at hb
            cases h
            exact se_fun D hf hb.1.1 hb.1.2 hb.2 ha
          · cases h
        · split at h
          · rename_i n m k hf
            split at h
            · split at h
              · rename_i hb
                simp only [Bool.and_eq_true, beq_iff_eq] at hb
                cases h
                exact se_nest D hf hb.1.1.1 hb.1.1.2 hb.1.2 hb.2 ha
              · cases h
            · cases h
          · cases h
    · split at h
      · rename_i hb
        simp only [Bool.and_eq_true, decide_eq_true_eq, beq_iff_eq] at hb
        split at h
        · split at h
          · rename_i hs
            cases h
            obtain ⟨⟨⟨rfl, hn⟩, hbare⟩, hl⟩ := hb
            obtain ⟨m1, m2, rfl, a1, a2⟩ := paired2 ha
            exact se_index D hn hbare (by simpa using hl) hs a1 a2
          · cases h
        · cases h
      · cases h
    · cases h
  · cases h
end
end MP
set_option maxRecDepth 100000
set_option maxHeartbeats 1000000
/-! R2e: {}, {k: v}. -/
namespace MP
open PySem PySem.Spec PyProof.Rows L2
section
variable {G : Nms} {X : Cx} {pins : List (Addr × Obj)} {W : Wd} {σ : L2.St} {H : Hp} {s : Shared}
theorem put_dic (O : Of G X) {Q : Unit → Shared → Prop} {E : Value → Shared → Prop} {x y : V} {v r : Value} {a u : U} {ks xs : List U} {p : Addr} (I : Inv X pins σ H s) (hf : ¬ W.fz p) (rx : RelV x v) (ry : RelV y r) (hk : kOk ks a = true) (hl : ks.length < line) (ha : RepV G W H a x) (hu : RepV G W H u y) (c : Cont G W H p (.dic ks xs))
    (q : ∀ o' s', Inv X pins σ (L2.upd H p o') s' → Cont G W (L2.upd H p o') p (.dic (dput ks xs a u).1 (dput ks xs a u).2) → Q () s') :
    wpAny (model X.prog X.w) X.A (dictSet p v r) Q E s := by
  rcases kOk_cases hk with ⟨k, h1, h2⟩ | ⟨us, rfl, h1, h2⟩
  · obtain ⟨kvs, g1, g2, g3⟩ := dict_is c h2
    have l : ks.length = kvs.length := by have := congrArg List.length g2; simpa using this
    have ek := RepV.key h1 ha
    subst ek
    obtain ⟨z, hd, vs, rel, dd⟩ := dk_of I.hok g1
    have hz : vs.length ≤ sizeLine := by rw [← rel.length]; exact z
    have hl' : (putK kvs k y).length ≤ sizeLine := by
      have := length_putK kvs k y
      unfold line at hl
      rw [sizeLine_eq]; omega
    refine wpAny_dictSet_pairs (hsz := hz) (kV_is rx) dd fun h' dd' hs => q _ _ ?_ (stored_dicK hf hu c h1 g2 g3)
    have he : ∃ q, h'.get? p = some q := let ⟨q, _, _, hq, _⟩ := dd'; ⟨q, hq⟩
    exact d_write I (by rw [g1]; exact True.intro) hs he (dk_new hl' hd (rel.put k ry) dd')
  · obtain ⟨zs, ws, g1, g2, g3, g4, g5, g6⟩ := dict_tup O I c h2
    obtain ⟨k, e1, e2⟩ := nk_key h1
    have hn := key_is I _ k x v e1 ha rx
    have ha0 := ha
    simp only [RepV] at ha
    obtain ⟨b, vs, rfl, hb, _⟩ := ha
    obtain rfl : v = Value.ref b := rx
    have l : ks.length = zs.length := by have := congrArg List.length g3; simpa using this
    rw [O.P, O.w]
    refine wpAny_dictSet_heap (knd := nestedKind G.P G.w) (by show X.A.units + 8 < cLine; have := O.un; omega) ⟨hn, e2⟩ g1 (fun h' hm' hs => ?_) (by rw [← l, sizeLine_eq]; unfold line at hl; omega)
    obtain ⟨o', I', c'⟩ := stored_dic (tk := s.toks + (nestedKind G.P G.w).draws k) O I hf ry hl ha0 hu c h2 e1 g2 g3 g4 g5 g6 hm' hs
    exact q _ _ I' c'
end
section
variable {C : SC} {G : Nms} {g : Gst} {X : Cx} {sc : Scope} {Wx : WX}
theorem sd_nil {pos : Pos} : PE X (.Dict [] [] pos) (tN G Wx g (.op (.dict 0) [])) :=
  PEi pe_dnewK fun σ H Q q p hp => by
    have h := tEs_nil (tN_opH rfl q)
    obtain ⟨W, us, u, c, e, hu, k⟩ := h
    obtain rfl : us = [] := by
      have := RepVs.length c
      exact List.length_eq_zero_iff.mp (by simpa using this)
    cases e
    refine k p _ hp ?_
    simp only [Cont]
    exact .inl ⟨[], upd_same, rfl, by simp only [List.map_nil, RepVs]⟩
theorem mkDic1 {a b u : U} (e : opDict 1 [a, b] = some u) : kOk [] a = true ∧ u = .dic (dput [] [] a b).1 (dput [] [] a b).2 := by
  have e : (if kOk [] a then mkDic [] (dput [] [] a b).1 (dput [] [] a b).2 else none) = some u := e
  split at e
  · rename_i h
    cases e
    exact ⟨h, rfl⟩
  · cases e
theorem two_es {σ : L2.St} {H : Hp} {m1 m2 : ME} {Q : List V → Hp → Prop} (h : tEs G Wx g [m1, m2] σ H Q) : tE G Wx g m1 σ H fun x H1 => tE G Wx g m2 σ H1 fun y H2 => Q [x, y] H2 :=
  tR_mono (tEs_cons h) fun x H1 h1 => tR_mono (tEs_cons h1) fun y H2 h2 => tEs_nil h2
theorem sd_one (O : Of G X) {ke ve : Expr} {m1 m2 : ME} {pos : Pos} (hk : PE X ke (tE G Wx g m1)) (hv : PE X ve (tE G Wx g m2)) : PE X (.Dict [some ke] [ve] pos) (tN G Wx g (.op (.dict 1) [m1, m2])) := by
  refine ⟨fun pins s σ H Q I h => ?_⟩
  have hn := I.hok.fresh (Nat.le_refl s.heap.objs.size)
  generalize hp : s.heap.objs.size = p at hn
  obtain ⟨W, st, r, h⟩ := h
  have I1 : Inv X pins σ (L2.upd H p (.dK [])) { s with heap := s.heap.push { cls := .type "dict", data := .dict #[] } } := by
    have := I.laid (a := s.heap.objs.size) (o := .dK []) (h' := s.heap.push { cls := .type "dict", data := .dict #[] }) (t' := s.toks) (fun _ _ q => Heap.get?_push_of_some _ q) (Nat.le_refl _) (dk_empty s.heap I.big)
    rw [hp] at this
    exact this
  -- what the pairs are for
  have r1 := r.upd (o := .dK []) hn
  have hT : tEs G Wx g [m1, m2] σ (L2.upd H p (.dK [])) fun xs H2 => ∃ W2 s2 a b x y, xs = [x, y] ∧ kOk [] a = true ∧ RepV G W2 H2 a x ∧ RepV G W2 H2 b y ∧ ¬ W2.fz p ∧ Cont G W2 H2 p (.dic [] []) ∧ RelFr G W2 s2 σ H2 ∧
      ∀ o', Cont G W2 (L2.upd H2 p o') p (.dic (dput [] [] a b).1 (dput [] [] a b).2) → Q (.ref p) (L2.upd H2 p o') := by
    refine ⟨W, st, r1, ?_⟩
    unfold evalE newOf at h
    simp only [show (Opr.dict 1).holds = true from rfl, if_true] at h
    cases ea : evalEs g [m1, m2] st with
    | stuck => rw [ea] at h; exact h
    | exc x s' => rw [ea] at h; exact tAt.shift (R := RVs G) (Q := fun _ _ => True) (r := .exc x s') (.upd hn) (by exact h)
    | ok as s2 =>
      rw [ea] at h
      intro W2 H2 xs e2 r2 ra
      simp only [Rs.bind] at h
      cases eo : opSem g (.dict 1) as with
      | none => rw [eo] at h; exact h.elim
      | some u =>
        rw [eo] at h
        simp only at h
        change opDict 1 as = some u at eo
        have hlen : as.length = 2 := by
          have eo : (if as.length == 2 * 1 then mkDic as [] [] else none) = some u := eo
          split at eo
          · rename_i hl; simpa using hl
          · cases eo
        match as, hlen, eo, ra with
        | [a, b], _, eo, ra =>
        obtain ⟨hk0, rfl⟩ := mkDic1 eo
        rw [if_pos (show isLD (U.dic (dput [] [] a b).fst (dput [] [] a b).snd) = true from rfl)] at h
        obtain ⟨x, y, rfl, ha, hb⟩ := RepVs.two_of ra
        -- the new dict is nobody's
        have hsome : (L2.upd H p (.dK [])) p = some (.dK []) := upd_same
        have pal0 : p ∉ W.al := fun z => by obtain ⟨o, e⟩ := r.m.al_some z; rw [hn] at e; cases e
        have pow0 : ¬ Ownd st σ p := fun z => by obtain ⟨o, e⟩ := r.own_some z; rw [hn] at e; cases e
        have pfz0 : ¬ W.fz p := fun z => by obtain ⟨o, e⟩ := r.m.sm p z; rw [hn] at e; cases e
        have pfz : ¬ W2.fz p := fun z => by
          rcases e2.new p (.inl ⟨z, pfz0⟩) with q | q | q
          · rw [hsome] at q; cases q
          · exact pow0 q
          · exact pal0 q
        have pal : p ∉ W2.al := fun z => by
          rcases e2.new p (.inr ⟨z, pal0⟩) with q | q | q
          · rw [hsome] at q; cases q
          · exact pow0 q
          · exact pal0 q
        have pow : ¬ Ownd s2 σ p := fun z => pow0 (z.mono e2.own)
        have hH2 : H2 p = some (.dK []) := e2.fr p _ hsome pal0 pow0
        have c2 : Cont G W2 H2 p (.dic [] []) := by
          simp only [Cont]
          exact .inl ⟨[], hH2, rfl, by simp only [List.map_nil, RepVs]⟩
        refine ⟨W2, s2, a, b, x, y, rfl, hk0, ha, hb, pfz, c2, r2, fun o' c' => ?_⟩
        have kp : Kp W2 H2 (L2.upd H2 p o') := cont_kp pfz c2
        have back : ∀ {q o}, H2 q = some o → q ≠ p → (L2.upd H2 p o') q = some o := fun h1 h2 => by rw [upd_ne h2]; exact h1
        refine h W2 _ _ ⟨e2.le, ?_, fun q o hq hq1 hq2 => ?_, fun q hq => ?_, e2.own, e2.len⟩ ⟨r2.len, fun i z hz => ?_, r2.apart, ?_⟩ ⟨p, rfl, pfz, pal, pow, .inl hn, c'⟩
        · exact (kp_upd hn : Kp W H _).trans (.refl W) (e2.kp.trans e2.le kp)
        · have hne : q ≠ p := ne_of_none hq hn
          exact back (e2.fr q o (by rw [upd_ne hne]; exact hq) hq1 hq2) hne
        · rcases e2.new q hq with z | z | z
          · left
            by_cases hqp : q = p
            · subst hqp; exact hn
            · rw [upd_ne hqp] at z; exact z
          · exact .inr (.inl z)
          · exact .inr (.inr z)
        · obtain ⟨y', h1, h2⟩ := r2.slt i z hz
          refine ⟨y', h1, ?_⟩
          cases z with
          | no => trivial
          | val u => obtain ⟨v, e, q⟩ := h2; exact ⟨v, e, RepV.mono (.refl W2) kp _ q⟩
          | own u =>
            obtain ⟨q, e, f, n, c⟩ := h2
            refine ⟨q, e, f, n, c.mono (.refl W2) kp fun o ho => back ho fun z => ?_⟩
            subst z; subst e
            exact pow ⟨i, u, hz, h1⟩
        · refine ⟨r2.m.len, r2.m.nod, fun n q hq => ?_, fun q hq => ?_⟩
          · obtain ⟨h1, u, h2, h3⟩ := r2.m.mem n q hq
            exact ⟨h1, u, h2, h3.mono (.refl W2) kp fun o ho => back ho fun z => by subst z; exact pal (List.mem_of_getElem? hq)⟩
          · obtain ⟨o, ho⟩ := r2.m.sm q hq
            exact ⟨o, back ho fun z => by subst z; exact pfz hq⟩
  have hT2 := two_es hT
  refine wpAny_Dict_any (by rfl) rfl (by simp) (by simp) ?_
  rw [hp]
  show wpAny _ _ (evalPairs [(eval ke X.env, do let x ← eval ve X.env; standAt pos; pure x)]) _ _ _
  refine evalPairs_cons (thn (hk.run pins _ σ _ _ I1 hT2) fun kv s2 ⟨x, H2, I2, rx, q2⟩ => ?_)
  refine wpAny_bind (thn (hv.run pins s2 σ H2 _ I2 q2) fun vv s3 ⟨y, H3, I3, ry, q3⟩ => wpAny_bind (wpAny_standAt (wpAny_pure (evalPairs_nil ?_))))
  obtain ⟨W2, s2', a, b, x', y', e1, hk0, ha, hb, pfz, c2, r2, fin⟩ := q3
  simp only [List.cons.injEq, and_true] at e1
  obtain ⟨rfl, rfl⟩ := e1
  unfold storeAll
  rw [List.forIn_cons]
  refine wpAny_bind (wpAny_bind (put_dic (Q := fun _ s4 => _) O I3 pfz rx ry hk0 (by unfold line; decide) ha hb c2 fun o' s4 I4 c4 => ?_))
  refine wpAny_pure ?_
  show wpAny _ _ (forIn [] PUnit.unit _) _ _ s4
  rw [List.forIn_nil]
  exact wpAny_pure ⟨.ref p, _, I4, rfl, fin o' c4⟩
end
end MP
set_option maxRecDepth 100000
set_option maxHeartbeats 1000000
/-! R2f: tests, and, or, not, choices, chains. -/
namespace MP
open PySem PySem.Spec PyProof.Rows L2
section
variable {C : SC} {G : Nms} {g : Gst} {X : Cx} {sc : Scope} {Wx : WX} {σ : L2.St} {H : Hp}
theorem tR_bind {α β γ δ : Type} {f : Sta → Rs α} {k : α → Sta → Rs γ} {R' : L2.St → Wd → Sta → Hp → γ → δ → Prop} {Q : δ → Hp → Prop} (R : L2.St → Wd → Sta → Hp → α → β → Prop)
    (h : tR G Wx (fun s => (f s).bind k) R' σ H Q) : tR G Wx f R σ H fun b H1 => ∃ a W1 s1, RelFr G W1 s1 σ H1 ∧ R σ W1 s1 H1 a b ∧ tAt G Wx (k a s1) W1 s1 σ H1 (R' σ) Q := by
  obtain ⟨W, s, r, h⟩ := h
  refine ⟨W, s, r, ?_⟩
  refine tAt.imp (tAt.bind (R σ) h) ?_
  intro a s' W' H' b _ e1 r1 ra k
  obtain ⟨a1, W1, s1, _, e2, r2, ra2, h2⟩ := k b ra
  exact ⟨a1, W1, s1, r2, ra2, h2⟩
theorem tR_eq {α β : Type} {f f' : Sta → Rs α} {R : L2.St → Wd → Sta → Hp → α → β → Prop} {Q : β → Hp → Prop} (e : ∀ s, f s = f' s) (h : tR G Wx f R σ H Q) : tR G Wx f' R σ H Q := by
  obtain ⟨W, s, r, h⟩ := h
  exact ⟨W, s, r, by rw [← e]; exact h⟩
theorem truV {W : Wd} {s : Sta} {a : U} {x : V} {b : Bool} (h : CRep G W H a x) (e : truthy a = some b) : TruV G.K x H b := by
  cases a with
  | non => obtain rfl := h.non; cases e; rfl
  | bl c => obtain rfl := h.bl; cases e; rfl
  | int i => obtain rfl := h.int; cases e; rfl
  | str z =>
    obtain rfl := h.str
    simp only [truthy] at e
    split at e
    · rename_i hl
      cases e
      refine ⟨by rw [sOf_length]; exact le_line hl, ?_⟩
      rw [sOf_length]
      cases z with
      | nil => rfl
      | cons c z =>
        have : ((c :: z).length : Int) ≠ 0 := by simp only [List.length_cons]; omega
        rw [show ((c :: z).length : Int) != 0 from by simpa using this]
        rfl
    · cases e
  | tup us =>
    obtain ⟨p, vs, rfl, h1, h2⟩ := h.tup
    cases e
    refine .inr (.inl ⟨vs, TX.sq h1, ?_⟩)
    have := RepVs.length h2
    cases us <;> cases vs <;> first | rfl | (simp at this)
  | lst us =>
    obtain ⟨p, vs, rfl, h1, h2⟩ := h.lst
    cases e
    refine .inl ⟨vs, SqL.of h1, ?_⟩
    have := RepVs.length h2
    cases us <;> cases vs <;> first | rfl | (simp at this)
  | dic ks vs =>
    obtain ⟨p, rfl, c⟩ := h.dic
    simp only [truthy] at e
    split at e
    · rename_i hk
      cases e
      obtain ⟨kvs, h1, h2, _⟩ := dict_is c hk
      refine .inr (.inr ⟨kvs, h1, ?_⟩)
      cases ks <;> cases kvs <;> first | rfl | (simp at h2)
    · cases e
  | _ => cases e
theorem arg_ok {f : Sta → Rs U} {m : ME} {s s1 : Sta} {av : AV} (h : argOf f m s = .ok av s1) : av.ok s1 = true := by
  unfold argOf at h
  split at h
  · rename_i i e
    cases h
    unfold isOwn at e
    split at e
    · split at e
      · cases e
        rename_i u he
        show (match slot _ i with | .own _ => true | _ => false) = true
        rw [he]
      · cases e
    · cases e
  · cases e : f s with
    | ok u s2 => rw [e] at h; cases h; rfl
    | exc _ _ => rw [e] at h; cases h
    | stuck => rw [e] at h; cases h
def truB (u : U) (s : Sta) : Rs Bool := match truthy u with
  | some b => .ok b s
  | none => .stuck
/-- a test: the argument's truth -/
theorem tCond_arg {m : ME} {Q : Bool → Hp → Prop} (h : tCond G Wx g m σ H Q) : tArg G Wx g m σ H fun x H' => ∃ k, TruV G.K x H' k ∧ Q k H' := by
  obtain ⟨W, s, r, h⟩ := h
  refine ⟨W, s, r, ?_⟩
  unfold condOf at h
  cases ea : argOf (fun s => evalE g m s) m s with
  | stuck => rw [ea] at h; exact h
  | exc x s' => rw [ea] at h; exact h
  | ok av s1 =>
    rw [ea] at h
    intro W1 H1 x e1 r1 ra
    simp only [Rs.bind] at h
    cases et : truthy (av.get s1) with
    | none => rw [et] at h; exact h.elim
    | some b =>
      rw [et] at h
      exact ⟨b, truV (s := s1) (crep_of r1 ra (arg_ok ea)) et, tAt.fin (h.shift e1) r1 rfl⟩
def plainC : Expr → Bool
  | .UnaryOp .Not _ _ => false
  | .BoolOp _ _ _ => false
  | .IfExp _ _ _ _ => false
  | .Compare _ _ _ _ => false
  | _ => true
theorem pt_gen (O : Of G X) {e : Expr} {m : ME} (hp : plainC e = true) (h : PE X e (tArg G Wx g m)) : PT X e (tCond G Wx g m) :=
  PTi (pt_truth h (by
    intro whole
    cases e <;> first | rfl | (cases hp; done) | skip
    rename_i op a p
    cases op <;> first | rfl | cases hp)) fun σ H Q q => by
      rw [O.K]
      exact tCond_arg q
/-- from a value to a test -/
theorem cond_of {m : ME} {Q : Bool → Hp → Prop} (h : tR G Wx (fun s => (evalE g m s).bind fun u s => truB (MP.cont s.m u) s) (fun _ => RB) σ H Q) : tCond G Wx g m σ H Q := by
  obtain ⟨W, s, r, h⟩ := h
  refine ⟨W, s, r, ?_⟩
  unfold condOf argOf
  cases eo : isOwn s m with
  | none =>
    cases ev : evalE g m s with
    | stuck => simp only [ev, Rs.bind] at h; exact h.elim
    | exc x s' => simp only [ev, Rs.bind] at h ⊢; exact h
    | ok u s1 => simp only [ev, Rs.bind] at h ⊢; exact h
  | some i =>
    exfalso
    unfold isOwn at eo
    split at eo
    · split at eo
      · cases eo
        rename_i u he
        unfold evalE at h
        simp only [he, Rs.bind] at h
        exact h
      · cases eo
    · cases eo
theorem of_cond {m : ME} {Q : Bool → Hp → Prop} (hm : isVar m = false) (h : tCond G Wx g m σ H Q) : tR G Wx (fun s => (evalE g m s).bind fun u s => truB (MP.cont s.m u) s) (fun _ => RB) σ H Q := by
  obtain ⟨W, s, r, h⟩ := h
  refine ⟨W, s, r, ?_⟩
  have e : isOwn s m = none := by cases m <;> first | rfl | cases hm
  unfold condOf argOf at h
  rw [e] at h
  cases ev : evalE g m s with
  | stuck => simp only [ev, Rs.bind] at h; exact h.elim
  | exc x s' => simp only [ev, Rs.bind] at h ⊢; exact h
  | ok u s1 => simp only [ev, Rs.bind] at h ⊢; exact h
/-- a comparison's truth, where its value is a truth -/
theorem cond_val {m : ME} {Q : Bool → Hp → Prop} (hm : isVar m = false) (hb : ∀ s u s', evalE g m s = .ok u s' → ∃ b, u = .bl b) (h : tCond G Wx g m σ H Q) : tE G Wx g m σ H fun x H' => ∃ k, x = .bl k ∧ Q k H' := by
  obtain ⟨W, s, r, h⟩ := of_cond hm h
  refine ⟨W, s, r, ?_⟩
  cases ev : evalE g m s with
  | stuck => simp only [ev, Rs.bind] at h; exact h.elim
  | exc x s' => simp only [ev, Rs.bind] at h; exact h
  | ok u s1 =>
    simp only [ev, Rs.bind] at h
    obtain ⟨b, rfl⟩ := hb s u s1 ev
    intro W1 H1 x e1 r1 ra
    have ra : RepV G W1 H1 (.bl b) x := ra
    simp only [RepV] at ra
    subst ra
    exact ⟨b, rfl, tAt.fin (h.shift e1) r1 rfl⟩
end
end MP
set_option maxRecDepth 100000
set_option maxHeartbeats 1000000
/-! R2g: not, and, or, choices, comparisons, as values and as tests. -/
namespace MP
open PySem PySem.Spec PyProof.Rows L2
section
variable {C : SC} {G : Nms} {g : Gst} {X : Cx} {sc : Scope} {Wx : WX} {σ : L2.St} {H : Hp} {pos : Pos}
theorem rv_bl {W : Wd} {s : Sta} {b : Bool} {v : V} (h : RV G W s H (.bl b) v) : v = .bl b := by
  have h : RepV G W H (.bl b) v := h
  simpa only [RepV] using h
/-! not -/
theorem not_eq (m : ME) (s : Sta) : evalE g (.not m) s = (condOf (fun s => evalE g m s) m s).bind fun b s => .ok (.bl (!b)) s := by
  conv => lhs; unfold evalE
  unfold condOf
  cases argOf (fun s => evalE g m s) m s with
  | ok av s1 =>
    simp only [Rs.bind]
    cases truthy (av.get s1) <;> rfl
  | _ => rfl
theorem tE_not {m : ME} {Q : VK} (h : tE G Wx g (.not m) σ H Q) : tCond G Wx g m σ H fun b H' => Q (.bl (!b)) H' := by
  refine tR_mono (tR_bind (fun _ => RB) (tR_eq (not_eq m) h)) fun b H1 ⟨a, W1, s1, r1, ra, k⟩ => ?_
  have ra : a = b := ra
  subst ra
  exact tAt.fin k r1 (by show RepV G W1 H1 _ _; simp only [RepV])
theorem se_not (O : Of G X) {m : ME} {e : Expr} (h : PE X e (tArg G Wx g m)) : PE X (.UnaryOp .Not e pos) (tE G Wx g (.not m)) :=
  PEi (pe_notT h) fun σ H Q q => by
    rw [O.K]
    exact tCond_arg (tE_not q)
theorem not_bl (m : ME) (s : Sta) (u : U) (s' : Sta) (h : evalE g (.not m) s = .ok u s') : ∃ b, u = .bl b := by
  rw [not_eq] at h
  cases e : condOf (fun s => evalE g m s) m s with
  | ok b s1 => rw [e] at h; cases h; exact ⟨_, rfl⟩
  | exc _ _ => rw [e] at h; cases h
  | stuck => rw [e] at h; cases h
theorem st_not {m : ME} {e : Expr} (h : PT X e (tCond G Wx g m)) : PT X (.UnaryOp .Not e pos) (tCond G Wx g (.not m)) :=
  PTi (pt_not h) fun σ H Q q => tR_mono (tE_not (cond_val rfl (not_bl m) q)) fun b H1 ⟨k, e, q⟩ => by
    cases e
    exact q

/-! and, or -/
theorem se_and1 {m : ME} {e : Expr} {op : BoolOp} (h : PE X e (tE G Wx g m)) : PE X (.BoolOp op [e] pos) (tE G Wx g m) := pe_one h
theorem and_cons {m m2 : ME} {ms : List ME} {Q : VK} (h : tE G Wx g (.and (m :: m2 :: ms)) σ H Q) : tAndV (tE G Wx g m) (tE G Wx g (.and (m2 :: ms))) σ H Q := by
  have h : tR G Wx (fun s => (evalE g m s).bind fun u s => match u with | .bl true => evalAnd g (m2 :: ms) s | .bl false => .ok (.bl false) s | _ => .stuck) (fun _ => RV G) σ H Q := h
  refine tR_mono (tR_bind (fun _ => RV G) h) fun v H1 ⟨a, W1, s1, r1, ra, k⟩ => ?_
  split at k
  · have := rv_bl (s := s1) ra; subst this
    exact ⟨true, rfl, by rw [if_pos rfl]; exact ⟨W1, s1, r1, k⟩⟩
  · have := rv_bl (s := s1) ra; subst this
    exact ⟨false, rfl, by rw [if_neg Bool.false_ne_true]; exact tAt.fin k r1 (by show RepV G W1 H1 _ _; simp only [RepV])⟩
  · exact k.elim
theorem or_cons {m m2 : ME} {ms : List ME} {Q : VK} (h : tE G Wx g (.or (m :: m2 :: ms)) σ H Q) : tOrV (tE G Wx g m) (tE G Wx g (.or (m2 :: ms))) σ H Q := by
  have h : tR G Wx (fun s => (evalE g m s).bind fun u s => match u with | .bl true => .ok (.bl true) s | .bl false => evalOr g (m2 :: ms) s | _ => .stuck) (fun _ => RV G) σ H Q := h
  refine tR_mono (tR_bind (fun _ => RV G) h) fun v H1 ⟨a, W1, s1, r1, ra, k⟩ => ?_
  split at k
  · have := rv_bl (s := s1) ra; subst this
    exact ⟨true, rfl, by rw [if_pos rfl]; exact tAt.fin k r1 (by show RepV G W1 H1 _ _; simp only [RepV])⟩
  · have := rv_bl (s := s1) ra; subst this
    exact ⟨false, rfl, by rw [if_neg Bool.false_ne_true]; exact ⟨W1, s1, r1, k⟩⟩
  · exact k.elim
theorem se_and : ∀ {ms : List ME} {es : List Expr}, Paired (fun m e => PE X e (tE G Wx g m)) ms es → es ≠ [] → PE X (.BoolOp .And es pos) (tE G Wx g (.and ms))
  | [], [], _, h => absurd rfl h
  | [m], [e], .cons h .nil, _ => se_and1 h
  | m :: m2 :: ms, e :: e2 :: es, .cons h t, _ => PEi (pe_and h (se_and t (by simp))) fun σ H Q q => and_cons q
  | [m], e :: e2 :: es, h, _ => by cases h with | cons _ t => cases t
  | m :: m2 :: ms, [e], h, _ => by cases h with | cons _ t => cases t
  | [], _ :: _, h, _ => by cases h
  | _ :: _, [], h, _ => by cases h
theorem se_or : ∀ {ms : List ME} {es : List Expr}, Paired (fun m e => PE X e (tE G Wx g m)) ms es → es ≠ [] → PE X (.BoolOp .Or es pos) (tE G Wx g (.or ms))
  | [], [], _, h => absurd rfl h
  | [m], [e], .cons h .nil, _ => se_and1 h
  | m :: m2 :: ms, e :: e2 :: es, .cons h t, _ => PEi (pe_or h (se_or t (by simp))) fun σ H Q q => or_cons q
  | [m], e :: e2 :: es, h, _ => by cases h with | cons _ t => cases t
  | m :: m2 :: ms, [e], h, _ => by cases h with | cons _ t => cases t
  | [], _ :: _, h, _ => by cases h
  | _ :: _, [], h, _ => by cases h
/-- an element's own test, from the whole's -/
theorem cand1 {m : ME} {Q : Bool → Hp → Prop} (h : tCond G Wx g (.and [m]) σ H Q) : tCond G Wx g m σ H Q := cond_of (of_cond (m := .and [m]) rfl h)
theorem cor1 {m : ME} {Q : Bool → Hp → Prop} (h : tCond G Wx g (.or [m]) σ H Q) : tCond G Wx g m σ H Q := cond_of (of_cond (m := .or [m]) rfl h)
theorem bl_cond {b : Bool} {W : Wd} {s : Sta} {Q : Bool → Hp → Prop} (h : tAt G Wx ((Rs.ok (U.bl b) s).bind fun u s => truB (MP.cont s.m u) s) W s σ H RB Q) (r : RelFr G W s σ H) : Q b H := tAt.fin (a := b) h r rfl
theorem cand {m m2 : ME} {ms : List ME} {Q : Bool → Hp → Prop} (h : tCond G Wx g (.and (m :: m2 :: ms)) σ H Q) : tAnd (tCond G Wx g m) (tCond G Wx g (.and (m2 :: ms))) σ H Q := by
  refine cond_of ?_
  obtain ⟨W, s, r, h⟩ := of_cond rfl h
  refine ⟨W, s, r, ?_⟩
  have e0 : evalE g (.and (m :: m2 :: ms)) s = (evalE g m s).bind fun u s => match u with | .bl true => evalAnd g (m2 :: ms) s | .bl false => .ok (.bl false) s | _ => .stuck := rfl
  simp only [e0] at h
  cases ev : evalE g m s with
  | stuck => simp only [ev, Rs.bind] at h; exact h.elim
  | exc x s' => simp only [ev, Rs.bind] at h ⊢; exact h
  | ok u s1 =>
    simp only [ev] at h ⊢
    cases u with
    | bl c =>
      cases c with
      | true =>
        have h : tAt G Wx ((evalAnd g (m2 :: ms) s1).bind fun u s => truB (MP.cont s.m u) s) W s σ H RB Q := h
        intro W1 H1 b e1 r1 hb
        obtain rfl : true = b := hb
        rw [if_pos rfl]
        exact cond_of ⟨W1, s1, r1, h.shift e1⟩
      | false =>
        have h : tAt G Wx ((Rs.ok (U.bl false) s1).bind fun u s => truB (MP.cont s.m u) s) W s σ H RB Q := h
        intro W1 H1 b e1 r1 hb
        obtain rfl : false = b := hb
        rw [if_neg Bool.false_ne_true]
        exact bl_cond (h.shift e1) r1
    | _ => exact (show False from h).elim
theorem cor {m m2 : ME} {ms : List ME} {Q : Bool → Hp → Prop} (h : tCond G Wx g (.or (m :: m2 :: ms)) σ H Q) : tOr (tCond G Wx g m) (tCond G Wx g (.or (m2 :: ms))) σ H Q := by
  refine cond_of ?_
  obtain ⟨W, s, r, h⟩ := of_cond rfl h
  refine ⟨W, s, r, ?_⟩
  have e0 : evalE g (.or (m :: m2 :: ms)) s = (evalE g m s).bind fun u s => match u with | .bl true => .ok (.bl true) s | .bl false => evalOr g (m2 :: ms) s | _ => .stuck := rfl
  simp only [e0] at h
  cases ev : evalE g m s with
  | stuck => simp only [ev, Rs.bind] at h; exact h.elim
  | exc x s' => simp only [ev, Rs.bind] at h ⊢; exact h
  | ok u s1 =>
    simp only [ev] at h ⊢
    cases u with
    | bl c =>
      cases c with
      | true =>
        have h : tAt G Wx ((Rs.ok (U.bl true) s1).bind fun u s => truB (MP.cont s.m u) s) W s σ H RB Q := h
        intro W1 H1 b e1 r1 hb
        obtain rfl : true = b := hb
        rw [if_pos rfl]
        exact bl_cond (h.shift e1) r1
      | false =>
        have h : tAt G Wx ((evalOr g (m2 :: ms) s1).bind fun u s => truB (MP.cont s.m u) s) W s σ H RB Q := h
        intro W1 H1 b e1 r1 hb
        obtain rfl : false = b := hb
        rw [if_neg Bool.false_ne_true]
        exact cond_of ⟨W1, s1, r1, h.shift e1⟩
    | _ => exact (show False from h).elim
theorem sw_and : ∀ {ms : List ME} {es : List Expr}, Paired (fun m e => PT X e (tCond G Wx g m)) ms es → es ≠ [] → PW X (.BoolOp .And es pos) (tCond G Wx g (.and ms))
  | [], [], _, h => absurd rfl h
  | [m], [e], .cons h .nil, _ => pw_and1 (PTi h fun σ H Q q => cand1 q)
  | m :: m2 :: ms, e :: e2 :: es, .cons h t, _ => ⟨fun whole pins s σ H Q I q => (pw_and h (sw_and t (by simp))).run whole pins s σ H Q I (cand q)⟩
  | [m], e :: e2 :: es, h, _ => by cases h with | cons _ t => cases t
  | m :: m2 :: ms, [e], h, _ => by cases h with | cons _ t => cases t
  | [], _ :: _, h, _ => by cases h
  | _ :: _, [], h, _ => by cases h
theorem sw_or : ∀ {ms : List ME} {es : List Expr}, Paired (fun m e => PT X e (tCond G Wx g m)) ms es → es ≠ [] → PW X (.BoolOp .Or es pos) (tCond G Wx g (.or ms))
  | [], [], _, h => absurd rfl h
  | [m], [e], .cons h .nil, _ => pw_or1 (PTi h fun σ H Q q => cor1 q)
  | m :: m2 :: ms, e :: e2 :: es, .cons h t, _ => ⟨fun whole pins s σ H Q I q => (pw_or h (sw_or t (by simp))).run whole pins s σ H Q I (cor q)⟩
  | [m], e :: e2 :: es, h, _ => by cases h with | cons _ t => cases t
  | m :: m2 :: ms, [e], h, _ => by cases h with | cons _ t => cases t
  | [], _ :: _, h, _ => by cases h
  | _ :: _, [], h, _ => by cases h
end
end MP
set_option maxRecDepth 100000
set_option maxHeartbeats 1000000
/-! R2h: choices, chains, comparisons as tests, constants, globals, a name handed on. -/
namespace MP
open PySem PySem.Spec PyProof.Rows L2
section
variable {C : SC} {G : Nms} {g : Gst} {X : Cx} {sc : Scope} {Wx : WX} {σ : L2.St} {H : Hp} {pos : Pos}
/-! a if c else b -/
theorem ifx_eq (c a b : ME) (s : Sta) : evalE g (.ifx c a b) s = (condOf (fun s => evalE g c s) c s).bind fun k s => if k then evalE g a s else evalE g b s := by
  conv => lhs; unfold evalE
  unfold condOf
  cases argOf (fun s => evalE g c s) c s with
  | ok av s1 =>
    simp only [Rs.bind]
    cases truthy (av.get s1) with
    | none => rfl
    | some k => cases k <;> rfl
  | _ => rfl
theorem se_ifx {c a b : Expr} {m1 m2 m3 : ME} (hc : PT X c (tCond G Wx g m1)) (ha : PE X a (tE G Wx g m2)) (hb : PE X b (tE G Wx g m3)) : PE X (.IfExp c a b pos) (tE G Wx g (.ifx m1 m2 m3)) :=
  PEi (pe_ifExp hc ha hb) fun σ H Q q => by
    refine tR_mono (tR_bind (fun _ => RB) (tR_eq (ifx_eq m1 m2 m3) q)) fun k H1 ⟨a, W1, s1, r1, ra, kk⟩ => ?_
    have ra : a = k := ra
    subst ra
    cases a with
    | true => rw [if_pos rfl]; exact ⟨W1, s1, r1, kk⟩
    | false => rw [if_neg Bool.false_ne_true]; exact ⟨W1, s1, r1, kk⟩

/-! comparisons give truths -/
theorem cmp_bl {o : Opr} {op : CmpOp} {us : List U} {u : U} (ho : cmpOf o = some op) (h : opSem g o us = some u) : ∃ b, u = .bl b := by
  cases o <;> first | (exfalso; revert ho; simp [cmpOf]; done) | skip
  case eq => change opEq us = some u at h; unfold opEq at h; (repeat' split at h) <;> first | (cases h; exact ⟨_, rfl⟩) | cases h
  case ne => change opNe us = some u at h; unfold opNe at h; (repeat' split at h) <;> first | (cases h; exact ⟨_, rfl⟩) | cases h
  case lt => change opLt us = some u at h; unfold opLt at h; (repeat' split at h) <;> first | (cases h; exact ⟨_, rfl⟩) | cases h
  case le => change opLe us = some u at h; unfold opLe at h; (repeat' split at h) <;> first | (cases h; exact ⟨_, rfl⟩) | cases h
  case gt => change opGt us = some u at h; unfold opGt at h; (repeat' split at h) <;> first | (cases h; exact ⟨_, rfl⟩) | cases h
  case ge => change opGe us = some u at h; unfold opGe at h; (repeat' split at h) <;> first | (cases h; exact ⟨_, rfl⟩) | cases h
  case inn => change opInn us = some u at h; unfold opInn at h; (repeat' split at h) <;> first | (cases h; exact ⟨_, rfl⟩) | cases h
  case notin => change opNotin us = some u at h; unfold opNotin at h; (repeat' split at h) <;> first | (cases h; exact ⟨_, rfl⟩) | cases h
theorem isN_bl {us : List U} {u : U} (h : opSem g .isN us = some u) : ∃ b, u = .bl b := by
  change opIsN us = some u at h
  unfold opIsN at h
  split at h <;> first | (cases h; exact ⟨_, rfl⟩) | cases h
theorem op_out {o : Opr} {ms : List ME} {s s' : Sta} {u : U} (h : evalE g (.op o ms) s = .ok u s') : ∃ us, opSem g o us = some u := by
  unfold evalE at h
  split at h
  · cases e : evalEs g ms s with
    | ok us s1 =>
      rw [e] at h
      simp only [Rs.bind] at h
      cases eo : opSem g o us with
      | none => rw [eo] at h; cases h
      | some u' => rw [eo] at h; cases h; exact ⟨us, eo⟩
    | exc _ _ => rw [e] at h; cases h
    | stuck => rw [e] at h; cases h
  · cases e : (if o.meth = true then evalRecv g ms s else evalAs g ms s) with
    | ok us s1 =>
      rw [e] at h
      simp only [Rs.bind] at h
      split at h
      · cases eo : opSem g o (us.map (AV.get s1)) with
        | none => rw [eo] at h; cases h
        | some u' => rw [eo] at h; cases h; exact ⟨_, eo⟩
      · cases h
    | exc _ _ => rw [e] at h; cases h
    | stuck => rw [e] at h; cases h
theorem st_cmp (O : Of G X) {o : Opr} {op : CmpOp} {a b : Expr} {m1 m2 : ME} (h : cmpOf o = some op) (hm : behindInMarks op b = false) (ha : PX G Wx g X m1 a) (hb : PX G Wx g X m2 b) : PT X (.Compare a [op] [b] pos) (tCond G Wx g (.op o [m1, m2])) :=
  PTi (pt_cmpR (so_cmp O h) ha hb hm) fun σ H Q q => two_args (tE_op (cmp_free h).1 (cmp_free h).2 (cond_val rfl (fun s u s' e => let ⟨us, e⟩ := op_out e; cmp_bl h e) q))
theorem st_isN (O : Of G X) {a b : Expr} {m1 : ME} (hb : isNone b = true) (ha : PX G Wx g X m1 a) : PT X (.Compare a [.Is] [b] pos) (tCond G Wx g (.op .isN [m1])) := by
  cases b <;> first | cases hb | skip
  rename_i c k p
  cases c <;> first | cases hb | skip
  exact PTi (pt_cmpR so_isN ha pe_non (by rfl)) fun σ H Q q => tR_mono (one_arg' (tE_op rfl rfl (cond_val rfl (fun s u s' e => let ⟨us, e⟩ := op_out e; isN_bl e) q))) fun x H1 h => ⟨rfl, h⟩

/-! a op b op c -/
theorem tChain_of {o o' : Opr} {m1 m2 m3 : ME} {Q : VK} (h : tE G Wx g (.chain o o' m1 m2 m3) σ H Q) : tChain (r2 G g o) (r2 G g o') (tE G Wx g m1) (tE G Wx g m2) (tE G Wx g m3) σ H Q := by
  have e0 : ∀ s, evalE g (.chain o o' m1 m2 m3) s = (evalE g m1 s).bind fun x s => (evalE g m2 s).bind fun y s => match opSem g o [x, y] with
      | some (.bl true) => (evalE g m3 s).bind fun z s => match opSem g o' [y, z] with
        | some u => .ok u s
        | none => .stuck
      | some (.bl false) => .ok (.bl false) s
      | _ => .stuck := fun s => by
    conv => lhs; unfold evalE
    try rfl
  refine tR_mono (tR_bind (fun _ => RV G) (tR_eq e0 h)) fun x H1 ⟨ux, W1, s1, r1, rx, k1⟩ => ?_
  refine ⟨W1, s1, r1, tAt.imp (tAt.bind (RV G) k1) ?_⟩
  intro uy' s2' W2' H2' y _ _ _ ry' kk
  obtain ⟨uy, W2, s2, _, e2, r2, ry, k2⟩ := kk y ry'
  cases eo : opSem g o [ux, uy] with
  | none => rw [eo] at k2; exact k2.elim
  | some u =>
    rw [eo] at k2
    cases u with
    | bl b =>
      refine ⟨Wx, W2, s2, σ, [ux, uy], .bl b, r2, .cons (.inl (RepV.ext e2 rx)) (.cons (.inl ry) .nil), eo, fun W3 H3 z e3 r3 hz => ?_⟩
      have := rv_bl (s := s2) hz
      subst this
      refine ⟨b, rfl, ?_⟩
      cases b with
      | true =>
        rw [if_pos rfl]
        have k2 : tAt G Wx ((evalE g m3 s2).bind fun z s => match opSem g o' [uy, z] with | some u => .ok u s | none => .stuck) W2 s2 σ _ (RV G) Q := k2
        refine ⟨W3, s2, r3, tAt.imp (tAt.bind (RV G) (k2.shift e3)) ?_⟩
        intro uz' s4' W4' H4' w _ _ _ rw' kk
        obtain ⟨uz, W4, s4, _, e4, r4, rw4, k4⟩ := kk w rw'
        cases eo' : opSem g o' [uy, uz] with
        | none => rw [eo'] at k4; exact k4.elim
        | some u =>
          rw [eo'] at k4
          exact ⟨Wx, W4, s4, σ, [uy, uz], u, r4, .cons (.inl (RepV.ext e4 (RepV.ext e3 ry))) (.cons (.inl rw4) .nil), eo', k4⟩
      | false =>
        rw [if_neg Bool.false_ne_true]
        exact tAt.fin (k2.shift e3) r3 (by show RepV G W3 H3 _ _; simp only [RepV])
    | _ => exact (show False from k2).elim
theorem chain_out {o o' : Opr} {op op' : CmpOp} (h1 : cmpOf o = some op) (h2 : cmpOf o' = some op') {m1 m2 m3 : ME} {s s' : Sta} {u : U} (h : evalE g (.chain o o' m1 m2 m3) s = .ok u s') : ∃ b, u = .bl b := by
  unfold evalE at h
  cases e1 : evalE g m1 s with
  | ok ux s1 =>
    rw [e1] at h
    simp only [Rs.bind] at h
    cases e2 : evalE g m2 s1 with
    | ok uy s2 =>
      rw [e2] at h
      simp only [Rs.bind] at h
      split at h
      · cases e3 : evalE g m3 s2 with
        | ok uz s3 =>
          rw [e3] at h
          simp only at h
          cases eo : opSem g o' [uy, uz] with
          | none => rw [eo] at h; cases h
          | some w => rw [eo] at h; cases h; exact cmp_bl h2 eo
        | exc _ _ => rw [e3] at h; cases h
        | stuck => rw [e3] at h; cases h
      · cases h; exact ⟨false, rfl⟩
      · cases h
    | exc _ _ => rw [e2] at h; cases h
    | stuck => rw [e2] at h; cases h
  | exc _ _ => rw [e1] at h; cases h
  | stuck => rw [e1] at h; cases h
theorem se_chain (O : Of G X) {o o' : Opr} {op op' : CmpOp} {a b c : Expr} {m1 m2 m3 : ME} (h1 : cmpOf o = some op) (h2 : cmpOf o' = some op') (hm : lastMarks [op, op'] [b, c] = false) (ha : PE X a (tE G Wx g m1)) (hb : PE X b (tE G Wx g m2)) (hc : PE X c (tE G Wx g m3)) :
    PE X (.Compare a [op, op'] [b, c] pos) (tE G Wx g (.chain o o' m1 m2 m3)) ∧ PT X (.Compare a [op, op'] [b, c] pos) (tCond G Wx g (.chain o o' m1 m2 m3)) :=
  ⟨PEi (pe_chain (so_cmp O h1) (so_cmp O h2) ha hb hc hm) fun σ H Q q => tChain_of q,
   PTi (pt_chain (so_cmp O h1) (so_cmp O h2) ha hb hc hm) fun σ H Q q => tChain_of (cond_val rfl (fun s u s' e => chain_out h1 h2 e) q)⟩

/-! constants, globals -/
def litOk : U → Expr → Bool
  | .int i, .Constant (.int j) _ _ => i == j
  | .bl i, .Constant (.bool j) _ _ => i == j
  | .str s, .Constant (.str x) _ _ => sOf s == x
  | .non, .Constant .none _ _ => true
  | _, _ => false
theorem se_lit {u : U} {e : Expr} (h : litOk u e = true) : PE X e (tE G Wx g (.lit u)) := by
  unfold litOk at h
  split at h
  · simp only [beq_iff_eq] at h
    subst h
    exact PEi pe_int fun σ H Q ⟨W, s, r, q⟩ => tAt.fin q r (by show RepV G W H _ _; simp only [RepV])
  · simp only [beq_iff_eq] at h
    subst h
    exact PEi pe_bl fun σ H Q ⟨W, s, r, q⟩ => tAt.fin q r (by show RepV G W H _ _; simp only [RepV])
  · simp only [beq_iff_eq] at h
    subst h
    exact PEi pe_str fun σ H Q ⟨W, s, r, q⟩ => tAt.fin q r (by show RepV G W H _ _; simp only [RepV])
  · exact PEi pe_non fun σ H Q ⟨W, s, r, q⟩ => tAt.fin q r (by show RepV G W H _ _; simp only [RepV])
  · cases h
theorem se_glo (D : Good C G g X sc) {n : Nat} {u : U} {x : Str} (h1 : glB sc x = true) (h2 : (x, n, u) ∈ C.glo) : PE X (.Name x pos) (tE G Wx g (.glo n u)) := by
  obtain ⟨g1, g2⟩ := glB_gl D h1
  obtain ⟨v, w, h3, h4, h5⟩ := D.s0.glo x n u h2
  exact PEi (pe_glob g1 h3 h4 g2) fun σ H Q ⟨W, s, r, q⟩ => tAt.fin q r (h5 W H)
end
end MP
set_option maxRecDepth 100000
set_option maxHeartbeats 1000000
/-! R2i: calls of one's own defs. -/
namespace MP
open PySem PySem.Spec PyProof.Rows L2
/-- a def's promise: it answers as it is told to -/
def spI (G : Nms) (g : Gst) (f : Nat) : Sp := fun vs H Q E => ∃ W us m, RelSh G W m H ∧ RepVs G W H us vs ∧ match g.call f us m with
  | .ok u m' => ∀ W' H' v, ExtM W W' H H' → RelSh G W' m' H' → RepV G W' H' u v → Q v H'
  | .exc e m' => ∀ W' H' cls d, ExtM W W' H H' → RelSh G W' m' H' → ExcOk G W' H' e cls d → E cls d H'
  | .stuck => False
section
variable {C : SC} {G : Nms} {g : Gst} {X : Cx} {sc : Scope} {Wx : WX} {σ : L2.St} {H H' : Hp} {pos : Pos} {W W' : Wd} {s : Sta} {m' : List U}
theorem callFr (r : RelFr G W s σ H) (e : ExtM W W' H H') (rm : RelSh G W' m' H') : RelFr G W' ⟨s.r, m'⟩ σ H' ∧ Ext s ⟨s.r, m'⟩ σ W W' H H' := by
  refine ⟨⟨r.len, fun i x hx => ?_, r.apart, rm⟩, ⟨e.le, e.kp, fun a o h1 h2 _ => e.fr a o h1 h2, fun a ha => ?_, fun i u h => ⟨u, h⟩, rfl⟩⟩
  · obtain ⟨y, h1, h2⟩ := r.slt i x hx
    refine ⟨y, h1, ?_⟩
    cases x with
    | no => trivial
    | val u => obtain ⟨v, q1, q2⟩ := h2; exact ⟨v, q1, RepV.mono e.le e.kp _ q2⟩
    | own u =>
      obtain ⟨p, q1, q2, q3, q4⟩ := h2
      obtain ⟨o, ho⟩ := q4.some
      refine ⟨p, q1, fun z => ?_, fun z => ?_, q4.mono e.le e.kp fun o' ho' => e.fr p o' ho' q3⟩
      · rcases e.new p (.inl ⟨z, q2⟩) with k | k
        · rw [ho] at k; cases k
        · exact q3 k
      · rcases e.new p (.inr ⟨z, q3⟩) with k | k
        · rw [ho] at k; cases k
        · exact q3 k
  · rcases e.new a ha with k | k
    · exact .inl k
    · exact .inr (.inr k)
theorem tE_call {f : Nat} {ms : List ME} {Q : VK} (h : tE G Wx g (.call f ms) σ H Q) : tCallS (spI G g f) (WE Wx) (tEs G Wx g ms) σ H Q := by
  have h : tR G Wx (fun s => (evalEs g ms s).bind fun us s => rc s.r (g.call f us s.m)) (fun _ => RV G) σ H Q := h
  refine tR_mono (tR_bind (fun _ => RVs G) h) fun vs H1 ⟨us, W1, s1, r1, ra, k⟩ => ?_
  refine ⟨W1, us, s1.m, r1.m, ra, ?_⟩
  cases ec : g.call f us s1.m with
  | ok u m' =>
    rw [ec] at k
    intro W' H' v e rm rv
    obtain ⟨q1, q2⟩ := callFr r1 e rm
    exact k W' H' v q2 q1 rv
  | exc x m' =>
    rw [ec] at k
    intro W' H' cls d e rm rx
    obtain ⟨q1, q2⟩ := callFr r1 e rm
    exact k W' H' cls d q2 q1 rx
  | stuck => rw [ec] at k; exact k
/-- a def that keeps its promise, by its name -/
def CallOk (G : Nms) (g : Gst) (K : PySem.W.Frag) (mg : Str → Option Value) (base : Heap) (k : Nat) (x : Str) (f : Nat) : Prop := ∃ fd ps, mg x = some (.ref (G.fA f)) ∧ PySem.W.keepIn K (.ref (G.fA f)) = true ∧ Binds K fd ps [] ∧
  FnOk G.P G.w K mg base (L2.CX G.P G.w) k (G.fA f) fd ps (spI G g f)
structure Full (C : SC) (G : Nms) (g : Gst) (k : Nat) (X : Cx) (sc : Scope) (Wx : WX) : Prop where
  good : Good C G g X sc
  room : Room k X.A
  calls : ∀ x f, C.fn.lookup x = some f → CallOk G g X.K X.mg X.base k x f
  pass : ∀ σ, PassesAt (L2.CX X.prog X.w) X σ (WE Wx σ)
theorem se_call {k : Nat} (D : Full C G g k X sc Wx) {x : Str} {f : Nat} {e : Expr} {es : List Expr} {ms : List ME} {p : Pos} (hx : glB sc x = true) (hf : C.fn.lookup x = some f) (hs : (e :: es).all notStar = true) (ha : Paired (fun m e => PE X e (tE G Wx g m)) ms (e :: es)) :
    PE X (.Call (.Name x p) (e :: es) [] pos) (tE G Wx g (.call f ms)) := by
  obtain ⟨g1, g2⟩ := glB_gl D.good hx
  obtain ⟨fd, ps, h1, h2, h3, h4⟩ := D.calls x f hf
  have h4' : FnOk X.prog X.w X.K X.mg X.base (L2.CX X.prog X.w) k (G.fA f) fd ps (spI G g f) := by rw [D.good.of.P, D.good.of.w]; exact h4
  have hs' := hs
  simp only [List.all_cons, Bool.and_eq_true] at hs'
  exact PEi (pe_callS h4' D.room g1 h1 h2 h3 D.pass (paE_of ha hs) g2 (star1 hs'.1) (hpl1 hs'.2)) fun σ H Q q => tE_call q
end
end MP
set_option maxRecDepth 100000
set_option maxHeartbeats 1000000
/-! R2j: methods that change their container. -/
namespace MP
open PySem PySem.Spec PyProof.Rows L2
section
variable {C : SC} {G : Nms} {g : Gst} {X : Cx} {sc : Scope} {Wx : WX} {σ : L2.St} {H : Hp}
def KindAt (G : Nms) (k : Nat) (x : V) (H : Hp) : Prop := ∃ W a, CRep G W H a x ∧ kindN a = k
theorem kind_type (k : Nat) (T : String) (hT : (k = 1 ∧ T = "list") ∨ (k = 3 ∧ T = "dict")) {pins : List (Addr × Obj)} {s : Shared} {x : V} {v : Value} (I : Inv X pins σ H s) (rx : RelV x v) (h : KindAt G k x H) :
    s.TypeIs v T ∧ ∀ a, v = .ref a → ∃ ob, s.heap.get? a = some ob ∧ ob.dict = none := by
  obtain ⟨W, u, c, hk⟩ := h
  rcases hT with ⟨rfl, rfl⟩ | ⟨rfl, rfl⟩
  · obtain ⟨us, rfl⟩ := kind1 hk
    obtain ⟨p, vs, rfl, h1, _⟩ := c.lst
    obtain ⟨its, _, pl, _⟩ := I.list (SqL.of (K := X.K) h1)
    cases rx
    refine ⟨pl.isList.typeIs, fun a e => ?_⟩
    cases e
    obtain ⟨o, n, e, c, hd, _⟩ := pl
    exact ⟨o, e, hd⟩
  · obtain ⟨ks, vs, rfl⟩ := kind3 hk
    obtain ⟨p, rfl, cc⟩ := c.dic
    cases rx
    have z : ∃ o, s.heap.get? p = some o ∧ o.ExactDict := by
      rcases (by simpa only [MP.Cont] using cc : _ ∨ _) with ⟨kvs, h, _⟩ | ⟨ys, _, h, _⟩
      · obtain ⟨_, _, _, _, o, _, _, e, ex, _⟩ := I.hok p _ h
        exact ⟨o, e, ex⟩
      · obtain ⟨⟨_, o, es, ep, ys', e, _, ex, _⟩, _⟩ := I.hok p _ h
        exact ⟨o, e, ex⟩
    obtain ⟨o, e, ex⟩ := z
    refine ⟨⟨o, e, ex.1⟩, fun a e2 => ?_⟩
    cases e2
    exact ⟨o, e, ex.2.1⟩
section
variable {T id : String} {name : Str} {o e : Expr} {es : List Expr} {to : TE} {t : TA} {apos cpos : Pos} {r : V → List V → Hp → VK → Prop} {P : V → Hp → Prop}
theorem pe_bmP (hP : ∀ pins σ H s x v, Inv X pins σ H s → RelV x v → P x H → s.TypeIs v T ∧ ∀ a, v = .ref a → ∃ ob, s.heap.get? a = some ob ∧ ob.dict = none) (pa : PlainAttrs T) (slot : Slot T name id) (hty : typeOf (.builtin id) = pure (.type "method_descriptor")) (hm : MtR X id r) (ho : PE X o to) (ha : PA X (e :: es) t)
    (hbase : attributeBase o name X.env (eval o X.env) = eval o X.env)
    (hfew : ((backTo cpos (starEach (e :: es) X.env)).all (fun x => !x.1) && (backToKw cpos (keywordEach [] X.env)).all (fun x => x.1.isSome)
      && decide ((e :: es).length + ([] : List Keyword).length + (if ([] : List Keyword).isEmpty then 0 else 1) < 30)) = true)
    (hline : (apos.endLine == cpos.line) = true) (hs : starEach (e :: es) X.env = (false, eval e X.env) :: starEach es X.env) (hplain : (backTo cpos (starEach es X.env)).any (·.1) = false) :
    PE X (.Call (.Attribute o name apos) (e :: es) [] cpos) (fun σ H Q => to σ H fun x H1 => P x H1 ∧ t σ H1 fun xs H2 => r x xs H2 Q) := by
  refine ⟨fun pins s σ H Q I h => ?_⟩
  refine wpAny_Call_method_late hbase hfew hline rfl (thn (ho.run pins s σ H _ I h) fun v s1 ⟨x, H1, I1, r1, ty, q1⟩ => ?_)
  obtain ⟨h1, h2⟩ := hP _ _ _ _ _ _ I1 r1 ty
  refine ⟨T, id, pa, slot, hty, h1, h2, ?_⟩
  have hA := ha.run cpos pins s1 σ H1 _ I1 q1
  rw [hs] at hA ⊢
  refine Calls.callWith_builtin (by show (false || (backTo cpos (starEach es X.env)).any (·.1)) = false; rw [hplain] <;> rfl) (Calls.evalArgs_plain ?_)
  exact thn hA fun us s2 ⟨vs, H2, I2, r2, q2⟩ => hm pins s2 σ H2 x vs v us Q I2 r1 r2 q2
theorem pe_bmP0 (hP : ∀ pins σ H s x v, Inv X pins σ H s → RelV x v → P x H → s.TypeIs v T ∧ ∀ a, v = .ref a → ∃ ob, s.heap.get? a = some ob ∧ ob.dict = none) (pa : PlainAttrs T) (slot : Slot T name id) (hty : typeOf (.builtin id) = pure (.type "method_descriptor")) (hm : MtR X id r) (ho : PE X o to)
    (hbase : attributeBase o name X.env (eval o X.env) = eval o X.env) (hline : (apos.endLine == cpos.line) = true) : PE X (.Call (.Attribute o name apos) [] [] cpos) (fun σ H Q => to σ H fun x H1 => P x H1 ∧ r x [] H1 Q) := by
  refine ⟨fun pins s σ H Q I h => ?_⟩
  refine wpAny_Call_method0_late hbase hline (thn (ho.run pins s σ H _ I h) fun v s1 ⟨x, H1, I1, r1, ty, q1⟩ => ?_)
  obtain ⟨h1, h2⟩ := hP _ _ _ _ _ _ I1 r1 ty
  exact ⟨T, id, pa, slot, hty, h1, h2, Calls.callWith_builtin rfl (PySem.evalArgs_none (hm pins s1 σ H1 x [] v [] Q I1 r1 .nil q1))⟩
end
theorem sm_setdefault (O : Of G X) : MtR X "dict.setdefault" (rM G .setdefault) := by
  intro pins s0 σ0 H x xs v us' Q I rx rxs h
  obtain ⟨Wx, W, s, σ, av, us, u, c', s', r, ra, rs, e, hs, k⟩ := h
  obtain ⟨p, rfl, hf, c, done⟩ := mut_at r ra hs (mut_some e)
  change muSetdefault (av.get s) us = some (c', u) at e
  unfold muSetdefault at e
  split at e
  · rename_i ks ws kk b eq1
    rw [eq1] at c
    obtain ⟨x1, y1, rfl, h1, h2⟩ := rs.two_of
    obtain ⟨u1, u2, rfl, q1, q2⟩ := Vals.two rxs
    cases rx
    split at e
    · rename_i hk
      simp only [Bool.and_eq_true, decide_eq_true_eq] at hk
      refine setd_dic O I hf q1 q2 hk.1 hk.2 h1 h2 c (fun w hw z zv s1 I1 rz rw' => ?_) fun hn o' s1 I1 c1 rv hrv => ?_
      · rw [hw] at e
        cases e
        have same : s' = s ∧ True ∨ RelFr G W s' σ H ∧ Ext s s' σ W W H H := by
          right
          have := done
          obtain ⟨o, ho⟩ := c.some
          have e1 : L2.upd H p o = H := by
            funext q
            by_cases hq : q = p
            · subst hq; rw [upd_same, ho]
            · rw [upd_ne hq]
          have d := done o
          rw [e1] at d
          exact d (.refl W H) c
        rcases same with ⟨rfl, _⟩ | ⟨d1, d2⟩
        · exact ⟨z, H, I1, rz, tAt.fin k r rw'⟩
        · exact ⟨z, H, I1, rz, k W H z d2 d1 rw'⟩
      · rw [hn] at e
        cases e
        have kp := cont_kp (o' := o') hf c
        obtain ⟨d1, d2⟩ := done o' kp c1
        exact ⟨y1, _, I1, hrv, k W _ _ d2 d1 (RepV.mono (.refl W) kp _ h2)⟩
    · cases e
  · cases e
/-- a changing method's walk -/
theorem tE_mut {o : Mop} {m : ME} {ms : List ME} {Q : VK} (ho : o ≠ .extend) (h : tE G Wx g (.mut o m ms) σ H Q) :
    tArg G Wx g m σ H fun x H1 => KindAt G o.kind x H1 ∧ tEs G Wx g ms σ H1 fun xs H2 => rM G o x xs H2 Q := by
  obtain ⟨W, s, r, h⟩ := h
  unfold evalE at h
  refine ⟨W, s, r, ?_⟩
  cases ea : argOf (fun s => evalE g m s) m s with
  | stuck => rw [ea] at h; exact h
  | exc x s' => rw [ea] at h; exact h
  | ok av s1 =>
    rw [ea] at h
    intro W1 H1 x e1 r1 ra
    simp only [Rs.bind] at h
    by_cases hk : kindN (av.get s1) = o.kind
    · rw [if_neg (by simp [hk]), if_neg (by simp [ho])] at h
      have hc := crep_of r1 ra (arg_ok ea)
      refine ⟨⟨W1, _, hc, hk⟩, W1, s1, r1, ?_⟩
      cases eb : evalEs g ms s1 with
      | stuck => rw [eb] at h; exact h
      | exc x s' => rw [eb] at h; exact h.shift e1
      | ok as s2 =>
        rw [eb] at h
        intro W2 H2 xs e2 r2 ras
        simp only at h
        unfold mutF at h
        cases em : mutSem o (av.get s2) as with
        | none => rw [em] at h; exact h.elim
        | some z =>
          obtain ⟨c', u⟩ := z
          rw [em] at h
          simp only at h
          cases es : setC s2 av c' with
          | none => rw [es] at h; exact h.elim
          | some s3 =>
            rw [es] at h
            exact ⟨Wx, W2, s2, σ, av, as, u, c', s3, r2, ra.ext e2, ras, em, es, h.shift (e1.trans e2)⟩
    · rw [if_pos (by simp [hk])] at h; exact h.elim
def mopOf : Mop → Option (String × Nat)
  | .append => some ("append", 1)
  | .pop => some ("pop", 0)
  | .popAt => some ("pop", 1)
  | .setdefault => some ("setdefault", 2)
  | _ => none
theorem few2 {a b : Expr} {env : Env} {pos : Pos} (h : notStar a = true) (h2 : notStar b = true) : ((backTo pos (starEach [a, b] env)).all (fun x => !x.1) && (backToKw pos (keywordEach [] env)).all (fun x => x.1.isSome)
      && decide (([a, b] : List Expr).length + ([] : List Keyword).length + (if ([] : List Keyword).isEmpty then 0 else 1) < 30)) = true := by
  rw [star1 h, star1 h2]; rfl
theorem se_mut (O : Of G X) {o : Mop} {n : String} {k : Nat} {r : Expr} {es : List Expr} {m : ME} {ms : List ME} {name : Str} {apos cpos : Pos} (ho : mopOf o = some (n, k)) (hn : name = Str.ofString n) (hl : es.length = k) (hs : es.all notStar = true) (hb : notBare r = true) (hline : (apos.endLine == cpos.line) = true)
    (hr : PX G Wx g X m r) (ha : Paired (fun m e => PE X e (tE G Wx g m)) ms es) : PE X (.Call (.Attribute r name apos) es [] cpos) (tE G Wx g (.mut o m ms)) := by
  subst hn
  cases o <;> simp only [mopOf, Option.some.injEq, Prod.mk.injEq, reduceCtorEq] at ho <;> obtain ⟨rfl, rfl⟩ := ho
  case append =>
    match es, hl, hs, ha with
    | [a], _, hs, ha =>
    have hs' : notStar a = true := by simpa using hs
    exact PEi (pe_bmP (P := KindAt G 1) (T := "list") (id := "list.append") (fun _ _ _ _ _ _ I rx h => kind_type 1 "list" (.inl ⟨rfl, rfl⟩) I rx h) PySem.F.plainAttrs_list PySem.F.slot_list_append PySem.F.type_list_append (r := rM G .append) (fun pins s σ H x xs v us Q I rx rxs h => mt_append pins s σ H x xs v us Q I rx rxs (om_append h)) hr (paE_of ha hs) (notBare_base hb) (few1 hs') hline (star1 hs') rfl) fun σ H Q q => tE_mut (by simp) q
  case pop =>
    match es, hl, hs, ha with
    | [], _, hs, .nil =>
    exact PEi (pe_bmP0 (P := KindAt G 1) (T := "list") (id := "list.pop") (fun _ _ _ _ _ _ I rx h => kind_type 1 "list" (.inl ⟨rfl, rfl⟩) I rx h) PySem.F.plainAttrs_list PySem.F.slot_list_pop PySem.F.type_list_pop (r := rM G .pop) (fun pins s σ H x xs v us Q I rx rxs h => mt_pop pins s σ H x xs v us Q I rx rxs (om_pop h)) hr (notBare_base hb) hline) fun σ H Q q => tR_mono (tE_mut (by simp) q) fun x H1 h => ⟨h.1, tEs_nil h.2⟩
  case popAt =>
    match es, hl, hs, ha with
    | [a], _, hs, ha =>
    have hs' : notStar a = true := by simpa using hs
    exact PEi (pe_bmP (P := KindAt G 1) (T := "list") (id := "list.pop") (fun _ _ _ _ _ _ I rx h => kind_type 1 "list" (.inl ⟨rfl, rfl⟩) I rx h) PySem.F.plainAttrs_list PySem.F.slot_list_pop PySem.F.type_list_pop (r := rM G .popAt) (fun pins s σ H x xs v us Q I rx rxs h => mt_popAt pins s σ H x xs v us Q I rx rxs (om_popAt h)) hr (paE_of ha hs) (notBare_base hb) (few1 hs') hline (star1 hs') rfl) fun σ H Q q => tE_mut (by simp) q
  case setdefault =>
    match es, hl, hs, ha with
    | [a, b], _, hs, ha =>
    have hs' : notStar a = true ∧ notStar b = true := by simpa using hs
    exact PEi (pe_bmP (P := KindAt G 3) (T := "dict") (id := "dict.setdefault") (fun _ _ _ _ _ _ I rx h => kind_type 3 "dict" (.inr ⟨rfl, rfl⟩) I rx h) PySem.F.plainAttrs_dict PySem.F.slot_dict_setdefault PySem.F.type_dict_setdefault (r := rM G .setdefault) (sm_setdefault O) hr (paE_of ha hs) (notBare_base hb) (few2 hs'.1 hs'.2) hline (star1 hs'.1) (hpl1 (by simp [hs'.2]))) fun σ H Q q => tE_mut (by simp) q
end
end MP
set_option maxRecDepth 100000
set_option maxHeartbeats 1000000
/-! R2k: what is walked: a list or a tuple, told or not; enumerate over a tuple. -/
namespace MP
open PySem PySem.Spec PyProof.Rows L2
section
variable {X : Cx} {tg : Expr}
/-- a list or a tuple -/
def iSeq (K : PySem.W.Frag) (tl : TE) : TI := fun σ H R => tl σ H fun x H1 => ∃ a, x = .ref a ∧ (((∃ xs, SqL K H1 a xs) ∧ R (Itl K a) H1) ∨ ((∃ xs, SqT K H1 a xs) ∧ R (Itt K a) H1))
theorem pi_seq {l : Expr} {tl : TE} (hl : PE X l tl) : PI X tg l (iSeq X.K tl) := by
  refine ⟨fun pins s σ H R I h => ?_⟩
  refine thn (hl.run pins s σ H _ I h) fun v s1 ⟨x, H1, I1, r1, q1⟩ => ?_
  obtain ⟨a, e, q⟩ := q1
  subst e
  cases r1
  rcases q with ⟨⟨xs, hq⟩, q⟩ | ⟨⟨xs, hq⟩, q⟩
  · obtain ⟨its, rv, p, hz⟩ := I1.list hq
    refine wpAny_pyIter_list p.isList ?_
    refine ⟨s1.heap.objs.size, [s1.heap.objs.size], _, _, H1, rfl, I1.kept (t' := s1.toks) fun b o e => Heap.get?_push_of_some _ e, turn_list a _, ⟨_, Heap.get?_push_size _ rfl, rfl, rfl⟩, fun b hb => ?_, q⟩
    have e : b = s1.heap.objs.size := by simpa using hb
    subst e
    exact I1.fpOk (Nat.le_refl _) (I1.hok.fresh (Nat.le_refl _))
  · obtain ⟨its, rv, p, hz⟩ := I1.tuple hq
    refine wpAny_pyIter_tuple (show s1.heap.IsTuple a its.toArray from p) ?_
    refine ⟨s1.heap.objs.size, [s1.heap.objs.size], _, _, H1, rfl, I1.kept (t' := s1.toks) fun b o e => Heap.get?_push_of_some _ e, turn_tuple a _, ⟨_, Heap.get?_push_size _ rfl, rfl, rfl⟩, fun b hb => ?_, q⟩
    have e : b = s1.heap.objs.size := by simpa using hb
    subst e
    exact I1.fpOk (Nat.le_refl _) (I1.hok.fresh (Nat.le_refl _))

/-! enumerate over a tuple -/
theorem meets_enumerate_newT (l : Addr) (items : Array Value) :
    Meets (Builtin.«enumerate.__new__» ⟨[.type "enumerate", .ref l], []⟩) (fun _ R s => s.heap.IsTuple l items ∧
      R (.ok (.ret (.ref (s.heap.push { cls := .type "tuple_iterator", data := .fields #[.ref l, .int 0 0] }).objs.size)))
        { s with heap := (s.heap.push { cls := .type "tuple_iterator", data := .fields #[.ref l, .int 0 0] }).push { cls := .type "enumerate", data := .fields #[.none, .bool false, .ref s.heap.objs.size, rawInt 0, .none, .none] } }) :=
  .of_wp fun prog w A R s h => by
    obtain ⟨hp, g, d, tk, os⟩ := s; obtain ⟨h1, h⟩ := h
    have hsub := sub_enumerate
    have q1 : ∀ {A' : Around} {E : Value → Shared → Prop} {Q : Value → Shared → Prop}, Q (.ref hp.objs.size) ⟨hp.push { cls := .type "tuple_iterator", data := .fields #[.ref l, .int 0 0] }, g, d, tk, os⟩ → wpAny (model prog w) A' (pyIter (.ref l)) Q E ⟨hp, g, d, tk, os⟩ :=
      fun q => wpAny_pyIter_tuple h1 q
    wp_walk using q1
    refine wpAny_stack_any fun st => wpAny_pure ?_
    split
    · rename_i c _ _ _ _ _
      cases (c == Value.type "enumerate")
      · wp_walk using q1
        exact ⟨_, rfl, h⟩
      · wp_walk using q1
        exact ⟨_, rfl, h⟩
    · wp_walk using q1
      exact ⟨_, rfl, h⟩
theorem call_enumerate_tuple {prog : Program} {w : World} {A : Around} {E : Value → Shared → Prop} {s : Shared} {l : Addr} {items : Array Value} {Q : Value → Shared → Prop} (hL : s.heap.IsTuple l items)
    (h : ∀ h', IsEnum h' (s.heap.objs.size + 1) s.heap.objs.size 0 .none → h'.IsTupleIter s.heap.objs.size l 0 → h'.objs.size = s.heap.objs.size + 2 →
      (∀ b o, s.heap.get? b = some o → h'.get? b = some o) → Q (.ref (s.heap.objs.size + 1)) { s with heap := h' }) :
    wpAny (model prog w) A (call (.type "enumerate") [.ref l]) Q E s := by
  refine callType_new F.called_enumerate (by decide) (F.typeCall_enumerate_1 _) (F.newCall_enumerate_1 _) (fun obj => F.args_object_init_2 obj _) F.entry_enumerate_new
    (meets_enumerate_newT l items) ⟨hL, ?_⟩
  have hz : (s.heap.push { cls := .type "tuple_iterator", data := .fields #[.ref l, .int 0 0] }).objs.size = s.heap.objs.size + 1 := Heap.size_push ..
  show _ ∧ _
  rw [hz]
  have he : IsEnum ((s.heap.push { cls := .type "tuple_iterator", data := .fields #[.ref l, .int 0 0] }).push
      { cls := .type "enumerate", data := .fields #[.none, .bool false, .ref s.heap.objs.size, rawInt 0, .none, .none] }) (s.heap.objs.size + 1) s.heap.objs.size 0 .none := by
    have := Heap.get?_push_size (s.heap.push { cls := .type "tuple_iterator", data := .fields #[.ref l, .int 0 0] })
      (o := { cls := .type "enumerate", data := .fields #[.none, .bool false, .ref s.heap.objs.size, rawInt 0, .none, .none] }) rfl
    rw [hz] at this; exact this
  exact ⟨⟨_, he, rfl⟩, h _ he ⟨_, Heap.get?_push_of_some _ (Heap.get?_push_size _ rfl), rfl, rfl⟩ (by rw [Heap.size_push, hz]) fun b o x => Heap.get?_push_of_some _ (Heap.get?_push_of_some _ x)⟩
theorem pyNext_enumT_end {prog : Program} {w : World} {A : Around} {E : Value → Shared → Prop} {s : Shared} {e it l : Addr} {i : Nat} {items : Array Value} {old : Value} {Q : Option Value → Shared → Prop} (hh : A.handled = none)
    (he : IsEnum s.heap e it i old) (hit : s.heap.IsTupleIter it l i) (hl : s.heap.IsTuple l items) (hx : items[i]? = none)
    (hQ : ∀ h', Heap.ExtBut it s.heap h' → Q none { s with heap := h' }) : wpAny (model prog w) A (pyNext (.ref e)) Q E s := by
  have hT : s.TypeIs (.ref e) "enumerate" := ⟨_, he, rfl⟩
  unfold pyNext
  refine wpAny_bind (wpAny_attempt (wpAny_callSpecial?_slot (name := Str.ofString "__next__") hT F.slot_enumerate_next
    (wpAny_call_entry F.slot_enumerate_next hT F.entry_enumerate_next ?_ (F.args_enumerate_next_1 _))))
  show wpAny _ _ (field (.ref e) 2 >>= _) _ _ _
  refine wpAny_bind (wpAny_field he rfl (x := .ref it) rfl ?_)
  refine wpAny_bind (wpAny_nextOf_tuple_end hh hit hl hx fun h' x he' hx' => ?_)
  obtain ⟨o, ho, hc⟩ := hx'
  refine wpAny_bind (wpAny_isInstance (T := "StopIteration") (b := true) ⟨o, ho, hc⟩ isSubtype_stop ?_)
  exact wpAny_pure (hQ _ he')
def IteT (K : PySem.W.Frag) (a : Addr) : It :=
  ⟨fun i H => ∃ (xs : List V) (x : V), SqT K H a xs ∧ xs[i]? = some x, fun i H v H' => ∃ T x, v = .ref T ∧ H T = none ∧ H' = L2.upd H T (.tup [.int (i : Nat), x]) ∧ ∀ xs, SqT K H a xs → xs[i]? = some x, fun i H => ∃ xs : List V, SqT K H a xs ∧ xs.length ≤ i⟩
theorem turn_enumT {P : Program} {w : World} {K : PySem.W.Frag} {elts : List Expr} {kk : Nat} {tpos : Pos} (a e it : Addr) :
    Turn P w K (.Tuple elts kk tpos) (IteT K a) [e, it] e (fun i h => (∃ old, IsEnum h e it ((i : Nat) : Int) old) ∧ h.IsTupleIter it a i ∧ e ≠ it) where
  mem := by simp
  obj := fun i h st b hb => by
    obtain ⟨⟨old, he⟩, ⟨o, ho, hc, hd⟩, _⟩ := st
    have e' : b = e ∨ b = it := by simpa using hb
    rcases e' with z | z
    · rw [z]; exact ⟨_, he, fun v q => nomatch q⟩
    · rw [z]; exact ⟨o, ho, fun v q => by rw [hd] at q; cases q⟩
  keep := fun i h h' st k => let ⟨⟨old, he⟩, hi, hne⟩ := st; ⟨⟨old, k e (by simp) _ he⟩, hi.at fun o q => k it (by simp) o q, hne⟩
  item := by
    intro X hP hw hK hc i pins s σ H E I hf st hg
    subst hP hw hK
    obtain ⟨⟨old, he⟩, hit, hne⟩ := st
    obtain ⟨xs, x, hq, hx⟩ := hg
    obtain ⟨its, rv, p, hz⟩ := I.tuple hq
    obtain ⟨u, hu, ru⟩ := rv.get hx
    have p' : s.heap.IsTuple a its.toArray := p
    have hel : e < s.heap.objs.size := Heap.lt_size he
    have hil : it < s.heap.objs.size := by obtain ⟨_, q, _⟩ := hit; exact Heap.lt_size q
    have ait : a ≠ it := fun z => by
      subst z
      obtain ⟨o, q1, q2, _⟩ := p'
      obtain ⟨o', q3, q4, _⟩ := hit
      rw [q1] at q3; cases q3
      rw [q2] at q4
      injection q4 with z
      exact absurd z (by decide)
    have eait : e ≠ a := fun z => by
      subst z
      obtain ⟨o, q1, q2, _⟩ := p'
      have he' := he
      unfold IsEnum at he'
      rw [q1] at he'
      cases he'
      injection q2 with z
      exact absurd z (by decide)
    have hh : X.A.in1.handled = none := I.ok.hd hc
    have hsz : i < its.toArray.size := by
      have := (List.getElem?_eq_some_iff.mp hu).1
      simpa using this
    refine wpAny_pyNext_enum_itemD (Draws.tuple (prog := X.prog) (w := X.w) hh it a ait its.toArray) he ⟨hit, p'⟩ hsz hne (by simp [hne, eait]) fun u' h' tk hP ho st' hT hsz' hk => ?_
    obtain rfl : u = u' := by
      have h1 : its.toArray[i]? = some u := by simpa using hu
      have h2 : its.toArray[i]? = some u' := hP
      rw [h1] at h2; exact Option.some.inj h2
    obtain ⟨hit', _⟩ := st'
    refine ⟨_, rfl, wpAny_letOwnedTupleGo_enum (s := { s with heap := h', toks := tk + 1 }) ho fun h'' he' sb => ?_⟩
    have hT2 : h''.get? s.heap.objs.size = some { cls := .type "tuple", data := .seq #[.int i tk, u] } := (sb.2 _ (Nat.ne_of_gt hel)).trans hT
    have new : ObjOk X.prog X.w (L2.upd H s.heap.objs.size (.tup [.int (i : Nat), x])) h'' s.heap.objs.size (.tup [.int (i : Nat), x]) :=
      ⟨by show 2 ≤ sizeLine; decide, [.int i tk, u], .cons ⟨_, rfl⟩ (.cons ru .nil), ⟨_, hT2, rfl, _, rfl⟩⟩
    have I1 : Inv X pins σ (L2.upd H s.heap.objs.size (.tup [.int (i : Nat), x])) { s with heap := h'', toks := tk + 1 } :=
      I.turnedNew (ch := [e, it]) (fun b ob hb q => (sb.2 b (fun z => hb (by simp [z]))).trans (hk b ob (fun z => hb (by simp [z])) (fun z => hb (by simp [z])) q)) hf (Nat.le_refl _) new
    refine ⟨.ref s.heap.objs.size, _, I1, rfl, ⟨_, x, rfl, I.hok.fresh (Nat.le_refl _), rfl, fun ys hy => by rw [I.tuple_inj hy hq]; exact hx⟩, ⟨⟨u, ?_⟩, hit'.at fun o q => (sb.2 it (Ne.symm hne)).trans q, hne⟩, fun b hb => ?_⟩
    · have e1 : ((i + 1 : Nat) : Int) = (i : Int) + 1 := by omega
      rw [e1]; exact he'
    · have hb' : b < s.heap.objs.size := by
        have e' : b = e ∨ b = it := by simpa using hb
        rcases e' with z | z
        · rw [z]; exact hel
        · rw [z]; exact hil
      rw [upd_ne (Nat.ne_of_lt hb')]
      exact (hf b hb).1
  done := by
    intro X hP hw hK hc i pins s σ H E I hf st hg
    subst hP hw hK
    obtain ⟨⟨old, he⟩, hit, hne⟩ := st
    obtain ⟨xs, hq, hx⟩ := hg
    obtain ⟨its, rv, p, hz⟩ := I.tuple hq
    obtain ⟨f0, f1, f2, f3, f4, f5⟩ := hf it (by simp)
    have hl := rv.length
    have p' : s.heap.IsTuple a its.toArray := p
    have ait : a ≠ it := fun z => by
      subst z
      obtain ⟨o, q1, q2, _⟩ := p'
      obtain ⟨o', q3, q4, _⟩ := hit
      rw [q1] at q3; cases q3
      rw [q2] at q4
      injection q4 with z
      exact absurd z (by decide)
    exact pyNext_enumT_end (I.ok.hd hc) he hit p' (by simp; omega) fun h' eb => ⟨rfl, I.turned (t' := s.toks) (fun b o hb q => eb b o hb q) f0 f1 f3 f4 f5⟩
  self := fun A i s Q E st h => let ⟨⟨_, he⟩, _⟩ := st; wpAny_pyIter_enum he h
def iEnumA (K : PySem.W.Frag) (te : TE) : TI := fun σ H R => te σ H fun x H1 => ∃ a, x = .ref a ∧ (((∃ xs, SqL K H1 a xs) ∧ R (Ite K a) H1) ∨ ((∃ xs, SqT K H1 a xs) ∧ R (IteT K a) H1))
theorem pi_enumA {e : Expr} {te : TE} {p pos tpos : Pos} {elts : List Expr} {kk : Nat} (hg : Gl X "enumerate") (hm : X.mg "enumerate" = none) (he : PE X e te) (hs : starEach [e] X.env = (false, eval e X.env) :: starEach [] X.env) :
    PI X (.Tuple elts kk tpos) (.Call (.Name "enumerate" p) [e] [] pos) (iEnumA X.K te) := by
  refine ⟨fun pins s σ H R I h => ?_⟩
  refine Call_ (ld_blt I hg hm boot_enumerate (PyProof.Rows.callWith_type1 (PyProof.Rows.args_cons (thn (he.run pins s σ H _ I h) fun u s1 ⟨v, H1, I1, r1, q1⟩ => PyProof.Rows.args_nil ?_) hs) hs rfl))
  obtain ⟨a, ex, q⟩ := q1
  subst ex
  cases r1
  have fp : ∀ b ∈ [s1.heap.objs.size + 1, s1.heap.objs.size], FpOk X pins H1 b := fun b hb => by
    have e' : b = s1.heap.objs.size + 1 ∨ b = s1.heap.objs.size := by simpa using hb
    have hle : s1.heap.objs.size ≤ b := by
      rcases e' with z | z
      · rw [z]; exact Nat.le_add_right _ _
      · rw [z]; exact Nat.le_refl _
    exact I1.fpOk hle (I1.hok.fresh hle)
  rcases q with ⟨⟨xs, hq⟩, q⟩ | ⟨⟨xs, hq⟩, q⟩
  · obtain ⟨its, rv, p', hz⟩ := I1.list hq
    refine call_enumerate_list p'.isList fun h' he hit hsz hk => wpAny_pyIter_enum he ?_
    have I2 : Inv X pins σ H1 { s1 with heap := h' } := I1.kept (t' := s1.toks) hk
    exact ⟨s1.heap.objs.size + 1, [s1.heap.objs.size + 1, s1.heap.objs.size], _, _, H1, rfl, I2, turn_enum a (s1.heap.objs.size + 1) s1.heap.objs.size, ⟨⟨.none, he⟩, hit, Nat.succ_ne_self _⟩, fp, q⟩
  · obtain ⟨its, rv, p', hz⟩ := I1.tuple hq
    refine call_enumerate_tuple (show s1.heap.IsTuple a its.toArray from p') fun h' he hit hsz hk => wpAny_pyIter_enum he ?_
    have I2 : Inv X pins σ H1 { s1 with heap := h' } := I1.kept (t' := s1.toks) hk
    exact ⟨s1.heap.objs.size + 1, [s1.heap.objs.size + 1, s1.heap.objs.size], _, _, H1, rfl, I2, turn_enumT a (s1.heap.objs.size + 1) s1.heap.objs.size, ⟨⟨.none, he⟩, hit, Nat.succ_ne_self _⟩, fp, q⟩
end
end MP
set_option maxRecDepth 100000
set_option maxHeartbeats 1000000
/-! R2l: walks. -/
namespace MP
open PySem PySem.Spec PyProof.Rows L2
mutual
theorem sameU_eq : ∀ (a b : U), sameU a b = true → a = b
  | .non, b, h => by cases b <;> first | rfl | (simp [sameU] at h)
  | .bl x, b, h => by cases b <;> first | (simp [sameU] at h; done) | (simp only [sameU, beq_iff_eq] at h; rw [h])
  | .int x, b, h => by cases b <;> first | (simp [sameU] at h; done) | (simp only [sameU, beq_iff_eq] at h; rw [h])
  | .str x, b, h => by cases b <;> first | (simp [sameU] at h; done) | (simp only [sameU, beq_iff_eq] at h; rw [h])
  | .tup x, b, h => by cases b <;> first | (simp [sameU] at h; done) | (simp only [sameU] at h; rw [sameUs_eq _ _ h])
  | .lst x, b, h => by cases b <;> first | (simp [sameU] at h; done) | (simp only [sameU] at h; rw [sameUs_eq _ _ h])
  | .dic x y, b, h => by cases b <;> first | (simp [sameU] at h; done) | (simp only [sameU, Bool.and_eq_true] at h; rw [sameUs_eq _ _ h.1, sameUs_eq _ _ h.2])
  | .obj x y, b, h => by cases b <;> first | (simp [sameU] at h; done) | (simp only [sameU, Bool.and_eq_true, beq_iff_eq] at h; rw [h.1, sameUs_eq _ _ h.2])
  | .exc x y, b, h => by cases b <;> first | (simp [sameU] at h; done) | (simp only [sameU, Bool.and_eq_true, beq_iff_eq] at h; rw [h.1, sameUs_eq _ _ h.2])
  | .ref x, b, h => by cases b <;> first | (simp [sameU] at h; done) | (simp only [sameU, beq_iff_eq] at h; rw [h])
  | .fn x, b, h => by cases b <;> first | (simp [sameU] at h; done) | (simp only [sameU, beq_iff_eq] at h; rw [h])
  | .clo x y, b, h => by cases b <;> first | (simp [sameU] at h; done) | (simp only [sameU, Bool.and_eq_true, beq_iff_eq] at h; rw [h.1, sameUs_eq _ _ h.2])
  | .hole, b, h => by cases b <;> first | rfl | (simp [sameU] at h)
  | .scr x, b, h => by cases b <;> first | (simp [sameU] at h; done) | (simp only [sameU] at h; rw [sameUs_eq _ _ h])
theorem sameUs_eq : ∀ (a b : List U), sameUs a b = true → a = b
  | [], b, h => by cases b <;> first | rfl | (simp [sameUs] at h)
  | x :: xs, b, h => by
    cases b with
    | nil => simp [sameUs] at h
    | cons y ys =>
      simp only [sameUs, Bool.and_eq_true] at h
      rw [sameU_eq _ _ h.1, sameUs_eq _ _ h.2]
end
theorem still_get {s s' : Sta} : ∀ {avs : List AV}, avs.all (AV.ok s) = true → stillIs s s' avs = true → avs.all (AV.ok s') = true ∧ avs.map (AV.get s') = avs.map (AV.get s)
  | [], _, _ => ⟨rfl, rfl⟩
  | .own i :: r, ho, h => by
    simp only [List.all_cons, Bool.and_eq_true] at ho
    simp only [stillIs, Bool.and_eq_true] at h
    obtain ⟨h1, h2⟩ := still_get ho.2 h.2
    have e := sameU_eq _ _ h.1.2
    simp only [List.all_cons, List.map_cons, Bool.and_eq_true]
    exact ⟨⟨h.1.1, h1⟩, by rw [h2, e]⟩
  | .v u :: r, ho, h => by
    simp only [List.all_cons, Bool.and_eq_true] at ho
    cases u with
    | ref n =>
      simp only [stillIs, Bool.and_eq_true] at h
      obtain ⟨h1, h2⟩ := still_get ho.2 h.2
      have e := sameU_eq _ _ h.1
      simp only [List.all_cons, List.map_cons, Bool.and_eq_true]
      exact ⟨⟨rfl, h1⟩, by rw [h2]; show MP.cont s'.m (.ref n) :: _ = MP.cont s.m (.ref n) :: _; rw [e]⟩
    | _ =>
      simp only [stillIs] at h
      obtain ⟨h1, h2⟩ := still_get ho.2 h
      simp only [List.all_cons, List.map_cons, Bool.and_eq_true]
      exact ⟨⟨rfl, h1⟩, by rw [h2]; rfl⟩
theorem walk_get {k : Nat} {avs : List AV} {s : Sta} {xs : List U} (h : walkA k avs s = some xs) : avs.all (AV.ok s) = true ∧ walk k (avs.map (AV.get s)) = some xs := by
  unfold walkA at h
  split at h
  · exact ⟨by assumption, h⟩
  · cases h
section
variable {C : SC} {G : Nms} {g : Gst} {X : Cx} {sc : Scope} {Wx : WX} {σ : L2.St} {H : Hp} {pos : Pos} {tg : Expr}
/-- what a turn yields -/
def Yld (G : Nms) (W : Wd) (H H' : Hp) (u : U) (v : V) : Prop := (H' = H ∨ ∃ T o, H T = none ∧ H' = L2.upd H T o) ∧ RepV G W H' u v
def JOk (G : Nms) (J : It) (avs : List AV) (vs : List V) (us : List U) (xs : List U) : Prop := ∀ (i : Nat) (W : Wd) (s : Sta) (σ : L2.St) (H : Hp), RelFr G W s σ H → RAs G σ W s H avs vs → avs.all (AV.ok s) = true → avs.map (AV.get s) = us →
  (xs.length ≤ i → J.stop i H) ∧ ∀ u, xs[i]? = some u → J.go i H ∧ ∀ v H', J.yld i H v H' → Yld G W H H' u v
def tI (G : Nms) (Wx : WX) (g : Gst) (k : Nat) (its : List ME) : TI := fun σ H R => tArgs G Wx g its σ H fun vs H1 => ∃ W s avs xs, RelFr G W s σ H1 ∧ RAs G σ W s H1 avs vs ∧ walkA k avs s = some xs ∧ ∀ J, JOk G J avs vs (avs.map (AV.get s)) xs → R J H1
theorem PIi {iter : Expr} {wi wi' : TI} (h : PI X tg iter wi) (hi : ∀ σ H R, wi' σ H R → wi σ H R) : PI X tg iter wi' := ⟨fun pins s σ H R I q => h.run pins s σ H R I (hi σ H R q)⟩
theorem ras1 {W : Wd} {s : Sta} {avs : List AV} {x : V} (h : RAs G σ W s H avs [x]) : ∃ av, avs = [av] ∧ RA G σ W s H av x := paired1 h
theorem ras2 {W : Wd} {s : Sta} {avs : List AV} {x y : V} (h : RAs G σ W s H avs [x, y]) : ∃ av bv, avs = [av, bv] ∧ RA G σ W s H av x ∧ RA G σ W s H bv y := paired2 h
theorem crep1 {W : Wd} {s : Sta} {av : AV} {x : V} {u : U} (r : RelFr G W s σ H) (ra : RAs G σ W s H [av] [x]) (ho : [av].all (AV.ok s) = true) (e : [av].map (AV.get s) = [u]) : CRep G W H u x := by
  cases ra with | cons ra _ =>
  simp only [List.all_cons, List.all_nil, Bool.and_true] at ho
  simp only [List.map_cons, List.map_nil, List.cons.injEq, and_true] at e
  rw [← e]
  exact crep_of r ra ho
theorem j_lst {K : PySem.W.Frag} (hK : K = G.K) {av : AV} {p : Addr} {xs : List U} : JOk G (Itl K p) [av] [.ref p] [.lst xs] xs := fun i W s σ H r ra ho e => by
  subst hK
  have c := crep1 r ra ho e
  obtain ⟨q, vs, hq, h1, h2⟩ := c.lst
  cases hq
  have hl := RepVs.length h2
  refine ⟨fun hi => ⟨vs, SqL.of h1, by omega⟩, fun u hu => ?_⟩
  obtain ⟨v, h3, h4⟩ := RepVs.get h2 hu
  refine ⟨⟨vs, v, SqL.of h1, h3⟩, fun x H' hy => ?_⟩
  obtain ⟨rfl, hy⟩ := hy
  have := hy vs (SqL.of h1)
  rw [h3] at this
  cases this
  exact ⟨.inl rfl, h4⟩
theorem j_tup {K : PySem.W.Frag} (hK : K = G.K) {av : AV} {p : Addr} {xs : List U} : JOk G (Itt K p) [av] [.ref p] [.tup xs] xs := fun i W s σ H r ra ho e => by
  subst hK
  have c := crep1 r ra ho e
  obtain ⟨q, vs, hq, h1, h2⟩ := c.tup
  cases hq
  have hl := RepVs.length h2
  refine ⟨fun hi => ⟨vs, TX.sq h1, by omega⟩, fun u hu => ?_⟩
  obtain ⟨v, h3, h4⟩ := RepVs.get h2 hu
  refine ⟨⟨vs, v, TX.sq h1, h3⟩, fun x H' hy => ?_⟩
  obtain ⟨rfl, hy⟩ := hy
  have := hy vs (TX.sq h1)
  rw [h3] at this
  cases this
  exact ⟨.inl rfl, h4⟩
theorem enum_get {xs : List U} {i : Nat} {u : U} (h : (xs.mapIdx fun i x => U.prs [.int i, x])[i]? = some u) : ∃ x, xs[i]? = some x ∧ u = .prs [.int i, x] := by
  rw [List.getElem?_mapIdx] at h
  cases e : xs[i]? with
  | none => rw [e] at h; cases h
  | some x => rw [e] at h; cases h; exact ⟨x, rfl, rfl⟩
theorem rep_pair {W : Wd} {a b : U} {x y : V} {T : Addr} (hT : H T = none) (ha : RepV G W H a x) (hb : RepV G W H b y) : RepV G W (L2.upd H T (.tup [x, y])) (.prs [a, b]) (.ref T) := by
  have k : Kp W H (L2.upd H T (.tup [x, y])) := kp_upd hT
  simp only [RepV, RepVs]
  exact ⟨T, [x, y], rfl, upd_same, x, [y], rfl, RepV.mono (.refl W) k _ ha, y, [], rfl, RepV.mono (.refl W) k _ hb, rfl⟩
theorem j_enumL {K : PySem.W.Frag} (hK : K = G.K) {av : AV} {p : Addr} {xs : List U} : JOk G (Ite K p) [av] [.ref p] [.lst xs] (xs.mapIdx fun i x => .prs [.int i, x]) := fun i W s σ H r ra ho e => by
  subst hK
  have c := crep1 r ra ho e
  obtain ⟨q, vs, hq, h1, h2⟩ := c.lst
  cases hq
  have hl := RepVs.length h2
  rw [List.length_mapIdx]
  refine ⟨fun hi => ⟨vs, SqL.of h1, by omega⟩, fun u hu => ?_⟩
  obtain ⟨x, hx, rfl⟩ := enum_get hu
  obtain ⟨v, h3, h4⟩ := RepVs.get h2 hx
  refine ⟨⟨vs, v, SqL.of h1, h3⟩, fun w H' hy => ?_⟩
  obtain ⟨T, x', rfl, hT, rfl, hy⟩ := hy
  have := hy vs (SqL.of h1)
  rw [h3] at this
  cases this
  exact ⟨.inr ⟨T, _, hT, rfl⟩, rep_pair hT (by simp only [RepV]) h4⟩
theorem j_enumT {K : PySem.W.Frag} (hK : K = G.K) {av : AV} {p : Addr} {xs : List U} : JOk G (IteT K p) [av] [.ref p] [.tup xs] (xs.mapIdx fun i x => .prs [.int i, x]) := fun i W s σ H r ra ho e => by
  subst hK
  have c := crep1 r ra ho e
  obtain ⟨q, vs, hq, h1, h2⟩ := c.tup
  cases hq
  have hl := RepVs.length h2
  rw [List.length_mapIdx]
  refine ⟨fun hi => ⟨vs, TX.sq h1, by omega⟩, fun u hu => ?_⟩
  obtain ⟨x, hx, rfl⟩ := enum_get hu
  obtain ⟨v, h3, h4⟩ := RepVs.get h2 hx
  refine ⟨⟨vs, v, TX.sq h1, h3⟩, fun w H' hy => ?_⟩
  obtain ⟨T, x', rfl, hT, rfl, hy⟩ := hy
  have := hy vs (TX.sq h1)
  rw [h3] at this
  cases this
  exact ⟨.inr ⟨T, _, hT, rfl⟩, rep_pair hT (by simp only [RepV]) h4⟩
theorem zip_get {xs ys : List U} {i : Nat} {u : U} (h : (List.zipWith (fun a b => U.prs [a, b]) xs ys)[i]? = some u) : ∃ x y, xs[i]? = some x ∧ ys[i]? = some y ∧ u = .prs [x, y] := by
  rw [List.getElem?_zipWith] at h
  cases e : xs[i]? with
  | none => rw [e] at h; cases h
  | some x =>
    cases e2 : ys[i]? with
    | none => rw [e, e2] at h; cases h
    | some y => rw [e, e2] at h; cases h; exact ⟨x, y, rfl, rfl, rfl⟩
theorem crep2 {W : Wd} {s : Sta} {av bv : AV} {x y : V} {u w : U} (r : RelFr G W s σ H) (ra : RAs G σ W s H [av, bv] [x, y]) (ho : [av, bv].all (AV.ok s) = true) (e : [av, bv].map (AV.get s) = [u, w]) : CRep G W H u x ∧ CRep G W H w y := by
  obtain ⟨av', bv', e0, ra1, ra2⟩ := ras2 ra
  simp only [List.cons.injEq, and_true] at e0
  obtain ⟨rfl, rfl⟩ := e0
  simp only [List.all_cons, List.all_nil, Bool.and_true, Bool.and_eq_true] at ho
  simp only [List.map_cons, List.map_nil, List.cons.injEq, and_true] at e
  rw [← e.1, ← e.2]
  exact ⟨crep_of r ra1 ho.1, crep_of r ra2 ho.2⟩
theorem j_zipT {K : PySem.W.Frag} (hK : K = G.K) {av bv : AV} {p p2 : Addr} {xs ys : List U} : JOk G (RZ.ItzT K p p2) [av, bv] [.ref p, .ref p2] [.tup xs, .tup ys] (List.zipWith (fun a b => .prs [a, b]) xs ys) := fun i W s σ H r ra ho e => by
  subst hK
  obtain ⟨c1, c2⟩ := crep2 r ra ho e
  obtain ⟨q, vs, hq, h1, h2⟩ := c1.tup
  cases hq
  obtain ⟨q, ws, hq, h3, h4⟩ := c2.tup
  cases hq
  have hl := RepVs.length h2
  have hl2 := RepVs.length h4
  rw [List.length_zipWith]
  refine ⟨fun hi => ⟨vs, ws, TX.sq h1, TX.sq h3, by omega⟩, fun u hu => ?_⟩
  obtain ⟨x, y, hx, hy, rfl⟩ := zip_get hu
  obtain ⟨v, h5, h6⟩ := RepVs.get h2 hx
  obtain ⟨w, h7, h8⟩ := RepVs.get h4 hy
  refine ⟨⟨vs, ws, v, w, TX.sq h1, TX.sq h3, h5, h7⟩, fun z H' hz => ?_⟩
  obtain ⟨T, x', y', rfl, hT, rfl, g1, g2⟩ := hz
  have g1 := g1 vs (TX.sq h1)
  have g2 := g2 ws (TX.sq h3)
  rw [h5] at g1
  rw [h7] at g2
  cases g1
  cases g2
  exact ⟨.inr ⟨T, _, hT, rfl⟩, rep_pair hT h6 h8⟩
theorem j_zipL {K : PySem.W.Frag} (hK : K = G.K) {av bv : AV} {p p2 : Addr} {xs ys : List U} : JOk G (Itz K p p2) [av, bv] [.ref p, .ref p2] [.lst xs, .lst ys] (List.zipWith (fun a b => .prs [a, b]) xs ys) := fun i W s σ H r ra ho e => by
  subst hK
  obtain ⟨c1, c2⟩ := crep2 r ra ho e
  obtain ⟨q, vs, hq, h1, h2⟩ := c1.lst
  cases hq
  obtain ⟨q, ws, hq, h3, h4⟩ := c2.lst
  cases hq
  have hl := RepVs.length h2
  have hl2 := RepVs.length h4
  rw [List.length_zipWith]
  refine ⟨fun hi => ⟨vs, ws, SqL.of h1, SqL.of h3, by omega⟩, fun u hu => ?_⟩
  obtain ⟨x, y, hx, hy, rfl⟩ := zip_get hu
  obtain ⟨v, h5, h6⟩ := RepVs.get h2 hx
  obtain ⟨w, h7, h8⟩ := RepVs.get h4 hy
  refine ⟨⟨vs, ws, v, w, SqL.of h1, SqL.of h3, h5, h7⟩, fun z H' hz => ?_⟩
  obtain ⟨T, x', y', rfl, hT, rfl, g1, g2⟩ := hz
  have g1 := g1 vs (SqL.of h1)
  have g2 := g2 ws (SqL.of h3)
  rw [h5] at g1
  rw [h7] at g2
  cases g1
  cases g2
  exact ⟨.inr ⟨T, _, hT, rfl⟩, rep_pair hT h6 h8⟩
theorem rng_get {a b : Int} {i : Nat} {u : U} (h : (rng a b)[i]? = some u) : i < (b - a).toNat ∧ u = .int (a + i) := by
  unfold rng at h
  rw [List.getElem?_map] at h
  by_cases hi : i < (b - a).toNat
  · rw [List.getElem?_range hi] at h
    cases h
    exact ⟨hi, rfl⟩
  · rw [List.getElem?_eq_none (by simpa using hi)] at h; cases h
theorem j_rng {avs : List AV} {vs : List V} {us : List U} {a b : Int} : JOk G (Itr a (b - a).toNat) avs vs us (rng a b) := fun i W s σ H r ra ho e => by
  have hl : (rng a b).length = (b - a).toNat := by unfold rng; rw [List.length_map, List.length_range]
  rw [hl]
  refine ⟨fun h => h, fun u hu => ?_⟩
  obtain ⟨h1, rfl⟩ := rng_get hu
  refine ⟨h1, fun v H' hy => ?_⟩
  obtain ⟨rfl, rfl⟩ := hy
  exact ⟨.inl rfl, by simp only [RepV]⟩

/-! the walks in the text -/
def notSet : Expr → Bool
  | .Set _ _ _ => false
  | _ => true
def itArgs (sc : Scope) (k : Nat) (tg : Expr) (e : Expr) : Option (List Expr) :=
  match k with
  | 0 => if notSet e then some [e] else none
  | 1 => match e with
    | .Call (.Name x _) [a] [] _ => if isB sc x "range" && notStar a then some [a] else none
    | _ => none
  | 2 => match e with
    | .Call (.Name x _) [a, b] [] _ => if isB sc x "range" && notStar a && notStar b then some [a, b] else none
    | _ => none
  | 3 => match e, tg with
    | .Call (.Name x _) [a] [] _, .Tuple _ _ _ => if isB sc x "enumerate" && notStar a then some [a] else none
    | _, _ => none
  | 4 => match e, tg with
    | .Call (.Name x _) [a, b] [] _, .Tuple _ _ _ => if isB sc x "zip" && notStar a && notStar b then some [a, b] else none
    | _, _ => none
  | _ => none
theorem walk0 {us xs : List U} (h : walk 0 us = some xs) : us = [.tup xs] ∨ us = [.lst xs] := by
  unfold walk at h
  split at h
  · cases h; exact .inl rfl
  · cases h; exact .inr rfl
  all_goals first | contradiction | (exfalso; omega) | skip
end
end MP
set_option maxRecDepth 100000
set_option maxHeartbeats 1000000
/-! R2m: walks in the text; targets. -/
namespace MP
open PySem PySem.Spec PyProof.Rows L2
section
variable {C : SC} {G : Nms} {g : Gst} {X : Cx} {sc : Scope} {Wx : WX} {σ : L2.St} {H : Hp} {pos : Pos} {tg : Expr}
theorem walk1 {us xs : List U} (h : walk 1 us = some xs) : ∃ n, us = [.int n] ∧ small n = true ∧ xs = rng 0 n := by
  unfold walk at h
  split at h <;> first | contradiction | skip
  rename_i n _
  split at h
  · cases h; exact ⟨_, rfl, by assumption, rfl⟩
  · cases h
theorem walk2 {us xs : List U} (h : walk 2 us = some xs) : ∃ a b, us = [.int a, .int b] ∧ small a = true ∧ small b = true ∧ xs = rng a b := by
  unfold walk at h
  split at h <;> first | contradiction | skip
  split at h
  · rename_i hh
    simp only [Bool.and_eq_true] at hh
    cases h; exact ⟨_, _, rfl, hh.1, hh.2, rfl⟩
  · cases h
theorem walk3 {us xs : List U} (h : walk 3 us = some xs) : (∃ ys, us = [.tup ys] ∧ xs = ys.mapIdx fun i x => .prs [.int i, x]) ∨ (∃ ys, us = [.lst ys] ∧ xs = ys.mapIdx fun i x => .prs [.int i, x]) := by
  unfold walk at h
  split at h <;> first | contradiction | skip
  · cases h; exact .inl ⟨_, rfl, rfl⟩
  · cases h; exact .inr ⟨_, rfl, rfl⟩
theorem boot_range' : bootBuiltins "range" = some (.type "range") := by decide +kernel
theorem walk4 {us xs : List U} (h : walk 4 us = some xs) : (∃ as bs, us = [.tup as, .tup bs] ∧ xs = List.zipWith (fun a b => .prs [a, b]) as bs) ∨ (∃ as bs, us = [.lst as, .lst bs] ∧ xs = List.zipWith (fun a b => .prs [a, b]) as bs) := by
  unfold walk at h
  split at h <;> first | (exfalso; omega) | skip
  · cases h; exact .inl ⟨_, _, rfl, rfl⟩
  · cases h; exact .inr ⟨_, _, rfl, rfl⟩
  all_goals first | contradiction | cases h
theorem pi_walk (D : Good C G g X sc) {k : Nat} {its : List ME} {iter : Expr} {es : List Expr} (h : itArgs sc k tg iter = some es) (ha : Paired (PX G Wx g X) its es) : PI X tg iter (tI G Wx g k its) ∧ ∀ x, foldedSetIterable iter X.env x = pure x := by
  have O := D.of
  unfold itArgs at h
  split at h
  · split at h
    · rename_i hs
      cases h
      obtain ⟨m, rfl, a1⟩ := paired1 ha
      refine ⟨PIi (pi_seq a1) fun σ H R q => tR_mono (one_arg' q) fun x H1 ⟨W, s, avs, xs, r, ra, hw, j⟩ => ?_, fun x => by cases iter <;> first | rfl | cases hs⟩
      obtain ⟨av, rfl, ra1⟩ := ras1 ra
      obtain ⟨ho, hw⟩ := walk_get hw
      simp only [List.all_cons, List.all_nil, Bool.and_true] at ho
      have c := crep_of r ra1 ho
      rcases walk0 hw with e | e <;> simp only [List.map_cons, List.map_nil, List.cons.injEq, and_true] at e
      · rw [e] at c
        obtain ⟨p, vs, rfl, h1, h2⟩ := c.tup
        refine ⟨p, rfl, .inr ⟨⟨vs, TX.sq h1⟩, j _ ?_⟩⟩
        simp only [List.map_cons, List.map_nil, e]
        exact j_tup O.K
      · rw [e] at c
        obtain ⟨p, vs, rfl, h1, h2⟩ := c.lst
        refine ⟨p, rfl, .inl ⟨⟨vs, SqL.of h1⟩, j _ ?_⟩⟩
        simp only [List.map_cons, List.map_nil, e]
        exact j_lst O.K
    · cases h
  · split at h
    · split at h
      · rename_i hh
        simp only [Bool.and_eq_true] at hh
        cases h
        obtain ⟨m, rfl, a1⟩ := paired1 ha
        obtain ⟨rfl, g1, g2, _⟩ := isB_is D (by decide) hh.1
        have pa : PA X _ (tArgs G Wx g [m]) := pa_of (.cons a1 .nil) (by simp [hh.2])
        refine ⟨PIi (pi_range1 g1 g2 pa (star1 hh.2)) fun σ H R q => tR_mono q fun xv H1 ⟨W, s, avs, xs, r, ra, hw, j⟩ => ?_, fun x => rfl⟩
        obtain ⟨ho, hw⟩ := walk_get hw
        obtain ⟨n, e, hn, rfl⟩ := walk1 hw
        have hl : xv.length = 1 := by
          have h1 := Paired.length ra
          have h2 := congrArg List.length e
          simp at h2
          omega
        match xv, hl with
        | [x], _ =>
        obtain ⟨av, rfl, ra1⟩ := ras1 ra
        have c := crep1 r ra ho e
        obtain ⟨s1, s2⟩ := small_of hn
        refine ⟨n, by rw [c.int], s1, s2, ?_⟩
        have := j (Itr 0 (n - 0).toNat) j_rng
        rwa [Int.sub_zero] at this
      · cases h
    · cases h
  · split at h
    · split at h
      · rename_i hh
        simp only [Bool.and_eq_true] at hh
        cases h
        obtain ⟨m, m2, rfl, a1, a2⟩ := paired2 ha
        obtain ⟨rfl, g1, g2, _⟩ := isB_is D (by decide) hh.1.1
        have pa : PA X _ (tArgs G Wx g [m, m2]) := pa_of (.cons a1 (.cons a2 .nil)) (by simp [hh.2, hh.1.2])
        refine ⟨PIi (pi_range2 g1 g2 pa (by rw [star1 hh.1.2, star1 hh.2]; rfl) (star1 hh.2)) fun σ H R q => tR_mono q fun xv H1 ⟨W, s, avs, xs, r, ra, hw, j⟩ => ?_, fun x => rfl⟩
        obtain ⟨ho, hw⟩ := walk_get hw
        obtain ⟨a, b, e, hna, hnb, rfl⟩ := walk2 hw
        have hl : xv.length = 2 := by
          have h1 := Paired.length ra
          have h2 := congrArg List.length e
          simp at h2
          omega
        match xv, hl with
        | [x, y], _ =>
        obtain ⟨av, bv, rfl, ra1, ra2⟩ := ras2 ra
        simp only [List.all_cons, List.all_nil, Bool.and_true, Bool.and_eq_true] at ho
        simp only [List.map_cons, List.map_nil, List.cons.injEq, and_true] at e
        have c1 := crep_of r ra1 ho.1
        have c2 := crep_of r ra2 ho.2
        rw [e.1] at c1
        rw [e.2] at c2
        obtain ⟨s1, s2⟩ := small_of hna
        obtain ⟨s3, s4⟩ := small_of hnb
        exact ⟨a, b, by rw [c1.int, c2.int], ⟨s1, s2, s3, s4⟩, j _ j_rng⟩
      · cases h
    · cases h
  · split at h
    · split at h
      · rename_i hh
        simp only [Bool.and_eq_true] at hh
        cases h
        obtain ⟨m, rfl, a1⟩ := paired1 ha
        obtain ⟨rfl, g1, g2, _⟩ := isB_is D (by decide) hh.1
        refine ⟨PIi (pi_enumA g1 g2 a1 (star1 hh.2)) fun σ H R q => tR_mono (one_arg' q) fun x H1 ⟨W, s, avs, xs, r, ra, hw, j⟩ => ?_, fun x => rfl⟩
        obtain ⟨av, rfl, ra1⟩ := ras1 ra
        obtain ⟨ho, hw⟩ := walk_get hw
        simp only [List.all_cons, List.all_nil, Bool.and_true] at ho
        have c := crep_of r ra1 ho
        rcases walk3 hw with ⟨ys, e, rfl⟩ | ⟨ys, e, rfl⟩ <;> simp only [List.map_cons, List.map_nil, List.cons.injEq, and_true] at e
        · rw [e] at c
          obtain ⟨p, vs, rfl, h1, h2⟩ := c.tup
          refine ⟨p, rfl, .inr ⟨⟨vs, TX.sq h1⟩, j _ ?_⟩⟩
          simp only [List.map_cons, List.map_nil, e]
          exact j_enumT O.K
        · rw [e] at c
          obtain ⟨p, vs, rfl, h1, h2⟩ := c.lst
          refine ⟨p, rfl, .inl ⟨⟨vs, SqL.of h1⟩, j _ ?_⟩⟩
          simp only [List.map_cons, List.map_nil, e]
          exact j_enumL O.K
      · cases h
    · cases h
  · split at h
    · split at h
      · rename_i hh
        simp only [Bool.and_eq_true] at hh
        cases h
        obtain ⟨m, m2, rfl, a1, a2⟩ := paired2 ha
        obtain ⟨rfl, g1, g2, _⟩ := isB_is D (by decide) hh.1.1
        have pa : PA X _ (tArgs G Wx g [m, m2]) := pa_of (.cons a1 (.cons a2 .nil)) (by simp [hh.2, hh.1.2])
        refine ⟨PIi (RZ.pi_zipA g1 g2 pa (star1 hh.1.2) (by rw [star1 hh.2]; rfl)) fun σ H R q => tR_mono q fun xv H1 ⟨W, s, avs, xs, r, ra, hw, j⟩ => ?_, fun x => rfl⟩
        obtain ⟨ho, hw⟩ := walk_get hw
        have hl : xv.length = 2 := by
          have h1 := Paired.length ra
          rcases walk4 hw with ⟨us, ws, e, _⟩ | ⟨us, ws, e, _⟩ <;>
          · have h2 := congrArg List.length e
            simp at h2
            omega
        match xv, hl with
        | [x, y], _ =>
        obtain ⟨av, bv, rfl, ra1, ra2⟩ := ras2 ra
        have ho' := ho
        simp only [List.all_cons, List.all_nil, Bool.and_true, Bool.and_eq_true] at ho
        have c1 := crep_of r ra1 ho.1
        have c2 := crep_of r ra2 ho.2
        rcases walk4 hw with ⟨us, ws, e, rfl⟩ | ⟨us, ws, e, rfl⟩ <;> simp only [List.map_cons, List.map_nil, List.cons.injEq, and_true] at e
        · rw [e.1] at c1
          rw [e.2] at c2
          obtain ⟨p, vs, rfl, h1, h2⟩ := c1.tup
          obtain ⟨p2, vs2, rfl, h3, h4⟩ := c2.tup
          refine ⟨p, p2, vs, vs2, rfl, .inr ⟨TX.sq h1, TX.sq h3, j _ ?_⟩⟩
          simp only [List.map_cons, List.map_nil, e.1, e.2]
          exact j_zipT O.K
        · rw [e.1] at c1
          rw [e.2] at c2
          obtain ⟨p, vs, rfl, h1, h2⟩ := c1.lst
          obtain ⟨p2, vs2, rfl, h3, h4⟩ := c2.lst
          refine ⟨p, p2, vs, vs2, rfl, .inl ⟨SqL.of h1, SqL.of h3, j _ ?_⟩⟩
          simp only [List.map_cons, List.map_nil, e.1, e.2]
          exact j_zipL O.K
      · cases h
    · cases h
  · cases h
end
end MP
set_option maxRecDepth 100000
set_option maxHeartbeats 1000000
/-! R2n: targets. -/
namespace MP
open PySem PySem.Spec PyProof.Rows L2
mutual
def chkT (N : List Str) (lo : Str → Bool) : Tg → Expr → Bool
  | .one i, .Name x _ => decide (N[i]? = some x) && lo x
  | .tup ts, .Tuple es _ _ => chkTs N lo ts es
  | _, _ => false
def chkTs (N : List Str) (lo : Str → Bool) : List Tg → List Expr → Bool
  | [], [] => true
  | t :: ts, e :: es => chkT N lo t e && chkTs N lo ts es
  | _, _ => false
end
mutual
/-- the slots that a target fills -/
def asgT : Tg → List Nat
  | .one i => [i]
  | .tup ts => asgTs ts
def asgTs : List Tg → List Nat
  | [] => []
  | t :: ts => asgT t ++ asgTs ts
end
mutual
def gT (K : PySem.W.Frag) : Tg → TG
  | .one i => gName i
  | .tup ts => gTup K ts.length (gTs K ts)
def gTs (K : PySem.W.Frag) : List Tg → TGs
  | [] => gNil
  | t :: ts => gCons (gT K t) (gTs K ts)
end
section
variable {X : Cx} {lo : Str → Bool}
theorem chkTs_len {N : List Str} : ∀ {ts : List Tg} {es : List Expr}, chkTs N lo ts es = true → ts.length = es.length
  | [], [], _ => rfl
  | t :: ts, e :: es, h => by
    simp only [chkTs, Bool.and_eq_true] at h
    rw [List.length_cons, List.length_cons, chkTs_len h.2]
  | [], _ :: _, h => by simp [chkTs] at h
  | _ :: _, [], h => by simp [chkTs] at h
theorem each_cons {N : List Str} {t : Tg} {e : Expr} {es : List Expr} (h : chkT N lo t e = true) : assignEach (e :: es) X.env = (false, assign e X.env) :: assignEach es X.env := by
  cases t <;> cases e <;> first | rfl | (simp [chkT] at h; done)
theorem each_len {N : List Str} : ∀ {ts : List Tg} {es : List Expr}, chkTs N lo ts es = true → (assignEach es X.env).length = ts.length ∧ (assignEach es X.env).findIdx? (·.1) = none
  | [], [], _ => ⟨rfl, rfl⟩
  | t :: ts, e :: es, h => by
    simp only [chkTs, Bool.and_eq_true] at h
    obtain ⟨h1, h2⟩ := each_len h.2
    rw [each_cons h.1]
    refine ⟨by rw [List.length_cons, List.length_cons, h1], ?_⟩
    rw [List.findIdx?_cons, h2]
    rfl
  | [], _ :: _, h => by simp [chkTs] at h
  | _ :: _, [], h => by simp [chkTs] at h
variable (hc : X.calm = true) (nd : X.N.Nodup) (hlo : ∀ x, lo x = true → Loc X.env.scope x ∧ (X.fn x = true ∨ X.env.scope.names.lookup x = some .local))
include hc nd hlo
mutual
theorem pg_T : ∀ (t : Tg) (e : Expr), chkT X.N lo t e = true → PG X e (gT X.K t)
  | .one i, e, h => by
    cases e <;> first | (simp [chkT] at h; done) | skip
    simp only [chkT, Bool.and_eq_true, decide_eq_true_eq] at h
    obtain ⟨h1, h2⟩ := hlo _ h.2
    exact pg_name nd h.1 h1 h2
  | .tup ts, e, h => by
    cases e <;> first | (simp [chkT] at h; done) | skip
    rename_i es k p
    simp only [chkT] at h
    obtain ⟨h1, h2⟩ := each_len (X := X) h
    exact pg_tup hc (pgs_T ts es h) h1 h2
theorem pgs_T : ∀ (ts : List Tg) (es : List Expr), chkTs X.N lo ts es = true → PGs X es (gTs X.K ts)
  | [], [], _ => pgs_nil
  | t :: ts, e :: es, h => by
    simp only [chkTs, Bool.and_eq_true] at h
    exact pgs_cons (pg_T t e h.1) (pgs_T ts es h.2) (by rw [each_cons h.1]; rfl)
  | [], _ :: _, h => by simp [chkTs] at h
  | _ :: _, [], h => by simp [chkTs] at h
end
end
section
variable {G : Nms} {W : Wd} {s : Sta} {σ : L2.St} {H : Hp}
theorem RelFr.set (r : RelFr G W s σ H) (i : Nat) {u : U} {v : V} (hv : RepV G W H u v) : RelFr G W (s.put i (.val u)) (σ.set i (some v)) H := by
  by_cases hi : i < s.r.length
  · have hi' : i < σ.length := by rw [← r.len]; exact hi
    refine ⟨?_, fun j x hj => ?_, fun j k u1 u2 a jk h1 h2 a1 a2 => ?_, r.m⟩
    · show (s.r.set i _).length = _
      rw [List.length_set, List.length_set]; exact r.len
    · rw [slot_put _ _ _ _ hi] at hj
      rw [List.getElem?_set]
      split at hj
      · rename_i e; subst e
        cases hj
        rw [if_pos rfl, if_pos hi']
        exact ⟨_, rfl, v, rfl, hv⟩
      · rename_i e
        rw [if_neg e]
        exact r.slt j x hj
    · rw [slot_put _ _ _ _ hi] at h1 h2
      rw [List.getElem?_set] at a1 a2
      split at h1
      · cases h1
      · split at h2
        · cases h2
        · rename_i e1 e2
          rw [if_neg e1] at a1
          rw [if_neg e2] at a2
          exact r.apart j k u1 u2 a jk h1 h2 a1 a2
  · have e1 : s.put i (.val u) = s := by
      unfold Sta.put
      rw [List.set_eq_of_length_le (by omega)]
    rw [e1, List.set_eq_of_length_le (by rw [← r.len]; omega)]
    exact r
theorem ownd_set (r : RelFr G W s σ H) {i : Nat} {u : U} {v : V} {a : Addr} (h : Ownd (s.put i (.val u)) (σ.set i (some v)) a) : Ownd s σ a := by
  obtain ⟨j, w, h1, h2⟩ := h
  by_cases hi : i < s.r.length
  · rw [slot_put _ _ _ _ hi] at h1
    split at h1
    · cases h1
    · rename_i e
      rw [List.getElem?_set_ne e] at h2
      exact ⟨j, w, h1, h2⟩
  · have e1 : s.put i (.val u) = s := by
      unfold Sta.put
      rw [List.set_eq_of_length_le (by omega)]
    rw [e1] at h1
    rw [List.set_eq_of_length_le (by rw [← r.len]; omega)] at h2
    exact ⟨j, w, h1, h2⟩
mutual
theorem gT_ok (K : PySem.W.Frag) (hK : K = G.K) : ∀ (t : Tg) (u : U) (s s' : Sta) (v : V) (σ : L2.St) (Q : L2.St → Hp → Prop), bindT t u s = some s' → RelFr G W s σ H → RepV G W H u v →
    (∀ σ', RelFr G W s' σ' H → (∀ j, j ∉ asgT t → σ'[j]? = σ[j]?) → σ'.length = σ.length → s'.m = s.m ∧ (∀ a, Ownd s' σ' a → Ownd s σ a) → Q σ' H) → gT K t v σ H Q
  | .one i, u, s, s', v, σ, Q, e, r, rv, q => by
    simp only [bindT] at e
    cases e
    simp only [gT]
    refine q _ (r.set i rv) (fun j hj => ?_) (List.length_set ..) ⟨rfl, fun a ha => ownd_set r ha⟩
    simp only [asgT, List.mem_singleton] at hj
    rw [List.getElem?_set_ne (fun z => hj z.symm)]
  | .tup ts, u, s, s', v, σ, Q, e, r, rv, q => by
    cases u with
    | tup us =>
      simp only [bindT] at e
      simp only [RepV] at rv
      obtain ⟨a, vs, rfl, h1, h2⟩ := rv
      simp only [gT]
      refine ⟨a, vs, rfl, by rw [hK]; exact TX.sq h1, ?_, gTs_ok K hK ts us s s' vs σ Q e r h2 fun σ' h3 h4 h5 h6 => q σ' h3 (by simpa only [asgT] using h4) h5 h6⟩
      rw [← RepVs.length h2]
      exact bindTs_len e
    | prs us =>
      simp only [bindT] at e
      simp only [RepV] at rv
      obtain ⟨a, vs, rfl, h1, h2⟩ := rv
      simp only [gT]
      refine ⟨a, vs, rfl, by rw [hK]; exact SqT.of h1, ?_, gTs_ok K hK ts us s s' vs σ Q e r h2 fun σ' h3 h4 h5 h6 => q σ' h3 (by simpa only [asgT] using h4) h5 h6⟩
      rw [← RepVs.length h2]
      exact bindTs_len e
    | _ => simp [bindT] at e
theorem gTs_ok (K : PySem.W.Frag) (hK : K = G.K) : ∀ (ts : List Tg) (us : List U) (s s' : Sta) (vs : List V) (σ : L2.St) (Q : L2.St → Hp → Prop), bindTs ts us s = some s' → RelFr G W s σ H → RepVs G W H us vs →
    (∀ σ', RelFr G W s' σ' H → (∀ j, j ∉ asgTs ts → σ'[j]? = σ[j]?) → σ'.length = σ.length → s'.m = s.m ∧ (∀ a, Ownd s' σ' a → Ownd s σ a) → Q σ' H) → gTs K ts vs σ H Q
  | [], [], s, s', vs, σ, Q, e, r, rv, q => by
    simp only [bindTs] at e
    cases e
    obtain rfl := rv.nil_of
    simp only [gTs]
    exact ⟨rfl, q σ r (fun _ _ => rfl) rfl ⟨rfl, fun _ h => h⟩⟩
  | t :: ts, u :: us, s, s', vs, σ, Q, e, r, rv, q => by
    simp only [bindTs] at e
    simp only [RepVs] at rv
    obtain ⟨v, vr, rfl, h1, h2⟩ := rv
    cases e1 : bindT t u s with
    | none => rw [e1] at e; cases e
    | some s1 =>
      rw [e1] at e
      simp only [gTs]
      refine ⟨v, vr, rfl, gT_ok K hK t u s s1 v σ _ e1 r h1 fun σ1 r1 k1 l1 m1 => gTs_ok K hK ts us s1 s' vr σ1 Q e r1 h2 fun σ2 r2 k2 l2 m2 => q σ2 r2 (fun j hj => ?_) (l2.trans l1) ⟨m2.1.trans m1.1, fun a ha => m1.2 a (m2.2 a ha)⟩⟩
      simp only [asgTs, List.mem_append, not_or] at hj
      exact (k2 j hj.2).trans (k1 j hj.1)
  | [], _ :: _, _, _, _, _, _, e, _, _, _ => by simp [bindTs] at e
  | _ :: _, [], _, _, _, _, _, e, _, _, _ => by simp [bindTs] at e
theorem bindTs_len : ∀ {ts : List Tg} {us : List U} {s s' : Sta}, bindTs ts us s = some s' → us.length = ts.length
  | [], [], _, _, _ => rfl
  | t :: ts, u :: us, s, s', e => by
    simp only [bindTs] at e
    cases e1 : bindT t u s with
    | none => rw [e1] at e; cases e
    | some s1 =>
      rw [e1] at e
      rw [List.length_cons, List.length_cons, bindTs_len e]
  | [], _ :: _, _, _, e => by simp [bindTs] at e
  | _ :: _, [], _, _, e => by simp [bindTs] at e
end
end
end MP
set_option maxRecDepth 100000
set_option maxHeartbeats 2000000
/-! R2o: comprehensions. -/
namespace MP
open PySem PySem.Spec PyProof.Rows L2
section
variable {G : Nms} {g : Gst} {W W1 : Wd} {s s1 : Sta} {σ σ2 : L2.St} {H H1 : Hp}
theorem wipeS_m (s : Sta) : ∀ own : List Nat, (wipeS s own).m = s.m
  | [] => rfl
  | i :: is => by show (wipeS s is).m = s.m; exact wipeS_m s is
theorem wipeS_len (s : Sta) : ∀ own : List Nat, (wipeS s own).r.length = s.r.length
  | [] => rfl
  | i :: is => by
    show ((wipeS s is).r.set i .no).length = _
    rw [List.length_set]; exact wipeS_len s is
theorem wipeS_out (s : Sta) {j : Nat} : ∀ {own : List Nat}, j ∉ own → (wipeS s own).r[j]? = s.r[j]?
  | [], _ => rfl
  | i :: is, h => by
    simp only [List.mem_cons, not_or] at h
    show ((wipeS s is).r.set i .no)[j]? = _
    rw [List.getElem?_set_ne (fun z => h.1 z.symm)]
    exact wipeS_out s h.2
theorem wipeS_in (s : Sta) {j : Nat} : ∀ {own : List Nat}, j ∈ own → ∀ x, (wipeS s own).r[j]? = some x → x = .no
  | [], h, _, _ => by simp at h
  | i :: is, h, x, e => by
    have e : ((wipeS s is).r.set i .no)[j]? = some x := e
    by_cases hij : i = j
    · subst hij
      rw [List.getElem?_set] at e
      simp only [if_true] at e
      split at e
      · cases e; rfl
      · cases e
    · rw [List.getElem?_set_ne hij] at e
      rcases List.mem_cons.mp h with z | z
      · exact absurd z.symm hij
      · exact wipeS_in s z x e
theorem wipe_in {σ : L2.St} {j : Nat} : ∀ {vs : List Nat}, j ∈ vs → j < σ.length → (L2.wipe σ vs)[j]? = some none
  | [], h, _ => by simp at h
  | i :: is, h, hl => by
    show ((L2.wipe σ is).set i none)[j]? = some none
    have hl2 : j < (L2.wipe σ is).length := by rw [wipe_length]; exact hl
    by_cases hij : i = j
    · subst hij
      rw [List.getElem?_set]
      simp [hl2]
    · rw [List.getElem?_set_ne hij]
      rcases List.mem_cons.mp h with z | z
      · exact absurd z.symm hij
      · exact wipe_in z hl
theorem wipe_agree {vs : List Nat} (hl : σ2.length = (L2.wipe σ vs).length) (h : ∀ j, j ∉ vs → σ2[j]? = (L2.wipe σ vs)[j]?) : L2.wipe σ2 vs = L2.wipe σ vs := by
  apply List.ext_getElem?
  intro j
  rw [wipe_length] at hl
  by_cases hj : j ∈ vs
  · by_cases hlt : j < σ.length
    · rw [wipe_in hj hlt, wipe_in hj (by omega)]
    · rw [List.getElem?_eq_none (by rw [wipe_length]; omega), List.getElem?_eq_none (by rw [wipe_length]; omega)]
  · rw [wipe_out hj, h j hj]
theorem RelFr.wipe (r : RelFr G W s σ H) (vs : List Nat) : RelFr G W (wipeS s vs) (L2.wipe σ vs) H := by
  refine ⟨by rw [wipeS_len, wipe_length]; exact r.len, fun j x hx => ?_, fun i j u u' a ij h1 h2 a1 a2 => ?_, by rw [wipeS_m]; exact r.m⟩
  · by_cases hj : j ∈ vs
    · obtain rfl := wipeS_in s hj x hx
      have hlt := (List.getElem?_eq_some_iff.mp hx).1
      rw [wipeS_len, r.len] at hlt
      exact ⟨none, wipe_in hj hlt, trivial⟩
    · rw [wipeS_out s hj] at hx
      rw [wipe_out hj]
      exact r.slt j x hx
  · have k : ∀ m um, (wipeS s vs).r[m]? = some (Slt.own um) → m ∉ vs := fun m um hm hmem => by
      have := wipeS_in s hmem _ hm
      cases this
    have ki := k i u h1
    have kj := k j u' h2
    rw [wipeS_out s ki] at h1
    rw [wipeS_out s kj] at h2
    rw [wipe_out ki] at a1
    rw [wipe_out kj] at a2
    exact r.apart i j u u' a ij h1 h2 a1 a2
theorem ownd_wipe {vs : List Nat} {a : Addr} (h : Ownd (wipeS s vs) (L2.wipe σ vs) a) : Ownd s σ a := by
  obtain ⟨i, u, h1, h2⟩ := h
  have ki : i ∉ vs := fun hm => by
    have := wipeS_in s hm _ h1
    cases this
  rw [wipeS_out s ki] at h1
  rw [wipe_out ki] at h2
  exact ⟨i, u, h1, h2⟩
/-- a thing that is nobody's stays so -/
theorem stays_free {a b : Sta} {D : Addr} {o : HO} (e : Ext a b σ W W1 H H1) (h : H D = some o) (h1 : D ∉ W.al) (h2 : ¬ W.fz D) (h3 : ¬ Ownd a σ D) : D ∉ W1.al ∧ ¬ W1.fz D ∧ ¬ Ownd b σ D ∧ H1 D = some o := by
  refine ⟨fun z => ?_, fun z => ?_, fun z => h3 (z.mono e.own), e.fr D o h h1 h3⟩
  · rcases e.new D (.inr ⟨z, h1⟩) with q | q | q
    · rw [h] at q; cases q
    · exact h3 q
    · exact h1 q
  · rcases e.new D (.inl ⟨z, h2⟩) with q | q | q
    · rw [h] at q; cases q
    · exact h3 q
    · exact h1 q
/-- a nobody's list grows -/
theorem RelFr.grow {D : Addr} {o : HO} {xs : List V} (r : RelFr G W s σ H) (hD : H D = some (HO.lst xs)) (h1 : D ∉ W.al) (h2 : ¬ W.fz D) (h3 : ¬ Ownd s σ D) : Kp W H (L2.upd H D o) ∧ RelFr G W s σ (L2.upd H D o) := by
  have k : Kp W H (L2.upd H D o) := kp_own h2 hD (fun _ z => by cases z) (fun _ _ z => by cases z)
  have back : ∀ {q o'}, H q = some o' → q ≠ D → (L2.upd H D o) q = some o' := fun a b => by rw [upd_ne b]; exact a
  refine ⟨k, r.len, fun i x hx => ?_, r.apart, r.m.len, r.m.nod, fun n a ha => ?_, fun a ha => ?_⟩
  · obtain ⟨y, q1, q2⟩ := r.slt i x hx
    refine ⟨y, q1, ?_⟩
    cases x with
    | no => trivial
    | val u => obtain ⟨v, e, q⟩ := q2; exact ⟨v, e, RepV.mono (.refl W) k _ q⟩
    | own u =>
      obtain ⟨p, e, f, n, c⟩ := q2
      refine ⟨p, e, f, n, c.mono (.refl W) k fun o' ho => back ho fun z => ?_⟩
      subst z; subst e
      exact h3 ⟨i, u, hx, q1⟩
  · obtain ⟨q1, u, q2, q3⟩ := r.m.mem n a ha
    exact ⟨q1, u, q2, q3.mono (.refl W) k fun o' ho => back ho fun z => by subst z; exact h1 (List.mem_of_getElem? ha)⟩
  · obtain ⟨x, hx⟩ := r.m.sm a ha
    exact ⟨x, back hx fun z => by subst z; exact h2 ha⟩
end
def condC (g : Gst) (cond : Option ME) (s : Sta) : Rs Bool := match cond with
  | none => .ok true s
  | some c => condOf (fun s => evalE g c s) c s
def compF (g : Gst) (e : ME) (t : Tg) (own : List Nat) (cond : Option ME) (avs : List AV) (s1 : Sta) (x : U) (s : Sta) : Rs (Option U) := match bindT t x (wipeS s own) with
  | some sb => (condC g cond sb).bind fun b sc => if b then (evalE g e sc).bind fun u se => (if stillIs s1 se avs then .ok (some u) se else .stuck)
      else (if stillIs s1 sc avs then .ok none sc else .stuck)
  | none => .stuck
theorem comp_eq (g : Gst) (e : ME) (t : Tg) (k : Nat) (its : List ME) (own : List Nat) (cond : Option ME) (s : Sta) : evalE g (.comp e t k its own cond) s = (evalAs g its s).bind fun avs s1 => match walkA k avs s1 with
      | some xs => if stillIs s1 (wipeS s1 own) avs && own.all (fun j => !(AV.own j).ok s1) then
          (match turnsC (compF g e t own cond avs s1) xs s1 with
          | .ok us s' => if us.length ≤ line then .ok (.lst us) (backS s1 s' own) else .stuck
          | _ => .stuck) else .stuck
      | none => .stuck := by
  conv => lhs; unfold evalE
  try rfl
end MP
set_option maxRecDepth 100000
set_option maxHeartbeats 4000000
/-! R2p: a comprehension's turns. -/
namespace MP
open PySem PySem.Spec PyProof.Rows L2
abbrev WF : WX := fun _ _ _ _ => False
section
variable {G : Nms} {g : Gst} {W W1 W2 : Wd} {s s1 s2 : Sta} {σ σ2 : L2.St} {H H1 H2 : Hp}
mutual
theorem bindT_out : ∀ {t : Tg} {u : U} {s s' : Sta} {j : Nat}, bindT t u s = some s' → j ∉ asgT t → s'.r[j]? = s.r[j]?
  | .one i, u, s, s', j, e, h => by
    simp only [bindT] at e
    cases e
    simp only [asgT, List.mem_singleton] at h
    show (s.r.set i _)[j]? = _
    rw [List.getElem?_set_ne (fun z => h z.symm)]
  | .tup ts, u, s, s', j, e, h => by
    cases u with
    | tup us => simp only [bindT] at e; simp only [asgT] at h; exact bindTs_out e h
    | prs us => simp only [bindT] at e; simp only [asgT] at h; exact bindTs_out e h
    | _ => simp [bindT] at e
theorem bindTs_out : ∀ {ts : List Tg} {us : List U} {s s' : Sta} {j : Nat}, bindTs ts us s = some s' → j ∉ asgTs ts → s'.r[j]? = s.r[j]?
  | [], [], s, s', j, e, _ => by simp only [bindTs] at e; cases e; rfl
  | t :: ts, u :: us, s, s', j, e, h => by
    simp only [bindTs] at e
    simp only [asgTs, List.mem_append, not_or] at h
    cases e1 : bindT t u s with
    | none => rw [e1] at e; cases e
    | some s1 =>
      rw [e1] at e
      exact (bindTs_out e h.2).trans (bindT_out e1 h.1)
  | [], _ :: _, _, _, _, e, _ => by simp [bindTs] at e
  | _ :: _, [], _, _, _, e, _ => by simp [bindTs] at e
end
mutual
theorem bindT_len : ∀ {t : Tg} {u : U} {s s' : Sta}, bindT t u s = some s' → s'.r.length = s.r.length
  | .one i, u, s, s', e => by
    simp only [bindT] at e
    cases e
    show (s.r.set i _).length = _
    rw [List.length_set]
  | .tup ts, u, s, s', e => by
    cases u with
    | tup us => simp only [bindT] at e; exact bindTs_rlen e
    | prs us => simp only [bindT] at e; exact bindTs_rlen e
    | _ => simp [bindT] at e
theorem bindTs_rlen : ∀ {ts : List Tg} {us : List U} {s s' : Sta}, bindTs ts us s = some s' → s'.r.length = s.r.length
  | [], [], s, s', e => by simp only [bindTs] at e; cases e; rfl
  | t :: ts, u :: us, s, s', e => by
    simp only [bindTs] at e
    cases e1 : bindT t u s with
    | none => rw [e1] at e; cases e
    | some s1 => rw [e1] at e; exact (bindTs_rlen e).trans (bindT_len e1)
  | [], _ :: _, _, _, e => by simp [bindTs] at e
  | _ :: _, [], _, _, e => by simp [bindTs] at e
end
theorem slot_wipe {own : List Nat} {j : Nat} (h : j ∉ own) : slot (wipeS s own) j = slot s j := by
  unfold slot
  rw [List.getD_eq_getElem?_getD, List.getD_eq_getElem?_getD, wipeS_out s h]
theorem ok_wipe {own : List Nat} {j : Nat} (h : (AV.own j).ok (wipeS s own) = true) : j ∉ own := fun hm => by
  have h : (match slot (wipeS s own) j with | .own _ => true | _ => false) = true := h
  have : slot (wipeS s own) j = .no := by
    unfold slot
    rw [List.getD_eq_getElem?_getD]
    cases e : (wipeS s own).r[j]? with
    | none => rfl
    | some x => rw [wipeS_in s hm x e]; rfl
  rw [this] at h
  cases h
def avFree (own : List Nat) (avs : List AV) : Prop := ∀ j, AV.own j ∈ avs → j ∉ own
theorem free_of {own : List Nat} {avs : List AV} (h : avs.all (AV.ok (wipeS s own)) = true) : avFree own avs := fun j hj => ok_wipe (List.all_eq_true.mp h _ hj)
theorem av_wipe {own : List Nat} : ∀ {avs : List AV}, avFree own avs → avs.all (AV.ok (wipeS s own)) = avs.all (AV.ok s) ∧ avs.map (AV.get (wipeS s own)) = avs.map (AV.get s)
  | [], _ => ⟨rfl, rfl⟩
  | a :: as, h => by
    obtain ⟨h1, h2⟩ := av_wipe (fun j hj => h j (List.mem_cons_of_mem _ hj)) (avs := as)
    simp only [List.all_cons, List.map_cons, h1, h2]
    cases a with
    | v u =>
      refine ⟨rfl, ?_⟩
      show MP.cont (wipeS s own).m u :: _ = MP.cont s.m u :: _
      rw [wipeS_m]
    | own j =>
      have e := slot_wipe (s := s) (h j List.mem_cons_self)
      refine ⟨?_, ?_⟩
      · show ((match slot (wipeS s own) j with | .own _ => true | _ => false) && _) = _
        rw [e]; rfl
      · show (match slot (wipeS s own) j with | .own u => u | _ => U.non) :: _ = _
        rw [e]; rfl
theorem ras_wipe {own : List Nat} : ∀ {avs : List AV} {vs : List V}, avFree own avs → RAs G σ W s H avs vs → RAs G (L2.wipe σ own) W (wipeS s own) H avs vs
  | [], [], _, _ => .nil
  | a :: as, v :: vs, h, .cons ra rt => by
    refine .cons ?_ (ras_wipe (fun j hj => h j (List.mem_cons_of_mem _ hj)) rt)
    cases a with
    | v u => exact ra
    | own j =>
      show (L2.wipe σ own)[j]? = _
      rw [wipe_out (h j List.mem_cons_self)]
      exact ra
  | [], _ :: _, _, h => by cases h
  | _ :: _, [], _, h => by cases h
theorem ras_kp {W' : Wd} {H' : Hp} {s' : Sta} (l : W.le W') (k : Kp W H H') : ∀ {avs : List AV} {vs : List V}, RAs G σ W s H avs vs → RAs G σ W' s' H' avs vs
  | [], [], _ => .nil
  | a :: as, v :: vs, .cons ra rt => by
    refine .cons ?_ (ras_kp l k rt)
    cases a with
    | v u => exact RepV.mono l k _ ra
    | own j => exact ra
  | [], _ :: _, h => by cases h
  | _ :: _, [], h => by cases h
/-- a block's evaluation, seen from outside -/
theorem blk_ext {own : List Nat} {t : Tg} {u : U} {sb se : Sta} (hb : bindT t u (wipeS s own) = some sb) (hasg : ∀ j ∈ asgT t, j ∈ own) (ho : ∀ a, Ownd sb σ2 a → Ownd (wipeS s own) (L2.wipe σ own) a) (e : Ext sb se σ2 W W1 H H1) :
    Ext (wipeS s own) (wipeS se own) (L2.wipe σ own) W W1 H H1 := by
  refine ⟨e.le, e.kp, fun a o h1 h2 h3 => e.fr a o h1 h2 fun z => h3 (ho a z), fun a ha => ?_, fun i u' h => ?_, ?_⟩
  · rcases e.new a ha with q | q | q
    · exact .inl q
    · exact .inr (.inl (ho a q))
    · exact .inr (.inr q)
  · have hi : i ∉ own := fun hm => by
      have := wipeS_in se hm _ h
      cases this
    rw [wipeS_out se hi] at h
    obtain ⟨u1, h1⟩ := e.own i u' h
    rw [bindT_out hb (fun z => hi (hasg i z))] at h1
    exact ⟨u1, h1⟩
  · rw [wipeS_len, e.len, bindT_len hb]
theorem Ext.atNew {a b : Sta} {D : Addr} {o : HO} (e : Ext a b σ W W1 H H1) (h : H D = Option.none) : Ext a b σ W W1 H (L2.upd H1 D o) := by
  have ne : ∀ {q x}, H q = some x → q ≠ D := fun h1 => ne_of_none h1 h
  exact ⟨e.le, ⟨fun q x f hq => by rw [upd_ne (ne hq)]; exact e.kp.fz q x f hq, fun q x hq => by rw [upd_ne (ne hq)]; exact e.kp.tup q x hq, fun q x u hq => by rw [upd_ne (ne hq)]; exact e.kp.frz q x u hq⟩,
    fun q x hq h2 h3 => by rw [upd_ne (ne hq)]; exact e.fr q x hq h2 h3, e.new, e.own, e.len⟩
theorem turnsC_cons {f : U → Sta → Rs (Option U)} {x : U} {xs us : List U} {s s' : Sta} (h : turnsC f (x :: xs) s = .ok us s') : ∃ o sn ys, f x s = .ok o sn ∧ turnsC f xs sn = .ok ys s' ∧ us = (match o with | some y => y :: ys | none => ys) := by
  unfold turnsC at h
  cases e1 : f x s with
  | stuck => rw [e1] at h; cases h
  | exc _ _ => rw [e1] at h; cases h
  | ok o sn =>
    rw [e1] at h
    simp only [Rs.bind] at h
    cases e2 : turnsC f xs sn with
    | stuck => rw [e2] at h; cases h
    | exc _ _ => rw [e2] at h; cases h
    | ok ys s2 =>
      rw [e2] at h
      simp only at h
      cases h
      exact ⟨o, sn, ys, rfl, e2, rfl⟩
end
end MP
set_option maxRecDepth 100000
set_option maxHeartbeats 4000000
/-! R2q: a comprehension. -/
namespace MP
open PySem PySem.Spec PyProof.Rows L2
def tt (G : Nms) (g : Gst) (cond : Option ME) : TT := match cond with
  | none => tYes
  | some c => tCond G WF g c
section
variable {G : Nms} {g : Gst} {W W1 W2 : Wd} {s s1 s2 : Sta} {σ σ2 : L2.St} {H H1 H2 : Hp}
theorem tt_ok {cond : Option ME} {sb sc : Sta} {b : Bool} {Q : Bool → Hp → Prop} (h : condC g cond sb = .ok b sc) (r : RelFr G W sb σ2 H) (q : ∀ W' H', Ext sb sc σ2 W W' H H' → RelFr G W' sc σ2 H' → Q b H') : tt G g cond σ2 H Q := by
  cases cond with
  | none =>
    have h : Rs.ok true sb = Rs.ok b sc := h
    cases h
    exact q W H (.refl _ _ _ _) r
  | some c =>
    have h : condOf (fun s => evalE g c s) c sb = .ok b sc := h
    refine ⟨W, sb, r, ?_⟩
    rw [h]
    intro W' H' b' e1 r1 hb
    obtain rfl : b = b' := hb
    exact q W' H' e1 r1
theorem tE_ok {e : ME} {sc se : Sta} {u : U} {Q : VK} (h : evalE g e sc = .ok u se) (r : RelFr G W sc σ2 H) (q : ∀ W' H' v, Ext sc se σ2 W W' H H' → RelFr G W' se σ2 H' → RepV G W' H' u v → Q v H') : tE G WF g e σ2 H Q :=
  ⟨W, sc, r, by rw [h]; exact fun W' H' v e1 r1 hv => q W' H' v e1 r1 hv⟩
/-- where a turn stands -/
def CI (G : Nms) (g : Gst) (e : ME) (t : Tg) (own : List Nat) (cond : Option ME) (avs : List AV) (vs : List V) (s1 s' : Sta) (xs us : List U) (W1 : Wd) (σ : L2.St) (H1 : Hp) (D : Addr) (i : Nat) (H : Hp) : Prop :=
  ∃ Wi si done rest acc, turnsC (compF g e t own cond avs s1) (xs.drop i) si = .ok rest s' ∧ us = done ++ rest ∧ RelFr G Wi (wipeS si own) (L2.wipe σ own) H ∧ H D = some (HO.lst acc) ∧ RepVs G Wi H done acc ∧
    Ext (wipeS s1 own) (wipeS si own) (L2.wipe σ own) W1 Wi H1 H ∧ RAs G (L2.wipe σ own) Wi (wipeS si own) H avs vs ∧ avs.all (AV.ok si) = true ∧ avs.map (AV.get si) = avs.map (AV.get s1) ∧ D ∉ Wi.al ∧ ¬ Wi.fz D ∧ ¬ Ownd (wipeS si own) (L2.wipe σ own) D
theorem comp_core {K : PySem.W.Frag} (hK : K = G.K) {e : ME} {t : Tg} {own : List Nat} {cond : Option ME} {avs : List AV} {vs : List V} {xs us : List U} {s' : Sta} {J : It} {D : Addr} {Q : VK}
    (hF : turnsC (compF g e t own cond avs s1) xs s1 = .ok us s') (hlen : us.length ≤ line) (hst : stillIs s1 (wipeS s1 own) avs = true) (hok : avs.all (AV.ok s1) = true) (hasg : ∀ j ∈ asgT t, j ∈ own) (r1 : RelFr G W1 s1 σ H1) (ra : RAs G σ W1 s1 H1 avs vs)
    (hJ : JOk G J avs vs (avs.map (AV.get s1)) xs) (hD : H1 D = none)
    (fin : ∀ W' H', Ext (wipeS s1 own) (wipeS s' own) (L2.wipe σ own) W1 W' H1 H' → RelFr G W' (wipeS s' own) (L2.wipe σ own) H' → D ∉ W'.al → ¬ W'.fz D → ¬ Ownd (wipeS s' own) (L2.wipe σ own) D → Cont G W' H' D (.lst us) → Q (.ref D) H') :
    ∃ Wm : Nat → Nat → Hp → Prop, (∃ m, Wm 0 m (L2.upd H1 D (.lst []))) ∧ ∀ i m H, Wm i m H →
      (J.stop i H ∧ Q (.ref D) H) ∨ (J.go i H ∧ ∃ Nx : Hp → Prop, (∀ H', Nx H' → ∃ m', m' < m ∧ Wm (i + 1) m' H') ∧ ∀ x H', J.yld i H x H' → gT K t x (L2.wipe σ own) H' fun σ2 H2 => L2.wipe σ2 own = L2.wipe σ own ∧ tt G g cond σ2 H2 fun b H3 =>
        if b = true then tE G WF g e σ2 H3 fun y H4 => ∃ acc, H4 D = some (HO.lst acc) ∧ acc.length < sizeLine ∧ Nx (L2.upd H4 D (.lst (acc ++ [y]))) else Nx H3) := by
  have hfree : avFree own avs := free_of (still_get hok hst).1
  have pal0 : D ∉ W1.al := fun z => by obtain ⟨o, e⟩ := r1.m.al_some z; rw [hD] at e; cases e
  have pow0 : ¬ Ownd s1 σ D := fun z => by obtain ⟨o, e⟩ := r1.own_some z; rw [hD] at e; cases e
  have pfz0 : ¬ W1.fz D := fun z => by obtain ⟨o, e⟩ := r1.m.sm D z; rw [hD] at e; cases e
  refine ⟨fun i m H => m = xs.length - i ∧ i ≤ xs.length ∧ CI G g e t own cond avs vs s1 s' xs us W1 σ H1 D i H, ⟨xs.length, by simp, Nat.zero_le _, ?_⟩, ?_⟩
  · refine ⟨W1, s1, [], us, [], by simpa using hF, rfl, (r1.upd hD).wipe own, upd_same, by simp only [RepVs], (Ext.refl _ _ _ _).atNew hD, ?_, hok, rfl, pal0, pfz0, fun z => pow0 (ownd_wipe z)⟩
    exact ras_wipe hfree (ras_kp (.refl W1) (kp_upd hD) ra)
  rintro i m H ⟨rfl, hi, Wi, si, done, rest, acc, hT, hus, r, hHD, hacc, E0, ras, hoki, hgeti, dal, dfz, dow⟩
  have hw := av_wipe (s := si) hfree
  have jj := hJ i Wi (wipeS si own) (L2.wipe σ own) H r ras (by rw [hw.1]; exact hoki) (by rw [hw.2]; exact hgeti)
  by_cases hlt : i < xs.length
  · right
    have hget : xs[i]? = some xs[i] := List.getElem?_eq_getElem hlt
    obtain ⟨go, yl⟩ := jj.2 _ hget
    refine ⟨go, fun H' => CI G g e t own cond avs vs s1 s' xs us W1 σ H1 D (i + 1) H', fun H' c => ⟨xs.length - (i + 1), by omega, rfl, hlt, c⟩, fun x H' hy => ?_⟩
    obtain ⟨hH', rx⟩ := yl x H' hy
    rw [List.drop_eq_getElem_cons hlt] at hT
    obtain ⟨o, sn, ys, hf, hT2, hrest⟩ := turnsC_cons hT
    -- the turn
    unfold compF at hf
    cases hb : bindT t xs[i] (wipeS si own) with
    | none => rw [hb] at hf; cases hf
    | some sb =>
    rw [hb] at hf
    simp only at hf
    cases hcnd : condC g cond sb with
    | stuck => rw [hcnd] at hf; cases hf
    | exc _ _ => rw [hcnd] at hf; cases hf
    | ok b sc =>
    rw [hcnd] at hf
    simp only [Rs.bind] at hf
    -- behind what was yielded
    have hup : Kp Wi H H' ∧ RelFr G Wi (wipeS si own) (L2.wipe σ own) H' ∧ Ext (wipeS si own) (wipeS si own) (L2.wipe σ own) Wi Wi H H' ∧ H' D = some (HO.lst acc) ∧ ∀ a o, H a = some o → H' a = some o := by
      rcases hH' with rfl | ⟨T, o, hTn, rfl⟩
      · exact ⟨.refl _ _, r, .refl _ _ _ _, hHD, fun _ _ h => h⟩
      · exact ⟨kp_upd hTn, r.upd hTn, .upd hTn, by rw [upd_ne (ne_of_none hHD hTn)]; exact hHD, fun a o h => by rw [upd_ne (ne_of_none h hTn)]; exact h⟩
    obtain ⟨k1, r', E1, hHD', _⟩ := hup
    refine gT_ok K hK t _ _ sb x _ _ hb r' rx fun σ2 rb kσ lσ mo => ?_
    have hσ : L2.wipe σ2 own = L2.wipe σ own := wipe_agree lσ fun j hj => kσ j fun z => hj (hasg j z)
    refine ⟨hσ, tt_ok hcnd rb fun Wc H3 Ec rc => ?_⟩
    have dow' : ¬ Ownd sb σ2 D := fun z => dow (mo.2 D z)
    obtain ⟨dal3, dfz3, dow3, hHD3⟩ := stays_free Ec hHD' dal dfz dow'
    have EC : Ext (wipeS si own) (wipeS sc own) (L2.wipe σ own) Wi Wc H' H3 := blk_ext hb hasg mo.2 Ec
    have hacc3 : RepVs G Wc H3 done acc := RepVs.mono Ec.le (k1.trans (.refl _) Ec.kp) _ hacc
    cases b with
    | true =>
      rw [if_pos rfl] at hf ⊢
      cases he : evalE g e sc with
      | stuck => rw [he] at hf; cases hf
      | exc _ _ => rw [he] at hf; cases hf
      | ok u se =>
      rw [he] at hf
      simp only [Rs.bind] at hf
      split at hf
      · rename_i hstill
        obtain ⟨rfl, rfl⟩ : o = some u ∧ se = sn := by cases hf; exact ⟨rfl, rfl⟩
        refine tE_ok he rc fun We H4 y Ee re ry => ?_
        obtain ⟨dal4, dfz4, dow4, hHD4⟩ := stays_free Ee hHD3 dal3 dfz3 dow3
        have hacc4 : RepVs G We H4 done acc := RepVs.mono Ee.le Ee.kp _ hacc3
        have EE : Ext (wipeS si own) (wipeS se own) (L2.wipe σ own) Wi We H' H4 := blk_ext hb hasg mo.2 (Ec.trans Ee)
        have E4 : Ext (wipeS s1 own) (wipeS se own) (L2.wipe σ own) W1 We H1 H4 := E0.trans (E1.trans EE)
        have re' : RelFr G We (wipeS se own) (L2.wipe σ own) H4 := by rw [← hσ]; exact re.wipe own
        have dow5 : ¬ Ownd (wipeS se own) (L2.wipe σ own) D := fun z => dow (z.mono EE.own)
        obtain ⟨k5, r5⟩ := re'.grow (o := HO.lst (acc ++ [y])) hHD4 dal4 dfz4 dow5
        obtain ⟨so1, so2⟩ := still_get hok hstill
        subst hrest
        have hl : done.length + (u :: ys).length ≤ line := by rw [hus, List.length_append] at hlen; exact hlen
        refine ⟨acc, hHD4, ?_, We, se, done ++ [u], ys, acc ++ [y], hT2, by rw [hus]; simp, r5, upd_same, ?_, E4.atNew hD, ?_, so1, so2, dal4, dfz4, dow5⟩
        · rw [← RepVs.length hacc, sizeLine_eq]
          simp only [List.length_cons] at hl
          unfold line at hl
          omega
        · exact RepVs.mono (.refl We) k5 _ (hacc4.append (by simp only [RepVs]; exact ⟨y, [], rfl, ry, rfl⟩))
        · exact ras_kp (.refl We) k5 (ras_kp (s' := wipeS se own) (EE.le) ((k1.trans (.refl _) EE.kp)) ras)
      · cases hf
    | false =>
      rw [if_neg Bool.false_ne_true] at hf ⊢
      split at hf
      · rename_i hstill
        obtain ⟨rfl, rfl⟩ : o = none ∧ sc = sn := by cases hf; exact ⟨rfl, rfl⟩
        have E4 : Ext (wipeS s1 own) (wipeS sc own) (L2.wipe σ own) W1 Wc H1 H3 := E0.trans (E1.trans EC)
        have rc' : RelFr G Wc (wipeS sc own) (L2.wipe σ own) H3 := by rw [← hσ]; exact rc.wipe own
        have dow5 : ¬ Ownd (wipeS sc own) (L2.wipe σ own) D := fun z => dow (z.mono EC.own)
        obtain ⟨so1, so2⟩ := still_get hok hstill
        subst hrest
        exact ⟨Wc, sc, done, _, acc, hT2, hus, rc', hHD3, hacc3, E4, ras_kp (s' := wipeS sc own) EC.le (k1.trans (.refl _) EC.kp) ras, so1, so2, dal3, dfz3, dow5⟩
      · cases hf
  · left
    have hi' : i = xs.length := by omega
    subst hi'
    refine ⟨jj.1 (Nat.le_refl _), ?_⟩
    rw [List.drop_length] at hT
    have hT : Rs.ok [] si = Rs.ok rest s' := hT
    cases hT
    rw [List.append_nil] at hus
    subst hus
    exact fin Wi H E0 r dal dfz dow (cont_lst_of hHD hacc)
end
end MP
set_option maxRecDepth 100000
set_option maxHeartbeats 4000000
/-! R2r: a comprehension in the text. -/
namespace MP
open PySem PySem.Spec PyProof.Rows L2
section
variable {G : Nms} {g : Gst} {Wx : WX} {W W1 W' : Wd} {s s1 s' sB : Sta} {σ : L2.St} {H H1 H' : Hp}
theorem backS_m (s0 s : Sta) : ∀ own : List Nat, (backS s0 s own).m = s.m
  | [] => rfl
  | i :: is => by show (backS s0 s is).m = s.m; exact backS_m s0 s is
theorem backS_len (s0 s : Sta) : ∀ own : List Nat, (backS s0 s own).r.length = s.r.length
  | [] => rfl
  | i :: is => by
    show ((backS s0 s is).r.set i _).length = _
    rw [List.length_set]; exact backS_len s0 s is
theorem backS_out (s0 s : Sta) {j : Nat} : ∀ {own : List Nat}, j ∉ own → (backS s0 s own).r[j]? = s.r[j]?
  | [], _ => rfl
  | i :: is, h => by
    simp only [List.mem_cons, not_or] at h
    show ((backS s0 s is).r.set i _)[j]? = _
    rw [List.getElem?_set_ne (fun z => h.1 z.symm)]
    exact backS_out s0 s h.2
theorem backS_in (s0 s : Sta) {j : Nat} : ∀ {own : List Nat}, j ∈ own → j < s.r.length → (backS s0 s own).r[j]? = some (slot s0 j)
  | [], h, _ => by simp at h
  | i :: is, h, hl => by
    show ((backS s0 s is).r.set i (slot s0 i))[j]? = _
    by_cases hij : i = j
    · subst hij
      rw [List.getElem?_set]
      simp [backS_len, hl]
    · rw [List.getElem?_set_ne hij]
      rcases List.mem_cons.mp h with z | z
      · exact absurd z.symm hij
      · exact backS_in s0 s z hl
theorem back_ok {own : List Nat} (hno : own.all (fun j => !(AV.own j).ok s1) = true) (r1 : RelFr G W1 s1 σ H1) (E : Ext (wipeS s1 own) (wipeS s' own) (L2.wipe σ own) W1 W' H1 H') (R : RelFr G W' (wipeS s' own) (L2.wipe σ own) H') :
    RelFr G W' (backS s1 s' own) σ H' ∧ Ext s1 (backS s1 s' own) σ W1 W' H1 H' := by
  have hl : s'.r.length = s1.r.length := by have := E.len; rwa [wipeS_len, wipeS_len] at this
  have notown : ∀ j ∈ own, ∀ u, slot s1 j ≠ .own u := fun j hj u z => by
    have h := List.all_eq_true.mp hno j hj
    have h : (!(match slot s1 j with | .own _ => true | _ => false)) = true := h
    rw [z] at h; cases h
  have key : ∀ i u, (backS s1 s' own).r[i]? = some (Slt.own u) → i ∉ own ∧ s'.r[i]? = some (Slt.own u) := fun i u h => by
    by_cases hi : i ∈ own
    · exfalso
      have hlt : i < s'.r.length := by
        have := (List.getElem?_eq_some_iff.mp h).1
        rwa [backS_len] at this
      rw [backS_in s1 s' hi hlt] at h
      exact notown i hi u (Option.some.inj h)
    · rw [backS_out s1 s' hi] at h
      exact ⟨hi, h⟩
  refine ⟨⟨by rw [backS_len, hl]; exact r1.len, fun i x hx => ?_, fun i j u u' a ij h1 h2 a1 a2 => ?_, by rw [backS_m, ← wipeS_m s' own]; exact R.m⟩, ⟨E.le, E.kp, fun a o h1 h2 h3 => E.fr a o h1 h2 fun z => h3 (ownd_wipe z), fun a ha => ?_, fun i u h => ?_, by rw [backS_len, hl]⟩⟩
  · by_cases hi : i ∈ own
    · have hlt : i < s'.r.length := by
        have := (List.getElem?_eq_some_iff.mp hx).1
        rwa [backS_len] at this
      rw [backS_in s1 s' hi hlt] at hx
      obtain rfl := Option.some.inj hx
      have hs : s1.r[i]? = some (slot s1 i) := by
        unfold slot
        rw [List.getD_eq_getElem?_getD, List.getElem?_eq_getElem (by omega)]
        rfl
      obtain ⟨y, h1, h2⟩ := r1.slt i _ hs
      refine ⟨y, h1, ?_⟩
      cases e : slot s1 i with
      | no => trivial
      | val u => rw [e] at h2; obtain ⟨v, q1, q2⟩ := h2; exact ⟨v, q1, RepV.mono E.le E.kp _ q2⟩
      | own u => exact absurd e (notown i hi u)
    · rw [backS_out s1 s' hi] at hx
      rw [← wipeS_out s' hi] at hx
      obtain ⟨y, h1, h2⟩ := R.slt i x hx
      rw [wipe_out hi] at h1
      exact ⟨y, h1, h2⟩
  · obtain ⟨k1, k2⟩ := key i u h1
    obtain ⟨k3, k4⟩ := key j u' h2
    rw [← wipeS_out s' k1] at k2
    rw [← wipeS_out s' k3] at k4
    exact R.apart i j u u' a ij k2 k4 (by rw [wipe_out k1]; exact a1) (by rw [wipe_out k3]; exact a2)
  · rcases E.new a ha with q | q | q
    · exact .inl q
    · exact .inr (.inl (ownd_wipe q))
    · exact .inr (.inr q)
  · obtain ⟨k1, k2⟩ := key i u h
    rw [← wipeS_out s' k1] at k2
    obtain ⟨u1, h1⟩ := E.own i u k2
    rw [wipeS_out s1 k1] at h1
    exact ⟨u1, h1⟩
theorem ownd_back {own : List Nat} (hno : own.all (fun j => !(AV.own j).ok s1) = true) {a : Addr} (hl : s'.r.length = s1.r.length) (h : Ownd (backS s1 s' own) σ a) : Ownd (wipeS s' own) (L2.wipe σ own) a := by
  obtain ⟨i, u, h1, h2⟩ := h
  by_cases hi : i ∈ own
  · exfalso
    have hlt : i < s'.r.length := by
      have := (List.getElem?_eq_some_iff.mp h1).1
      rwa [backS_len] at this
    rw [backS_in s1 s' hi hlt] at h1
    have z := Option.some.inj h1
    have h := List.all_eq_true.mp hno i hi
    have h : (!(match slot s1 i with | .own _ => true | _ => false)) = true := h
    rw [z] at h; cases h
  · rw [backS_out s1 s' hi] at h1
    exact ⟨i, u, by rw [wipeS_out s' hi]; exact h1, by rw [wipe_out hi]; exact h2⟩
/-- a new object, frozen -/
theorem freeze {u : U} {D : Addr} {Q : VK} (k : tAt G Wx (.ok u sB) W1 s1 σ H1 (RV G) Q) (E : Ext s1 sB σ W1 W' H1 H') (R : RelFr G W' sB σ H') (d1 : D ∉ W'.al) (d2 : ¬ Ownd sB σ D) (hD : H1 D = none ∨ Ownd s1 σ D ∨ D ∈ W1.al) (c : Cont G W' H' D u) (hu : isLD u = true) : Q (.ref D) H' := by
  obtain ⟨o, ho⟩ := c.some
  refine k (W'.ice D) H' (.ref D) ⟨E.le.trans Wd.le_ice, E.kp.trans E.le (.refl W' _), E.fr, fun a ha => ?_, E.own, E.len⟩ (R.ice d1 ho d2) ?_
  · rcases ha with ⟨h1, h2⟩ | h
    · rcases h1 with h1 | rfl
      · exact E.new a (.inl ⟨h1, h2⟩)
      · exact hD
    · exact E.new a (.inr h)
  · show RepV G (W'.ice D) H' u (.ref D)
    have c' : Cont G (W'.ice D) H' D u := c.mono Wd.le_ice (.refl W' _) fun _ h => h
    cases u <;> first | cases hu | skip
    · obtain ⟨vs, h1, h2⟩ := cont_lst c'
      simp only [RepV]
      exact ⟨D, vs, rfl, .inr rfl, h1, h2⟩
    · simp only [RepV]
      refine ⟨D, rfl, .inr rfl, ?_⟩
      simpa only [MP.Cont] using c'
/-- the comprehension's walk, as HandS asks for it -/
theorem comp_tLc {K : PySem.W.Frag} (hK : K = G.K) {e : ME} {t : Tg} {k : Nat} {its : List ME} {own : List Nat} {cond : Option ME} {Q : VK} (hasg : ∀ j ∈ asgT t, j ∈ own)
    (h : tE G Wx g (.comp e t k its own cond) σ H Q ∨ tN G Wx g (.comp e t k its own cond) σ H Q) : tLc (tI G Wx g k its) (gT K t) (tt G g cond) (tE G WF g e) own σ H Q := by
  have main : tArgs G Wx g its σ H fun vs H1 => ∃ W1 s1 avs xs us s', RelFr G W1 s1 σ H1 ∧ RAs G σ W1 s1 H1 avs vs ∧ walkA k avs s1 = some xs ∧ stillIs s1 (wipeS s1 own) avs = true ∧ own.all (fun j => !(AV.own j).ok s1) = true ∧ turnsC (compF g e t own cond avs s1) xs s1 = .ok us s' ∧ us.length ≤ line ∧
      ∀ W' H' D, Ext s1 (backS s1 s' own) σ W1 W' H1 H' → RelFr G W' (backS s1 s' own) σ H' → D ∉ W'.al → ¬ W'.fz D → ¬ Ownd (backS s1 s' own) σ D → H1 D = none → Cont G W' H' D (.lst us) → Q (.ref D) H' := by
    rcases h with h | h
    · refine tR_mono (tR_bind (fun σ => RAs G σ) (tR_eq (comp_eq g e t k its own cond) h)) fun vs H1 ⟨avs, W1, s1, r1, ra, kk⟩ => ?_
      cases hw : walkA k avs s1 with
      | none => rw [hw] at kk; exact kk.elim
      | some xs =>
        rw [hw] at kk
        simp only at kk
        split at kk
        · rename_i hc
          simp only [Bool.and_eq_true] at hc
          cases hT : turnsC (compF g e t own cond avs s1) xs s1 with
          | stuck => rw [hT] at kk; exact kk.elim
          | exc _ _ => rw [hT] at kk; exact kk.elim
          | ok us s' =>
            rw [hT] at kk
            simp only at kk
            split at kk
            · rename_i hl
              exact ⟨W1, s1, avs, xs, us, s', r1, ra, hw, hc.1, hc.2, hT, hl, fun W' H' D E R d1 d2 d3 hD c => freeze kk E R d1 d3 (.inl hD) c rfl⟩
            · exact kk.elim
        · exact kk.elim
    · obtain ⟨W, s, r, h⟩ := h
      refine ⟨W, s, r, ?_⟩
      rw [comp_eq] at h
      cases ea : evalAs g its s with
      | stuck => rw [ea] at h; exact h
      | exc x s' => rw [ea] at h; exact h
      | ok avs s1 =>
        rw [ea] at h
        intro W1 H1 vs e1 r1 ra
        unfold newOf at h
        simp only [Rs.bind] at h
        cases hw : walkA k avs s1 with
        | none => rw [hw] at h; exact h.elim
        | some xs =>
          rw [hw] at h
          simp only at h
          by_cases hc : (stillIs s1 (wipeS s1 own) avs && own.all (fun j => !(AV.own j).ok s1)) = true
          · rw [if_pos hc] at h
            simp only [Bool.and_eq_true] at hc
            cases hT : turnsC (compF g e t own cond avs s1) xs s1 with
            | stuck => rw [hT] at h; exact h.elim
            | exc _ _ => rw [hT] at h; exact h.elim
            | ok us s' =>
              rw [hT] at h
              simp only at h
              by_cases hl : us.length ≤ line
              · rw [if_pos hl] at h
                simp only [isLD, if_true] at h
                exact ⟨W1, s1, avs, xs, us, s', r1, ra, hw, hc.1, hc.2, hT, hl, fun W' H' D E R d1 d2 d3 hD c => h W' H' (.ref D) (e1.trans E) R ⟨D, rfl, d2, d1, d3, e1.none hD, c⟩⟩
              · rw [if_neg hl] at h; exact h.elim
          · rw [if_neg hc] at h; exact h.elim
  refine tR_mono main fun vs H1 ⟨W1, s1, avs, xs, us, s', r1, ra, hw, hst, hno, hT, hl, fin⟩ => ⟨W1, s1, avs, xs, r1, ra, hw, fun J hJ D hD => ?_⟩
  exact comp_core hK hT hl hst (walk_get hw).1 hasg r1 ra hJ hD fun W' H' E R d1 d2 d3 c => by
    have hlen : s'.r.length = s1.r.length := by have := E.len; rwa [wipeS_len, wipeS_len] at this
    obtain ⟨q1, q2⟩ := back_ok hno r1 E R
    exact fin W' H' D q2 q1 d1 d2 (fun z => d3 (ownd_back hno hlen z)) hD c
end
end MP
set_option maxRecDepth 100000
set_option maxHeartbeats 4000000
/-! R2s: a new object shared; a name's own object handed on; comprehensions in the text. -/
namespace MP
open PySem PySem.Spec PyProof.Rows L2
section
variable {C : SC} {G : Nms} {g : Gst} {X : Cx} {sc : Scope} {Wx : WX} {σ : L2.St} {H : Hp} {pos : Pos}
def Wd.more (W : Wd) (p : Addr) : Wd := ⟨W.al ++ [p], W.fz⟩
theorem Wd.le_more {W : Wd} {p : Addr} : W.le (W.more p) := ⟨⟨[p], rfl⟩, fun _ h => h⟩
theorem share_fr {W : Wd} {s : Sta} {p : Addr} {u : U} (r : RelFr G W s σ H) (f : ¬ W.fz p) (n : p ∉ W.al) (o : ¬ Ownd s σ p) (c : Cont G W H p u) : RelFr G (W.more p) { s with m := s.m ++ [u] } σ H := by
  refine ⟨r.len, fun i x hx => ?_, r.apart, ?_⟩
  · obtain ⟨y, h1, h2⟩ := r.slt i x hx
    refine ⟨y, h1, ?_⟩
    cases x with
    | no => trivial
    | val u => obtain ⟨v, e, q⟩ := h2; exact ⟨v, e, RepV.mono Wd.le_more (.refl W H) _ q⟩
    | own u =>
      obtain ⟨q, e, f', n', c'⟩ := h2
      refine ⟨q, e, f', fun z => ?_, c'.mono Wd.le_more (.refl W H) fun _ h => h⟩
      rcases List.mem_append.mp z with z | z
      · exact n' z
      · have : q = p := by simpa using z
        subst this; subst e
        exact o ⟨i, u, hx, h1⟩
  · refine ⟨?_, ?_, fun m a hm => ?_, r.m.sm⟩
    · show (s.m ++ [u]).length = (W.al ++ [p]).length
      rw [List.length_append, List.length_append, r.m.len]; rfl
    · show (W.al ++ [p]).Nodup
      rw [List.nodup_append]
      refine ⟨r.m.nod, by simp, fun a ha b hb => ?_⟩
      have : b = p := by simpa using hb
      subst this
      exact fun z => n (z ▸ ha)
    · have hm : (W.al ++ [p])[m]? = some a := hm
      by_cases hlt : m < W.al.length
      · rw [List.getElem?_append_left hlt] at hm
        obtain ⟨z1, u', z2, z3⟩ := r.m.mem m a hm
        refine ⟨z1, u', ?_, z3.mono Wd.le_more (.refl W H) fun _ h => h⟩
        show (s.m ++ [u])[m]? = _
        rw [List.getElem?_append_left (by rw [r.m.len]; exact hlt)]
        exact z2
      · rw [List.getElem?_append_right (by omega)] at hm
        have h0 : m - W.al.length = 0 := by
          have := (List.getElem?_eq_some_iff.mp hm).1
          simp at this; omega
        rw [h0] at hm
        have hp : p = a := by simpa using hm
        subst hp
        refine ⟨f, u, ?_, c.mono Wd.le_more (.refl W H) fun _ h => h⟩
        show (s.m ++ [u])[m]? = _
        rw [List.getElem?_append_right (by rw [r.m.len]; omega), r.m.len, h0]
        rfl
theorem tE_share {m : ME} {Q : VK} (h : tE G Wx g (.share m) σ H Q) : tN G Wx g m σ H Q := by
  obtain ⟨W, s, r, h⟩ := h
  have e0 : evalE g (.share m) s = (newOf (evalE g m s)).bind fun u s => .ok (.ref s.m.length) { s with m := s.m ++ [u] } := by
    conv => lhs; unfold evalE
  rw [e0] at h
  refine ⟨W, s, r, ?_⟩
  cases ea : newOf (evalE g m s) with
  | stuck => rw [ea] at h; exact h
  | exc x s' => rw [ea] at h; exact h
  | ok u s' =>
    rw [ea] at h
    intro W' H' v e1 r1 hv
    obtain ⟨p, rfl, f, n, o, hn, c⟩ := hv
    refine h (W'.more p) H' (.ref p) ⟨e1.le.trans Wd.le_more, e1.kp, e1.fr, fun a ha => ?_, e1.own, e1.len⟩ (share_fr r1 f n o c) ?_
    · rcases ha with ⟨h1, h2⟩ | ⟨h1, h2⟩
      · exact e1.new a (.inl ⟨h1, h2⟩)
      · rcases List.mem_append.mp h1 with z | z
        · exact e1.new a (.inr ⟨z, h2⟩)
        · have : a = p := by simpa using z
          subst this
          exact hn
    · show RepV G (W'.more p) H' (.ref s'.m.length) (.ref p)
      simp only [RepV]
      refine ⟨p, ?_, rfl⟩
      show (W'.al ++ [p])[s'.m.length]? = _
      rw [r1.m.len, List.getElem?_append_right (Nat.le_refl _)]
      simp
theorem ex_mv {i : Nat} {x : Str} (hN : X.N[i]? = some x) (hv : Vis X.env.scope x) (hd : (x == ("__debug__" : Str)) = false) (hcd : (x == ("__classdict__" : Str)) = false) : PE X (.Name x pos) (tE G Wx g (.mv i)) :=
  PEi (pe_var hN hv hd hcd) fun σ H Q h => by
    obtain ⟨W, s, r, h⟩ := h
    unfold evalE at h
    cases e : slot s i with
    | val u =>
      simp only [e] at h
      obtain ⟨v, h1, h2⟩ := r.valAt e
      exact ⟨v, h1, tAt.fin h r h2⟩
    | no => simp only [e] at h; exact h.elim
    | own u =>
      simp only [e] at h
      obtain ⟨hs, p, h1, f, n, c⟩ := r.ownAt e
      have hi : i < s.r.length := (List.getElem?_eq_some_iff.mp hs).1
      obtain ⟨o, ho⟩ := c.some
      have c' : Cont G (W.ice p) H p u := c.mono Wd.le_ice (.refl W H) fun _ h => h
      have hrep : RepV G (W.ice p) H u (.ref p) := by
        cases u with
        | lst us =>
          obtain ⟨vs, q1, q2⟩ := cont_lst c'
          simp only [RepV]
          exact ⟨p, vs, rfl, .inr rfl, q1, q2⟩
        | dic ks vs =>
          simp only [RepV]
          exact ⟨p, rfl, .inr rfl, by simpa only [MP.Cont] using c'⟩
        | obj cc fs =>
          obtain ⟨dx, fvs, q1, q2⟩ : ∃ dx fvs, H p = some (.ins (G.cA cc) dx fvs) ∧ ∃ ws, RepFs G (W.ice p) H fs ws ∧ ∀ k n, G.aP cc k = some n → (fvs.lookup (G.aN n)) = (ws[k]?).getD none := by simpa only [MP.Cont] using c'
          simp only [RepV]
          exact ⟨p, dx, fvs, rfl, .inr rfl, q1, q2⟩
        | _ => simp only [MP.Cont] at c'
      refine ⟨.ref p, h1, h (W.ice p) H (.ref p) ⟨Wd.le_ice, .refl W H, fun _ _ h _ _ => h, fun a ha => ?_, fun j u' hj => ?_, ?_⟩ ⟨?_, fun j x hj => ?_, fun j k u1 u2 a jk q1 q2 a1 a2 => ?_, r.m.ice n ho⟩ hrep⟩
      · rcases ha with ⟨q1, q2⟩ | ⟨q1, q2⟩
        · rcases q1 with q1 | rfl
          · exact absurd q1 q2
          · exact .inr (.inl ⟨i, u, hs, h1⟩)
        · exact absurd q1 q2
      · rw [slot_put _ _ _ _ hi] at hj
        split at hj
        · cases hj
        · exact ⟨_, hj⟩
      · show (s.r.set i _).length = _
        rw [List.length_set]
      · show (s.r.set i _).length = _
        rw [List.length_set]; exact r.len
      · rw [slot_put _ _ _ _ hi] at hj
        split at hj
        · rename_i ij; subst ij
          cases hj
          exact ⟨_, h1, .ref p, rfl, hrep⟩
        · rename_i ij
          obtain ⟨y, q1, q2⟩ := r.slt j x hj
          refine ⟨y, q1, ?_⟩
          cases x with
          | no => trivial
          | val u => obtain ⟨v, e, q⟩ := q2; exact ⟨v, e, RepV.mono Wd.le_ice (.refl W H) _ q⟩
          | own u' =>
            obtain ⟨q, e, f', n', c'⟩ := q2
            refine ⟨q, e, fun z => ?_, n', c'.mono Wd.le_ice (.refl W H) fun _ h => h⟩
            rcases z with z | rfl
            · exact f' z
            · rw [e] at q1
              exact r.apart i j _ _ q ij hs hj h1 q1
      · have key : ∀ m um, (s.put i (.val u)).r[m]? = some (Slt.own um) → s.r[m]? = some (Slt.own um) := fun m um hm => by
          rw [slot_put _ _ _ _ hi] at hm
          split at hm
          · cases hm
          · exact hm
        exact r.apart j k u1 u2 a jk (key _ _ q1) (key _ _ q2) a1 a2
/-! the block -/
theorem Full.blk {k : Nat} (D : Full C G g k X sc Wx) (s : Shared) (H : Hp) (scope : Scope) (C' : Addr) (cl : List (Str × Addr)) (fp : List Addr) : Full C G g k (X.blk s H scope (compEnvC scope cl C' X.env) fp) (relS scope sc) WF := by
  refine ⟨⟨D.good.s0, ⟨D.good.of.P, D.good.of.w, D.good.of.K, D.good.of.un⟩, D.good.N, ?_, D.good.calm⟩, D.room, D.calls, fun σ => ?_⟩
  · show (compEnvC scope cl C' X.env).scope = _
    rw [← D.good.scp]; rfl
  · intro pins H s e s' I c
    obtain ⟨_, _, _, _, _, _, _, _, _, _, _, _, h⟩ := c
    exact h.elim
end
end MP
set_option maxRecDepth 100000
set_option maxHeartbeats 4000000
/-! R2t: new objects by operations; the check of an expression. -/
namespace MP
open PySem PySem.Spec PyProof.Rows L2
def newOp : Opr → Bool
  | .lst | .mul | .lstOf | .sorted | .lstR1 | .lstR2 => true
  | .dict _ => true
  | _ => false
def dictArgs (n : Nat) (e : Expr) : Option (List Expr) :=
  match e with
  | .Dict ks vs _ => match n, ks, vs with
    | 0, [], [] => some []
    | 1, [some k], [v] => some [k, v]
    | _, _, _ => none
  | _ => none
def opArgs2 (C : SC) (sc : Scope) (o : Opr) (e : Expr) : Option (List Expr) := match o with
  | .dict n => dictArgs n e
  | _ => opArgs C sc o e
section
variable {C : SC} {G : Nms} {g : Gst} {X : Cx} {sc : Scope} {Wx : WX}
theorem tE_of_tN {m : ME} {e : Expr} (hLD : ∀ s u s', evalE g m s = .ok u s' → isLD u = true) (h : PE X e (tN G Wx g m)) : PE X e (tE G Wx g m) :=
  PEi h fun σ H Q q => by
    obtain ⟨W, s, r, q⟩ := q
    refine ⟨W, s, r, ?_⟩
    unfold newOf
    cases ev : evalE g m s with
    | stuck => rw [ev] at q; exact q
    | exc x s' => rw [ev] at q; exact q
    | ok u s' =>
      rw [ev] at q
      simp only [Rs.bind]
      rw [if_pos (hLD s u s' ev)]
      intro W' H' v e1 r1 hv
      obtain ⟨p, rfl, f, n, o, hn, c⟩ := hv
      exact freeze q e1 r1 n o hn c (hLD s u s' ev)
theorem mkDic_LD : ∀ (r : List U) (ks vs : List U) (u : U), mkDic r ks vs = some u → isLD u = true
  | [], ks, vs, u, h => by simp only [mkDic] at h; cases h; rfl
  | [_], _, _, _, h => by simp [mkDic] at h
  | k :: v :: r, ks, vs, u, h => by
    simp only [mkDic] at h
    split at h
    · exact mkDic_LD r _ _ u h
    · cases h
theorem dict_LD {n : Nat} {us : List U} {u : U} (h : opSem g (.dict n) us = some u) : isLD u = true := by
  have h : (if us.length == 2 * n then mkDic us [] [] else none) = some u := h
  split at h
  · exact mkDic_LD _ _ _ _ h
  · cases h
theorem op_soundN (D : Good C G g X sc) {o : Opr} {e : Expr} {es : List Expr} {ms : List ME} (hn : newOp o = true) (h : opArgs2 C sc o e = some es) (ha : Paired (PX G Wx g X) ms es) (hE : Paired (fun m e => PE X e (tE G Wx g m)) ms es) (hst : es.all notStar = true) : PE X e (tN G Wx g (.op o ms)) := by
  unfold opArgs2 at h
  split at h
  · rename_i n
    unfold dictArgs at h
    split at h
    · split at h
      · cases h; cases hE
        exact sd_nil
      · cases h
        obtain ⟨m1, m2, rfl, a1, a2⟩ := paired2 hE
        exact sd_one D.of a1 a2
      · cases h
    · cases h
  · unfold opArgs at h
    split at h
    · split at h
      · rename_i hb
        cases h
        obtain ⟨m1, m2, rfl, a1, a2⟩ := paired2 ha
        have hb := of_decide_eq_true hb
        cases o <;> first | (cases hn; done) | (exfalso; revert hb; simp [binOf]; done) | skip
        simp only [binOf, Option.some.injEq] at hb
        subst hb
        exact sn_mulE D.of a1 a2
      · cases h
    · split at h
      · rename_i hb
        simp only [Bool.and_eq_true, decide_eq_true_eq] at hb
        obtain ⟨_, rfl⟩ := hb
        cases hn
      · cases h
    · split at h
      · split at h
        · rename_i hb
          simp only [Bool.and_eq_true, decide_eq_true_eq] at hb
          exfalso
          have := hb.1
          cases o <;> first | (cases hn; done) | (revert this; simp [cmpOf]; done)
        · split at h
          · rename_i hb
            simp only [Bool.and_eq_true, decide_eq_true_eq] at hb
            obtain ⟨⟨_, rfl⟩, _⟩ := hb
            cases hn
          · cases h
      · cases h
    · split at h
      · rename_i hb
        simp only [Bool.and_eq_true, decide_eq_true_eq] at hb
        obtain ⟨rfl, _⟩ := hb
        cases hn
      · cases h
    · split at h
      · rename_i hb
        obtain rfl := of_decide_eq_true hb
        cases hn
      · cases h
    · split at h
      · rename_i hb
        obtain rfl := of_decide_eq_true hb
        cases h
        exact sn_lst (paE_of hE hst)
      · cases h
    · split at h
      · unfold callArgs at h
        split at h
        · cases hn
        · split at h
          · rename_i n k hf
            split at h
            · rename_i hb
              simp only [Bool.and_eq_true, beq_iff_eq] at hb
              cases h
              refine sn_fun D ?_ hf hb.1.1 hb.1.2 hb.2 ha
              cases o <;> first | (cases hn; done) | (exfalso; revert hf; simp [funOf]; done) | exact .inl rfl | exact .inr rfl
            · cases h
          · split at h
            · rename_i n m k hf
              split at h
              · split at h
                · rename_i hb
                  simp only [Bool.and_eq_true, beq_iff_eq] at hb
                  cases h
                  refine sn_nest D ?_ hf hb.1.1.1 hb.1.1.2 hb.1.2 hb.2 ha
                  cases o <;> first | (cases hn; done) | (exfalso; revert hf; simp [nestOf]; done) | exact .inl rfl | exact .inr rfl
                · cases h
              · cases h
            · cases h
      · split at h
        · rename_i hb
          simp only [Bool.and_eq_true, decide_eq_true_eq] at hb
          obtain ⟨⟨⟨rfl, _⟩, _⟩, _⟩ := hb
          cases hn
        · cases h
      · cases h
    · cases h
theorem op_sound2 (D : Good C G g X sc) {o : Opr} {e : Expr} {es : List Expr} {ms : List ME} (h : opArgs2 C sc o e = some es) (ha : Paired (PX G Wx g X) ms es) (hE : Paired (fun m e => PE X e (tE G Wx g m)) ms es) (hst : es.all notStar = true) : PE X e (tE G Wx g (.op o ms)) := by
  cases o with
  | dict n => exact tE_of_tN (fun s u s' e => let ⟨us, e⟩ := op_out e; dict_LD e) (op_soundN D rfl h ha hE hst)
  | _ => exact op_sound D h ha hE hst
end

/-! the check -/
def varB (C : SC) (sc : Scope) (i : Nat) : Expr → Bool
  | .Name x _ => decide (C.N[i]? = some x) && visB sc x && !(x == ("__debug__" : Str)) && !(x == ("__classdict__" : Str))
  | _ => false
/-- may stand as a test -/
def condE : Expr → Bool
  | .IfExp _ _ _ _ => false
  | _ => true
def ownP (C : SC) (own : List Nat) : List (Str × Nat) := own.map fun i => (C.N.getD i ⟨#[]⟩, i)
def loB (scope : Scope) (x : Str) : Bool := match scope.names.lookup x with
  | some .local => true
  | some .cell => true
  | _ => false
mutual
def chkE (C : SC) : ME → Scope → Expr → Bool
  | .var i, sc, e => varB C sc i e
  | .mv i, sc, e => varB C sc i e
  | .lit u, _, e => litOk u e
  | .glo n u, sc, e => match e with
    | .Name x _ => glB sc x && C.glo.any fun z => z.1 == x && z.2.1 == n && sameU z.2.2 u
    | _ => false
  | .op o ms, sc, e => match opArgs2 C sc o e with
    | some es => es.all notStar && chkEs C ms sc es
    | none => false
  | .and ms, sc, e => match e with
    | .BoolOp .And es _ => !es.isEmpty && es.all notStar && es.all condE && chkEs C ms sc es
    | _ => false
  | .or ms, sc, e => match e with
    | .BoolOp .Or es _ => !es.isEmpty && es.all notStar && es.all condE && chkEs C ms sc es
    | _ => false
  | .not m, sc, e => match e with
    | .UnaryOp .Not f _ => condE f && chkE C m sc f
    | _ => false
  | .ifx c a b, sc, e => match e with
    | .IfExp x y z _ => condE x && chkE C c sc x && chkE C a sc y && chkE C b sc z
    | _ => false
  | .chain o o' a b c, sc, e => match e with
    | .Compare x ops bs _ => (match ops, bs with
      | [p, q], [y, z] => decide (cmpOf o = some p) && decide (cmpOf o' = some q) && !lastMarks [p, q] [y, z] && chkE C a sc x && chkE C b sc y && chkE C c sc z
      | _, _ => false)
    | _ => false
  | .call f ms, sc, e => match e with
    | .Call (.Name x _) es [] _ => glB sc x && decide (C.fn.lookup x = some f) && !es.isEmpty && es.all notStar && chkEs C ms sc es
    | _ => false
  | .mut o m ms, sc, e => match e with
    | .Call (.Attribute r name apos) es [] cpos => (match mopOf o with
      | some (n, k) => name == Str.ofString n && es.length == k && es.all notStar && notBare r && (apos.endLine == cpos.line) && chkE C m sc r && chkEs C ms sc es
      | none => false)
    | _ => false
  | .share m, sc, e => newM m && plainC e && chkE C m sc e
  | .comp m t k its own cond, sc, e => match e with
    | .ListComp elt gens scope _ => (match gens with
      | [⟨tg, iter, ifs, as⟩] => decide (as = 0) && chkT C.N (loB scope) t tg && (asgT t).all (fun j => own.contains j) && (match itArgs sc k tg iter with
          | some es => es.all notStar && chkEs C its sc es
          | none => false) && blkC C.N sc scope (ownP C own) && chkO C cond (relS scope sc) ifs && chkE C m (relS scope sc) elt
      | _ => false)
    | _ => false
  | _, _, _ => false
def chkEs (C : SC) : List ME → Scope → List Expr → Bool
  | [], _, [] => true
  | m :: ms, sc, e :: es => chkE C m sc e && chkEs C ms sc es
  | _, _, _ => false
def chkO (C : SC) : Option ME → Scope → List Expr → Bool
  | none, _, [] => true
  | some m, sc, [e] => condE e && chkE C m sc e
  | _, _, _ => false
def newM : ME → Bool
  | .op o _ => newOp o
  | .comp _ _ _ _ _ _ => true
  | _ => false
end
end MP
set_option maxRecDepth 100000
set_option maxHeartbeats 4000000
/-! R2u: a checked expression does what the small program says. -/
namespace MP
open PySem PySem.Spec PyProof.Rows L2
def SE (G : Nms) (Wx : WX) (g : Gst) (X : Cx) (m : ME) (e : Expr) : Prop := PE X e (tE G Wx g m) ∧ PE X e (tArg G Wx g m) ∧ (newM m = true → PE X e (tN G Wx g m)) ∧ (condE e = true → PT X e (tCond G Wx g m))
section
variable {C : SC} {G : Nms} {g : Gst} {X : Cx} {sc : Scope} {Wx : WX} {k : Nat}
theorem SE.mk' {m : ME} {e : Expr} (h : PE X e (tE G Wx g m)) (hv : isVar m = false) (hN : newM m = true → PE X e (tN G Wx g m)) (hT : PE X e (tArg G Wx g m) → condE e = true → PT X e (tCond G Wx g m)) : SE G Wx g X m e :=
  have ha : PE X e (tArg G Wx g m) := PEi h fun σ H Q q => tArg_tE hv q
  ⟨h, ha, hN, hT ha⟩
theorem varB_is (D : Good C G g X sc) {i : Nat} {e : Expr} (h : varB C sc i e = true) : ∃ x p, e = .Name x p ∧ X.N[i]? = some x ∧ Vis X.env.scope x ∧ (x == ("__debug__" : Str)) = false ∧ (x == ("__classdict__" : Str)) = false := by
  cases e <;> first | cases h | skip
  rename_i x p
  simp only [varB, Bool.and_eq_true, decide_eq_true_eq, Bool.not_eq_true'] at h
  refine ⟨x, p, rfl, by rw [D.N]; exact h.1.1.1, ?_, h.1.2, h.2⟩
  have hv := h.1.1.2
  unfold visB at hv
  unfold Vis
  rw [D.scp]
  split at hv
  · exact .inl (by assumption)
  · exact .inr (.inl (by assumption))
  · exact .inr (.inr (by assumption))
  · cases hv
theorem op_cond (D : Good C G g X sc) {o : Opr} {e : Expr} {es : List Expr} {ms : List ME} (h : opArgs2 C sc o e = some es) (ha : Paired (PX G Wx g X) ms es) (hp : PE X e (tArg G Wx g (.op o ms))) : PT X e (tCond G Wx g (.op o ms)) := by
  by_cases hc : plainC e = true
  · exact pt_gen D.of hc hp
  · unfold opArgs2 at h
    split at h
    · unfold dictArgs at h
      split at h
      · exact absurd rfl hc
      · cases h
    · unfold opArgs at h
      split at h <;> first | exact absurd rfl hc | skip
      · split at h
        · rename_i hb
          simp only [Bool.and_eq_true, decide_eq_true_eq] at hb
          obtain ⟨rfl, _⟩ := hb
          exact absurd rfl hc
        · cases h
      · split at h
        · split at h
          · rename_i hb
            simp only [Bool.and_eq_true, decide_eq_true_eq, Bool.not_eq_true'] at hb
            cases h
            obtain ⟨m1, m2, rfl, a1, a2⟩ := paired2 ha
            exact st_cmp D.of hb.1 hb.2 a1 a2
          · split at h
            · rename_i hb
              simp only [Bool.and_eq_true, decide_eq_true_eq] at hb
              obtain ⟨⟨rfl, rfl⟩, hn⟩ := hb
              cases h
              obtain ⟨m1, rfl, a1⟩ := paired1 ha
              exact st_isN D.of hn a1
            · cases h
        · cases h
      · cases h
theorem SE.px {ms : List ME} {es : List Expr} (h : Paired (SE G Wx g X) ms es) : Paired (PX G Wx g X) ms es := by
  induction h with
  | nil => exact .nil
  | cons a _ ih => exact .cons a.2.1 ih
theorem SE.pe {ms : List ME} {es : List Expr} (h : Paired (SE G Wx g X) ms es) : Paired (fun m e => PE X e (tE G Wx g m)) ms es := by
  induction h with
  | nil => exact .nil
  | cons a _ ih => exact .cons a.1 ih
theorem SE.pt {ms : List ME} {es : List Expr} (h : Paired (SE G Wx g X) ms es) (hc : es.all condE = true) : Paired (fun m e => PT X e (tCond G Wx g m)) ms es := by
  induction h with
  | nil => exact .nil
  | cons a _ ih =>
    simp only [List.all_cons, Bool.and_eq_true] at hc
    exact .cons (a.2.2.2 hc.1) (ih hc.2)
theorem ownP_snd (C : SC) (own : List Nat) : (ownP C own).map (·.2) = own := by
  unfold ownP
  rw [List.map_map]
  have : (fun i : Nat => ((C.N.getD i ⟨#[]⟩, i) : Str × Nat).2) = id := by funext i; rfl
  show own.map (fun i : Nat => ((C.N.getD i ⟨#[]⟩, i) : Str × Nat).2) = own
  rw [this, List.map_id]
theorem loB_ok {scope : Scope} {x : Str} (h : loB scope x = true) : scope.names.lookup x = some .local ∨ scope.names.lookup x = some .cell := by
  unfold loB at h
  split at h
  · exact .inl (by assumption)
  · exact .inr (by assumption)
  · cases h
end
section
variable {C : SC} {G : Nms} {g : Gst} {k : Nat}
mutual
theorem sE : ∀ (m : ME) {X : Cx} {sc : Scope} {Wx : WX} (e : Expr), Full C G g k X sc Wx → chkE C m sc e = true → SE G Wx g X m e
  | .var i, X, sc, Wx, e, D, h => by
    simp only [chkE] at h
    obtain ⟨x, p, rfl, h1, h2, h3, h4⟩ := varB_is D.good h
    have ha : PE X (.Name x p) (tArg G Wx g (.var i)) := arg_var h1 h2 h3 h4
    exact ⟨ex_var h1 h2 h3 h4, ha, fun z => by simp [newM] at z, fun _ => pt_gen D.good.of rfl ha⟩
  | .mv i, X, sc, Wx, e, D, h => by
    simp only [chkE] at h
    obtain ⟨x, p, rfl, h1, h2, h3, h4⟩ := varB_is D.good h
    exact SE.mk' (ex_mv h1 h2 h3 h4) rfl (fun z => by simp [newM] at z) fun ha _ => pt_gen D.good.of rfl ha
  | .lit u, X, sc, Wx, e, D, h => by
    simp only [chkE] at h
    refine SE.mk' (se_lit h) rfl (fun z => by simp [newM] at z) fun ha _ => pt_gen D.good.of ?_ ha
    unfold litOk at h
    split at h <;> first | rfl | cases h
  | .glo n u, X, sc, Wx, e, D, h => by
    simp only [chkE] at h
    split at h
    · rename_i x p
      simp only [Bool.and_eq_true, List.any_eq_true, beq_iff_eq] at h
      obtain ⟨h1, ⟨y, n', u'⟩, hm, ⟨rfl, rfl⟩, hs⟩ := h
      obtain rfl := sameU_eq _ _ hs
      exact SE.mk' (se_glo D.good h1 hm) rfl (fun z => by simp [newM] at z) fun ha _ => pt_gen D.good.of rfl ha
    · cases h
  | .op o ms, X, sc, Wx, e, D, h => by
    simp only [chkE] at h
    cases eo : opArgs2 C sc o e with
    | none => rw [eo] at h; cases h
    | some es =>
      rw [eo] at h
      simp only [Bool.and_eq_true] at h
      have ih := sEs ms es D h.2
      exact SE.mk' (op_sound2 D.good eo (SE.px ih) (SE.pe ih) h.1) rfl (fun z => op_soundN D.good (by simpa only [newM] using z) eo (SE.px ih) (SE.pe ih) h.1) fun ha _ => op_cond D.good eo (SE.px ih) ha
  | .and ms, X, sc, Wx, e, D, h => by
    simp only [chkE] at h
    split at h
    · rename_i es p
      simp only [Bool.and_eq_true, Bool.not_eq_true'] at h
      have ih := sEs ms es D h.2
      have hne : es ≠ [] := fun z => by rw [z] at h; simp at h
      exact SE.mk' (se_and (SE.pe ih) hne) rfl (fun z => by simp [newM] at z) fun _ _ => (sw_and (SE.pt ih h.1.2) hne).pt
    · cases h
  | .or ms, X, sc, Wx, e, D, h => by
    simp only [chkE] at h
    split at h
    · rename_i es p
      simp only [Bool.and_eq_true, Bool.not_eq_true'] at h
      have ih := sEs ms es D h.2
      have hne : es ≠ [] := fun z => by rw [z] at h; simp at h
      exact SE.mk' (se_or (SE.pe ih) hne) rfl (fun z => by simp [newM] at z) fun _ _ => (sw_or (SE.pt ih h.1.2) hne).pt
    · cases h
  | .not m, X, sc, Wx, e, D, h => by
    simp only [chkE] at h
    split at h
    · rename_i f p
      simp only [Bool.and_eq_true] at h
      have ih := sE m f D h.2
      exact SE.mk' (se_not D.good.of ih.2.1) rfl (fun z => by simp [newM] at z) fun _ _ => st_not (ih.2.2.2 h.1)
    · cases h
  | .ifx c a b, X, sc, Wx, e, D, h => by
    simp only [chkE] at h
    split at h
    · rename_i x y z p
      simp only [Bool.and_eq_true] at h
      have i1 := sE c x D h.1.1.2
      have i2 := sE a y D h.1.2
      have i3 := sE b z D h.2
      exact SE.mk' (se_ifx (i1.2.2.2 h.1.1.1) i2.1 i3.1) rfl (fun z => by simp [newM] at z) fun _ z => by simp [condE] at z
    · cases h
  | .chain o o' a b c, X, sc, Wx, e, D, h => by
    simp only [chkE] at h
    split at h
    · split at h
      · rename_i p q y z
        simp only [Bool.and_eq_true, decide_eq_true_eq, Bool.not_eq_true'] at h
        have i1 := sE a _ D h.1.1.2
        have i2 := sE b _ D h.1.2
        have i3 := sE c _ D h.2
        exact SE.mk' (se_chain D.good.of h.1.1.1.1.1 h.1.1.1.1.2 h.1.1.1.2 i1.1 i2.1 i3.1).1 rfl (fun z => by simp [newM] at z) fun _ _ => (se_chain D.good.of h.1.1.1.1.1 h.1.1.1.1.2 h.1.1.1.2 i1.1 i2.1 i3.1).2
      · cases h
    · cases h
  | .call f ms, X, sc, Wx, e, D, h => by
    simp only [chkE] at h
    split at h
    · rename_i x p es p2
      simp only [Bool.and_eq_true, decide_eq_true_eq, Bool.not_eq_true'] at h
      have ih := sEs ms es D h.2
      cases es with
      | nil => simp at h
      | cons e1 es => exact SE.mk' (se_call D h.1.1.1.1 h.1.1.1.2 h.1.2 (SE.pe ih)) rfl (fun z => by simp [newM] at z) fun ha _ => pt_gen D.good.of rfl ha
    · cases h
  | .callv _ _, X, sc, Wx, e, D, h => by simp [chkE] at h
  | .meth _ _ _, X, sc, Wx, e, D, h => by simp [chkE] at h
  | .lam _ _, X, sc, Wx, e, D, h => by simp [chkE] at h
  | .mut o m ms, X, sc, Wx, e, D, h => by
    simp only [chkE] at h
    split at h
    · rename_i r name apos es cpos
      cases hm : mopOf o with
      | none => rw [hm] at h; cases h
      | some nk =>
        obtain ⟨n, kk⟩ := nk
        rw [hm] at h
        simp only [Bool.and_eq_true, beq_iff_eq] at h
        have i1 := sE m r D h.1.2
        have ih := sEs ms es D h.2
        exact SE.mk' (se_mut D.good.of hm h.1.1.1.1.1.1 h.1.1.1.1.1.2 h.1.1.1.1.2 h.1.1.1.2 (by simpa using h.1.1.2) i1.2.1 (SE.pe ih)) rfl (fun z => by simp [newM] at z) fun ha _ => pt_gen D.good.of rfl ha
    · cases h
  | .share m, X, sc, Wx, e, D, h => by
    simp only [chkE, Bool.and_eq_true] at h
    have i1 := sE m e D h.2
    have h1 : PE X e (tE G Wx g (.share m)) := PEi (i1.2.2.1 h.1.1) fun σ H Q q => tE_share q
    exact SE.mk' h1 rfl (fun z => by simp [newM] at z) fun ha hc => pt_gen D.good.of h.1.2 ha
  | .comp m t kk its own cond, X, sc, Wx, e, D, h => by
    simp only [chkE] at h
    split at h
    · rename_i elt gens scope p
      split at h
      · rename_i tg iter ifs as
        simp only [Bool.and_eq_true, decide_eq_true_eq] at h
        obtain ⟨⟨⟨⟨⟨⟨h1, h2⟩, h3⟩, h4⟩, h5⟩, h6⟩, h7⟩ := h
        subst h1
        cases hi : itArgs sc kk tg iter with
        | none => rw [hi] at h4; cases h4
        | some es =>
        rw [hi] at h4
        simp only [Bool.and_eq_true] at h4
        have ih := sEs its es D h4.2
        obtain ⟨pi, hset⟩ := pi_walk (tg := tg) D.good hi (SE.px ih)
        have nd : X.N.Nodup := by rw [D.good.N]; exact D.good.s0.nd
        have hasg : ∀ j ∈ asgT t, j ∈ own := fun j hj => by
          have := List.all_eq_true.mp h3 j hj
          simpa using this
        have blk : BlkOk X.N X.env.scope scope (ownP C own) := by
          rw [D.good.N, D.good.scp]; exact blkOk_by h5
        have F : ∀ (s : Shared) (H : Hp) (C' : Addr) (cl : List (Str × Addr)) (fp : List Addr), Full C G g k (X.blk s H scope (compEnvC scope cl C' X.env) fp) (relS scope sc) WF := fun s H C' cl fp => D.blk s H scope C' cl fp
        have pg : ∀ (s : Shared) (H : Hp) (C' : Addr) (cl : List (Str × Addr)) (fp : List Addr), PG (X.blk s H scope (compEnvC scope cl C' X.env) fp) tg (gT X.K t) := fun s H C' cl fp => by
          have Fx := F s H C' cl fp
          refine pg_T (X := X.blk s H scope (compEnvC scope cl C' X.env) fp) (lo := loB scope) Fx.good.calm nd (fun x hx => ?_) t tg (by show chkT X.N _ _ _ = true; rw [D.good.N]; exact h2)
          have hrel : (X.blk s H scope (compEnvC scope cl C' X.env) fp).env.scope = relS scope X.env.scope := rfl
          rw [hrel]
          rcases loB_ok hx with q | q
          · have := lookup_relS_keep (sc := X.env.scope) (by simp) q
            exact ⟨.inl this, .inr this⟩
          · have := lookup_relS_keep (sc := X.env.scope) (by simp) q
            exact ⟨.inr this, .inl (by show (scope.names.lookup x == some .cell) = true; rw [q]; rfl)⟩
        have pe := pe_lc (pos := p) D.good.calm nd pi blk pg (fun s H C' cl fp => sO cond ifs (F s H C' cl fp) h6) (fun s H C' cl fp => (sE m elt (F s H C' cl fp) h7).1) hset
        rw [ownP_snd] at pe
        exact SE.mk' (PEi pe fun σ H Q q => comp_tLc D.good.of.K hasg (.inl q)) rfl (fun _ => PEi pe fun σ H Q q => comp_tLc D.good.of.K hasg (.inr q)) fun ha _ => pt_gen D.good.of rfl ha
      · cases h
    · cases h
theorem sEs : ∀ (ms : List ME) {X : Cx} {sc : Scope} {Wx : WX} (es : List Expr), Full C G g k X sc Wx → chkEs C ms sc es = true → Paired (SE G Wx g X) ms es
  | [], X, sc, Wx, [], D, _ => .nil
  | m :: ms, X, sc, Wx, e :: es, D, h => by
    simp only [chkEs, Bool.and_eq_true] at h
    exact .cons (sE m e D h.1) (sEs ms es D h.2)
  | [], X, sc, Wx, _ :: _, D, h => by simp [chkEs] at h
  | _ :: _, X, sc, Wx, [], D, h => by simp [chkEs] at h
theorem sO : ∀ (c : Option ME) {X : Cx} {sc : Scope} (es : List Expr), Full C G g k X sc WF → chkO C c sc es = true → PTs X es (tt G g c)
  | none, X, sc, [], D, _ => pts_nil
  | some m, X, sc, [e], D, h => by
    simp only [chkO, Bool.and_eq_true] at h
    exact pts_one ((sE m e D h.2).2.2.2 h.1)
  | none, X, sc, _ :: _, D, h => by simp [chkO] at h
  | some _, X, sc, [], D, h => by simp [chkO] at h
  | some _, X, sc, _ :: _ :: _, D, h => by simp [chkO] at h
end
end
end MP
set_option maxRecDepth 100000
set_option maxHeartbeats 4000000
/-! R3a: what a statement may change; statements' readings. -/
namespace MP
open PySem PySem.Spec PyProof.Rows L2
/-- what a statement may change: it assigns the names of A -/
structure ExS (A : List Nat) (s s' : Sta) (σ σ' : L2.St) (W W' : Wd) (H H' : Hp) : Prop where
  le : W.le W'
  kp : Kp W H H'
  fr : ∀ a o, H a = some o → a ∉ W.al → ¬ Ownd s σ a → H' a = some o
  new : ∀ a, ((W'.fz a ∧ ¬ W.fz a) ∨ (a ∈ W'.al ∧ a ∉ W.al)) → H a = none ∨ Ownd s σ a ∨ a ∈ W.al
  own : ∀ a, Ownd s' σ' a → H a = none ∨ Ownd s σ a ∨ a ∈ W.al
  keep : ∀ j, j ∉ A → σ'[j]? = σ[j]?
  len : s'.r.length = s.r.length
section
variable {A B : List Nat} {s s1 s2 : Sta} {σ σ1 σ2 : L2.St} {W W1 W2 : Wd} {H H1 H2 : Hp}
theorem Ext.toS (e : Ext s s1 σ W W1 H H1) : ExS A s s1 σ σ W W1 H H1 := ⟨e.le, e.kp, e.fr, e.new, fun a h => .inr (.inl (h.mono e.own)), fun _ _ => rfl, e.len⟩
theorem ExS.refl : ExS A s s σ σ W W H H := (Ext.refl s σ W H).toS
theorem ExS.none (e : ExS A s s1 σ σ1 W W1 H H1) {x : Addr} (h1 : H1 x = Option.none) : H x = Option.none ∨ Ownd s σ x ∨ x ∈ W.al := by
  cases q : H x with
  | none => exact .inl rfl
  | some o =>
    by_cases h2 : x ∈ W.al
    · exact .inr (.inr h2)
    · by_cases h3 : Ownd s σ x
      · exact .inr (.inl h3)
      · have z := e.fr x o q h2 h3
        rw [h1] at z; cases z
theorem ExS.al (e : ExS A s s1 σ σ1 W W1 H H1) {x : Addr} (h : x ∈ W1.al) : H x = Option.none ∨ Ownd s σ x ∨ x ∈ W.al := by
  by_cases h2 : x ∈ W.al
  · exact .inr (.inr h2)
  · exact e.new x (.inr ⟨h, h2⟩)
theorem ExS.trans (a : ExS A s s1 σ σ1 W W1 H H1) (b : ExS A s1 s2 σ1 σ2 W1 W2 H1 H2) : ExS A s s2 σ σ2 W W2 H H2 := by
  have lift : ∀ {x}, (H1 x = Option.none ∨ Ownd s1 σ1 x ∨ x ∈ W1.al) → H x = Option.none ∨ Ownd s σ x ∨ x ∈ W.al := fun h => by
    rcases h with h | h | h
    · exact a.none h
    · exact a.own _ h
    · exact a.al h
  refine ⟨a.le.trans b.le, a.kp.trans a.le b.kp, fun x o h h1 h2 => b.fr x o (a.fr x o h h1 h2) (fun z => ?_) (fun z => ?_), fun x h => ?_, fun x h => lift (b.own x h), fun j hj => (b.keep j hj).trans (a.keep j hj), b.len.trans a.len⟩
  · rcases a.al z with q | q | q
    · rw [h] at q; cases q
    · exact h2 q
    · exact h1 q
  · rcases a.own x z with q | q | q
    · rw [h] at q; cases q
    · exact h2 q
    · exact h1 q
  · rcases h with ⟨h1, h2⟩ | ⟨h1, h2⟩
    · by_cases h3 : W1.fz x
      · exact a.new x (.inl ⟨h3, h2⟩)
      · exact lift (b.new x (.inl ⟨h1, h3⟩))
    · by_cases h3 : x ∈ W1.al
      · exact a.new x (.inr ⟨h3, h2⟩)
      · exact lift (b.new x (.inr ⟨h1, h3⟩))
theorem ExS.sub (e : ExS A s s1 σ σ1 W W1 H H1) (h : ∀ j ∈ A, j ∈ B) : ExS B s s1 σ σ1 W W1 H H1 := ⟨e.le, e.kp, e.fr, e.new, e.own, fun j hj => e.keep j fun z => hj (h j z), e.len⟩
end
/-- what is wanted behind a statement -/
def tX (G : Nms) (Wx : WX) (A : List Nat) (D : Ends) (r : Rs Fl) (W : Wd) (s : Sta) (σ : L2.St) (H : Hp) : Prop := match r with
  | .ok fl s' => ∀ W' σ' H', ExS A s s' σ σ' W W' H H' → RelFr G W' s' σ' H' → (match fl with
    | .next => D.nx σ' H'
    | .brk => D.bk σ' H'
    | .cont => D.ct σ' H'
    | .ret u => ∀ v, RepV G W' H' u v → D.rt v H')
  | .exc e s' => ∀ W' σ' H' cls d, ExS A s s' σ σ' W W' H H' → RelFr G W' s' σ' H' → ExcOk G W' H' e cls d → Wx cls d σ' H'
  | .stuck => False
section
variable {G : Nms} {Wx : WX} {g : Gst} {A B : List Nat} {D : Ends} {s s1 s2 : Sta} {σ σ1 σ2 : L2.St} {W W1 W2 : Wd} {H H1 H2 : Hp}
theorem tX.shift {r : Rs Fl} (e : ExS A s s1 σ σ1 W W1 H H1) (h : tX G Wx A D r W s σ H) : tX G Wx A D r W1 s1 σ1 H1 := by
  cases r with
  | ok fl s' => exact fun W' σ' H' e' r' => h W' σ' H' (e.trans e') r'
  | exc x s' => exact fun W' σ' H' cls d e' r' => h W' σ' H' cls d (e.trans e') r'
  | stuck => exact h
theorem tX.sub {r : Rs Fl} (h : tX G Wx B D r W s σ H) (hs : ∀ j ∈ A, j ∈ B) : tX G Wx A D r W s σ H := by
  cases r with
  | ok fl s' => exact fun W' σ' H' e' r' => h W' σ' H' (e'.sub hs) r'
  | exc x s' => exact fun W' σ' H' cls d e' r' => h W' σ' H' cls d (e'.sub hs) r'
  | stuck => exact h
/-- an expression ahead -/
theorem tX.bindE {α β : Type} {f : Sta → Rs α} {k : α → Sta → Rs Fl} (R : L2.St → Wd → Sta → Hp → α → β → Prop) (r : RelFr G W s σ H) (h : tX G Wx A D ((f s).bind k) W s σ H) :
    tR G Wx f R σ H fun b H1 => ∃ a W1 s1, RelFr G W1 s1 σ H1 ∧ R σ W1 s1 H1 a b ∧ tX G Wx A D (k a s1) W1 s1 σ H1 := by
  refine ⟨W, s, r, ?_⟩
  cases e : f s with
  | stuck => rw [e] at h; exact h
  | exc x s' => rw [e] at h; exact fun W' H' cls d e' r' hx => h W' σ H' cls d e'.toS r' hx
  | ok a s' =>
    rw [e] at h
    exact fun W' H' b e' r' rr => ⟨a, W', s', r', rr, h.shift e'.toS⟩
end
end MP
set_option maxRecDepth 100000
set_option maxHeartbeats 4000000
/-! R3b: simple statements, suites, if. -/
namespace MP
open PySem PySem.Spec PyProof.Rows L2
mutual
/-- the slots that a statement may fill -/
def asgS : MS → List Nat
  | .set t _ => asgT t
  | .own i _ => [i]
  | .par i j _ _ => [i, j]
  | .aug i _ _ => [i]
  | .ife _ a b => asgSs a ++ asgSs b
  | .whil _ b => asgSs b
  | .forr t _ _ b => asgT t ++ asgSs b
  | .tri b hs => asgSs b ++ asgHs hs
  | _ => []
def asgSs : List MS → List Nat
  | [] => []
  | m :: ms => asgS m ++ asgSs ms
def asgHs : List (Nat × Option Nat × List MS) → List Nat
  | [] => []
  | (_, n, b) :: hs => (match n with | some i => [i] | none => []) ++ asgSs b ++ asgHs hs
end
def tS (G : Nms) (Wx : WX) (g : Gst) (m : MS) : TS := fun D σ H => ∃ W s, RelFr G W s σ H ∧ tX G Wx (asgS m) D (execS g m s) W s σ H
def tSs (G : Nms) (Wx : WX) (g : Gst) (ms : List MS) : TS := fun D σ H => ∃ W s, RelFr G W s σ H ∧ tX G Wx (asgSs ms) D (execs g ms s) W s σ H
theorem PSi {X : Cx} {st : Stmt} {t t' : TS} (h : PS X st t) (hi : ∀ D σ H, t' D σ H → t D σ H) : PS X st t' := ⟨fun pins s σ H D I q => h.run pins s σ H D I (hi D σ H q)⟩
theorem PSsi {X : Cx} {st : List Stmt} {t t' : TS} (h : PSs X st t) (hi : ∀ D σ H, t' D σ H → t D σ H) : PSs X st t' := ⟨fun pins s σ H D I q => h.run pins s σ H D I (hi D σ H q)⟩
section
variable {C : SC} {G : Nms} {Wx : WX} {g : Gst} {X : Cx} {A B : List Nat} {D : Ends} {s s1 s2 : Sta} {σ σ1 σ2 : L2.St} {W W1 W2 : Wd} {H H1 H2 : Hp} {pos : Pos}
theorem pss_nil' : PSs X [] (tSs G Wx g []) := PSsi pss_nil fun D σ H ⟨W, s, r, h⟩ => by
  unfold execs at h
  exact h W σ H .refl r
theorem seq_of {m : MS} {ms : List MS} (h : tSs G Wx g (m :: ms) D σ H) : tSeq (tS G Wx g m) (tSs G Wx g ms) D σ H := by
  obtain ⟨W, s, r, h⟩ := h
  unfold execs at h
  refine ⟨W, s, r, ?_⟩
  have sub1 : ∀ j ∈ asgS m, j ∈ asgSs (m :: ms) := fun j hj => by simp only [asgSs, List.mem_append]; exact .inl hj
  have sub2 : ∀ j ∈ asgSs ms, j ∈ asgSs (m :: ms) := fun j hj => by simp only [asgSs, List.mem_append]; exact .inr hj
  cases e : execS g m s with
  | stuck => rw [e] at h; exact h
  | exc x s' => rw [e] at h; exact fun W' σ' H' cls d e' r' hx => h W' σ' H' cls d (e'.sub sub1) r' hx
  | ok fl s' =>
    rw [e] at h
    simp only [Rs.bind] at h
    intro W' σ' H' e' r'
    cases fl with
    | next => exact ⟨W', s', r', (h.shift (e'.sub sub1)).sub sub2⟩
    | brk => exact h W' σ' H' (e'.sub sub1) r'
    | cont => exact h W' σ' H' (e'.sub sub1) r'
    | ret u => exact h W' σ' H' (e'.sub sub1) r'
theorem pss_cons' {st : Stmt} {sts : List Stmt} {m : MS} {ms : List MS} (h1 : PS X st (tS G Wx g m)) (h2 : PSs X sts (tSs G Wx g ms)) : PSs X (st :: sts) (tSs G Wx g (m :: ms)) :=
  PSsi (pss_cons h1 h2) fun D σ H h => seq_of h
/-- no comprehension -/
def notComp : Expr → Bool
  | .ListComp _ _ _ _ => false
  | .SetComp _ _ _ _ => false
  | .DictComp _ _ _ _ _ => false
  | _ => true
theorem sw_no {e : Expr} {t : Option Expr} {l : Nat} {env : Env} (h : notComp e = true) : swapsWith e t l env = pure false := by
  cases e <;> first | rfl | cases h
theorem ss_expr {e : Expr} {m : ME} (hc : notComp e = true) (h : PE X e (tE G Wx g m)) : PS X (.Expr e pos) (tS G Wx g (.expr m)) :=
  PSi (ps_expr h (sw_no hc)) fun D σ H ⟨W, s, r, q⟩ => by
    have e0 : execS g (.expr m) s = (evalE g m s).bind fun _ s => .ok .next s := by conv => lhs; unfold execS
    rw [e0] at q
    refine tR_mono (tX.bindE (fun _ => RV G) r q) fun v H1 ⟨a, W1, s1, r1, ra, k⟩ => k W1 σ H1 .refl r1
theorem ss_ret {e : Expr} {m : ME} (h : PE X e (tE G Wx g m)) : PS X (.Return (some e) pos) (tS G Wx g (.ret m)) :=
  PSi (ps_ret h) fun D σ H ⟨W, s, r, q⟩ => by
    have e0 : execS g (.ret m) s = (evalE g m s).bind fun u s => .ok (.ret u) s := by conv => lhs; unfold execS
    rw [e0] at q
    refine tR_mono (tX.bindE (fun _ => RV G) r q) fun v H1 ⟨a, W1, s1, r1, ra, k⟩ => k W1 σ H1 .refl r1 v ra
theorem ss_pass : PS X (.Pass pos) (tS G Wx g .pass) := PSi ps_pass fun D σ H ⟨W, s, r, q⟩ => by
  unfold execS at q
  exact q W σ H .refl r
theorem ss_brk : PS X (.Break pos) (tS G Wx g .brk) := PSi ps_break fun D σ H ⟨W, s, r, q⟩ => by
  unfold execS at q
  exact q W σ H .refl r
theorem ss_cont : PS X (.Continue pos) (tS G Wx g .cont) := PSi ps_continue fun D σ H ⟨W, s, r, q⟩ => by
  unfold execS at q
  exact q W σ H .refl r
theorem ss_if {c : Expr} {a b : List Stmt} {m : ME} {ma mb : List MS} (hc : PT X c (tCond G Wx g m)) (ha : PSs X a (tSs G Wx g ma)) (hb : PSs X b (tSs G Wx g mb)) : PS X (.If c a b pos) (tS G Wx g (.ife m ma mb)) :=
  PSi (ps_if hc ha hb) fun D σ H ⟨W, s, r, q⟩ => by
    have e0 : execS g (.ife m ma mb) s = (condOf (fun s => evalE g m s) m s).bind fun x s => if x then execs g ma s else execs g mb s := by conv => lhs; unfold execS
    rw [e0] at q
    have sub1 : ∀ j ∈ asgSs ma, j ∈ asgS (.ife m ma mb) := fun j hj => by simp only [asgS, List.mem_append]; exact .inl hj
    have sub2 : ∀ j ∈ asgSs mb, j ∈ asgS (.ife m ma mb) := fun j hj => by simp only [asgS, List.mem_append]; exact .inr hj
    refine tR_mono (tX.bindE (fun _ => RB) r q) fun b H1 ⟨x, W1, s1, r1, ra, k⟩ => ?_
    have ra : x = b := ra
    subst ra
    cases x with
    | true => exact ⟨W1, s1, r1, tX.sub k sub1⟩
    | false => exact ⟨W1, s1, r1, tX.sub k sub2⟩
end
end MP
set_option maxRecDepth 100000
set_option maxHeartbeats 4000000
/-! R3c: names set. -/
namespace MP
open PySem PySem.Spec PyProof.Rows L2
section
variable {C : SC} {G : Nms} {Wx : WX} {g : Gst} {X : Cx} {A B : List Nat} {D : Ends} {s s1 s2 : Sta} {σ σ1 σ2 : L2.St} {W W1 W2 : Wd} {H H1 H2 : Hp} {pos : Pos}
def notTups : Expr → Expr → Bool
  | .Tuple _ _ _, .Tuple _ _ _ => false
  | .List _ _, _ => false
  | _, _ => true
theorem stores_no {tg e : Expr} {env : Env} (h : notTups tg e = true) : swappedStores [tg] e env = pure none := by
  cases tg <;> first | rfl | (cases h; done) | (cases e <;> first | rfl | cases h)
theorem bind_ExS {t : Tg} {u : U} (hb : bindT t u s = some s1) (keep : ∀ j, j ∉ asgT t → σ1[j]? = σ[j]?) (own : ∀ a, Ownd s1 σ1 a → Ownd s σ a) : ExS (asgT t) s s1 σ σ1 W W H H :=
  ⟨.refl W, .refl W H, fun _ _ h _ _ => h, fun a h => by rcases h with ⟨h1, h2⟩ | ⟨h1, h2⟩ <;> exact absurd h1 h2, fun a h => .inr (.inl (own a h)), keep, bindT_len hb⟩
theorem ss_setG {tg e : Expr} {t : Tg} {m : ME} (hK : X.K = G.K) (hc : swapsWithSole [tg] e pos.line X.env = pure false) (hw : notTups tg e = true) (he : PE X e (tE G Wx g m)) (hg : PG X tg (gT X.K t)) (h1 : (assignEach [tg] X.env).map (·.2) = [assign tg X.env]) : PS X (.Assign [tg] e pos) (tS G Wx g (.set t m)) :=
  PSi (ps_asg he hg hc (stores_no hw) h1) fun D σ H ⟨W, s, r, q⟩ => by
    have e0 : execS g (.set t m) s = (evalE g m s).bind fun u s => match bindT t u s with | some s => .ok .next s | none => .stuck := by
      conv => lhs; unfold execS
      try rfl
    rw [e0] at q
    refine tR_mono (tX.bindE (fun _ => RV G) r q) fun v H1 ⟨u, W1, s1, r1, ra, k⟩ => ?_
    cases hb : bindT t u s1 with
    | none => rw [hb] at k; exact k.elim
    | some s2 =>
      rw [hb] at k
      exact gT_ok X.K hK t u s1 s2 v σ _ hb r1 ra fun σ' r' keep _ mo => k W1 σ' H1 (by simpa only [asgS] using bind_ExS hb keep mo.2) r'
theorem ss_set {tg e : Expr} {t : Tg} {m : ME} (hK : X.K = G.K) (hc : notComp e = true) (hw : notTups tg e = true) (he : PE X e (tE G Wx g m)) (hg : PG X tg (gT X.K t)) (h1 : (assignEach [tg] X.env).map (·.2) = [assign tg X.env]) : PS X (.Assign [tg] e pos) (tS G Wx g (.set t m)) :=
  ss_setG hK (show swapsWithSole [tg] e _ X.env = pure false from sw_no hc) hw he hg h1
theorem RelFr.setOwn (r : RelFr G W s σ H) {i : Nat} (hi : i < s.r.length) {u : U} {p : Addr} (f : ¬ W.fz p) (n : p ∉ W.al) (o : ¬ Ownd s σ p) (c : Cont G W H p u) : RelFr G W (s.put i (.own u)) (σ.set i (some (.ref p))) H := by
  have hi' : i < σ.length := by rw [← r.len]; exact hi
  refine ⟨?_, fun j x hj => ?_, fun j k u1 u2 a jk h1 h2 a1 a2 => ?_, r.m⟩
  · show (s.r.set i _).length = _
    rw [List.length_set, List.length_set]; exact r.len
  · rw [slot_put _ _ _ _ hi] at hj
    rw [List.getElem?_set]
    split at hj
    · rename_i e; subst e
      cases hj
      rw [if_pos rfl, if_pos hi']
      exact ⟨_, rfl, p, rfl, f, n, c⟩
    · rename_i e
      rw [if_neg e]
      exact r.slt j x hj
  · rw [slot_put _ _ _ _ hi] at h1 h2
    rw [List.getElem?_set] at a1 a2
    split at h1
    · rename_i e1; subst e1
      rw [if_pos rfl, if_pos hi'] at a1
      have ha : p = a := by
        have := Option.some.inj (Option.some.inj a1)
        injection this
      subst ha
      split at h2
      · rename_i e2; exact jk e2
      · rename_i e2
        rw [if_neg e2] at a2
        exact o ⟨k, u2, h2, a2⟩
    · rename_i e1
      rw [if_neg e1] at a1
      split at h2
      · rename_i e2; subst e2
        rw [if_pos rfl, if_pos hi'] at a2
        have ha : p = a := by
          have := Option.some.inj (Option.some.inj a2)
          injection this
        subst ha
        exact o ⟨j, u1, h1, a1⟩
      · rename_i e2
        rw [if_neg e2] at a2
        exact r.apart j k u1 u2 a jk h1 h2 a1 a2
theorem ss_own {x : Str} {px : Pos} {e : Expr} {i : Nat} {m : ME} (hi : i < X.N.length) (hl : ∀ {pins σ H s}, Inv X pins σ H s → σ.length = X.N.length) (hc : notComp e = true) (he : PE X e (tN G Wx g m)) (hg : PG X (.Name x px) (gName i)) : PS X (.Assign [.Name x px] e pos) (tS G Wx g (.own i m)) := by
  have hp := ps_asg (pos := pos) he hg (show swapsWith e (some (.Name x px)) pos.line X.env = pure false from sw_no hc) (stores_no (tg := .Name x px) (by cases e <;> rfl))
  refine ⟨fun pins s0 σ H D I ⟨W, s, r, q⟩ => hp.run pins s0 σ H D I ?_⟩
  have e0 : execS g (.own i m) s = (newOf (evalE g m s)).bind fun u s => .ok .next (s.put i (.own u)) := by conv => lhs; unfold execS
  rw [e0] at q
  refine ⟨W, s, r, ?_⟩
  cases ev : newOf (evalE g m s) with
  | stuck => rw [ev] at q; exact q
  | exc x s' => rw [ev] at q; exact fun W' H' cls d e' r' hx => q W' σ H' cls d e'.toS r' hx
  | ok u s1 =>
    rw [ev] at q
    intro W1 H1 v e1 r1 hv
    obtain ⟨p, rfl, f, n, o, hn, c⟩ := hv
    have hlen : i < s1.r.length := by rw [r1.len, hl I]; exact hi
    refine q W1 (σ.set i (some (.ref p))) H1 ⟨e1.le, e1.kp, e1.fr, e1.new, fun a ha => ?_, fun j hj => ?_, ?_⟩ (r1.setOwn hlen f n o c)
    · obtain ⟨j, u', h1, h2⟩ := ha
      rw [slot_put _ _ _ _ hlen] at h1
      split at h1
      · rename_i e; subst e
        have hi' : i < σ.length := by rw [← r1.len]; exact hlen
        rw [List.getElem?_set, if_pos rfl, if_pos hi'] at h2
        have := Option.some.inj (Option.some.inj h2)
        injection this with this
        subst this
        exact hn
      · rename_i e
        rw [List.getElem?_set_ne e] at h2
        exact .inr (.inl (Ownd.mono e1.own ⟨j, u', h1, h2⟩))
    · simp only [asgS, List.mem_singleton] at hj
      rw [List.getElem?_set_ne (fun z => hj z.symm)]
    · show (s1.r.set i _).length = _
      rw [List.length_set]; exact e1.len
end
end MP
set_option maxRecDepth 100000
set_option maxHeartbeats 4000000
/-! R3d: while. -/
namespace MP
open PySem PySem.Spec PyProof.Rows L2
section
variable {C : SC} {G : Nms} {Wx : WX} {g : Gst} {X : Cx} {A B : List Nat} {D : Ends} {s s1 s2 : Sta} {σ σ1 σ2 : L2.St} {W W1 W2 : Wd} {H H1 H2 : Hp} {pos : Pos}
theorem ss_while {c : Expr} {body : List Stmt} {m : ME} {mb : List MS} (po : PassesOwn (model X.prog X.w) X.A X.env X.xe) (hc : PT X c (tCond G Wx g m)) (hb : PSs X body (tSs G Wx g mb)) : PS X (.While c body [] pos) (tS G Wx g (.whil m mb)) :=
  PSi (ps_while po hc hb) fun D σ H ⟨W, s, r, q⟩ => by
    have e0 : execS g (.whil m mb) s = turnsW (fun s => condOf (fun s => evalE g m s) m s) (fun s => execs g mb s) g.turns s := by conv => lhs; unfold execS
    rw [e0] at q
    refine ⟨fun n σ H => ∃ W s, RelFr G W s σ H ∧ tX G Wx (asgSs mb) D (turnsW (fun s => condOf (fun s => evalE g m s) m s) (fun s => execs g mb s) n s) W s σ H, ⟨g.turns, W, s, r, q⟩, ?_⟩
    rintro n σ H ⟨W, s, r, q⟩
    cases n with
    | zero => exact (show False from q).elim
    | succ n =>
      have q : tX G Wx (asgSs mb) D ((condOf (fun s => evalE g m s) m s).bind fun b s => if b then (execs g mb s).bind fun fl s => (match fl with
        | .next => turnsW (fun s => condOf (fun s => evalE g m s) m s) (fun s => execs g mb s) n s
        | .cont => turnsW (fun s => condOf (fun s => evalE g m s) m s) (fun s => execs g mb s) n s
        | .brk => .ok .next s
        | .ret u => .ok (.ret u) s) else .ok .next s) W s σ H := q
      refine tR_mono (tX.bindE (fun _ => RB) r q) fun b H1 ⟨x, W1, s1, r1, ra, k⟩ => ?_
      have ra : x = b := ra
      subst ra
      cases x with
      | false => exact k W1 σ H1 .refl r1
      | true =>
        rw [if_pos rfl] at k ⊢
        refine ⟨fun σ H => ∃ W s, RelFr G W s σ H ∧ tX G Wx (asgSs mb) D (turnsW (fun s => condOf (fun s => evalE g m s) m s) (fun s => execs g mb s) n s) W s σ H, fun σ' H' h => ⟨n, Nat.lt_succ_self n, h⟩, W1, s1, r1, ?_⟩
        cases e : execs g mb s1 with
        | stuck => rw [e] at k; exact k
        | exc x s' => rw [e] at k; exact k
        | ok fl s' =>
          rw [e] at k
          simp only [Rs.bind] at k
          intro W' σ' H' e' r'
          cases fl with
          | next => exact ⟨W', s', r', k.shift e'⟩
          | cont => exact ⟨W', s', r', k.shift e'⟩
          | brk => exact k W' σ' H' e' r'
          | ret u => exact k W' σ' H' e' r'
end
end MP
set_option maxRecDepth 100000
set_option maxHeartbeats 4000000
/-! R3e: for. -/
namespace MP
open PySem PySem.Spec PyProof.Rows L2
section
variable {C : SC} {G : Nms} {Wx : WX} {g : Gst} {X : Cx} {A B : List Nat} {D : Ends} {s s1 s2 : Sta} {σ σ1 σ2 : L2.St} {W W1 W2 : Wd} {H H1 H2 : Hp} {pos : Pos}
theorem arg_own {f : Sta → Rs U} {m : ME} {j : Nat} (h : argOf f m s = .ok (.own j) s1) : m = .var j := by
  unfold argOf at h
  split at h
  · rename_i i e
    cases h
    unfold isOwn at e
    split at e
    · split at e
      · cases e; rfl
      · cases e
    · cases e
  · cases e : f s with
    | ok u s2 => rw [e] at h; cases h
    | exc _ _ => rw [e] at h; cases h
    | stuck => rw [e] at h; cases h
theorem avs_own : ∀ {its : List ME} {avs : List AV} {s s1 : Sta} {j : Nat}, evalAs g its s = .ok avs s1 → AV.own j ∈ avs → ME.var j ∈ its
  | [], avs, s, s1, j, h, hj => by unfold evalAs at h; cases h; simp at hj
  | m :: ms, avs, s, s1, j, h, hj => by
    unfold evalAs at h
    cases e1 : argOf (fun s => evalE g m s) m s with
    | stuck => rw [e1] at h; cases h
    | exc _ _ => rw [e1] at h; cases h
    | ok a s2 =>
      rw [e1] at h
      simp only [Rs.bind] at h
      cases e2 : evalAs g ms s2 with
      | stuck => rw [e2] at h; cases h
      | exc _ _ => rw [e2] at h; cases h
      | ok as s3 =>
        rw [e2] at h
        simp only at h
        cases h
        rcases List.mem_cons.mp hj with z | z
        · subst z
          rw [arg_own e1]
          exact List.mem_cons_self
        · exact List.mem_cons_of_mem _ (avs_own e2 z)
theorem ras_S {W' : Wd} {H' : Hp} {s' : Sta} {σ' : L2.St} (l : W.le W') (k : Kp W H H') (keep : ∀ j, j ∉ A → σ'[j]? = σ[j]?) : ∀ {avs : List AV} {vs : List V}, (∀ j, AV.own j ∈ avs → j ∉ A) → RAs G σ W s H avs vs → RAs G σ' W' s' H' avs vs
  | [], [], _, _ => .nil
  | a :: as, v :: vs, h, .cons ra rt => by
    refine .cons ?_ (ras_S l k keep (fun j hj => h j (List.mem_cons_of_mem _ hj)) rt)
    cases a with
    | v u => exact RepV.mono l k _ ra
    | own j => exact (keep j (h j List.mem_cons_self)).trans ra
  | [], _ :: _, _, h => by cases h
  | _ :: _, [], _, h => by cases h
def forF (g : Gst) (t : Tg) (b : List MS) (avs : List AV) (s0 : Sta) (x : U) (s1 : Sta) : Rs Fl := match bindT t x s1 with
  | some s2 => (execs g b s2).bind fun fl s3 => if stillIs s0 s3 avs then .ok fl s3 else .stuck
  | none => .stuck
theorem ss_for {tg iter : Expr} {body : List Stmt} {t : Tg} {k : Nat} {its : List ME} {mb : List MS} (hK : X.K = G.K) (po : PassesOwn (model X.prog X.w) X.A X.env X.xe) (hc : X.calm = true) (hi : PI X tg iter (tI G Wx g k its)) (hg : PG X tg (gT X.K t)) (hb : PSs X body (tSs G Wx g mb))
    (hs : ∀ x, foldedSetIterable iter X.env x = pure x) (hno : ∀ j, ME.var j ∈ its → j ∉ asgT t ++ asgSs mb) : PS X (.For tg iter body [] pos) (tS G Wx g (.forr t k its mb)) :=
  PSi (ps_for po hc hi hg hb hs) fun D σ H ⟨W, s, r, q⟩ => by
    have e0 : execS g (.forr t k its mb) s = (evalAs g its s).bind fun avs s0 => match walkA k avs s0 with
      | some xs => turnsF (forF g t mb avs s0) xs s0
      | none => .stuck := by
      conv => lhs; unfold execS
      try rfl
    rw [e0] at q
    have hA : asgS (.forr t k its mb) = asgT t ++ asgSs mb := by simp only [asgS]
    rw [hA] at q
    generalize hAA : asgT t ++ asgSs mb = A at q hno
    have subT : ∀ j ∈ asgT t, j ∈ A := fun j hj => by rw [← hAA]; exact List.mem_append_left _ hj
    have subB : ∀ j ∈ asgSs mb, j ∈ A := fun j hj => by rw [← hAA]; exact List.mem_append_right _ hj
    refine ⟨W, s, r, ?_⟩
    cases ea : evalAs g its s with
    | stuck => rw [ea] at q; exact q
    | exc x s' => rw [ea] at q; exact fun W' H' cls d e' r' hx => q W' σ H' cls d e'.toS r' hx
    | ok avs s0 =>
    rw [ea] at q
    intro W0 H0 vs e1 r0 ra
    have hfree : ∀ j, AV.own j ∈ avs → j ∉ A := fun j hj => hno j (avs_own ea hj)
    have q := tX.shift e1.toS q
    simp only [Rs.bind] at q
    cases hw : walkA k avs s0 with
    | none => rw [hw] at q; exact q.elim
    | some xs =>
    rw [hw] at q
    simp only at q
    refine ⟨W0, s0, avs, xs, r0, ra, hw, fun J hJ => ?_⟩
    have hok := (walk_get hw).1
    refine ⟨fun i m σ H => m = xs.length - i ∧ i ≤ xs.length ∧ ∃ Wi si, RelFr G Wi si σ H ∧ tX G Wx A D (turnsF (forF g t mb avs s0) (xs.drop i) si) Wi si σ H ∧ RAs G σ Wi si H avs vs ∧ avs.all (AV.ok si) = true ∧ avs.map (AV.get si) = avs.map (AV.get s0),
      ⟨xs.length, by simp, Nat.zero_le _, W0, s0, r0, by simpa using q, ra, hok, rfl⟩, ?_⟩
    rintro i m σ H ⟨rfl, hi, Wi, si, r, q, ras, hoki, hgeti⟩
    have jj := hJ i Wi si σ H r ras hoki hgeti
    by_cases hlt : i < xs.length
    · right
      obtain ⟨go, yl⟩ := jj.2 _ (List.getElem?_eq_getElem hlt)
      refine ⟨go, fun σ H => ∃ Wi si, RelFr G Wi si σ H ∧ tX G Wx A D (turnsF (forF g t mb avs s0) (xs.drop (i + 1)) si) Wi si σ H ∧ RAs G σ Wi si H avs vs ∧ avs.all (AV.ok si) = true ∧ avs.map (AV.get si) = avs.map (AV.get s0),
        fun σ' H' h => ⟨xs.length - (i + 1), by omega, rfl, hlt, h⟩, fun x H' hy => ?_⟩
      obtain ⟨hH', rx⟩ := yl x H' hy
      have hup : Kp Wi H H' ∧ RelFr G Wi si σ H' ∧ Ext si si σ Wi Wi H H' := by
        rcases hH' with rfl | ⟨T, o, hTn, rfl⟩
        · exact ⟨.refl _ _, r, .refl _ _ _ _⟩
        · exact ⟨kp_upd hTn, r.upd hTn, .upd hTn⟩
      obtain ⟨k1, r', E1⟩ := hup
      rw [List.drop_eq_getElem_cons hlt] at q
      have q : tX G Wx A D ((forF g t mb avs s0 xs[i] si).bind fun fl s => match fl with
        | .next => turnsF (forF g t mb avs s0) (xs.drop (i + 1)) s
        | .cont => turnsF (forF g t mb avs s0) (xs.drop (i + 1)) s
        | .brk => .ok .next s
        | .ret u => .ok (.ret u) s) Wi si σ H := q
      unfold forF at q
      cases hb : bindT t xs[i] si with
      | none => simp only [hb] at q; exact (show False from q).elim
      | some sb =>
      simp only [hb] at q
      refine gT_ok X.K hK t _ si sb x σ _ hb r' rx fun σ2 rb kσ lσ mo => ⟨Wi, sb, rb, ?_⟩
      have E2 : ExS A si sb σ σ2 Wi Wi H H' := (E1.toS).trans ((bind_ExS hb kσ mo.2).sub subT)
      cases ee : execs g mb sb with
      | stuck => rw [ee] at q; exact q
      | exc x s' => rw [ee] at q; exact fun W' σ' H'' cls d e' r'' hx => q W' σ' H'' cls d (E2.trans (e'.sub subB)) r'' hx
      | ok fl s3 =>
        rw [ee] at q
        simp only [Rs.bind] at q
        by_cases hst : stillIs s0 s3 avs = true
        · rw [if_pos hst] at q
          simp only at q
          obtain ⟨so1, so2⟩ := still_get hok hst
          intro W' σ' H'' e' r''
          have E3 := E2.trans (e'.sub subB)
          cases fl with
          | next => exact ⟨W', s3, r'', q.shift E3, ras_S E3.le E3.kp E3.keep hfree ras, so1, so2⟩
          | cont => exact ⟨W', s3, r'', q.shift E3, ras_S E3.le E3.kp E3.keep hfree ras, so1, so2⟩
          | brk => exact q W' σ' H'' E3 r''
          | ret u => exact q W' σ' H'' E3 r''
        · rw [if_neg hst] at q; exact (show False from q).elim
    · left
      have hi' : i = xs.length := by omega
      subst hi'
      refine ⟨jj.1 (Nat.le_refl _), ?_⟩
      rw [List.drop_length] at q
      exact q Wi σ H .refl r
end
end MP
set_option maxRecDepth 100000
set_option maxHeartbeats 4000000
/-! R3f: items set; x op= y. -/
namespace MP
open PySem PySem.Spec PyProof.Rows L2
section
variable {C : SC} {G : Nms} {Wx : WX} {g : Gst} {X : Cx} {A B : List Nat} {D : Ends} {s s1 s2 : Sta} {σ σ1 σ2 : L2.St} {W W1 W2 : Wd} {H H1 H2 : Hp} {pos : Pos}
theorem tX.bindX {α β : Type} {f : Sta → Rs α} {k : α → Sta → Rs Fl} (R : L2.St → Wd → Sta → Hp → α → β → Prop) (r : RelFr G W s σ H) (h : tX G Wx A D ((f s).bind k) W s σ H) :
    tR G Wx f R σ H fun b H1 => ∃ a W1 s1, Ext s s1 σ W W1 H H1 ∧ RelFr G W1 s1 σ H1 ∧ R σ W1 s1 H1 a b ∧ tX G Wx A D (k a s1) W1 s1 σ H1 := by
  refine ⟨W, s, r, ?_⟩
  cases e : f s with
  | stuck => rw [e] at h; exact h
  | exc x s' => rw [e] at h; exact fun W' H' cls d e' r' hx => h W' σ H' cls d e'.toS r' hx
  | ok a s' =>
    rw [e] at h
    exact fun W' H' b e' r' rr => ⟨a, W', s', e', r', rr, h.shift e'.toS⟩
theorem ss_setIx (O : Of G X) {o i e : Expr} {p : Pos} {mc mi me : ME} (hc : notComp e = true) (ho : PE X o (tArg G Wx g mc)) (hi : PE X i (tE G Wx g mi)) (he : PE X e (tE G Wx g me)) (hp : plainIx i = true) (hw : notTups (.Subscript o i p) e = true) :
    PS X (.Assign [.Subscript o i p] e pos) (tS G Wx g (.setIx mc mi me)) := by
  have hg : PG X (.Subscript o i p) (gSub (tArg G Wx g mc) (tE G Wx g mi) (tSetU G)) := pg_sub ho hi (pset_U O) (by intro v; cases i <;> first | rfl | cases hp)
  refine PSi (ps_asg he hg (show swapsWith e (some (.Subscript o i p)) pos.line X.env = pure false from sw_no hc) (stores_no hw) (by rfl)) fun D σ H ⟨W, s, r, q⟩ => ?_
  have e0 : execS g (.setIx mc mi me) s = (evalE g me s).bind fun u s => (argOf (fun s => evalE g mc s) mc s).bind fun av s => (evalE g mi s).bind fun k s =>
      match mutSem .setIx (av.get s) [k, u] with
      | some (c', _) => match setC s av c' with
        | some s => .ok .next s
        | none => .stuck
      | none => .stuck := by
    conv => lhs; unfold execS
    try rfl
  rw [e0] at q
  refine tR_mono (tX.bindX (fun _ => RV G) r q) fun v H1 ⟨u, W1, s1, e1, r1, ru, k1⟩ => ?_
  refine tR_mono (tX.bindX (fun σ => RA G σ) r1 k1) fun ov H2 ⟨av, W2, s2, e2, r2, ra, k2⟩ => ?_
  refine tR_mono (tX.bindX (fun _ => RV G) r2 k2) fun iv H3 ⟨kk, W3, s3, e3, r3, rk, k3⟩ => ?_
  cases em : mutSem .setIx (av.get s3) [kk, u] with
  | none => rw [em] at k3; exact k3.elim
  | some z =>
    obtain ⟨c', u0⟩ := z
    rw [em] at k3
    simp only at k3
    cases es : setC s3 av c' with
    | none => rw [es] at k3; exact k3.elim
    | some s4 =>
      rw [es] at k3
      exact ⟨W3, s3, σ, av, kk, u, c', u0, s4, r3, ra.ext e3, rk, RepV.ext e3 (RepV.ext e2 ru), em, es, fun H' r' e' => k3 W3 σ H' e'.toS r'⟩
/-- x op= e, x a value -/
theorem ss_aug (O : Of G X) {x : Str} {p : Pos} {e : Expr} {i : Nat} {o : Opr} {op : Operator} {m : ME} (nd : X.N.Nodup) (hN : X.N[i]? = some x) (hx : Loc X.env.scope x) (hf : X.fn x = true ∨ X.env.scope.names.lookup x = some .local) (ho : augOp o = some op) (he : PE X e (tE G Wx g m)) :
    PS X (.AugAssign (.Name x p) op e pos) (fun D σ H => ∃ W s, RelFr G W s σ H ∧ (∃ u, slot s i = .val u) ∧ tX G Wx (asgS (.aug i o m)) D (execS g (.aug i o m) s) W s σ H) :=
  PSi (ps_aug nd hN hx he (pip_U (G := G) ho) hf) fun D σ H ⟨W, s, r, ⟨u, hu⟩, q⟩ => by
    have e0 : execS g (.aug i o m) s = (evalE g m s).bind fun y s => (opAug o u y s).bind fun u s => .ok .next (s.put i (.val u)) := by
      conv => lhs; unfold execS
      rw [hu]
    rw [e0] at q
    obtain ⟨v, hv, rv⟩ := r.valAt hu
    refine ⟨v, hv, tR_mono (tX.bindX (fun _ => RV G) r q) fun y H1 ⟨uy, W1, s1, e1, r1, ry, k1⟩ => ?_⟩
    refine ⟨Wx, W1, s1, σ, u, uy, r1, .inl (RepV.ext e1 rv), .inl ry, ?_⟩
    cases eo : opAug o u uy s1 with
    | stuck => rw [eo] at k1; exact k1
    | exc x s' => rw [eo] at k1; exact fun W' H' cls d e' r' hx => k1 W' σ H' cls d e'.toS r' hx
    | ok w s2 =>
      rw [eo] at k1
      intro W' H' z e' r' rz
      have k2 := tX.shift e'.toS k1
      exact k2 W' (σ.set i (some z)) H' (by simpa only [asgS, asgT] using (bind_ExS (t := .one i) (u := w) (s := s2) (s1 := s2.put i (.val w)) (by simp only [bindT]) (fun j hj => by
        simp only [asgT, List.mem_singleton] at hj
        rw [List.getElem?_set_ne (fun q => hj q.symm)]) (fun a ha => ownd_set r' ha) : ExS (asgT (.one i)) s2 _ σ _ W' W' H' H')) (r'.set i rz)
end
end MP
set_option maxRecDepth 100000
set_option maxHeartbeats 4000000
/-! R3g: o[i] op= e. -/
namespace MP
open PySem PySem.Spec PyProof.Rows L2
section
variable {C : SC} {G : Nms} {Wx : WX} {g : Gst} {X : Cx} {A B : List Nat} {D : Ends} {s s1 s2 : Sta} {σ σ1 σ2 : L2.St} {W W1 W2 : Wd} {H H1 H2 : Hp} {pos : Pos}
theorem ss_augIx (O : Of G X) {o i e : Expr} {p : Pos} {mc mi me : ME} {oo : Opr} {op : Operator} (hop : augOp oo = some op) (ho : PE X o (tArg G Wx g mc)) (hi : PE X i (tE G Wx g mi)) (he : PE X e (tE G Wx g me)) (hp : plainIx i = true) :
    PS X (.AugAssign (.Subscript o i p) op e pos) (tS G Wx g (.augIx mc mi oo me)) := by
  refine PSi (ps_augS ho hi (pget_U (g := g) O) he (pip_U (G := G) hop) (pset_U O) (by intro ov iv new; cases i <;> first | rfl | cases hp)) fun D σ H ⟨W, s, r, q⟩ => ?_
  have e0 : execS g (.augIx mc mi oo me) s = (argOf (fun s => evalE g mc s) mc s).bind fun av s => (evalE g mi s).bind fun k s =>
      match opSem g .ix [av.get s, k] with
      | some x => (evalE g me s).bind fun y s => (opAug oo x y s).bind fun u s => match mutSem .setIx (av.get s) [k, u] with
        | some (c', _) => match setC s av c' with
          | some s => .ok .next s
          | none => .stuck
        | none => .stuck
      | none => .stuck := by
    conv => lhs; unfold execS
    try rfl
  rw [e0] at q
  refine tR_mono (tX.bindX (fun σ => RA G σ) r q) fun ov H1 ⟨av, W1, s1, e1, r1, ra, k1⟩ => ?_
  refine tR_mono (tX.bindX (fun _ => RV G) r1 k1) fun iv H2 ⟨kk, W2, s2, e2, r2, rk, k2⟩ => ?_
  cases ex : opSem g .ix [av.get s2, kk] with
  | none => rw [ex] at k2; exact k2.elim
  | some x =>
  rw [ex] at k2
  simp only at k2
  by_cases hok : av.ok s2 = true
  · refine ⟨Wx, W2, s2, σ, [av.get s2, kk], x, r2, .cons (crep_of r2 (ra.ext e2) hok) (.cons (.inl rk) .nil), ex, ?_⟩
    intro W3 H3 z e3 r3 rz
    have k2 := tX.shift e3.toS k2
    refine tR_mono (tX.bindX (fun _ => RV G) r3 k2) fun y H4 ⟨uy, W4, s4, e4, r4, ry, k4⟩ => ?_
    refine ⟨Wx, W4, s4, σ, x, uy, r4, .inl (RepV.ext e4 rz), .inl ry, ?_⟩
    cases eo : opAug oo x uy s4 with
    | stuck => rw [eo] at k4; exact k4
    | exc x s' => rw [eo] at k4; exact fun W' H' cls d e' r' hx => k4 W' σ H' cls d e'.toS r' hx
    | ok w s5 =>
      rw [eo] at k4
      intro W5 H5 nv e5 r5 rn
      have k5 := tX.shift e5.toS k4
      simp only [Rs.bind] at k5
      cases em : mutSem .setIx (av.get s5) [kk, w] with
      | none => rw [em] at k5; exact k5.elim
      | some z =>
        obtain ⟨c', u0⟩ := z
        rw [em] at k5
        simp only at k5
        cases es : setC s5 av c' with
        | none => rw [es] at k5; exact k5.elim
        | some s6 =>
          rw [es] at k5
          exact ⟨W5, s5, σ, av, kk, w, c', u0, s6, r5, (((ra.ext e2).ext e3).ext e4).ext e5, RepV.ext e5 (RepV.ext e4 (RepV.ext e3 rk)), rn, em, es, fun H' r' e' => k5 W5 σ H' e'.toS r'⟩
  · exfalso
    cases av with
    | v u => exact hok rfl
    | own j =>
      have : (AV.own j).get s2 = .non := by
        show (match slot s2 j with | .own u => u | _ => U.non) = .non
        cases e : slot s2 j with
        | own u =>
          exact absurd (show (match slot s2 j with | .own _ => true | _ => false) = true by rw [e]) hok
        | no => rfl
        | val u => rfl
      rw [this] at ex
      cases ex
end
end MP
set_option maxRecDepth 100000
set_option maxHeartbeats 4000000
/-! R3h: name = [.. for ..]. -/
namespace MP
open PySem PySem.Spec PyProof.Rows L2
section
variable {C : SC} {G : Nms} {Wx : WX} {g : Gst} {X : Cx} {sc : Scope} {k : Nat} {pos : Pos}
theorem comp_parts (D : Full C G g k X sc Wx) {m : ME} {t : Tg} {kk : Nat} {its : List ME} {own : List Nat} {cond : Option ME} {elt : Expr} {gens : List Comprehension} {scope : Scope} {p : Pos} (h : chkE C (.comp m t kk its own cond) sc (.ListComp elt gens scope p) = true) :
    ∃ tg iter ifs, gens = [⟨tg, iter, ifs, 0⟩] ∧ PI X tg iter (tI G Wx g kk its) ∧ BlkOk X.N X.env.scope scope (ownP C own) ∧
      (∀ (s : Shared) (H : Hp) (C' : Addr) (cl : List (Str × Addr)) (fp : List Addr), PG (X.blk s H scope (compEnvC scope cl C' X.env) fp) tg (gT X.K t)) ∧
      (∀ (s : Shared) (H : Hp) (C' : Addr) (cl : List (Str × Addr)) (fp : List Addr), PTs (X.blk s H scope (compEnvC scope cl C' X.env) fp) ifs (tt G g cond)) ∧
      (∀ (s : Shared) (H : Hp) (C' : Addr) (cl : List (Str × Addr)) (fp : List Addr), PE (X.blk s H scope (compEnvC scope cl C' X.env) fp) elt (tE G WF g m)) ∧
      (∀ x, foldedSetIterable iter X.env x = pure x) ∧ ∀ j ∈ asgT t, j ∈ own := by
  simp only [chkE] at h
  split at h
  · rename_i tg iter ifs as
    simp only [Bool.and_eq_true, decide_eq_true_eq] at h
    obtain ⟨⟨⟨⟨⟨⟨h1, h2⟩, h3⟩, h4⟩, h5⟩, h6⟩, h7⟩ := h
    subst h1
    cases hi : itArgs sc kk tg iter with
    | none => rw [hi] at h4; cases h4
    | some es =>
    rw [hi] at h4
    simp only [Bool.and_eq_true] at h4
    have ih := sEs its es D h4.2
    obtain ⟨pi, hset⟩ := pi_walk (tg := tg) D.good hi (SE.px ih)
    have nd : X.N.Nodup := by rw [D.good.N]; exact D.good.s0.nd
    have F : ∀ (s : Shared) (H : Hp) (C' : Addr) (cl : List (Str × Addr)) (fp : List Addr), Full C G g k (X.blk s H scope (compEnvC scope cl C' X.env) fp) (relS scope sc) WF := fun s H C' cl fp => D.blk s H scope C' cl fp
    refine ⟨tg, iter, ifs, rfl, pi, by rw [D.good.N, D.good.scp]; exact blkOk_by h5, fun s H C' cl fp => ?_, fun s H C' cl fp => sO cond ifs (F s H C' cl fp) h6, fun s H C' cl fp => (sE m elt (F s H C' cl fp) h7).1, hset, fun j hj => by simpa using List.all_eq_true.mp h3 j hj⟩
    have Fx := F s H C' cl fp
    refine pg_T (X := X.blk s H scope (compEnvC scope cl C' X.env) fp) (lo := loB scope) Fx.good.calm nd (fun x hx => ?_) t tg (by show chkT X.N _ _ _ = true; rw [D.good.N]; exact h2)
    have hrel : (X.blk s H scope (compEnvC scope cl C' X.env) fp).env.scope = relS scope X.env.scope := rfl
    rw [hrel]
    rcases loB_ok hx with q | q
    · have := lookup_relS_keep (sc := X.env.scope) (by simp) q
      exact ⟨.inl this, .inr this⟩
    · have := lookup_relS_keep (sc := X.env.scope) (by simp) q
      exact ⟨.inr this, .inl (by show (scope.names.lookup x == some .cell) = true; rw [q]; rfl)⟩
  · cases h
/-- is it stored within the comprehension? -/
def lcIn (sc : Scope) (y : Str) (py : Pos) (scope : Scope) (pos : Pos) : Bool := decide (sc.names.lookup y = some .local) && (py.line == pos.line) && !(scope.names.any fun (n, k) => n == y && (k == .local || k == .cell))
theorem sw_out {env : Env} {y : Str} {py p : Pos} {elt : Expr} {gens : List Comprehension} {scope : Scope} {l : Nat} (hk : env.scope.kind = .function) (h : lcIn env.scope y py scope p = false) : swapsWith (.ListComp elt gens scope p) (some (.Name y py)) l env = pure false := by
  have hb : env.blockKind = .function := by unfold Env.blockKind; rw [hk]; rfl
  have e : (env.blockKind == .function && env.kindOf y == some .local && py.line == (Expr.ListComp elt gens scope p).pos.line && !(scope.names.any fun (n, k) => n == y && (k == .local || k == .cell))) = false := by
    rw [hb]
    have e2 : (env.kindOf y == some .local) = decide (env.scope.names.lookup y = some .local) := by
      unfold Env.kindOf
      cases env.scope.names.lookup y with
      | none => rfl
      | some k => cases k <;> rfl
    rw [e2]
    have e3 : ((ScopeKind.function == ScopeKind.function) && decide (env.scope.names.lookup y = some .local)) = decide (env.scope.names.lookup y = some .local) := by
      rw [show (ScopeKind.function == ScopeKind.function) = true from rfl, Bool.true_and]
    rw [e3]
    exact h
  unfold swapsWith
  simp only
  exact congrArg pure e
theorem ss_setLc (D : Full C G g k X sc Wx) (hk : sc.kind = .function) {y : Str} {py p spos : Pos} {i : Nat} {m : ME} {t : Tg} {kk : Nat} {its : List ME} {own : List Nat} {cond : Option ME} {elt : Expr} {gens : List Comprehension} {scope : Scope}
    (hy : X.N[i]? = some y) (hin : lcIn sc y py scope p = true) (h : chkE C (.comp m t kk its own cond) sc (.ListComp elt gens scope p) = true) :
    PS X (.Assign [.Name y py] (.ListComp elt gens scope p) spos) (tS G Wx g (.set (.one i) (.comp m t kk its own cond))) := by
  obtain ⟨tg, iter, ifs, rfl, pi, blk, pg, pts, pe, hset, hasg⟩ := comp_parts D h
  have nd : X.N.Nodup := by rw [D.good.N]; exact D.good.s0.nd
  simp only [lcIn, Bool.and_eq_true, decide_eq_true_eq, Bool.not_eq_true'] at hin
  have hyl : X.env.scope.names.lookup y = some .local := by rw [D.good.scp]; exact hin.1.1
  have hkk : X.env.scope.kind = .function := by rw [D.good.scp]; exact hk
  have ps := ps_setLc (i := i) (spos := spos) D.good.calm nd hy hyl (sw_true hkk hyl hin.1.2 hin.2) pi blk pg pts pe hset
  rw [ownP_snd] at ps
  refine PSi ps fun D' σ H ⟨W, s, r, q⟩ => ?_
  have e0 : execS g (.set (.one i) (.comp m t kk its own cond)) s = (evalE g (.comp m t kk its own cond) s).bind fun u s => .ok .next (s.put i (.val u)) := by
    conv => lhs; unfold execS
    try rfl
  rw [e0] at q
  refine comp_tLc D.good.of.K hasg (.inl ?_)
  refine tR_mono (tX.bindE (fun _ => RV G) r q) fun v H1 ⟨u, W1, s1, r1, ra, k1⟩ => ?_
  exact k1 W1 (σ.set i (some v)) H1 (by simpa only [asgS, asgT] using (bind_ExS (t := .one i) (u := u) (s := s1) (s1 := s1.put i (.val u)) (by simp only [bindT]) (fun j hj => by
    simp only [asgT, List.mem_singleton] at hj
    rw [List.getElem?_set_ne (fun q => hj q.symm)]) (fun a ha => ownd_set r1 ha) : ExS (asgT (.one i)) s1 _ σ _ W1 W1 H1 H1)) (r1.set i ra)
end
end MP
set_option maxRecDepth 100000
set_option maxHeartbeats 4000000
/-! R3i: raise X('..'). -/
namespace MP
open PySem PySem.Spec PyProof.Rows L2
/-- an own exception's class, as raise asks for it -/
def RaiseOk (G : Nms) (K : PySem.W.Frag) (mg : Str → Option Value) (x : Str) (c : Nat) : Prop := ∃ (bmB : List Value) (B newId initId : String), ExcBaseFacts B newId initId bmB ∧ PySem.W.excIn K (G.cA c) bmB newId = true ∧ mg x = some (.ref (G.cA c)) ∧ PySem.W.keepIn K (.ref (G.cA c)) = true ∧
  PySem.W.subIn K (.ref (G.cA c)) (.type "BaseException") = some true ∧ PySem.W.typeIn K (.ref (G.cA c)) = some (.type "type")
section
variable {C : SC} {G : Nms} {Wx : WX} {g : Gst} {X : Cx} {pos p p2 p3 : Pos} {sc : Scope}
theorem ss_raise (D : Good C G g X sc) {x m : Str} {j c : Nat} (tk : Takes X Wx) (hx : glB sc x = true) (hr : RaiseOk G X.K X.mg x c) : PS X (.Raise (some (.Call (.Name x p) [.Constant (.str m) j p2] [] p3)) none pos) (tS G Wx g (.raise c [])) := by
  obtain ⟨bmB, B, newId, initId, F, q, gC, kC, h1, h2⟩ := hr
  obtain ⟨g1, g2⟩ := glB_gl D hx
  refine PSi (ps_raise D.calm tk (pmk_own F q gC kC (raises_own h1 h2) g1 g2)) fun D' σ H ⟨W, s, r, k⟩ => ?_
  have e0 : execS g (.raise c []) s = (evalEs g [] s).bind fun us s => .exc (.exc c us) s := by conv => lhs; unfold execS
  rw [e0] at k
  have e1 : evalEs g [] s = .ok [] s := by unfold evalEs; rfl
  rw [e1] at k
  exact k W σ H (.ref (G.cA c)) none .refl r ⟨c, rfl, rfl, rfl⟩
end
end MP
set_option maxRecDepth 100000
set_option maxHeartbeats 4000000
/-! R3l: x op= e, x a value or a list of its own. -/
namespace MP
open PySem PySem.Spec PyProof.Rows L2
section
variable {C : SC} {G : Nms} {Wx : WX} {g : Gst} {X : Cx} {A B : List Nat} {D : Ends} {s s1 s2 : Sta} {σ σ1 σ2 : L2.St} {W W1 W2 : Wd} {H H1 H2 : Hp} {pos : Pos}
theorem arg_of_E {m : ME} {u : U} (h : evalE g m s = .ok u s1) : argOf (fun s => evalE g m s) m s = .ok (.v u) s1 := by
  unfold argOf
  cases eo : isOwn s m with
  | none => simp only [h, Rs.bind]
  | some i =>
    exfalso
    unfold isOwn at eo
    split at eo
    · split at eo
      · rename_i he
        unfold evalE at h
        simp only [he] at h
        cases h
      · cases eo
    · cases eo
theorem arg_of_Ex {m : ME} {x : U} (h : evalE g m s = .exc x s1) : argOf (fun s => evalE g m s) m s = .exc x s1 := by
  unfold argOf
  cases eo : isOwn s m with
  | none => simp only [h, Rs.bind]
  | some i =>
    exfalso
    unfold isOwn at eo
    split at eo
    · split at eo
      · rename_i he
        unfold evalE at h
        simp only [he] at h
        cases h
      · cases eo
    · cases eo
def rAugA (G : Nms) (o : Opr) : R2 := fun x y H Q => rAug G o x y H Q ∨ (o = .add ∧ rExt2 x y H Q)
theorem pip_A {o : Opr} {op : Operator} (ho : augOp o = some op) : OpR X (inplaceOp op) (rAugA G o) := by
  intro pins s σ H x y v u Q I rx ry h
  rcases h with h | ⟨rfl, h⟩
  · exact pip_U ho pins s σ H x y v u Q I rx ry h
  · cases ho
    exact iop_ext pins s σ H x y v u Q I rx ry h
theorem ss_augA {x : Str} {p : Pos} {e : Expr} {i : Nat} {o : Opr} {op : Operator} {m : ME} (nd : X.N.Nodup) (hN : X.N[i]? = some x) (hx : Loc X.env.scope x) (hf : X.fn x = true ∨ X.env.scope.names.lookup x = some .local) (ho : augOp o = some op) (he : PE X e (tArg G Wx g m)) :
    PS X (.AugAssign (.Name x p) op e pos) (tS G Wx g (.aug i o m)) :=
  PSi (ps_aug nd hN hx he (pip_A (G := G) ho) hf) fun D σ H ⟨W, s, r, q⟩ => by
    cases hs : slot s i with
    | no =>
      have e0 : execS g (.aug i o m) s = .stuck := by
        conv => lhs; unfold execS
        rw [hs]
      rw [e0] at q
      exact q.elim
    | val u =>
      have e0 : execS g (.aug i o m) s = (evalE g m s).bind fun y s => (opAug o u y s).bind fun u s => .ok .next (s.put i (.val u)) := by
        conv => lhs; unfold execS
        rw [hs]
      rw [e0] at q
      obtain ⟨v, hv, rv⟩ := r.valAt hs
      refine ⟨v, hv, W, s, r, ?_⟩
      cases ev : evalE g m s with
      | stuck => rw [ev] at q; exact q.elim
      | exc z s' =>
        rw [ev] at q
        rw [arg_of_Ex ev]
        exact fun W' H' cls d e' r' hx => q W' σ H' cls d e'.toS r' hx
      | ok uy s1 =>
        rw [ev] at q
        rw [arg_of_E ev]
        intro W1 H1 y e1 r1 ry
        have k1 := tX.shift e1.toS q
        have ry : RepV G W1 H1 uy y := ry
        refine .inl ⟨Wx, W1, s1, σ, u, uy, r1, .inl (RepV.ext e1 rv), .inl ry, ?_⟩
        simp only [Rs.bind] at k1
        cases eo : opAug o u uy s1 with
        | stuck => rw [eo] at k1; exact k1
        | exc x s' => rw [eo] at k1; exact fun W' H' cls d e' r' hx => k1 W' σ H' cls d e'.toS r' hx
        | ok w s2 =>
          rw [eo] at k1
          intro W' H' z e' r' rz
          have k2 := tX.shift e'.toS k1
          exact k2 W' (σ.set i (some z)) H' (by simpa only [asgS, asgT] using (bind_ExS (t := .one i) (u := w) (s := s2) (s1 := s2.put i (.val w)) (by simp only [bindT]) (fun j hj => by
            simp only [asgT, List.mem_singleton] at hj
            rw [List.getElem?_set_ne (fun q => hj q.symm)]) (fun a ha => ownd_set r' ha) : ExS (asgT (.one i)) s2 _ σ _ W' W' H' H')) (r'.set i rz)
    | own u =>
      by_cases hadd : o = .add
      · subst hadd
        have e0 : execS g (.aug i .add m) s = (argOf (fun s => evalE g m s) m s).bind fun av s => if av.ok s then (mutF .extend (.own i) [av.get s] s).bind fun _ s => .ok .next s else .stuck := by
          conv => lhs; unfold execS
          rw [hs]
          rfl
        rw [e0] at q
        obtain ⟨hsl, p0, hp0, _⟩ := r.ownAt hs
        refine ⟨_, hp0, ?_⟩
        refine tR_mono (tX.bindX (fun σ => RA G σ) r q) fun y H1 ⟨av, W1, s1, e1, r1, ra, k1⟩ => ?_
        by_cases hok : av.ok s1 = true
        · rw [if_pos hok] at k1
          unfold mutF at k1
          cases em : mutSem .extend ((AV.own i).get s1) [av.get s1] with
          | none => rw [em] at k1; exact k1.elim
          | some z =>
            obtain ⟨c', u0⟩ := z
            rw [em] at k1
            simp only at k1
            cases es : setC s1 (.own i) c' with
            | none => rw [es] at k1; exact k1.elim
            | some s2 =>
              rw [es] at k1
              have k1 : tX G Wx (asgS (.aug i .add m)) D (.ok .next s2) W1 s1 σ H1 := k1
              obtain ⟨p, hp, hf, c, done⟩ := mut_at r1 (av := .own i) (v := V.ref p0) hp0 es (mut_some em)
              cases hp
              have cr := crep_of r1 ra hok
              change muExtend ((AV.own i).get s1) [av.get s1] = some (c', u0) at em
              unfold muExtend at em
              split at em
              · rename_i xs ys eq1 eq2
                simp only [List.cons.injEq, and_true] at eq2
                rw [eq1] at c
                rw [eq2] at cr
                split at em
                · rename_i hl
                  cases em
                  obtain ⟨vs, h1, h2⟩ := cont_lst c
                  obtain ⟨b, ws, rfl, h3, h4⟩ := cr.lst
                  obtain ⟨kp, cc⟩ := lst_put hf c (h2.append h4)
                  obtain ⟨d1, d2⟩ := done _ kp cc
                  refine .inr ⟨rfl, p0, b, vs, ws, rfl, rfl, h1, h3, by rw [← RepVs.length h2, ← RepVs.length h4]; exact le_line hl, ?_⟩
                  have same : σ.set i (some (V.ref p0)) = σ := by
                    apply List.ext_getElem?
                    intro j
                    rw [List.getElem?_set]
                    split
                    · rename_i e; subst e
                      rw [if_pos (List.getElem?_eq_some_iff.mp hp0).1, hp0]
                    · rfl
                  show D.nx (σ.set i (some (V.ref p0))) _
                  rw [same]
                  exact k1 W1 σ _ d2.toS d1
                · cases em
              · cases em
        · rw [if_neg hok] at k1; exact (show False from k1).elim
      · have e0 : execS g (.aug i o m) s = .stuck := by
          conv => lhs; unfold execS
          rw [hs]
          simp [hadd]
        rw [e0] at q
        exact q.elim
end
end MP
set_option maxRecDepth 100000
set_option maxHeartbeats 4000000
/-! R3m: x, y = a, b. -/
namespace MP
open PySem PySem.Spec PyProof.Rows L2
def locB (sc : Scope) (x : Str) : Bool := decide (sc.names.lookup x = some .local)
/-- two names on one line, two values that are no constants -/
def parB (C : SC) (sc : Scope) (i j : Nat) : Expr → Expr → Bool
  | .Tuple [.Name x px, .Name y py] _ _, .Tuple [a, b] _ _ => decide (C.N[i]? = some x) && decide (C.N[j]? = some y) && decide (i ≠ j) && !(x == y) && locB sc x && locB sc y && decide (px.line = py.line) &&
      notStar a && notStar b && !(foldedForSure 8 a && foldedForSure 8 b) && !(constantsAlone 8 a && constantsAlone 8 b)
  | _, _ => false
section
variable {C : SC} {G : Nms} {Wx : WX} {g : Gst} {X : Cx} {A B : List Nat} {D : Ends} {s s1 s2 : Sta} {σ σ1 σ2 : L2.St} {W W1 W2 : Wd} {H H1 H2 : Hp} {pos : Pos} {sc : Scope}
theorem swap_two {x y : Str} {px py pt : Pos} {kt k2 pt2} {a b : Expr} {env : Env} (hk : env.scope.kind = .function) (lx : env.scope.names.lookup x = some .local) (ly : env.scope.names.lookup y = some .local) (hxy : (x == y) = false) (hl : px.line = py.line)
    (sa : notStar a = true) (sb : notStar b = true) (hf : (foldedForSure 8 a && foldedForSure 8 b) = false) (hc : (constantsAlone 8 a && constantsAlone 8 b) = false) :
    swappedStores [.Tuple [.Name x px, .Name y py] kt pt] (.Tuple [a, b] k2 pt2) env = pure (some [x, y]) := by
  have hb : env.blockKind = .function := by unfold Env.blockKind; rw [hk]; rfl
  have kx : (env.kindOf x == some .local) = true := by unfold Env.kindOf; rw [lx]; rfl
  have ky : (env.kindOf y == some .local) = true := by unfold Env.kindOf; rw [ly]; rfl
  have e1 : ([a, b].any fun | .Starred .. => true | _ => false) = false := by
    clear hf hc
    cases a <;> first | (cases sa; done) | (cases b <;> first | rfl | cases sb)
  have e2 : ([x, y].eraseDups.length != 2) = false := by
    have hyx : (y == x) = false := by
      cases q : (y == x) with
      | false => rfl
      | true => rw [beq_iff_eq] at q; subst q; rw [beq_self_eq_true] at hxy; cases hxy
    rw [List.eraseDups_cons, List.filter_cons, hyx]
    rfl
  have e3 : [a, b].all (foldedForSure 8) = false := by simpa using hf
  have e4 : [a, b].all (constantsAlone 8) = false := by simpa using hc
  have e5 : ([Expr.Name x px, Expr.Name y py].filterMap fun | .Name id pos => if env.kindOf id == some .local && pos.line == ([Expr.Name x px, Expr.Name y py].head?.map (·.pos.line)).getD 0 then some id else none | _ => none) = [x, y] := by
    have e6 : ([Expr.Name x px, Expr.Name y py].head?.map (·.pos.line)).getD 0 = px.line := rfl
    simp only [List.filterMap_cons, List.filterMap_nil, e6, kx, ky, hl, beq_self_eq_true, Bool.and_self, if_true]
  have e7 : ∀ l : List Str, l = [x, y] → (l.length != 2 || l.eraseDups.length != l.length) = false := fun l h => by
    subst h
    simp only [List.length_cons, List.length_nil]
    rw [e2]
    rfl
  unfold swappedStores
  simp only [hb, List.length_cons, List.length_nil]
  refine (if_neg (by decide)).trans ((if_neg (Bool.eq_false_iff.mp e1)).trans ((if_neg (Bool.eq_false_iff.mp (e7 _ e5))).trans ((if_neg (Bool.eq_false_iff.mp e3)).trans ((if_neg (Bool.eq_false_iff.mp e4)).trans ?_))))
  exact congrArg (fun l => pure (some l)) e5
theorem ss_par {x y : Str} {px py pt : Pos} {kt k2 pt2} {a b : Expr} {i j : Nat} {ma mb : ME} (hc : X.calm = true) (nd : X.N.Nodup) (hi : X.N[i]? = some x) (hj : X.N[j]? = some y) (hij : i ≠ j) (lx : X.env.scope.names.lookup x = some .local) (ly : X.env.scope.names.lookup y = some .local)
    (hab : PA X [a, b] (tEs G Wx g [ma, mb])) (hw : swappedStores [.Tuple [.Name x px, .Name y py] kt pt] (.Tuple [a, b] k2 pt2) X.env = pure (some [x, y])) :
    PS X (.Assign [.Tuple [.Name x px, .Name y py] kt pt] (.Tuple [a, b] k2 pt2) pos) (tS G Wx g (.par i j ma mb)) :=
  PSi (ps_par hc nd hi hj hij lx ly hab hw) fun D σ H ⟨W, s, r, q⟩ => by
    have e0 : execS g (.par i j ma mb) s = (evalEs g [ma, mb] s).bind fun us s => .ok .next ((s.put j (.val (us.getD 1 .non))).put i (.val (us.getD 0 .non))) := by
      conv => lhs; unfold execS
      simp only [evalEs]
      cases evalE g ma s with
      | stuck => rfl
      | exc e s => rfl
      | ok u s =>
        simp only [Rs.bind]
        cases evalE g mb s with
        | stuck => rfl
        | exc e s => rfl
        | ok u s => rfl
    rw [e0] at q
    have ln : ∀ us s', evalEs g [ma, mb] s = .ok us s' → us.length = 2 := fun us s' h => by
      simp only [evalEs] at h
      cases ea : evalE g ma s with
      | stuck => rw [ea] at h; cases h
      | exc e s => rw [ea] at h; cases h
      | ok u s =>
        rw [ea] at h
        simp only [Rs.bind] at h
        cases eb : evalE g mb s with
        | stuck => rw [eb] at h; cases h
        | exc e s => rw [eb] at h; cases h
        | ok u s => rw [eb] at h; cases h; rfl
    refine ⟨W, s, r, ?_⟩
    cases ee : evalEs g [ma, mb] s with
    | stuck => rw [ee] at q; exact q
    | exc e s' => rw [ee] at q; exact fun W' H' cls d e' r' hx => q W' σ H' cls d e'.toS r' hx
    | ok us s' =>
      rw [ee] at q
      have l2 := ln us s' ee
      obtain ⟨u1, u2, rfl⟩ : ∃ u1 u2, us = [u1, u2] := by
        match us, l2 with
        | [a, b], _ => exact ⟨a, b, rfl⟩
      intro W' H' vs e' r' hv
      simp only [Rs.bind, List.getD_cons_zero, List.getD_cons_succ] at q
      have hv : RepVs G W' H' [u1, u2] vs := hv
      simp only [RepVs] at hv
      obtain ⟨v1, r1, rfl, h1, v2, r2, rfl, h2, rfl⟩ := hv
      refine ⟨v1, v2, rfl, ?_⟩
      have k := tX.shift e'.toS q
      have c1 : (s'.put j (.val u2)).put i (.val u1) = (s'.put i (.val u1)).put j (.val u2) := by
        unfold Sta.put
        simp only
        rw [List.set_comm _ _ (fun z => hij z.symm)]
      rw [c1] at k
      have x1 : ExS (asgS (.par i j ma mb)) s' (s'.put i (.val u1)) σ (σ.set i (some v1)) W' W' H' H' := ExS.sub (bind_ExS (t := .one i) (u := u1) (s := s') (s1 := s'.put i (.val u1)) (by simp only [bindT]) (fun l hl => by
        simp only [asgT, List.mem_singleton] at hl
        rw [List.getElem?_set_ne (fun z => hl z.symm)]) fun a ha => ownd_set r' ha) (by intro l hl; simp only [asgT, asgS, List.mem_singleton, List.mem_cons, List.not_mem_nil, or_false] at hl ⊢; exact .inl hl)
      have rr := r'.set i h1
      have x2 : ExS (asgS (.par i j ma mb)) (s'.put i (.val u1)) ((s'.put i (.val u1)).put j (.val u2)) (σ.set i (some v1)) ((σ.set i (some v1)).set j (some v2)) W' W' H' H' := ExS.sub (bind_ExS (t := .one j) (u := u2) (s := s'.put i (.val u1)) (s1 := (s'.put i (.val u1)).put j (.val u2)) (by simp only [bindT]) (fun l hl => by
        simp only [asgT, List.mem_singleton] at hl
        rw [List.getElem?_set_ne (fun z => hl z.symm)]) fun a ha => ownd_set rr ha) (by intro l hl; simp only [asgT, asgS, List.mem_singleton, List.mem_cons, List.not_mem_nil, or_false] at hl ⊢; exact .inr hl)
      exact k W' _ H' (x1.trans x2) (rr.set j h2)
end
end MP
set_option maxRecDepth 100000
set_option maxHeartbeats 4000000
/-! R3n: try: .. except C as n: y = n: the exception is kept. -/
namespace MP
open PySem PySem.Spec PyProof.Rows L2
section
variable {X : Cx} {pins : List (Addr × Obj)} {σ : L2.St} {H : Hp} {s : Shared}
/-- an object that is not tracked is tracked -/
theorem track {a : Addr} {ho : HO} (I : Inv X pins σ H s) (na : H a = none) (nL : a ≠ X.env.locals) (nP : ∀ p ∈ X.pn ++ pins, p.1 ≠ a) (nC : ∀ x c, X.env.cells.lookup x = some c → c ≠ a) (nS : ∀ o, X.s_0.heap.get? a = some o → a ∈ X.ex)
    (hO : ObjOk X.prog X.w (upd H a ho) s.heap a ho) : Inv X pins σ (upd H a ho) s := by
  have other : ∀ b o, H b = some o → upd H a ho b = some o := fun b o e => by
    rw [upd_ne (fun z => by rw [z, na] at e; cases e)]; exact e
  refine ⟨I.ok, I.os, I.bare, ⟨I.base.keep, I.base.slot, ?_, I.base.there, ?_, ?_, ?_⟩, I.loc, I.cell, ?_, ?_, ?_, ?_, I.len⟩
  · intro b o e n hx
    rw [upd_ne (fun z => hx (by rw [z]; exact nS o (by rw [← z]; exact e)))]
    exact I.base.free b o e n hx
  · exact fun b xs e => other _ _ (I.base.tups b xs e)
  · exact fun b o u e => other _ _ (I.base.frzs b o u e)
  · exact fun b ps e => let ⟨more, q⟩ := I.base.tbls b ps e; ⟨more, other _ _ q⟩
  · rw [upd_ne (fun z => nL z.symm)]; exact I.free
  · exact fun x c e => by rw [upd_ne (nC x c e)]; exact I.freeC x c e
  · intro p hp
    obtain ⟨q1, q2, q3⟩ := I.pin p hp
    exact ⟨q1, by rw [upd_ne (nP p hp)]; exact q2, q3⟩
  · intro b ob e
    by_cases hb : b = a
    · subst hb
      rw [upd_same] at e
      cases e
      exact hO
    · rw [upd_ne hb] at e
      exact (I.hok b ob e).stay (fun _ _ _ q => q) (fun c hc => other _ _ hc) fun c xs hc => other _ _ hc
theorem excO_ok {P : Program} {w : World} {K : Hp} {h : Heap} {a : Addr} {cls : Value} {d : Option Addr} {oe : Obj} {vs : Array Value} (e : h.get? a = some oe) (hz : Zc cls d oe) (hd : oe.data = .fields vs) : ObjOk P w K h a (ExcO cls d a) :=
  ⟨⟨oe, vs, e, hz, hd⟩, ⟨oe, e⟩, fun h1 h2 ⟨o, ws, e1, z1, d1⟩ k => ⟨o, ws, k o e1, z1, d1⟩⟩
end
/-- what the clause wishes: slot i is the clause's name, j the name that keeps -/
def wKeep (K : PySem.W.Frag) (c : Value) (i j : Nat) (Wout : WX) (D : Ends) : WX := fun cls d σ H =>
  ∃ b, PySem.W.exmOne K cls c = some b ∧ (b = true → ∀ a, H a = none → D.nx ((σ.set j (some (.ref a))).set i none) (upd H a (ExcO cls d a))) ∧ (b = false → Wout cls d σ H)
section
variable {X : Cx} {x n y : Str} {c : Value} {i j : Nat} {body : List Stmt} {np p1 p2 p3 pos pos' : Pos} {tb : WX → TS} {Wout : WX}
theorem ground_none {B : Heap} {l : List Env} {a L : Addr} {Z : Obj → Prop} {h : Heap} (k : Sky B l a Z L h) : B.get? a = none := by
  rcases k with k | k | k
  · exact k.2.1
  · exact k.2.1
  · exact k.2.1
theorem ps_keep (hs : X.stack = X.env :: X.outer) (hf : X.env.frame = some X.env.locals) (hN : X.N.Nodup) (hi : X.N[i]? = some n) (hj : X.N[j]? = some y) (hij : i ≠ j) (ln : X.env.kindOf n = some .local) (ly : X.env.kindOf y = some .local)
    (d1 : (n == ("__debug__" : Str)) = false) (d2 : (n == ("__classdict__" : Str)) = false) (hc : Names X x c) (tk : Takes X Wout)
    (hb : ∀ (W : WX) (pn : List (Addr × Obj)) (xe : Value → Shared → Prop), Takes (X.tr pn xe) W → PassesOwn (model X.prog X.w) X.A X.env xe → PSs (X.tr pn xe) body (tb W)) :
    PS X (.Try body [.ExceptHandler (some (.Name x np)) (some n) [.Assign [.Name y p1] (.Name n p2) p3] pos'] [] [] pos) (fun D σ H => tb (wKeep X.K c i j Wout D) D σ H) := by
  constructor
  intro pins s σ H D I hwish
  have hok := I.ok
  have fr0 : X.A.frames = some (X.env :: X.outer) := by rw [hok.frames, hs]
  apply wpAny_Try_except
  have body_run := (hb (wKeep X.K c i j Wout D) (X.pn ++ pins) (fun v t => wpAny (model X.prog X.w) X.A (noteFrame v X.env)
      (fun _ t2 => wpAny (model X.prog X.w) X.A (setFlight v none)
        (fun _ t3 => wpAny (model X.prog X.w) X.A (handleBy v X.env [.ExceptHandler (some (.Name x np)) (some n) [.Assign [.Name y p1] (.Name n p2) p3] pos']) (SP X pins D) X.xe t3) X.xe t2) X.xe t)
    (fun v t caught => ?_) PassesOwn.looking).run [] s σ H D (I.toTry _) hwish
  · refine wpAny_mono body_run (fun f t q => ?_) (fun _ _ q => q)
    cases f <;> simp only [SP] at q ⊢
    · obtain ⟨σ1, H1, I1, q1⟩ := q
      exact wpAny_execs_nil ⟨σ1, H1, I1.ofTry hok, q1⟩
    · obtain ⟨σ1, H1, I1, q1⟩ := q
      exact ⟨σ1, H1, I1.ofTry hok, q1⟩
    · obtain ⟨σ1, H1, I1, q1⟩ := q
      exact ⟨σ1, H1, I1.ofTry hok, q1⟩
    · obtain ⟨z, σ1, H1, I1, r1, q1⟩ := q
      exact ⟨z, σ1, H1, I1.ofTry hok, r1, q1⟩
  · obtain ⟨a, B, t0, pins0, σ1, H1, cls, d, ev, J0, gr, up, sky, na, eos, eag, b, hexm, wyes, wno⟩ := caught
    subst ev
    have J : Inv X pins σ1 H1 t0 := J0.ofTry hok
    have gr : ∀ b o, t0.heap.get? b = some o → b ∉ frs X.stack → B.get? b = some o := gr
    have sky1 : Sky B (X.env :: X.outer) a (Zc cls d) X.env.locals t.heap := by rw [← hs]; exact sky
    have hB := ground_none sky1
    refine Sky.land Zc.steady fr0 hf sky1 ?_
    intro h3 fl up3
    have J3 : Inv X pins σ1 H1 { t with heap := h3 } := J.landed gr fl.1 (up.trans up3) eos eag
    obtain ⟨o3, vs3, g3, z3, k3⟩ := fl.there
    have notFrame : a ∉ frs (X.env :: X.outer) := fun hm => by
      obtain ⟨_, o', g', nd'⟩ := fl.2.2.1.mem hm
      rw [g3] at g'
      cases g'
      exact nd' _ k3
    have aL : a ≠ X.env.locals := fun z => notFrame (List.mem_filterMap.mpr ⟨X.env, by simp, by rw [hf, z]⟩)
    have aF : a ∉ X.fs := fun hm => by
      obtain ⟨e1, m1, m2⟩ := List.mem_filterMap.mp hm
      exact notFrame (List.mem_filterMap.mpr ⟨e1, by simp [m1], m2⟩)
    have absent : t0.heap.get? a = none := by
      cases q : t0.heap.get? a with
      | none => rfl
      | some o =>
        have := gr a o q (by rw [hs]; exact notFrame)
        rw [hB] at this
        cases this
    have aP : ∀ p ∈ X.pn ++ pins, p.1 ≠ a := fun p hp z => by
      have := (J.pin p hp).1
      rw [z, absent] at this
      cases this
    have aC : ∀ x c, X.env.cells.lookup x = some c → c ≠ a := fun x c e z => by
      obtain ⟨v, hv⟩ := J.cell x c e
      obtain ⟨o, ho, _⟩ := hv
      rw [z, absent] at ho
      cases ho
    have aS : ∀ o, X.s_0.heap.get? a = some o → a ∈ X.ex := fun o e => by
      by_cases hx : a ∈ X.ex
      · exact hx
      · obtain ⟨o', e'⟩ := J.base.there a o e hx
        rw [absent] at e'
        cases e'
    have J3s := J3.suite g3 k3 na aL aF
    apply wpAny_handleBy_cons (codeAny_handlers_test ?_) (by intro q; cases q)
    have clsOf : PySem.W.Looks (model X.prog X.w) h3 (typeOf (.ref a)) cls := fun A Q E s k q => wpAny_typeOf_ref (k _ _ g3) (by rw [z3.1]; exact q)
    have isIt := PySem.W.exm_one (M := model X.prog X.w) J3.kIn clsOf hexm
    have evTest : ∀ {Q : Value → Shared → Prop} {E : Value → Shared → Prop}, Q c { t with heap := h3 } → wpAny (model X.prog X.w) (X.A.mark (some (.ref a))) (eval (.Name x np) X.env) Q E { t with heap := h3 } := by
      intro Q E q
      obtain ⟨hg, hd, hm | ⟨hm, hv, hn⟩⟩ := hc
      · exact ld_glob (X := X.suite a ((a, o3) :: (X.pn ++ pins))) J3s hg hm q hd
      · exact ld_blt (X := X.suite a ((a, o3) :: (X.pn ++ pins))) J3s hg hm hv q hn hd
    apply evTest
    apply isIt.here
    cases b with
    | true =>
      apply codeAny_handlers_suite_as
      refine HandSPX.lands_againZ fl (fun h4 fl4 up4 => ?_)
      have J4 : Inv X pins σ1 H1 { t with heap := h4 } := J.landed gr fl4.1 ((up.trans up3).trans up4) eos eag
      obtain ⟨o4, vs4, g4, z4, k4⟩ := fl4.there
      have J4s := J4.suite g4 k4 na aL aF
      have suite : PSs (X.suite a ((a, o4) :: (X.pn ++ pins))) [.Assign [.Name y p1] (.Name n p2) p3] (tSeq (tAsg (tVar i) (gName j)) tNext) :=
        pss_cons (ps_set (X := X.suite a ((a, o4) :: (X.pn ++ pins))) hN hj (.inl ly) (pe_var (X := X.suite a ((a, o4) :: (X.pn ++ pins))) hi (.inl ln) d1 d2) rfl (.inr ly)) pss_nil
      refine store_ok (X := X.suite a ((a, o4) :: (X.pn ++ pins))) (v := .ref a) J4s hN hi (.inl ln) rfl (fun t5 I5 => ?_) (.inr ln)
      have iσ : i < σ1.length := by rw [J4.len]; exact (List.getElem?_eq_some_iff.mp hi).1
      have run := suite.run [] t5 _ H1 { nx := fun σ' H' => σ' = (σ1.set i (some (.ref a))).set j (some (.ref a)) ∧ H' = H1, bk := fun _ _ => False, ct := fun _ _ => False, rt := fun _ _ => False } I5
        ⟨.ref a, by rw [List.getElem?_set_self iσ], rfl, rfl⟩
      refine wpAny_mono run (fun f t6 q => ?_) (fun _ _ z => False.elim z)
      cases f with
      | next =>
        obtain ⟨σ6, H6, I6, e1, e2⟩ := q
        subst e1 e2
        refine gone_ok (X := X.suite a ((a, o4) :: (X.pn ++ pins))) I6 hN hi ln (fun t7 I7 => ?_)
        obtain ⟨w1, w2, _⟩ := I7.pin (a, o4) (by simp)
        have I8 : Inv X pins (((σ1.set i (some (.ref a))).set j (some (.ref a))).set i none) H6 t7 := I7.unsuite hok
        have e3 : (((σ1.set i (some (V.ref a))).set j (some (V.ref a))).set i none) = (σ1.set j (some (V.ref a))).set i none := by
          rw [List.set_comm _ _ hij, List.set_set]
        rw [e3] at I8
        exact ⟨_, _, track I8 na aL aP aC aS (excO_ok w1 z4 k4), wyes rfl a na⟩
      | brk => obtain ⟨_, _, _, z⟩ := q; exact z.elim
      | cont => obtain ⟨_, _, _, z⟩ := q; exact z.elim
      | ret u => obtain ⟨_, _, _, _, _, z⟩ := q; exact z.elim
    | false =>
      show wpAny _ X.A (handleBy (.ref a) X.env []) _ _ _
      apply wpAny_handleBy_nil
      obtain ⟨_, _, _, oe, vs, T, oT, ts', he, hz, hd, h1, hr⟩ := id fl
      unfold PySem.passOn
      apply wpAny_bind
      apply wpAny_field he hd h1
      have nn : ¬ ((Value.ref T == Value.none) = true) := by simp
      rw [if_neg nn]
      have fin : wpAny (model X.prog X.w) X.A (setFlight (.ref a) X.env.frame) (fun _ t4 => wpAny (model X.prog X.w) X.A (throw (.ref a) : Sem Flow) (SP X pins D) X.xe t4) X.xe { t with heap := h3 } := by
        rw [hf]
        refine HandSPX.setFlight_upZ fl (fun h4 hh4 up4 => wpAny_throw (tk _ _ ?_))
        exact ⟨a, B, t0, pins, σ1, H1, cls, d, rfl, J, gr, (up.trans up3).trans up4, .inr (.inr (by rw [hs]; exact hh4)), na, eos, eag, wno rfl⟩
      first
        | exact wpAny_bind (wpAny_pure (wpAny_bind fin))
        | exact wpAny_bind fin
end
end MP
set_option maxRecDepth 100000
set_option maxHeartbeats 4000000
/-! R3o: the statement try .. except C as n: y = n. -/
namespace MP
open PySem PySem.Spec PyProof.Rows L2
section
variable {C : SC} {G : Nms} {Wx : WX} {g : Gst} {X : Cx} {sc : Scope} {x n y : Str} {i j cc : Nat} {body : List Stmt} {mb : List MS} {np p1 p2 p3 pos pos' : Pos} {k : Nat}
theorem excFr {W : Wd} {s : Sta} {σ : L2.St} {H : Hp} {a : Addr} (r : RelFr G W s σ H) (na : H a = none) (o : HO) : Kp W H (upd H a o) ∧ RelFr G ⟨W.al, fun b => W.fz b ∨ b = a⟩ s σ (upd H a o) := by
  have ne : ∀ b u, H b = some u → upd H a o b = some u := fun b u h => by rw [upd_ne (fun z => by rw [z, na] at h; cases h)]; exact h
  have le : W.le ⟨W.al, fun b => W.fz b ∨ b = a⟩ := ⟨⟨[], by simp⟩, fun b h => .inl h⟩
  have kp : Kp W H (upd H a o) := ⟨fun b u _ h => ne b u h, fun b xs h => ne b _ h, fun b u v h => ne b _ h⟩
  have nf : ∀ b u, H b = some u → ¬ W.fz b → ¬ (W.fz b ∨ b = a) := fun b u h1 h2 h3 => by
    rcases h3 with h3 | h3
    · exact h2 h3
    · rw [h3, na] at h1; cases h1
  refine ⟨kp, r.len, fun l z hz => ?_, r.apart, ⟨r.m.len, r.m.nod, fun n b hb => ?_, fun b hb => ?_⟩⟩
  · obtain ⟨w, h1, h2⟩ := r.slt l z hz
    refine ⟨w, h1, ?_⟩
    cases z with
    | no => trivial
    | val u => obtain ⟨v, q1, q2⟩ := h2; exact ⟨v, q1, RepV.mono le kp _ q2⟩
    | own u =>
      obtain ⟨p, q1, q2, q3, q4⟩ := h2
      obtain ⟨u', hu⟩ := q4.some
      exact ⟨p, q1, nf p u' hu q2, q3, q4.mono le kp fun o' ho' => ne p o' ho'⟩
  · obtain ⟨h1, u, h2, h3⟩ := r.m.mem n b hb
    obtain ⟨u', hu⟩ := h3.some
    exact ⟨nf b u' hu h1, u, h2, h3.mono le kp fun o' ho' => ne b o' ho'⟩
  · rcases hb with hb | hb
    · obtain ⟨u, hu⟩ := r.m.sm b hb
      exact ⟨u, ne b u hu⟩
    · rw [hb]; exact ⟨o, upd_same⟩
theorem ss_keep (D0 : Good C G g X sc) (hs : X.stack = X.env :: X.outer) (hf : X.env.frame = some X.env.locals) (hi : X.N[i]? = some n) (hj : X.N[j]? = some y) (hij : i ≠ j) (ln : X.env.kindOf n = some .local) (ly : X.env.kindOf y = some .local)
    (d1 : (n == ("__debug__" : Str)) = false) (d2 : (n == ("__classdict__" : Str)) = false) (hx : glB sc x = true) (hcc : C.cls.lookup x = some cc) (hci : cc ∈ C.isi) (tk : Takes X Wx)
    (hb : ∀ (W : WX) (pn : List (Addr × Obj)) (xe : Value → Shared → Prop), Takes (X.tr pn xe) W → PassesOwn (model X.prog X.w) X.A X.env xe → PSs (X.tr pn xe) body (tSs G W g mb)) :
    PS X (.Try body [.ExceptHandler (some (.Name x np)) (some n) [.Assign [.Name y p1] (.Name n p2) p3] pos'] [] [] pos) (tS G Wx g (.tri mb [(cc, some i, [.set (.one j) (.var i)])])) := by
  obtain ⟨g1, g2⟩ := glB_gl D0 hx
  have nd : X.N.Nodup := by rw [D0.N]; exact D0.s0.nd
  have hli : ∀ {pins σ H s}, Inv X pins σ H s → σ.length = X.N.length := fun I => I.len
  have hp := ps_keep (c := .ref (G.cA cc)) (np := np) (pos := pos) (p1 := p1) (p2 := p2) (p3 := p3) (pos' := pos') hs hf nd hi hj hij ln ly d1 d2 (show Names X x (.ref (G.cA cc)) from ⟨g1, g2, .inl (D0.s0.cls x cc hcc)⟩) tk hb
  refine ⟨fun pins s0 σ H D I ⟨W, s, r, q⟩ => hp.run pins s0 σ H D I ?_⟩
  have e0 : execS g (.tri mb [(cc, some i, [.set (.one j) (.var i)])]) s = (match execs g mb s with | .exc e s => handle g [(cc, some i, [.set (.one j) (.var i)])] e s | r => r) := by
    conv => lhs; unfold execS
    try rfl
  rw [e0] at q
  have sub : ∀ l ∈ asgSs mb, l ∈ asgS (.tri mb [(cc, some i, [.set (.one j) (.var i)])]) := fun l hl => by simp only [asgS, List.mem_append]; exact .inl hl
  refine ⟨W, s, r, ?_⟩
  cases ee : execs g mb s with
  | stuck => rw [ee] at q; exact q
  | ok fl s' =>
    rw [ee] at q
    exact fun W' σ' H' e' r' => q W' σ' H' (e'.sub sub) r'
  | exc e s' =>
    rw [ee] at q
    intro W' σ' H' cls d e' r' hx'
    obtain ⟨c1, rfl, rfl, rfl⟩ := hx'
    simp only [handle, isX] at q
    by_cases hm : g.excs.contains c1 = true
    · rw [if_pos hm] at q
      have hm' : c1 ∈ g.excs := by simpa using hm
      refine ⟨g.sub c1 cc, D0.of.K ▸ D0.s0.kit.exM c1 hm' cc hci, fun hb => ?_, fun hb => ?_⟩
      · intro a na
        rw [hb] at q
        simp only at q
        have hlen : s'.r.length = X.N.length := by rw [e'.len, r.len, hli I]
        have hil : i < s'.r.length := by rw [hlen]; exact (List.getElem?_eq_some_iff.mp hi).1
        have hjl : j < s'.r.length := by rw [hlen]; exact (List.getElem?_eq_some_iff.mp hj).1
        -- what the suite does
        have ex : execs g [.set (.one j) (.var i)] (s'.put i (.val (.exc c1 []))) = .ok .next ((s'.put i (.val (.exc c1 []))).put j (.val (.exc c1 []))) := by
          have hsl : slot (s'.put i (.val (.exc c1 []))) i = .val (.exc c1 []) := by
            unfold slot Sta.put
            simp [hil]
          unfold execs execS
          conv => lhs; unfold evalE
          rw [hsl]
          simp only [Rs.bind, bindT]
          unfold execs
          rfl
        rw [ex] at q
        simp only [Rs.bind] at q
        have c1' : ((s'.put i (.val (.exc c1 []))).put j (.val (.exc c1 []))).put i .no = (s'.put j (.val (.exc c1 []))).put i .no := by
          unfold Sta.put
          simp only
          congr 1
          rw [List.set_comm _ _ hij, List.set_set]
        rw [c1'] at q
        -- the world with the exception
        let W2 : Wd := ⟨W'.al, fun b => W'.fz b ∨ b = a⟩
        have le : W'.le W2 := ⟨⟨[], by simp [W2]⟩, fun b h => .inl h⟩
        obtain ⟨kp, r2⟩ := excFr r' na (ExcO (.ref (G.cA c1)) none a)
        have rv : RepV G W2 (upd H' a (ExcO (.ref (G.cA c1)) none a)) (.exc c1 []) (.ref a) := by
          simp only [RepV]
          exact ⟨a, rfl, .inr rfl, trivial, upd_same⟩
        have r3 := r2.set j rv
        have r4 := r3.wipe [i]
        refine q W2 _ _ ?_ r4
        have e1 : ExS (asgS (.tri mb [(cc, some i, [.set (.one j) (.var i)])])) s s' σ σ' W W' H H' := e'.sub sub
        refine e1.trans ⟨le, kp, fun b o h _ _ => ?_, fun b h => ?_, fun b h => ?_, fun l hl => ?_, ?_⟩
        · rw [upd_ne (fun z => by rw [z, na] at h; cases h)]; exact h
        · rcases h with ⟨h1 | h1, h2⟩ | ⟨h1, h2⟩
          · exact absurd h1 h2
          · rw [h1]; exact .inl na
          · exact absurd h1 h2
        · exact .inr (.inl (ownd_set r2 (ownd_wipe (vs := [i]) h)))
        · simp only [asgS, asgSs, asgHs, asgT, List.mem_append, List.mem_cons, List.not_mem_nil, or_false, not_or] at hl
          show ((σ'.set j (some (V.ref a))).set i none)[l]? = _
          rw [List.getElem?_set_ne (fun z => hl.2.1 z.symm), List.getElem?_set_ne (fun z => hl.2.2 z.symm)]
        · show ((s'.r.set j _).set i _).length = _
          simp
      · rw [hb] at q
        simp only [handle] at q
        exact q W' σ' H' (.ref (G.cA c1)) none (e'.sub sub) r' ⟨c1, rfl, rfl, rfl⟩
    · rw [if_neg hm] at q
      exact q.elim
end
end MP
set_option maxRecDepth 100000
set_option maxHeartbeats 4000000
/-! R3j: the check of a statement. -/
namespace MP
open PySem PySem.Spec PyProof.Rows L2
def raiseB (C : SC) (sc : Scope) (c : Nat) : Expr → Bool
  | .Call f es ks _ => match f, es, ks with
    | .Name x _, [.Constant v _ _], [] => (match v with
      | .str _ => glB sc x && decide (C.cls.lookup x = some c)
      | _ => false)
    | _, _, _ => false
  | _ => false
/-- name = [.. for ..], stored within -/
def setLcB (C : SC) (sc : Scope) (t : Tg) (tg v : Expr) : Bool := match t, tg, v with
  | .one i, .Name y py, .ListComp _ _ scope p => decide (C.N[i]? = some y) && lcIn sc y py scope p
  | _, _, _ => false
/-- .. stored behind it -/
def setOutB (C : SC) (sc : Scope) (t : Tg) (tg v : Expr) : Bool := match t, tg, v with
  | .one i, .Name y py, .ListComp _ _ scope p => !lcIn sc y py scope p
  | _, _, _ => false
def isComp : ME → Bool
  | .comp _ _ _ _ _ _ => true
  | _ => false
/-- except C as n: y = n -/
def keepB (C : SC) (sc : Scope) : List (Nat × Option Nat × List MS) → ExceptHandler → Bool
  | [(cc, some i, [.set (.one j) (.var l)])], .ExceptHandler (some (.Name x _)) (some n) [.Assign [.Name y _] (.Name z _) _] _ => decide (l = i) && z == n && decide (C.N[i]? = some n) && decide (C.N[j]? = some y) && decide (i ≠ j) && locB sc n && locB sc y &&
      !(n == ("__debug__" : Str)) && !(n == ("__classdict__" : Str)) && glB sc x && decide (C.cls.lookup x = some cc) && C.isi.contains cc
  | _, _ => false
mutual
def chkS (C : SC) (sc : Scope) : MS → Stmt → Bool
  | .set t m, st => match st with
    | .Assign [tg] v _ => if isComp m then (setLcB C sc t tg v || (setOutB C sc t tg v && chkT C.N (loB sc) t tg)) && chkE C m sc v else notComp v && notTups tg v && chkT C.N (loB sc) t tg && chkE C m sc v
    | _ => false
  | .own i m, st => match st with
    | .Assign [.Name x _] v _ => notComp v && decide (C.N[i]? = some x) && loB sc x && newM m && chkE C m sc v
    | _ => false
  | .augIx mc mi o me, st => match st with
    | .AugAssign (.Subscript a b _) op v _ => decide (augOp o = some op) && plainIx b && chkE C mc sc a && chkE C mi sc b && chkE C me sc v
    | _ => false
  | .setIx mc mi me, st => match st with
    | .Assign [.Subscript a b _] v _ => notComp v && plainIx b && chkE C mc sc a && chkE C mi sc b && chkE C me sc v
    | _ => false
  | .expr m, st => match st with
    | .Expr v _ => notComp v && chkE C m sc v
    | _ => false
  | .ret m, st => match st with
    | .Return (some v) _ => chkE C m sc v
    | _ => false
  | .ife c a b, st => match st with
    | .If x p q _ => condE x && chkE C c sc x && chkSs C sc a p && chkSs C sc b q
    | _ => false
  | .whil c b, st => match st with
    | .While x p q _ => q.isEmpty && condE x && chkE C c sc x && chkSs C sc b p
    | _ => false
  | .forr t k its b, st => match st with
    | .For tg iter p q _ => q.isEmpty && chkT C.N (loB sc) t tg && (match itArgs sc k tg iter with
        | some es => es.all notStar && chkEs C its sc es
        | none => false) && its.all (fun m => match m with | .var j => !(asgT t ++ asgSs b).contains j | _ => true) && chkSs C sc b p
    | _ => false
  | .brk, st => match st with
    | .Break _ => true
    | _ => false
  | .cont, st => match st with
    | .Continue _ => true
    | _ => false
  | .pass, st => match st with
    | .Pass _ => true
    | _ => false
  | .raise c as, st => match st with
    | .Raise (some v) none _ => as.isEmpty && raiseB C sc c v
    | _ => false
  | .aug i o m, st => match st with
    | .AugAssign (.Name x _) op v _ => decide (C.N[i]? = some x) && loB sc x && decide (augOp o = some op) && chkE C m sc v
    | _ => false
  | .par i j a b, st => match st with
    | .Assign [tg] v _ => parB C sc i j tg v && (match v with
      | .Tuple [x, y] _ _ => chkE C a sc x && chkE C b sc y
      | _ => false)
    | _ => false
  | .tri b hs, st => match st with
    | .Try body [h] [] [] _ => keepB C sc hs h && chkSs C sc b body
    | _ => false
  | _, _ => false
def chkSs (C : SC) (sc : Scope) : List MS → List Stmt → Bool
  | [], [] => true
  | m :: ms, s :: ss => chkS C sc m s && chkSs C sc ms ss
  | _, _ => false
end
end MP
set_option maxRecDepth 100000
set_option maxHeartbeats 4000000
/-! R3k: a checked statement does what the small program says. -/
namespace MP
open PySem PySem.Spec PyProof.Rows L2
structure FullS (C : SC) (G : Nms) (g : Gst) (k : Nat) (X : Cx) (sc : Scope) (Wx : WX) : Prop where
  full : Full C G g k X sc Wx
  kind : sc.kind = .function
  fnc : ∀ x, X.fn x = true
  po : PassesOwn (model X.prog X.w) X.A X.env X.xe
  tk : Takes X Wx
  rs : ∀ x c, C.cls.lookup x = some c → RaiseOk G X.K X.mg x c
  stk : X.stack = X.env :: X.outer
  frm : X.env.frame = some X.env.locals
section
variable {C : SC} {G : Nms} {g : Gst} {X : Cx} {sc : Scope} {Wx : WX} {k : Nat}
theorem FullS.lo (D : FullS C G g k X sc Wx) : ∀ x, loB sc x = true → Loc X.env.scope x ∧ (X.fn x = true ∨ X.env.scope.names.lookup x = some .local) := fun x h => by
  rw [D.full.good.scp]
  exact ⟨loB_ok h, .inl (D.fnc x)⟩
theorem FullS.nd (D : FullS C G g k X sc Wx) : X.N.Nodup := by rw [D.full.good.N]; exact D.full.good.s0.nd
theorem each_one {N : List Str} {lo : Str → Bool} {t : Tg} {e : Expr} (h : chkT N lo t e = true) : (assignEach [e] X.env).map (·.2) = [assign e X.env] := by rw [each_cons h]; rfl
theorem FullS.tr (D : FullS C G g k X sc Wx) {W : WX} {pn : List (Addr × Obj)} {xe : Value → Shared → Prop} (tk : Takes (X.tr pn xe) W) (po : PassesOwn (model X.prog X.w) X.A X.env xe) : FullS C G g k (X.tr pn xe) sc W :=
  ⟨⟨⟨D.full.good.s0, ⟨D.full.good.of.P, D.full.good.of.w, D.full.good.of.K, D.full.good.of.un⟩, D.full.good.N, D.full.good.scp, D.full.good.calm⟩, D.full.room, D.full.calls, fun σ => passAt tk σ⟩, D.kind, D.fnc, po, tk, D.rs, D.stk, D.frm⟩
mutual
theorem sS : ∀ (m : MS) (st : Stmt) (X : Cx) (Wx : WX) (D : FullS C G g k X sc Wx), chkS C sc m st = true → PS X st (tS G Wx g m)
  | .set t m, st, X, Wx, D, h => by
    simp only [chkS] at h
    split at h
    · rename_i tg v pos
      split at h
      · rename_i hm
        simp only [Bool.and_eq_true] at h
        cases m <;> first | (cases hm; done) | skip
        obtain ⟨h1, h2⟩ := h
        simp only [Bool.or_eq_true, Bool.and_eq_true] at h1
        rcases h1 with h1 | ⟨h1, h3⟩
        · unfold setLcB at h1
          split at h1
          · simp only [Bool.and_eq_true, decide_eq_true_eq] at h1
            exact ss_setLc D.full D.kind (by rw [D.full.good.N]; exact h1.1) h1.2 h2
          · cases h1
        · unfold setOutB at h1
          split at h1
          · rename_i i y py elt gens scope p
            have hT : chkT X.N (loB sc) (.one i) (.Name y py) = true := by rw [D.full.good.N]; exact h3
            refine ss_setG D.full.good.of.K (sw_out (l := pos.line) (by rw [D.full.good.scp]; exact D.kind) (by rw [D.full.good.scp]; simpa using h1)) rfl (sE _ _ D.full h2).1 (pg_T D.full.good.calm D.nd D.lo (.one i) (.Name y py) hT) (each_one hT)
          · cases h1
      · simp only [Bool.and_eq_true] at h
        have hT : chkT X.N (loB sc) t tg = true := by rw [D.full.good.N]; exact h.1.2
        exact ss_set D.full.good.of.K h.1.1.1 h.1.1.2 (sE m v D.full h.2).1 (pg_T D.full.good.calm D.nd D.lo t tg hT) (each_one hT)
    · cases h
  | .own i m, st, X, Wx, D, h => by
    simp only [chkS] at h
    split at h
    · rename_i x p v pos
      simp only [Bool.and_eq_true, decide_eq_true_eq] at h
      have hi : X.N[i]? = some x := by rw [D.full.good.N]; exact h.1.1.1.2
      obtain ⟨l1, l2⟩ := D.lo x h.1.1.2
      exact ss_own (List.getElem?_eq_some_iff.mp hi).1 (fun I => I.len) h.1.1.1.1 ((sE m v D.full h.2).2.2.1 h.1.2) (pg_name D.nd hi l1 l2)
    · cases h
  | .augIx mc mi o me, st, X, Wx, D, h => by
    simp only [chkS] at h
    split at h
    · simp only [Bool.and_eq_true, decide_eq_true_eq] at h
      exact ss_augIx D.full.good.of h.1.1.1.1 (sE mc _ D.full h.1.1.2).2.1 (sE mi _ D.full h.1.2).1 (sE me _ D.full h.2).1 h.1.1.1.2
    · cases h
  | .setIx mc mi me, st, X, Wx, D, h => by
    simp only [chkS] at h
    split at h
    · simp only [Bool.and_eq_true] at h
      exact ss_setIx D.full.good.of h.1.1.1.1 (sE mc _ D.full h.1.1.2).2.1 (sE mi _ D.full h.1.2).1 (sE me _ D.full h.2).1 h.1.1.1.2 (by rename_i v _; cases v <;> rfl)
    · cases h
  | .expr m, st, X, Wx, D, h => by
    simp only [chkS] at h
    split at h
    · simp only [Bool.and_eq_true] at h
      exact ss_expr h.1 (sE m _ D.full h.2).1
    · cases h
  | .ret m, st, X, Wx, D, h => by
    simp only [chkS] at h
    split at h
    · exact ss_ret (sE m _ D.full h).1
    · cases h
  | .ife c a b, st, X, Wx, D, h => by
    simp only [chkS] at h
    split at h
    · simp only [Bool.and_eq_true] at h
      exact ss_if ((sE c _ D.full h.1.1.2).2.2.2 h.1.1.1) (sSs a _ X Wx D h.1.2) (sSs b _ X Wx D h.2)
    · cases h
  | .whil c b, st, X, Wx, D, h => by
    simp only [chkS] at h
    split at h
    · rename_i x p q pos
      simp only [Bool.and_eq_true, List.isEmpty_iff] at h
      obtain ⟨⟨⟨rfl, h1⟩, h2⟩, h3⟩ := h
      exact ss_while D.po ((sE c _ D.full h2).2.2.2 h1) (sSs b _ X Wx D h3)
    · cases h
  | .forr t kk its b, st, X, Wx, D, h => by
    simp only [chkS] at h
    split at h
    · rename_i tg iter p q pos
      simp only [Bool.and_eq_true, List.isEmpty_iff] at h
      obtain ⟨⟨⟨⟨rfl, h1⟩, h2⟩, h3⟩, h4⟩ := h
      cases hi : itArgs sc kk tg iter with
      | none => rw [hi] at h2; cases h2
      | some es =>
        rw [hi] at h2
        simp only [Bool.and_eq_true] at h2
        have ih := sEs its es D.full h2.2
        obtain ⟨pi, hset⟩ := pi_walk (tg := tg) D.full.good hi (SE.px ih)
        have hT : chkT X.N (loB sc) t tg = true := by rw [D.full.good.N]; exact h1
        refine ss_for D.full.good.of.K D.po D.full.good.calm pi (pg_T D.full.good.calm D.nd D.lo t tg hT) (sSs b _ X Wx D h4) hset fun j hj => ?_
        have := List.all_eq_true.mp h3 _ hj
        simpa using this
    · cases h
  | .brk, st, X, Wx, D, h => by
    simp only [chkS] at h
    split at h
    · exact ss_brk
    · cases h
  | .cont, st, X, Wx, D, h => by
    simp only [chkS] at h
    split at h
    · exact ss_cont
    · cases h
  | .pass, st, X, Wx, D, h => by
    simp only [chkS] at h
    split at h
    · exact ss_pass
    · cases h
  | .raise c as, st, X, Wx, D, h => by
    simp only [chkS] at h
    split at h
    · rename_i v pos
      simp only [Bool.and_eq_true, List.isEmpty_iff] at h
      obtain ⟨rfl, h⟩ := h
      unfold raiseB at h
      split at h
      · split at h
        · split at h
          · simp only [Bool.and_eq_true, decide_eq_true_eq] at h
            exact ss_raise D.full.good D.tk h.1 (D.rs _ _ h.2)
          · cases h
        · cases h
      · cases h
    · cases h
  | .par i j a b, st, X, Wx, D, h => by
    simp only [chkS] at h
    split at h
    · rename_i tg v pos
      simp only [Bool.and_eq_true] at h
      obtain ⟨h1, h2⟩ := h
      unfold parB at h1
      split at h1
      · simp only [Bool.and_eq_true, decide_eq_true_eq, Bool.not_eq_true'] at h1 h2
        obtain ⟨⟨⟨⟨⟨⟨⟨⟨⟨⟨q1, q2⟩, q3⟩, q4⟩, q5⟩, q6⟩, q7⟩, q8⟩, q9⟩, q10⟩, q11⟩ := h1
        have lx := of_decide_eq_true q5
        have ly := of_decide_eq_true q6
        rw [← D.full.good.scp] at lx ly
        refine ss_par D.full.good.calm D.nd (by rw [D.full.good.N]; exact q1) (by rw [D.full.good.N]; exact q2) q3 lx ly (paE_of (.cons (sE a _ D.full h2.1).1 (.cons (sE b _ D.full h2.2).1 .nil)) (by simp [q8, q9])) (swap_two (by rw [D.full.good.scp]; exact D.kind) lx ly q4 q7 q8 q9 q10 q11)
      · cases h1
    · cases h
  | .aug i o m, st, X, Wx, D, h => by
    simp only [chkS] at h
    split at h
    · rename_i x p op v pos
      simp only [Bool.and_eq_true, decide_eq_true_eq] at h
      obtain ⟨l1, l2⟩ := D.lo x h.1.1.2
      exact ss_augA D.nd (by rw [D.full.good.N]; exact h.1.1.1) l1 l2 h.1.2 (sE m v D.full h.2).2.1
    · cases h
  | .setFld _ _ _, st, X, Wx, D, h => by simp [chkS] at h
  | .tri b hs, st, X, Wx, D, h => by
    simp only [chkS] at h
    split at h
    · rename_i body hh pos
      simp only [Bool.and_eq_true] at h
      obtain ⟨h1, h2⟩ := h
      unfold keepB at h1
      split at h1
      · simp only [Bool.and_eq_true, decide_eq_true_eq, Bool.not_eq_true', beq_iff_eq] at h1
        obtain ⟨⟨⟨⟨⟨⟨⟨⟨⟨⟨⟨q1, q2⟩, q3⟩, q4⟩, q5⟩, q6⟩, q7⟩, q8⟩, q9⟩, q10⟩, q11⟩, q12⟩ := h1
        subst q1 q2
        have ln := of_decide_eq_true q6
        have ly := of_decide_eq_true q7
        rw [← D.full.good.scp] at ln ly
        exact ss_keep D.full.good D.stk D.frm (by rw [D.full.good.N]; exact q3) (by rw [D.full.good.N]; exact q4) q5 ln ly q8 q9 q10 q11 (by simpa using q12) D.tk fun W pn xe tk po => sSs b body _ W (FullS.tr (W := W) (pn := pn) (xe := xe) D tk po) h2
      · cases h1
    · cases h
theorem sSs : ∀ (ms : List MS) (ss : List Stmt) (X : Cx) (Wx : WX) (D : FullS C G g k X sc Wx), chkSs C sc ms ss = true → PSs X ss (tSs G Wx g ms)
  | [], [], X, Wx, D, _ => pss_nil'
  | m :: ms, s :: ss, X, Wx, D, h => by
    simp only [chkSs, Bool.and_eq_true] at h
    exact pss_cons' (sS m s X Wx D h.1) (sSs ms ss X Wx D h.2)
  | [], _ :: _, X, Wx, D, h => by simp [chkSs] at h
  | _ :: _, [], X, Wx, D, h => by simp [chkSs] at h
end
end
end MP
set_option maxRecDepth 100000
set_option maxHeartbeats 4000000
/-! R4a: a def's entry. -/
namespace MP
open PySem PySem.Spec PyProof.Rows L2
section
variable {G : Nms} {W : Wd} {H : Hp} {us m : List U} {vs : List V}
theorem start_fr {N : List Str} {n : Nat} (hn : n = N.length) (hl : us.length ≤ n) (rv : RepVs G W H us vs) (rm : RelSh G W m H) : RelFr G W ⟨slots0 us n, m⟩ (L2.start N vs) H := by
  have hlen := RepVs.length rv
  refine ⟨?_, fun i x hx => ?_, fun i j u u' a ij h1 h2 _ _ => ?_, rm⟩
  · show (us.map Slt.val ++ List.replicate (n - us.length) Slt.no).length = (vs.map some ++ List.replicate (N.length - vs.length) none).length
    simp only [List.length_append, List.length_map, List.length_replicate]
    omega
  · have hx : (us.map Slt.val ++ List.replicate (n - us.length) Slt.no)[i]? = some x := hx
    show ∃ y, (vs.map some ++ List.replicate (N.length - vs.length) none)[i]? = some y ∧ _
    by_cases hi : i < us.length
    · rw [List.getElem?_append_left (by simpa using hi), List.getElem?_map] at hx
      rw [List.getElem?_append_left (by simp; omega), List.getElem?_map]
      have hu := List.getElem?_eq_getElem hi
      obtain ⟨v, h1, h2⟩ := RepVs.get rv hu
      rw [hu] at hx
      cases hx
      rw [h1]
      exact ⟨_, rfl, v, rfl, h2⟩
    · rw [List.getElem?_append_right (by simp; omega)] at hx
      have hx' := List.getElem?_eq_some_iff.mp hx
      obtain ⟨h1, h2⟩ := hx'
      simp only [List.length_replicate, List.length_map] at h1
      rw [List.getElem_replicate] at h2
      subst h2
      refine ⟨none, ?_, trivial⟩
      rw [List.getElem?_append_right (by simp; omega), List.getElem?_replicate]
      simp only [List.length_map]
      rw [if_pos (by omega)]
  · exfalso
    have h1 : (us.map Slt.val ++ List.replicate (n - us.length) Slt.no)[i]? = some (Slt.own u) := h1
    by_cases hi : i < us.length
    · rw [List.getElem?_append_left (by simpa using hi), List.getElem?_map, List.getElem?_eq_getElem hi] at h1
      cases h1
    · rw [List.getElem?_append_right (by simp; omega)] at h1
      obtain ⟨_, h2⟩ := List.getElem?_eq_some_iff.mp h1
      rw [List.getElem_replicate] at h2
      cases h2
end
end MP
set_option maxRecDepth 100000
set_option maxHeartbeats 4000000
/-! R4b: a def keeps its promise. -/
namespace MP
open PySem PySem.Spec PyProof.Rows L2
section
variable {C : SC} {G : Nms} {g : Gst} {mg : Str → Option Value} {base : Heap} {k : Nat}
theorem fullS_of {qual : Str} {scope : Scope} {f : Addr} {cdv : Value} {A : Around} {outer : List Env} {s : Shared} {H : Hp} {E : XK} (s0 : St0 C G g mg) (hk : scope.kind = .function) (hr : Room k (A.deeper (envOfC qual scope s.heap.objs.size f cdv)))
    (calls : ∀ x f, C.fn.lookup x = some f → CallOk G g G.K mg base k x f) (rs : ∀ x c, C.cls.lookup x = some c → RaiseOk G G.K mg x c) :
    FullS C G g k (cxOf (L2.CX G.P G.w) G.P G.w G.K mg base C.N qual scope f cdv A outer s H E) scope (fun cls d _ H => E cls d H) := by
  have tk : Takes (cxOf (L2.CX G.P G.w) G.P G.w G.K mg base C.N qual scope f cdv A outer s H E) (fun cls d _ H => E cls d H) := takes_of rfl rfl rfl rfl
  exact ⟨⟨⟨s0, ⟨rfl, rfl, rfl, by have := hr.un; show (A.deeper (envOfC qual scope s.heap.objs.size f cdv)).units + 150 < cLine; omega⟩, rfl, rfl, rfl⟩, hr, calls, fun σ => passAt tk σ⟩, hk, fun _ => rfl, passes_of rfl, tk, rs, rfl, rfl⟩
theorem no_own {us m : List U} {n : Nat} {σ : L2.St} {a : Addr} : ¬ Ownd ⟨slots0 us n, m⟩ σ a := fun ⟨i, u, h, _⟩ => by
  have h1 : (us.map Slt.val ++ List.replicate (n - us.length) Slt.no)[i]? = some (Slt.own u) := h
  by_cases hi : i < us.length
  · rw [List.getElem?_append_left (by simpa using hi), List.getElem?_map, List.getElem?_eq_getElem hi] at h1
    cases h1
  · rw [List.getElem?_append_right (by simp; omega)] at h1
    obtain ⟨_, h2⟩ := List.getElem?_eq_some_iff.mp h1
    rw [List.getElem_replicate] at h2
    cases h2
theorem ExS.toM {A : List Nat} {us m : List U} {n : Nat} {s' : Sta} {σ σ' : L2.St} {W W' : Wd} {H H' : Hp} (e : ExS A ⟨slots0 us n, m⟩ s' σ σ' W W' H H') : ExtM W W' H H' :=
  ⟨e.le, e.kp, fun a o h1 h2 => e.fr a o h1 h2 no_own, fun a h => by
    rcases e.new a h with q | q | q
    · exact .inl q
    · exact absurd q no_own
    · exact .inr q⟩
/-- a def by its checked body, one level up -/
theorem def_ok (p : Prg) (n f : Nat) (d : MDef) {x qual : Str} {st : Stmt} {fd : FuncData} {ps : List Str} (hct : p.ctor f = none) (hd : p.def_ f = some d) (hN : d.slots = C.N.length) (hpar : d.params = ps.length) (hle : d.params ≤ d.slots)
    (F : L2.Fun G.K x qual st (G.fA f) fd) (S : FnScope C.N ps (defScope st)) (hchk : chkSs C (defScope st) d.body (defBody st) = true) (s0 : St0 C G (stOf p n) mg)
    (calls : ∀ x f, C.fn.lookup x = some f → CallOk G (stOf p n) G.K mg base k x f) (rs : ∀ x c, C.cls.lookup x = some c → RaiseOk G G.K mg x c) :
    FnOk G.P G.w G.K mg base (L2.CX G.P G.w) (k + 1) (G.fA f) fd ps (spI G (stOf p (n + 1)) f) := by
  have hcall : ∀ us m, (stOf p (n + 1)).call f us m = runDef (stOf p n) d us m := fun us m => by
    show (match p.ctor f with | some (c, k, i, kind) => _ | none => match p.def_ f with | some d => runDef (stOf p n) d us m | none => .stuck) = _
    rw [hct, hd]
  refine F.okX S (fun vs H Q E h => ?_) fun cdv A outer s H vs Q E hr h => ?_
  · obtain ⟨W, us, m, rm, rv, h⟩ := h
    rw [hcall] at h
    unfold runDef at h
    have := RepVs.length rv
    by_cases hl : us.length = d.params
    · omega
    · rw [if_neg (by simpa using hl)] at h; exact h.elim
  · obtain ⟨W, us, m, rm, rv, h⟩ := h
    rw [hcall] at h
    unfold runDef at h
    by_cases hl : us.length = d.params
    · rw [if_pos (by simpa using hl)] at h
      have D := fullS_of (qual := qual) (cdv := cdv) (f := G.fA f) (E := E) (H := H) (outer := outer) s0 S.kind hr calls rs
      refine ⟨_, sSs d.body (defBody st) _ _ D hchk, W, ⟨slots0 us d.slots, m⟩, start_fr hN (by omega) rv rm, ?_⟩
      cases ee : execs (stOf p n) d.body ⟨slots0 us d.slots, m⟩ with
      | stuck => rw [ee] at h; exact h
      | exc e s' => rw [ee] at h; exact fun W' σ' H' cls dd e' r' hx => h W' H' cls dd e'.toM r'.m hx
      | ok fl s' =>
        rw [ee] at h
        intro W' σ' H' e' r'
        cases fl with
        | next => exact h W' H' .non e'.toM r'.m (by simp only [RepV])
        | ret u => exact fun v hv => h W' H' v e'.toM r'.m hv
        | brk => exact h.elim
        | cont => exact h.elim
    · rw [if_neg (by simpa using hl)] at h; exact h.elim
end
end MP
set_option maxRecDepth 100000
set_option maxHeartbeats 4000000
/-! R4c: all defs of a program. -/
namespace MP
open PySem PySem.Spec PyProof.Rows L2
/-- a def: its name, its number, what it does, its names, its text -/
structure PD where
  x : Str
  f : Nat
  d : MDef
  N : List Str
  st : Stmt
def PD.ps (q : PD) : List Str := q.N.take q.d.params
/-- a program's table -/
structure PT0 where
  p : Prg
  defs : List PD
  cls : List (Str × Nat)
  fn : List (Str × Nat)
  glo : List (Str × Nat × U)
  isi : List Nat
def PT0.sc (T : PT0) (N : List Str) : SC := ⟨N, T.cls, T.fn, T.glo, T.isi⟩
def okNo : Option (Nat × Nat × Nat × Nat) → Bool
  | none => true
  | some _ => false
/-- the look at a def -/
def PD.ok (T : PT0) (q : PD) : Bool := okNo (T.p.ctor q.f) && decide (q.d.slots = q.N.length) && decide (q.d.params ≤ q.d.slots) && C8.scC q.N q.ps (defScope q.st) && chkSs (T.sc q.N) (defScope q.st) q.d.body (defBody q.st)
theorem scope_by {N P : List Str} {sc : Scope} (h : C8.scC N P sc = true) : FnScope N P sc := C8.fnScope_by h
section
variable {T : PT0} {G : Nms} {mg : Str → Option Value} {base : Heap}
structure FnD (G : Nms) (mg : Str → Option Value) (q : PD) : Prop where
  ex : ∃ fd, FunD G.K q.x q.x (defArgs q.st) (defBody q.st) (defScope q.st) [] [] (G.fA q.f) fd ∧ Binds G.K fd q.ps []
  at_ : mg q.x = some (.ref (G.fA q.f))
theorem def_ok2 {q : PD} {n k : Nat} {fd : FuncData} (hd : T.p.def_ q.f = some q.d) (ho : q.ok T = true) (F : FunD G.K q.x q.x (defArgs q.st) (defBody q.st) (defScope q.st) [] [] (G.fA q.f) fd)
    (s0 : St0 (T.sc q.N) G (stOf T.p n) mg) (calls : ∀ x f, T.fn.lookup x = some f → CallOk G (stOf T.p n) G.K mg base k x f) (rs : ∀ x c, T.cls.lookup x = some c → RaiseOk G G.K mg x c) :
    FnOk G.P G.w G.K mg base (L2.CX G.P G.w) (k + 1) (G.fA q.f) fd q.ps (spI G (stOf T.p (n + 1)) q.f) := by
  unfold PD.ok at ho
  simp only [Bool.and_eq_true, decide_eq_true_eq] at ho
  obtain ⟨⟨⟨⟨h1, h2⟩, h3⟩, h4⟩, h5⟩ := ho
  have hct : T.p.ctor q.f = none := by
    cases e : T.p.ctor q.f with
    | none => rfl
    | some z => rw [e] at h1; cases h1
  have S := scope_by h4
  have hpl : q.ps.length = q.d.params := by unfold PD.ps; rw [List.length_take]; omega
  have hcall : ∀ us m, (stOf T.p (n + 1)).call q.f us m = runDef (stOf T.p n) q.d us m := fun us m => by
    show (match T.p.ctor q.f with | some (c, k, i, kind) => _ | none => match T.p.def_ q.f with | some d => runDef (stOf T.p n) d us m | none => .stuck) = _
    rw [hct, hd]
  refine F.ok S (fun vs H Q E h => ?_) fun cdv A outer s H vs Q E hr h => ?_
  · obtain ⟨W, us, m, rm, rv, h⟩ := h
    rw [hcall] at h
    unfold runDef at h
    have := RepVs.length rv
    by_cases hl : us.length = q.d.params
    · omega
    · rw [if_neg (by simpa using hl)] at h; exact h.elim
  · obtain ⟨W, us, m, rm, rv, h⟩ := h
    rw [hcall] at h
    unfold runDef at h
    by_cases hl : us.length = q.d.params
    · rw [if_pos (by simpa using hl)] at h
      have D := fullS_of (qual := q.x) (cdv := cdv) (f := G.fA q.f) (E := E) (H := H) (outer := outer) s0 S.kind hr calls rs
      refine ⟨_, sSs q.d.body (defBody q.st) _ _ D h5, W, ⟨slots0 us q.d.slots, m⟩, start_fr h2 (by omega) rv rm, ?_⟩
      cases ee : execs (stOf T.p n) q.d.body ⟨slots0 us q.d.slots, m⟩ with
      | stuck => rw [ee] at h; exact h
      | exc e s' => rw [ee] at h; exact fun W' σ' H' cls dd e' r' hx => h W' H' cls dd e'.toM r'.m hx
      | ok fl s' =>
        rw [ee] at h
        intro W' σ' H' e' r'
        cases fl with
        | next => exact h W' H' .non e'.toM r'.m (by simp only [RepV])
        | ret u => exact fun v hv => h W' H' v e'.toM r'.m hv
        | brk => exact h.elim
        | cont => exact h.elim
    · rw [if_neg (by simpa using hl)] at h; exact h.elim
/-- a def by its name in the table -/
def PT0.has (T : PT0) (x : Str) (f : Nat) (q : PD) : Prop := q ∈ T.defs ∧ q.x = x ∧ q.f = f
theorem all_ok (hfn : ∀ x f, T.fn.lookup x = some f → ∃ q, T.has x f q) (hd : ∀ q ∈ T.defs, T.p.def_ q.f = some q.d) (ho : ∀ q ∈ T.defs, q.ok T = true) (hF : ∀ q ∈ T.defs, FnD G mg q)
    (s0 : ∀ q ∈ T.defs, ∀ n, St0 (T.sc q.N) G (stOf T.p n) mg) (rs : ∀ x c, T.cls.lookup x = some c → RaiseOk G G.K mg x c) : ∀ n x f, T.fn.lookup x = some f → CallOk G (stOf T.p n) G.K mg base n x f
  | 0, x, f, h => by
    obtain ⟨q, hq, rfl, rfl⟩ := hfn x f h
    obtain ⟨⟨fd, F, B⟩, hm⟩ := hF q hq
    exact ⟨fd, q.ps, hm, F.kp, B, ⟨fun vs H Q E ⟨_, _, _, _, _, z⟩ => z.elim, fun A outer s H args us vs Q E _ _ _ _ ⟨_, _, _, _, _, z⟩ => z.elim⟩⟩
  | n + 1, x, f, h => by
    obtain ⟨q, hq, rfl, rfl⟩ := hfn x f h
    obtain ⟨⟨fd, F, B⟩, hm⟩ := hF q hq
    exact ⟨fd, q.ps, hm, F.kp, B, def_ok2 (hd q hq) (ho q hq) F (s0 q hq n) (all_ok hfn hd ho hF s0 rs n) rs⟩
end
end MP
set_option maxRecDepth 100000
set_option maxHeartbeats 4000000
/-! R5a: the head's facts; the law's end. -/
namespace MP
open PySem PySem.Spec PyProof.Rows L2
def mkN (P : Program) (w : World) (K : PySem.W.Frag) (fN : Nat → Str × Option Str) (cN : Nat → Str) : Nms :=
  { P := P, w := w, K := K, fA := fun f => He.fAd K (fN f), cA := fun c => He.ga K (cN c), aN := fun _ => ⟨#[]⟩, aP := fun _ _ => none }
/-- what isinstance and except ask, looked at -/
def excChk (K : PySem.W.Frag) (D : Addr) : Bool :=
  decide (PySem.W.findIn K (.ref D) "__getattribute__" = some (some (.builtin "BaseException.__getattribute__"))) && decide (PySem.W.findIn K (.ref D) "__getattr__" = some none) && decide (PySem.W.subIn K (.ref D) (.type "BaseException") = some true) &&
  PySem.W.hasDictIn K D && decide (PySem.W.findIn K (.ref D) "__class__" = some (some (.builtin "object.__class__"))) && decide (PySem.W.specialIn K (.builtin "object.__class__") "__get__" = some (some (.builtin "getset_descriptor.__get__"))) &&
  decide (PySem.W.takesIn K (.builtin "object.__class__") = some true) && decide (PySem.W.mroIn K D (.type "object") = some true)
theorem excChk_ok {K : PySem.W.Frag} {D : Addr} (h : excChk K D = true) : ExcC K D := by
  unfold excChk at h
  simp only [Bool.and_eq_true, decide_eq_true_eq] at h
  obtain ⟨⟨⟨⟨⟨⟨⟨h1, h2⟩, h3⟩, h4⟩, h5⟩, h6⟩, h7⟩, h8⟩ := h
  exact ⟨h1, h2, h3, h4, h5, h6, h7, h8⟩
def kitChk (p : Prg) (isi : List Nat) (cN : Nat → Str) (K : PySem.W.Frag) : Bool :=
  (isi.all fun c => baseT.all fun t => decide (PySem.W.kitOne K (.type t) (.ref (He.ga K (cN c))) = some false)) &&
  (p.excs.all fun d => isi.all fun c => decide (PySem.W.kitOne K (.ref (He.ga K (cN d))) (.ref (He.ga K (cN c))) = some (p.sub d c))) &&
  (p.excs.all fun d => kindT.all fun n => decide (PySem.W.kitOne K (.ref (He.ga K (cN d))) (.type n) = some false)) &&
  (p.excs.all fun d => excChk K (He.ga K (cN d))) &&
  (p.excs.all fun d => isi.all fun c => decide (PySem.W.exmOne K (.ref (He.ga K (cN d))) (.ref (He.ga K (cN c))) = some (p.sub d c)))
theorem st_excs (p : Prg) (n : Nat) : (stOf p n).excs = p.excs := by cases n <;> rfl
theorem st_sub (p : Prg) (n : Nat) : (stOf p n).sub = p.sub := by cases n <;> rfl
section
variable {P : Program} {w : World} {K : PySem.W.Frag} {fN : Nat → Str × Option Str} {cN : Nat → Str} {p : Prg} {isi : List Nat}
theorem kit_of (h : kitChk p isi cN K = true) (n : Nat) : KitOk (mkN P w K fN cN) (stOf p n) isi := by
  unfold kitChk at h
  simp only [Bool.and_eq_true, List.all_eq_true, decide_eq_true_eq] at h
  obtain ⟨⟨⟨⟨h1, h2⟩, h3⟩, h4⟩, h5⟩ := h
  refine ⟨fun c hc t ht => h1 c hc t ht, fun d hd c hc => ?_, fun d hd n hn => ?_, fun d hd => ?_, fun d hd c hc => ?_⟩
  · rw [st_excs] at hd; rw [st_sub]; exact h2 d hd c hc
  · rw [st_excs] at hd; exact h3 d hd n hn
  · rw [st_excs] at hd; exact excChk_ok (h4 d hd)
  · rw [st_excs] at hd; rw [st_sub]; exact h5 d hd c hc
theorem raise_of {mg : Str → Option Value} {x : Str} {c : Nat} (hc : cN c = x) (hg : mg x = some (.ref (He.ga K x))) (h : (He.Fa.exc x).ok K = true) : RaiseOk (mkN P w K fN cN) K mg x c := by
  subst hc
  obtain ⟨h1, h2, h3, h4⟩ := He.exc_ok h
  exact ⟨He.veBase, "ValueError", "ValueError.__new__", "ValueError.__init__", PySem.F.excBase_ValueError, h1, hg, h2, h3, h4⟩
end
theorem scr_rep {G : Nms} {W : Wd} {H : Hp} : ∀ ns : List Int, RepVs G W H (ns.map U.int) (ns.map V.int)
  | [] => by simp only [List.map_nil, RepVs]
  | n :: ns => by
    simp only [List.map_cons, RepVs]
    exact ⟨_, _, rfl, by simp only [RepV], scr_rep ns⟩
theorem sp_law {G : Nms} {g : Gst} {f : Nat} {H : Hp} {a : Addr} {ns : List Int} (hO : Only H) (hS : SqL G.K H a (ns.map V.int)) {m' : List U} (h : g.call f [.scr (ns.map U.int)] [] = .ok (.bl true) m') :
    spI G g f [.ref a] H (fun v _ => v = .bl true) fun _ _ _ => False := by
  have hS' : Scr G.K H a (ns.map V.int) := by
    rcases hS with (h1 | ⟨o, h1⟩) | h1
    · exfalso
      rcases hO a with z | ⟨o, xs, z⟩
      · rw [h1] at z; cases z
      · rw [h1] at z; cases z
    · exact .inl ⟨o, h1⟩
    · exact .inr h1
  refine ⟨⟨[], fun _ => False⟩, [.scr (ns.map U.int)], [], ⟨rfl, by simp, fun n b hb => by simp at hb, fun b hb => hb.elim⟩, ?_, ?_⟩
  · simp only [RepVs]
    refine ⟨_, _, rfl, ?_, rfl⟩
    simp only [RepV]
    exact ⟨a, _, rfl, hS', scr_rep ns⟩
  · rw [h]
    intro W' H' v _ _ rv
    simp only [RepV] at rv
    exact rv
theorem walk_ofW {l : PySem.W.OpenLaw} {n k : Nat} {q : Program} {loose : List Str} {XP : (Str → Option Value) → Heap → Prop} {YP : World → Heap → Prop} {d : DefRec} {x : Str} (hn : l.most = some n) (hn2 : n ≤ sizeLine) (hdf : d.params.defaults = []) (hr : Room k callerA)
    (F : ∀ (w : World) (mg : Str → Option Value) (fa : Addr) (h : Heap), YP w h → h.Ns mainGlobals mg → mg d.name = some (.ref fa) → ∃ (K : PySem.W.Frag) (fd : FuncData) (sp : Sp), K.In h ∧ (∀ (s : Shared) (u : Value), BindsTo s fd ⟨[u], []⟩ [(x, u)]) ∧
        (∀ (H : Hp) (a : Addr) (ns : List Int), ns.length ≤ n → (∀ z ∈ ns, Builtin.Int.intBits z ≤ 1048576) → Only H → SqL K H a (ns.map V.int) → sp [.ref a] H (fun v _ => v = .bl true) fun _ _ _ => False) ∧
        ∀ base : Heap, K.In base → base.Ns mainGlobals mg → FnOk l.prog w K mg base (L2.CX l.prog w) k fa fd [x] sp) :
    PySem.W.WalkO q loose XP YP l.row.toRowW d [] (fun f vs => PySem.call f vs) := by
  refine Att.attach_callB hn hdf ?_
  intro w s0 s1 mg mb fa o pm cd doc a vs ns G Y _ _ _ hmg hobj hints hlen hbits hg
  obtain ⟨K, fd, sp, KX, hb, hsp, hF⟩ := F w mg fa _ Y G.T.g hmg
  refine law_call KX G.T.g G.T.b G.T.builtins G.T.nolimit hg hobj hints (Nat.le_trans hlen hn2) hr hF hb (fun H hO hS => hsp H a ns hlen hbits hO hS) ?_
  rintro H e s' ⟨_, _, _, _, _, _, _, _, _, _, _, _, z⟩
  exact z
end MP
set_option maxRecDepth 100000
set_option maxHeartbeats 4000000
/-! R5b: from the head's facts to the law. -/
namespace MP
open PySem PySem.Spec PyProof.Rows L2
def PD.toD (q : PD) : He.DefD := ⟨(q.x, none), q.x, q.x, defArgs q.st, defBody q.st, defScope q.st, [], []⟩
def intU : U → Int
  | .int i => i
  | _ => 0
def isInt : U → Bool
  | .int _ => true
  | _ => false
/-- the facts that are asked of the head -/
def PT0.fa (T : PT0) : List He.Fa := T.defs.map (fun q => .glo q.x) ++ (T.cls.map (fun z => .glo z.1) ++ (T.cls.map (fun z => .exc z.1) ++ (T.glo.map (fun z => .int z.1 (intU z.2.2)) ++ bnames.map fun n => .free (Str.ofString n))))
def PT0.dfn (T : PT0) : List He.DefD := T.defs.map PD.toD
/-- the look at the table -/
def PT0.ok (T : PT0) (fN : Nat → Str × Option Str) (cN : Nat → Str) : Bool :=
  (T.defs.all fun q => decide (fN q.f = (q.x, none)) && q.ok T) && (T.cls.all fun z => decide (cN z.2 = z.1)) && (T.glo.all fun z => isInt z.2.2) && (T.fn.all fun z => T.defs.any fun q => decide (q.x = z.1) && decide (q.f = z.2))
/-- each def stands in the program by its number -/
def PT0.Stands (T : PT0) : Prop := ∀ q ∈ T.defs, T.p.def_ q.f = some q.d
/-- how arguments bind -/
def PT0.BindAll (T : PT0) : Prop := ∀ q ∈ T.defs, ∀ (K : PySem.W.Frag) (f : Addr) (fd : FuncData), FunD K q.x q.x (defArgs q.st) (defBody q.st) (defScope q.st) [] [] f fd → ∀ us : List Value, us.length = q.ps.length → ∀ s : Shared, BindsTo s fd ⟨us, []⟩ (q.ps.zip us)
theorem lookup_mem {α β : Type} [BEq α] [LawfulBEq α] : ∀ {l : List (α × β)} {x : α} {y : β}, l.lookup x = some y → (x, y) ∈ l
  | [], x, y, h => by cases h
  | (a, b) :: l, x, y, h => by
    rw [List.lookup_cons] at h
    split at h
    · rename_i e
      cases h
      have := eq_of_beq e
      subst this
      exact List.mem_cons_self
    · exact List.mem_cons_of_mem _ (lookup_mem h)
section
variable {T : PT0} {fN : Nat → Str × Option Str} {cN : Nat → Str} {P : Program} {w : World} {K : PySem.W.Frag} {mg : Str → Option Value} {h : Heap}
theorem PD.nd {q : PD} (ho : q.ok T = true) : q.N.Nodup := by
  unfold PD.ok at ho
  simp only [Bool.and_eq_true, decide_eq_true_eq] at ho
  exact (scope_by ho.1.2).nd
theorem head_of (hT : T.ok fN cN = true) (hS : T.Stands) (hB : T.BindAll) (KX : K.In h) (hns : h.Ns mainGlobals mg) (c : He.SaysD T.fa T.dfn K) (hk : kitChk T.p T.isi cN K = true) {ql : PD} (hl : ql ∈ T.defs) {x : Str} (hx : ql.ps = [x]) (n : Nat) :
    ∃ fd, (mkN P w K fN cN).fA ql.f = He.ga K ql.x ∧ mg ql.x = some (.ref (He.ga K ql.x)) ∧ (∀ (s : Shared) (u : Value), BindsTo s fd ⟨[u], []⟩ [(x, u)]) ∧
      ∀ base : Heap, FnOk P w K mg base (L2.CX P w) (n + 1) (He.ga K ql.x) fd [x] (spI (mkN P w K fN cN) (stOf T.p (n + 1)) ql.f) := by
  unfold PT0.ok at hT
  simp only [Bool.and_eq_true, List.all_eq_true, decide_eq_true_eq, List.any_eq_true] at hT
  obtain ⟨⟨⟨t1, t2⟩, t3⟩, t4⟩ := hT
  have fa1 : ∀ q ∈ T.defs, (mkN P w K fN cN).fA q.f = He.ga K q.x := fun q hq => by
    show He.fAd K (fN q.f) = _
    rw [(t1 q hq).1]
    rfl
  have g1 : ∀ q ∈ T.defs, mg q.x = some (.ref (He.ga K q.x)) := fun q hq => He.glo_ok KX hns (c.facts (f := .glo q.x) (by unfold PT0.fa; simp only [List.mem_append, List.mem_map]; exact .inl ⟨q, hq, rfl⟩))
  have g2 : ∀ x cc, T.cls.lookup x = some cc → cN cc = x ∧ mg x = some (.ref (He.ga K x)) ∧ (He.Fa.exc x).ok K = true := fun x cc e => by
    have m := lookup_mem e
    refine ⟨t2 _ m, He.glo_ok KX hns (c.facts (f := .glo x) ?_), c.facts (f := .exc x) ?_⟩
    · unfold PT0.fa; simp only [List.mem_append, List.mem_map]; exact .inr (.inl ⟨_, m, rfl⟩)
    · unfold PT0.fa; simp only [List.mem_append, List.mem_map]; exact .inr (.inr (.inl ⟨_, m, rfl⟩))
  have s0 : ∀ q ∈ T.defs, ∀ n, St0 (T.sc q.N) (mkN P w K fN cN) (stOf T.p n) mg := fun q hq n => by
    refine ⟨PD.nd (t1 q hq).2, kit_of hk n, fun b hb => He.free_ok KX hns (c.facts (f := .free (Str.ofString b)) ?_), fun x cc e => ?_, fun x m u hm => ?_⟩
    · unfold PT0.fa; simp only [List.mem_append, List.mem_map]; exact .inr (.inr (.inr (.inr ⟨b, hb, rfl⟩)))
    · obtain ⟨e1, e2, _⟩ := g2 x cc e
      show mg x = some (.ref (He.ga K (cN cc)))
      rw [e1]; exact e2
    · have hi := t3 _ hm
      cases u <;> first | (cases hi; done) | skip
      rename_i i
      obtain ⟨t, ht⟩ := He.int_ok KX hns (c.facts (f := .int x i) (by unfold PT0.fa; simp only [List.mem_append, List.mem_map]; exact .inr (.inr (.inr (.inl ⟨_, hm, rfl⟩)))))
      exact ⟨.int i, _, ht, ⟨t, rfl⟩, fun W H => by simp only [RepV]⟩
  have rs : ∀ x cc, T.cls.lookup x = some cc → RaiseOk (mkN P w K fN cN) K mg x cc := fun x cc e => by
    obtain ⟨e1, e2, e3⟩ := g2 x cc e
    exact raise_of e1 e2 e3
  have fnD : ∀ q ∈ T.defs, ∃ fd, FunD K q.x q.x (defArgs q.st) (defBody q.st) (defScope q.st) [] [] (He.ga K q.x) fd := fun q hq => by
    obtain ⟨fd, F⟩ := c.defs (d := q.toD) (by unfold PT0.dfn; exact List.mem_map.mpr ⟨q, hq, rfl⟩)
    exact ⟨fd, F⟩
  have bnd : ∀ q ∈ T.defs, ∀ fd, FunD K q.x q.x (defArgs q.st) (defBody q.st) (defScope q.st) [] [] (He.ga K q.x) fd → Binds K fd q.ps [] := fun q hq fd F s us _ hl => by
    rw [List.append_nil] at hl ⊢
    exact hB q hq K _ fd F us hl s
  have hF : ∀ q ∈ T.defs, FnD (mkN P w K fN cN) mg q := fun q hq => by
    obtain ⟨fd, F⟩ := fnD q hq
    refine ⟨⟨fd, ?_, bnd q hq fd F⟩, ?_⟩
    · rw [fa1 q hq]; exact F
    · rw [fa1 q hq]; exact g1 q hq
  have hfn : ∀ x f, T.fn.lookup x = some f → ∃ q, T.has x f q := fun x f e => by
    obtain ⟨q, hq, h1, h2⟩ := t4 _ (lookup_mem e)
    exact ⟨q, hq, h1, h2⟩
  obtain ⟨fd, F⟩ := fnD ql hl
  refine ⟨fd, fa1 ql hl, g1 ql hl, fun s u => ?_, fun base => ?_⟩
  · have := hB ql hl K _ fd F [u] (by rw [hx]; rfl) s
    rw [hx] at this
    exact this
  · have := def_ok2 (G := mkN P w K fN cN) (mg := mg) (base := base) (k := n) (hS ql hl) (t1 ql hl).2 (by rw [fa1 ql hl]; exact F) (s0 ql hl n) (all_ok hfn hS (fun q hq => (t1 q hq).2) hF s0 rs n) rs
    rw [fa1 ql hl, hx] at this
    exact this
end
end MP
set_option maxRecDepth 100000
set_option maxHeartbeats 0
namespace HK83
open PySem PySem.Spec PyProof.Rows L2 MP
def top (i : Nat) : Stmt := PySem.Challenge.pw_letterhand_k83_chains_of_rooms.main.body.getD i (.Pass ⟨0, 0, 0, 0⟩)
def q_turns_is_whole : PD := ⟨"is_whole", 0, MPE.K83.d_turns_is_whole, ["thing"], top 10⟩
def q_turns_is_between : PD := ⟨"is_between", 1, MPE.K83.d_turns_is_between, ["thing", "least", "most"], top 11⟩
def q_turns_is_turn : PD := ⟨"is_turn", 2, MPE.K83.d_turns_is_turn, ["thing", "letter"], top 12⟩
def q_turns_need_turn : PD := ⟨"need_turn", 3, MPE.K83.d_turns_need_turn, ["thing"], top 13⟩
def q_turns_undone : PD := ⟨"undone", 27, MPE.K83.d_turns_undone, ["turn", "letter"], top 14⟩
def q_turns_turn_back : PD := ⟨"turn_back", 28, MPE.K83.d_turns_turn_back, ["turn"], top 15⟩
def q_turns_turn_after : PD := ⟨"turn_after", 4, MPE.K83.d_turns_turn_after, ["one", "other", "letter"], top 16⟩
def q_machines_is_below : PD := ⟨"is_below", 5, MPE.K83.d_machines_is_below, ["thing", "end"], top 20⟩
def q_machines_is_room : PD := ⟨"is_room", 6, MPE.K83.d_machines_is_room, ["thing", "many", "rooms", "turn", "rests", "to"], top 21⟩
def q_machines_is_machine : PD := ⟨"is_machine", 7, MPE.K83.d_machines_is_machine, ["thing", "first", "room"], top 22⟩
def q_machines_sure_machine : PD := ⟨"sure_machine", 8, MPE.K83.d_machines_sure_machine, ["machine"], top 23⟩
def q_machines_letters_of : PD := ⟨"letters_of", 9, MPE.K83.d_machines_letters_of, ["machine"], top 24⟩
def q_machines_sure_row_of : PD := ⟨"sure_row_of", 29, MPE.K83.d_machines_sure_row_of, ["machine", "row", "many", "one"], top 25⟩
def q_machines_led : PD := ⟨"led", 30, MPE.K83.d_machines_led, ["machine", "row", "made", "at", "letter", "turn", "rests"], top 26⟩
def q_machines_run : PD := ⟨"run", 31, MPE.K83.d_machines_run, ["machine", "row"], top 27⟩
def q_machines_room_behind : PD := ⟨"room_behind", 32, MPE.K83.d_machines_room_behind, ["machine", "row"], top 28⟩
def q_machines_numbered : PD := ⟨"numbered", 10, MPE.K83.d_machines_numbered, ["things", "numbers", "thing"], top 29⟩
def q_machines_room_marks : PD := ⟨"room_marks", 11, MPE.K83.d_machines_room_marks, ["machine", "room", "marks", "known", "to", "at"], top 30⟩
def q_machines_least_from : PD := ⟨"least_from", 12, MPE.K83.d_machines_least_from, ["machine", "room", "marks", "met", "places", "at", "to", "one"], top 31⟩
def q_machines_least : PD := ⟨"least", 13, MPE.K83.d_machines_least, ["machine"], top 32⟩
def q_machines_checked_room : PD := ⟨"checked_room", 33, MPE.K83.d_machines_checked_room, ["machine", "room"], top 33⟩
def q_machines_begun_at : PD := ⟨"begun_at", 34, MPE.K83.d_machines_begun_at, ["machine", "room"], top 34⟩
def q_machines_parting_row : PD := ⟨"parting_row", 35, MPE.K83.d_machines_parting_row, ["machine", "one", "other", "many", "met", "known", "at", "left", "right", "row", "letter", "pair"], top 35⟩
def q_products_room_back : PD := ⟨"room_back", 36, MPE.K83.d_products_room_back, ["room", "turn", "rests", "undone", "letter"], top 37⟩
def q_products_turned_back : PD := ⟨"turned_back", 37, MPE.K83.d_products_turned_back, ["machine", "room"], top 38⟩
def q_products_paired : PD := ⟨"paired", 14, MPE.K83.d_products_paired, ["one", "other", "met", "places", "rooms", "first", "second", "turn", "rests", "leads", "letter", "to", "pair"], top 39⟩
def q_products_both : PD := ⟨"both", 15, MPE.K83.d_products_both, ["one", "other"], top 40⟩
def q_law__law_state : PD := ⟨"_law_state", 16, MPE.K83.d_law__law_state, ["_law_script", "_law_k", "_law_cell", "_law_number", "_law_primes", "_law_at", "_law_prime", "_law_one"], top 42⟩
def q_law__law_next : PD := ⟨"_law_next", 17, MPE.K83.d_law__law_next, ["_law_state_here", "_law_most", "_law_digit"], top 43⟩
def q_law__law_turn : PD := ⟨"_law_turn", 18, MPE.K83.d_law__law_turn, ["_law_state_here", "_law_many", "_law_left", "_law_turn_here"], top 44⟩
def q_law__law_full_turn : PD := ⟨"_law_full_turn", 19, MPE.K83.d_law__law_full_turn, ["_law_state_here", "_law_many", "_law_letters", "_law_following", "_law_at", "_law_letter"], top 45⟩
def q_law__law_same : PD := ⟨"_law_same", 38, MPE.K83.d_law__law_same, ["_law_one", "_law_at", "_law_other", "_law_to", "_law_met", "_law_known", "_law_left", "_law_right", "_law_here", "_law_there"], top 46⟩
def q_law__law_good : PD := ⟨"_law_good", 20, MPE.K83.d_law__law_good, ["_law_told", "_law_many", "_law_room", "_law_numbers", "_law_one", "_law_to"], top 47⟩
def q_law__law_marks : PD := ⟨"_law_marks", 21, MPE.K83.d_law__law_marks, ["_law_machine", "_law_room", "_law_signs", "_law_sign", "_law_marks_here", "_law_many", "_law_to", "_law_at"], top 48⟩
def q_law__law_least : PD := ⟨"_law_least", 23, MPE.K83.d_law__law_least, ["_law_told", "_law_come", "_law_at", "_law_room", "_law_to"], top 49⟩
def q_law__law_mixed : PD := ⟨"_law_mixed", 39, MPE.K83.d_law__law_mixed, ["_law_state_here", "_law_rooms", "_law_places", "_law_at", "_law_to", "_law_kept"], top 50⟩
def q_law__law_chain : PD := ⟨"_law_chain", 40, MPE.K83.d_law__law_chain, ["_law_state_here", "_law_many", "_law_rooms", "_law_places", "_law_home", "_law_around", "_law_last", "_law_told", "_law_at", "_law_place", "_law_to", "_law_rests"], top 51⟩
def q_law__law_led : PD := ⟨"_law_led", 41, MPE.K83.d_law__law_led, ["_law_machine", "_law_row", "_law_made", "_law_at", "_law_letter"], top 52⟩
def q_law_law : PD := ⟨"law", 26, MPE.K83.d_law_law, ["_law_script", "_law_state_here", "_law_many", "_law_rooms", "_law_places", "_law_machine", "_law_third", "_law_plain", "_law_k", "_law_row", "_law_told", "_law_one", "_law_other", "_law_due", "_law_rows", "_law_still"], top 53⟩
def clsT : List (Str × Nat) := ([("HandError", 0), ("NoTurn", 1), ("NoRow", 6), ("NoMachine", 2), ("NoNumber", 7), ("TooMany", 3)] : List (Str × Nat))
def fnT : List (Str × Nat) := ([("is_whole", 0), ("is_between", 1), ("is_turn", 2), ("need_turn", 3), ("undone", 27), ("turn_back", 28), ("turn_after", 4), ("is_below", 5), ("is_room", 6), ("is_machine", 7), ("sure_machine", 8), ("letters_of", 9), ("sure_row_of", 29), ("led", 30), ("run", 31), ("room_behind", 32)] : List (Str × Nat)) ++ ([("numbered", 10), ("room_marks", 11), ("least_from", 12), ("least", 13), ("checked_room", 33), ("begun_at", 34), ("parting_row", 35), ("room_back", 36), ("turned_back", 37), ("paired", 14), ("both", 15), ("_law_state", 16), ("_law_next", 17), ("_law_turn", 18), ("_law_full_turn", 19), ("_law_same", 38)] : List (Str × Nat)) ++ ([("_law_good", 20), ("_law_marks", 21), ("_law_least", 23), ("_law_mixed", 39), ("_law_chain", 40), ("_law_led", 41), ("law", 26)] : List (Str × Nat))
def T : PT0 := ⟨MPE.K83.prog, [q_turns_is_whole, q_turns_is_between, q_turns_is_turn, q_turns_need_turn, q_turns_undone, q_turns_turn_back, q_turns_turn_after, q_machines_is_below, q_machines_is_room, q_machines_is_machine, q_machines_sure_machine, q_machines_letters_of, q_machines_sure_row_of, q_machines_led, q_machines_run, q_machines_room_behind, q_machines_numbered, q_machines_room_marks, q_machines_least_from, q_machines_least, q_machines_checked_room, q_machines_begun_at, q_machines_parting_row, q_products_room_back, q_products_turned_back, q_products_paired, q_products_both, q_law__law_state, q_law__law_next, q_law__law_turn, q_law__law_full_turn, q_law__law_same, q_law__law_good, q_law__law_marks, q_law__law_least, q_law__law_mixed, q_law__law_chain, q_law__law_led, q_law_law], clsT, fnT, [("LEAST_MANY", 0, .int 2), ("MOST_MANY", 1, .int 4), ("MOST_ROOMS", 2, .int 60), ("MOST_LETTERS", 3, .int 100)], []⟩
def fN (f : Nat) : Str × Option Str := (((fnT.map fun z => (z.2, z.1)).lookup f).getD ⟨#[]⟩, none)
def cN (c : Nat) : Str := ((clsT.map fun z => (z.2, z.1)).lookup c).getD ⟨#[]⟩
theorem tOk : T.ok fN cN = true := by decide +kernel
theorem stands : T.Stands := by
  intro q hq
  simp only [T, List.mem_cons, List.not_mem_nil, or_false] at hq
  rcases hq with rfl | rfl | rfl | rfl | rfl | rfl | rfl | rfl | rfl | rfl | rfl | rfl | rfl | rfl | rfl | rfl | rfl | rfl | rfl | rfl | rfl | rfl | rfl | rfl | rfl | rfl | rfl | rfl | rfl | rfl | rfl | rfl | rfl | rfl | rfl | rfl | rfl | rfl | rfl <;> rfl
theorem binds : T.BindAll := by
  intro q hq
  simp only [T, List.mem_cons, List.not_mem_nil, or_false] at hq
  rcases hq with rfl | rfl | rfl | rfl | rfl | rfl | rfl | rfl | rfl | rfl | rfl | rfl | rfl | rfl | rfl | rfl | rfl | rfl | rfl | rfl | rfl | rfl | rfl | rfl | rfl | rfl | rfl | rfl | rfl | rfl | rfl | rfl | rfl | rfl | rfl | rfl | rfl | rfl | rfl
  · exact fun K f fd F us hl s => FunD.bindsA (ps := q_turns_is_whole.ps) F (fun _ _ _ _ _ _ us hl => match us, hl with | [_], _ => rfl) s us hl
  · exact fun K f fd F us hl s => FunD.bindsA (ps := q_turns_is_between.ps) F (fun _ _ _ _ _ _ us hl => match us, hl with | [_, _, _], _ => rfl) s us hl
  · exact fun K f fd F us hl s => FunD.bindsA (ps := q_turns_is_turn.ps) F (fun _ _ _ _ _ _ us hl => match us, hl with | [_], _ => rfl) s us hl
  · exact fun K f fd F us hl s => FunD.bindsA (ps := q_turns_need_turn.ps) F (fun _ _ _ _ _ _ us hl => match us, hl with | [_], _ => rfl) s us hl
  · exact fun K f fd F us hl s => FunD.bindsA (ps := q_turns_undone.ps) F (fun _ _ _ _ _ _ us hl => match us, hl with | [_], _ => rfl) s us hl
  · exact fun K f fd F us hl s => FunD.bindsA (ps := q_turns_turn_back.ps) F (fun _ _ _ _ _ _ us hl => match us, hl with | [_], _ => rfl) s us hl
  · exact fun K f fd F us hl s => FunD.bindsA (ps := q_turns_turn_after.ps) F (fun _ _ _ _ _ _ us hl => match us, hl with | [_, _], _ => rfl) s us hl
  · exact fun K f fd F us hl s => FunD.bindsA (ps := q_machines_is_below.ps) F (fun _ _ _ _ _ _ us hl => match us, hl with | [_, _], _ => rfl) s us hl
  · exact fun K f fd F us hl s => FunD.bindsA (ps := q_machines_is_room.ps) F (fun _ _ _ _ _ _ us hl => match us, hl with | [_, _, _], _ => rfl) s us hl
  · exact fun K f fd F us hl s => FunD.bindsA (ps := q_machines_is_machine.ps) F (fun _ _ _ _ _ _ us hl => match us, hl with | [_], _ => rfl) s us hl
  · exact fun K f fd F us hl s => FunD.bindsA (ps := q_machines_sure_machine.ps) F (fun _ _ _ _ _ _ us hl => match us, hl with | [_], _ => rfl) s us hl
  · exact fun K f fd F us hl s => FunD.bindsA (ps := q_machines_letters_of.ps) F (fun _ _ _ _ _ _ us hl => match us, hl with | [_], _ => rfl) s us hl
  · exact fun K f fd F us hl s => FunD.bindsA (ps := q_machines_sure_row_of.ps) F (fun _ _ _ _ _ _ us hl => match us, hl with | [_, _], _ => rfl) s us hl
  · exact fun K f fd F us hl s => FunD.bindsA (ps := q_machines_led.ps) F (fun _ _ _ _ _ _ us hl => match us, hl with | [_, _], _ => rfl) s us hl
  · exact fun K f fd F us hl s => FunD.bindsA (ps := q_machines_run.ps) F (fun _ _ _ _ _ _ us hl => match us, hl with | [_, _], _ => rfl) s us hl
  · exact fun K f fd F us hl s => FunD.bindsA (ps := q_machines_room_behind.ps) F (fun _ _ _ _ _ _ us hl => match us, hl with | [_, _], _ => rfl) s us hl
  · exact fun K f fd F us hl s => FunD.bindsA (ps := q_machines_numbered.ps) F (fun _ _ _ _ _ _ us hl => match us, hl with | [_], _ => rfl) s us hl
  · exact fun K f fd F us hl s => FunD.bindsA (ps := q_machines_room_marks.ps) F (fun _ _ _ _ _ _ us hl => match us, hl with | [_], _ => rfl) s us hl
  · exact fun K f fd F us hl s => FunD.bindsA (ps := q_machines_least_from.ps) F (fun _ _ _ _ _ _ us hl => match us, hl with | [_, _], _ => rfl) s us hl
  · exact fun K f fd F us hl s => FunD.bindsA (ps := q_machines_least.ps) F (fun _ _ _ _ _ _ us hl => match us, hl with | [_], _ => rfl) s us hl
  · exact fun K f fd F us hl s => FunD.bindsA (ps := q_machines_checked_room.ps) F (fun _ _ _ _ _ _ us hl => match us, hl with | [_, _], _ => rfl) s us hl
  · exact fun K f fd F us hl s => FunD.bindsA (ps := q_machines_begun_at.ps) F (fun _ _ _ _ _ _ us hl => match us, hl with | [_, _], _ => rfl) s us hl
  · exact fun K f fd F us hl s => FunD.bindsA (ps := q_machines_parting_row.ps) F (fun _ _ _ _ _ _ us hl => match us, hl with | [_, _, _], _ => rfl) s us hl
  · exact fun K f fd F us hl s => FunD.bindsA (ps := q_products_room_back.ps) F (fun _ _ _ _ _ _ us hl => match us, hl with | [_], _ => rfl) s us hl
  · exact fun K f fd F us hl s => FunD.bindsA (ps := q_products_turned_back.ps) F (fun _ _ _ _ _ _ us hl => match us, hl with | [_], _ => rfl) s us hl
  · exact fun K f fd F us hl s => FunD.bindsA (ps := q_products_paired.ps) F (fun _ _ _ _ _ _ us hl => match us, hl with | [_, _], _ => rfl) s us hl
  · exact fun K f fd F us hl s => FunD.bindsA (ps := q_products_both.ps) F (fun _ _ _ _ _ _ us hl => match us, hl with | [_, _], _ => rfl) s us hl
  · exact fun K f fd F us hl s => FunD.bindsA (ps := q_law__law_state.ps) F (fun _ _ _ _ _ _ us hl => match us, hl with | [_, _], _ => rfl) s us hl
  · exact fun K f fd F us hl s => FunD.bindsA (ps := q_law__law_next.ps) F (fun _ _ _ _ _ _ us hl => match us, hl with | [_, _], _ => rfl) s us hl
  · exact fun K f fd F us hl s => FunD.bindsA (ps := q_law__law_turn.ps) F (fun _ _ _ _ _ _ us hl => match us, hl with | [_, _], _ => rfl) s us hl
  · exact fun K f fd F us hl s => FunD.bindsA (ps := q_law__law_full_turn.ps) F (fun _ _ _ _ _ _ us hl => match us, hl with | [_, _], _ => rfl) s us hl
  · exact fun K f fd F us hl s => FunD.bindsA (ps := q_law__law_same.ps) F (fun _ _ _ _ _ _ us hl => match us, hl with | [_, _, _, _], _ => rfl) s us hl
  · exact fun K f fd F us hl s => FunD.bindsA (ps := q_law__law_good.ps) F (fun _ _ _ _ _ _ us hl => match us, hl with | [_, _], _ => rfl) s us hl
  · exact fun K f fd F us hl s => FunD.bindsA (ps := q_law__law_marks.ps) F (fun _ _ _ _ _ _ us hl => match us, hl with | [_], _ => rfl) s us hl
  · exact fun K f fd F us hl s => FunD.bindsA (ps := q_law__law_least.ps) F (fun _ _ _ _ _ _ us hl => match us, hl with | [_], _ => rfl) s us hl
  · exact fun K f fd F us hl s => FunD.bindsA (ps := q_law__law_mixed.ps) F (fun _ _ _ _ _ _ us hl => match us, hl with | [_, _], _ => rfl) s us hl
  · exact fun K f fd F us hl s => FunD.bindsA (ps := q_law__law_chain.ps) F (fun _ _ _ _ _ _ us hl => match us, hl with | [_, _, _, _], _ => rfl) s us hl
  · exact fun K f fd F us hl s => FunD.bindsA (ps := q_law__law_led.ps) F (fun _ _ _ _ _ _ us hl => match us, hl with | [_, _], _ => rfl) s us hl
  · exact fun K f fd F us hl s => FunD.bindsA (ps := q_law_law.ps) F (fun _ _ _ _ _ _ us hl => match us, hl with | [_], _ => rfl) s us hl
abbrev R : PySem.W.OpenRow := PySem.W.OpenLaw.row PySem.Challenge.rw_letterhand_k83_chains_of_rooms
def ex (K : PySem.W.Frag) : Bool := kitChk T.p T.isi cN K
abbrev hk : PySem.W.Hook := He.hookX 5 T.fa T.dfn [] [] ex
def ob (s : PySem.W.SharedT) : He.AlX := He.obsX 5 T.fa T.dfn [] [] ex (HandSHeadRun.getT s)
theorem ob_eq (s : PySem.W.SharedT) : ob s = hk.obs s.abs := He.obsX_eq (HandSHeadRun.getT_eq s)
def loose : List PySem.Str := (["HandError", "NoTurn", "NoRow", "NoMachine", "NoNumber", "TooMany", "LEAST_MANY", "MOST_MANY", "is_whole", "is_between", "is_turn", "need_turn", "undone", "turn_back", "turn_after", "MOST_ROOMS", "MOST_LETTERS", "is_below", "is_room", "is_machine"] : List PySem.Str) ++ (["sure_machine", "letters_of", "sure_row_of", "led", "run", "room_behind", "numbered", "room_marks", "least_from", "least", "checked_room", "begun_at", "parting_row", "room_back", "turned_back", "paired", "both", "_law_state", "_law_next", "_law_turn"] : List PySem.Str) ++ (["_law_full_turn", "_law_same", "_law_good", "_law_marks", "_law_least", "_law_mixed", "_law_chain", "_law_led"] : List PySem.Str)
theorem run (w : World) : HandSHeadRun.RunEq R (PySem.W.view R.prog [53]) hk ob 4000 loose w := by
  intro os
  kernel_rfl
open PySem PySem.W PySem.Calls PyProof.Rows
/-- the law by what the small program answers -/
theorem law_of (main : ∀ ns : List Int, ns.length ≤ 63 → (∀ z ∈ ns, Builtin.Int.intBits z ≤ 1048576) → ∃ m', (stOf MPE.K83.prog 12).call 26 [.scr (ns.map U.int)] [] = .ok (.bl true) m') : PySem.Challenge.rw_letterhand_k83_chains_of_rooms.Holds := by
  w_on; o_law
  refine HandSHeadRun.head_any (r := R) (q := view R.prog [53]) (H := hk) (ob := ob) (M := 4000) (loose := loose) (d := HandSHeadRun.topDef R.prog 53) (kwd := []) ob_eq
    (by kernel_rfl) (fun s => by kernel_rfl) run (by kernel_rfl) (by kernel_rfl) (by kernel_rfl) (by rfl) (by first | assumption | decide +kernel) (by decide +kernel) ⟨rfl, rfl, rfl, rfl, rfl, by decide +kernel⟩ ?hw ?hc
  case hw => w_witness2
  case hc =>
    refine walk_ofW (l := PySem.Challenge.rw_letterhand_k83_chains_of_rooms) (n := 63) (k := 12) (x := "_law_script") rfl (by decide) (by kernel_rfl) ⟨rfl, by decide, by decide⟩ ?F
    rintro w mg fa h ⟨K, KX, c⟩ G hmg0
    have hmg : mg ("law" : PySem.Str) = some (.ref fa) := by
      have e : (HandSHeadRun.topDef R.prog 53).name = ("law" : PySem.Str) := by kernel_rfl
      rw [← e]
      exact hmg0
    obtain ⟨fd, h1, h2, h3, h4⟩ := head_of (P := PySem.Challenge.rw_letterhand_k83_chains_of_rooms.prog) (w := w) tOk stands binds KX G c.t.d c.more (ql := q_law_law) (by simp [T]) (x := "_law_script") rfl 11
    have e := hmg.symm.trans h2
    cases e
    exact ⟨K, fd, _, KX, h3, fun H a ns hl hb hO hS => let ⟨m', q⟩ := main ns hl hb; sp_law hO hS q, fun base _ _ => h4 base⟩
end HK83
theorem PySem.Challenge.cw_letterhand_k83_chains_of_rooms_holds : PySem.Challenge.rw_letterhand_k83_chains_of_rooms.Holds := by
  exact HK83.law_of fun ns _ _ => MPE.K83.main ns
