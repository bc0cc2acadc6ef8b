import PyProof.Rows.All
import Wide.All
import OpenK.AllK
import Wide.FinOn
import HandS.ForMost
import HandS.Exc
import HandS.TryOnly
import HandS.ExcOwn
import HandS.WordsExc
import KE.KDictKeyed
import HandS.Lambda
import HandS.TupAny
import HandS.TupMul
import HandS.Conv
import HandS.Strs
import HandS.Deep
import HandS.IsInst
import HandS.Wide
import HandS.SetKeys
import HandS.SortInts
import HandS.ExcIs
import HandS.Zip
import HandS.Style
import HandS.Text
import HandS.Flow
import HandS.Iter
import KE.GoesMore
import HandS.TryMany
import HandS.Defaults
import HandS.Codes
import HandS.HeadHook1
import HandS.HeadHook2
import HandS.HeadHook3
import HandS.HeadHook4
import PyProof.ExcBaseAll.ValueError
import HandS.Head0
import HandS.Head1
import HandS.Head2
import HandS.HeadEnd
import HandS.EndBits
import HandS.EndTab
import HandS.HeadWalk
import PySem.Challenge.RW_letterhand_k86_long_words_alike
set_option Elab.async false
set_option linter.all false
/-! R0: a small Python: values, expressions, statements, and what they do. Plain Lean, no program in sight. -/
namespace MP

/-- values: tuples, frozen lists and dicts, instances that never change, by their content; ref: a shared object -/
inductive U where
  | non
  | bl (b : Bool)
  | int (i : Int)
  | str (s : List Nat)
  | tup (us : List U)
  | prs (us : List U)          -- what enumerate, zip, divmod hand out: to be taken apart at once
  | lst (us : List U)
  | dic (ks vs : List U)
  | obj (c : Nat) (fs : List U)
  | exc (c : Nat) (fs : List U)
  | ref (n : Nat)
  | fn (f : Nat)
  | clo (k : Nat) (vs : List U)
  | hole                       -- a field that is not set
  | scr (us : List U)          -- the law's script: a list that is read alone
  deriving Inhabited, Repr

mutual
def eqU : U → U → Bool
  | .non, .non => true
  | .bl a, .bl b => a == b
  | .bl a, .int j => (if a then 1 else 0) == j
  | .int i, .bl b => i == (if b then 1 else 0)
  | .int i, .int j => i == j
  | .str a, .str b => a == b
  | .tup a, .tup b => eqUs a b
  | .lst a, .lst b => eqUs a b
  | .scr a, .lst b => eqUs a b
  | .lst a, .scr b => eqUs a b
  | .scr a, .scr b => eqUs a b
  | _, _ => false
def eqUs : List U → List U → Bool
  | [], [] => true
  | a :: as, b :: bs => eqU a b && eqUs as bs
  | _, _ => false
end

/-- a text of signs -/
def strU (s : List Nat) : Bool := decide (s.length ≤ 16777216) && s.all fun c => decide (c < 55296)

mutual
/-- the very same -/
def sameU : U → U → Bool
  | .non, .non => true
  | .bl a, .bl b => a == b
  | .int i, .int j => i == j
  | .str a, .str b => a == b
  | .tup a, .tup b => sameUs a b
  | .lst a, .lst b => sameUs a b
  | .dic a b, .dic c d => sameUs a c && sameUs b d
  | .obj a b, .obj c d => a == c && sameUs b d
  | .exc a b, .exc c d => a == c && sameUs b d
  | .ref a, .ref b => a == b
  | .fn a, .fn b => a == b
  | .clo a b, .clo c d => a == c && sameUs b d
  | .scr a, .scr b => sameUs a b
  | _, _ => false
def sameUs : List U → List U → Bool
  | [], [] => true
  | a :: as, b :: bs => sameU a b && sameUs as bs
  | _, _ => false
end

mutual
/-- plain data to a depth, of which == is by content (no dict, no instance, no shared object) -/
def deepU : Nat → U → Bool
  | _, .non | _, .bl _ | _, .int _ => true
  | _, .str s => strU s
  | n + 1, .tup us => deepUs n us
  | n + 1, .lst us => deepUs n us
  | n + 1, .scr us => deepUs n us
  | _, _ => false
def deepUs : Nat → List U → Bool
  | _, [] => true
  | n, u :: us => deepU n u && deepUs n us
end
abbrev U.plain (u : U) : Bool := deepU 7 u
abbrev plains (us : List U) : Bool := deepUs 6 us

/-! keys of dicts: ints and texts, or tuples of these, of truths, of such tuples -/
def isIS : U → Bool
  | .int _ | .str _ => true
  | _ => false
def isTupU : U → Bool
  | .tup _ => true
  | _ => false
mutual
def keyT : Nat → U → Bool
  | _, .bl _ | _, .int _ | _, .str _ => true
  | n + 1, .tup us => keyTs n us
  | _, _ => false
def keyTs : Nat → List U → Bool
  | _, [] => true
  | n, u :: us => keyT n u && keyTs n us
end
def kOk (ks : List U) (a : U) : Bool := (isIS a && ks.all isIS) || (isTupU a && keyT 7 a && ks.all isTupU)

/-- what stands in a name: nothing, a value, or a list, dict, instance of the frame's own -/
inductive Slt where
  | no
  | val (u : U)
  | own (u : U)
  | clo (us : List U)   -- the lambda that was handed in, with what it holds
  deriving Inhabited, Repr

/-- names' slots, shared objects -/
structure Sta where
  r : List Slt
  m : List U
  deriving Inhabited, Repr

inductive Rs (α : Type) where
  | ok (a : α) (s : Sta)
  | exc (e : U) (s : Sta)
  | stuck
  deriving Inhabited, Repr

/-- what a call comes to -/
inductive RC where
  | ok (u : U) (m : List U)
  | exc (e : U) (m : List U)
  | stuck
  deriving Inhabited, Repr

namespace Rs
def bind {α β : Type} (x : Rs α) (f : α → Sta → Rs β) : Rs β :=
  match x with
  | .ok a s => f a s
  | .exc e s => .exc e s
  | .stuck => .stuck
end Rs

def bToI (b : Bool) : Int := if b then 1 else 0

/-! ### operations that read -/
inductive Opr where
  | add | sub | mul | fdiv | mod | pow | neg | abs
  | eq | ne | lt | le | gt | ge | isN | notN | inn | notin
  | ix | slice (lo hi : Bool) | rev
  | tup | lst | dict (n : Nat)
  | len | tupOf | lstOf | sorted | max1 | max2 | min2 | all | any | sum
  | isi (ts : List Nat)   -- 0 int 1 bool 2 tuple 3 list 4 str 5 dict; 10 + c: the class c
  | tupR1 | tupR2 | lstR1 | lstR2
  | index | get1 | get2 | divmod | lenSet
  | dictOf
  | fld (f : Nat)
  deriving Repr, Inhabited, DecidableEq

/-- a shared object's content -/
def cont (m : List U) : U → U
  | .ref n => m.getD n .non
  | u => u

def items? : U → Option (List U)
  | .tup us => some us
  | .lst us => some us
  | _ => none

def atI (us : List U) (i : Int) : Option U :=
  if 0 ≤ i then us[i.toNat]? else if 0 ≤ i + us.length then us[(i + us.length).toNat]? else none

def cut {α : Type} (us : List α) (lo hi : Option Int) : List α :=
  let n : Int := us.length
  let f := fun (i : Int) => if i < 0 then Max.max (i + n) 0 else Min.min i n
  let a := match lo with | some i => f i | none => 0
  let b := match hi with | some i => f i | none => n
  (us.take b.toNat).drop a.toNat

def ltI : List U → List U → Option Bool
  | [], [] => some false
  | [], _ => some true
  | _, [] => some false
  | .int a :: as, .int b :: bs => if a == b then ltI as bs else some (decide (a < b))
  | _, _ => none

def ltU : U → U → Option Bool
  | .int i, .int j => some (decide (i < j))
  | .str a, .str b => some (decide (a < b))
  | .tup a, .tup b => ltI a b
  | _, _ => none

def insU (x : U) : List U → Option (List U)
  | [] => some [x]
  | y :: ys => match ltU x y with
    | some true => some (x :: y :: ys)
    | some false => (insU x ys).map (y :: ·)
    | none => none
def sortU : List U → Option (List U)
  | [] => some []
  | x :: xs => (sortU xs).bind (insU x)

def insI (x : Int) : List Int → List Int
  | [] => [x]
  | y :: ys => if x ≤ y then x :: y :: ys else y :: insI x ys
def sortI : List Int → List Int
  | [] => []
  | x :: xs => insI x (sortI xs)

def memU (x : U) (us : List U) : Bool := us.any (fun y => eqU y x)
def idxU (x : U) : List U → Option Nat
  | [] => none
  | y :: ys => if eqU y x then some 0 else (idxU x ys).map (· + 1)
def dget (ks vs : List U) (k : U) : Option U :=
  match ks, vs with
  | k' :: ks, v :: vs => if eqU k' k then some v else dget ks vs k
  | _, _ => none
def dput (ks vs : List U) (k v : U) : List U × List U :=
  if memU k ks then (ks, List.zipWith (fun k' w => if eqU k' k then v else w) ks vs) else (ks ++ [k], vs ++ [v])
def ints? : List U → Option (List Int)
  | [] => some []
  | .int i :: us => (ints? us).map (i :: ·)
  | _ => none
def maxI : List Int → Option Int
  | [] => none
  | a :: as => match maxI as with
    | none => some a
    | some b => some (Max.max a b)
/-- each once -/
def stepI (acc : List Int) (k : Int) : List Int := if acc.any (· == k) then acc else acc ++ [k]
def onceI (is : List Int) : List Int := is.foldl stepI []
def line : Nat := 16777216
def truthy : U → Option Bool
  | .non => some false
  | .bl b => some b
  | .int i => some (i != 0)
  | .str s => if s.length ≤ line then some (s != []) else none
  | .tup us => some (!us.isEmpty)
  | .lst us => some (!us.isEmpty)
  | .dic ks _ => if ks.all isIS then some (!ks.isEmpty) else none
  | _ => none
def allT : List U → Option Bool
  | [] => some true
  | .bl b :: us => (allT us).map (b && ·)
  | _ => none
def anyT : List U → Option Bool
  | [] => some false
  | .bl b :: us => (anyT us).map (b || ·)
  | _ => none
def isK (u : U) : Nat → Bool
  | 0 => match u with | .int _ => true | .bl _ => true | _ => false
  | 1 => match u with | .bl _ => true | _ => false
  | 2 => match u with | .tup _ => true | _ => false
  | 3 => match u with | .lst _ => true | _ => false
  | 4 => match u with | .str _ => true | _ => false
  | 5 => match u with | .dic _ _ => true | _ => false
  | _ => false
def rng (a b : Int) : List U := (List.range (b - a).toNat).map fun (k : Nat) => U.int (a + (k : Int))
def bound : Int := 4611686018427387904
def small (i : Int) : Bool := decide (-bound ≤ i ∧ i < bound)
def two64 : Int := 18446744073709551616

/-! ### the static part -/
/-- defs by number; a class's methods; the classes' order; globals; how often a while may turn -/
structure Gst where
  call : Nat → List U → List U → RC
  /-- class, method's name: the def -/
  mt : Nat → Nat → Option Nat
  sub : Nat → Nat → Bool
  attr : Nat → Nat → Option Nat
  /-- the lambda that was handed in: what it holds, the memory -/
  clo : List U → List U → RC
  /-- a def called with a lambda -/
  callL : Nat → List U → (List U → List U → RC) → List U → RC
  turns : Nat
  excs : List Nat
  /-- the own classes of instances -/
  objs : List Nat

def isT (g : Gst) (u : U) (t : Nat) : Bool :=
  if t < 10 then isK u t else match u with
    | .obj c _ => g.sub c (t - 10)
    | .exc c _ => g.sub c (t - 10)
    | _ => false

def okL (us : List U) : Option U := if us.length ≤ line then some (.lst us) else none
def okT (us : List U) : Option U := if us.length ≤ line then some (.tup us) else none
def pairsOf : List U → List U → List U
  | k :: ks, v :: vs => .tup [k, v] :: pairsOf ks vs
  | _, _ => []
def mkDic : List U → List U → List U → Option U
  | k :: v :: r, ks, vs => if kOk ks k then mkDic r (dput ks vs k v).1 (dput ks vs k v).2 else none
  | [], ks, vs => some (.dic ks vs)
  | _, _, _ => none
def repN (us : List U) : Nat → List U
  | 0 => []
  | n + 1 => us ++ repN us n

def opAdd (us : List U) : Option U :=
  match us with
  | [.int i, .int j] => some (.int (i + j))
  | [.tup a, .tup b] => okT (a ++ b)
  | [.lst a, .lst b] => okL (a ++ b)
  | [.str a, .str b] => if a.length + b.length ≤ line then some (.str (a ++ b)) else none
  | _ => none
def opSub (us : List U) : Option U :=
  match us with
  | [.int i, .int j] => some (.int (i - j))
  | _ => none
def opMul (us : List U) : Option U :=
  match us with
  | [.int i, .int j] => if decide (i.natAbs < 2 ^ 9000 ∧ j.natAbs < 2 ^ 9000) then some (.int (i * j)) else none
  | [.tup a, .int n] => if decide (-1000 ≤ n ∧ n ≤ 1000 ∧ a.length ≤ 1000 ∧ a.length ≠ 0) then some (.tup (repN a n.toNat)) else none
  | [.lst a, .int n] => if decide (-1000 ≤ n ∧ n ≤ 1000000 ∧ a.length * n.toNat ≤ line) then some (.lst (repN a n.toNat)) else none
  | _ => none
def opFdiv (us : List U) : Option U :=
  match us with
  | [.int i, .int j] => if decide (0 < j ∧ j.natAbs < 2 ^ 9000) then some (.int (i / j)) else none
  | _ => none
def opMod (us : List U) : Option U :=
  match us with
  | [.int i, .int j] => if decide (0 < j) then some (.int (i % j)) else none
  | _ => none
def opPow (us : List U) : Option U :=
  match us with
  | [.int i, .int j] => if decide (0 ≤ j ∧ j ≤ 64 ∧ i.natAbs < 2 ^ 64) then some (.int (i ^ j.toNat)) else none
  | _ => none
def opNeg (us : List U) : Option U :=
  match us with
  | [.int i] => some (.int (-i))
  | _ => none
def opAbs (us : List U) : Option U :=
  match us with
  | [.int i] => some (.int i.natAbs)
  | _ => none
def opEq (us : List U) : Option U :=
  match us with
  | [a, b] => if a.plain && b.plain then some (.bl (eqU a b)) else none
  | _ => none
def opNe (us : List U) : Option U :=
  match us with
  | [a, b] => if a.plain && b.plain then some (.bl (!eqU a b)) else none
  | _ => none
def opLt (us : List U) : Option U :=
  match us with
  | [.int i, .int j] => some (.bl (decide (i < j)))
  | _ => none
def opLe (us : List U) : Option U :=
  match us with
  | [.int i, .int j] => some (.bl (decide (i ≤ j)))
  | _ => none
def opGt (us : List U) : Option U :=
  match us with
  | [.int i, .int j] => some (.bl (decide (j < i)))
  | _ => none
def opGe (us : List U) : Option U :=
  match us with
  | [.int i, .int j] => some (.bl (decide (j ≤ i)))
  | _ => none
def opIsN (us : List U) : Option U :=
  match us with
  | [a] => some (.bl (match a with | .non => true | _ => false))
  | _ => none
def opNotN (us : List U) : Option U :=
  match us with
  | [a] => some (.bl (match a with | .non => false | _ => true))
  | _ => none
def opInn (us : List U) : Option U :=
  match us with
  | [a, .lst us] => if a.plain && plains us then some (.bl (memU a us)) else none
  | [a, .dic ks _] => if kOk ks a then some (.bl (memU a ks)) else none
  | _ => none
def opNotin (us : List U) : Option U :=
  match us with
  | [a, .lst us] => if a.plain && plains us then some (.bl (!memU a us)) else none
  | [a, .dic ks _] => if kOk ks a then some (.bl (!memU a ks)) else none
  | _ => none
def opIx (us : List U) : Option U :=
  match us with
  | [.tup us, .int i] => atI us i
  | [.lst us, .int i] => atI us i
  | [.scr us, .int i] => atI us i
  | [.dic ks vs, k] => if kOk ks k then dget ks vs k else none
  | _ => none
def cutU (u : U) (lo hi : Option Int) : Option U := match u with
  | .tup us => some (.tup (cut us lo hi))
  | .lst us => some (.lst (cut us lo hi))
  | .str us => if us.length ≤ line then some (.str (cut us lo hi)) else none
  | _ => none
def opSlice (a b : Bool) (us : List U) : Option U :=
  match a, b, us with
  | false, false, [x] => cutU x none none
  | true, false, [x, .int i] => cutU x (some i) none
  | false, true, [x, .int j] => cutU x none (some j)
  | true, true, [x, .int i, .int j] => cutU x (some i) (some j)
  | _, _, _ => none
def opRev (us : List U) : Option U :=
  match us with
  | [.tup us] => some (.tup us.reverse)
  | [.lst us] => some (.lst us.reverse)
  | _ => none
def opTup (us : List U) : Option U :=
  match us with
  | us => okT us
def opLst (us : List U) : Option U :=
  match us with
  | us => okL us
def opDict (n : Nat) (us : List U) : Option U :=
  match us with
  | us => if us.length == 2 * n then mkDic us [] [] else none
def opLen (us : List U) : Option U :=
  match us with
  | [.tup us] => some (.int us.length)
  | [.lst us] => some (.int us.length)
  | [.scr us] => some (.int us.length)
  | [.dic ks _] => some (.int ks.length)
  | [.str s] => if s.length ≤ line then some (.int s.length) else none
  | _ => none
def opTupOf (us : List U) : Option U :=
  match us with
  | [.tup us] => some (.tup us)
  | [.lst us] => some (.tup us)
  | _ => none
def opLstOf (us : List U) : Option U :=
  match us with
  | [.tup us] => some (.lst us)
  | [.lst us] => some (.lst us)
  | _ => none
def opSorted (us : List U) : Option U :=
  match us with
  | [.tup us] => (ints? us).map fun is => .lst ((sortI is).map .int)
  | [.lst us] => (ints? us).map fun is => .lst ((sortI is).map .int)
  | _ => none
def opMax1 (us : List U) : Option U :=
  match us with
  | [.lst us] => ((ints? us).bind maxI).map .int
  | _ => none
def opMax2 (us : List U) : Option U :=
  match us with
  | [.int a, .int b] => some (.int (Max.max a b))
  | _ => none
def opMin2 (us : List U) : Option U :=
  match us with
  | [.int a, .int b] => some (.int (Min.min a b))
  | _ => none
def opAll (us : List U) : Option U :=
  match us with
  | [.lst us] => (allT us).map .bl
  | _ => none
def opAny (us : List U) : Option U :=
  match us with
  | [.lst us] => (anyT us).map .bl
  | _ => none
def opSum (us : List U) : Option U :=
  match us with
  | [.lst us] => (ints? us).map fun is => .int is.sum
  | _ => none
def isiOk (g : Gst) : U → Bool
  | .non => true
  | .bl _ => true
  | .int _ => true
  | .str _ => true
  | .tup _ => true
  | .lst _ => true
  | .dic _ _ => true
  | .exc c _ => g.excs.contains c
  | .obj c _ => g.objs.contains c
  | _ => false
def opIsi (g : Gst) (ts : List Nat) (us : List U) : Option U :=
  match us with
  | [a] => if isiOk g a then some (.bl (ts.any (isT g a))) else none
  | _ => none
def opTupR1 (us : List U) : Option U :=
  match us with
  | [.int n] => if small n && decide (n.toNat ≤ line) then some (.tup (rng 0 n)) else none
  | _ => none
def opTupR2 (us : List U) : Option U :=
  match us with
  | [.int a, .int b] => if small a && small b && decide ((b - a).toNat ≤ line) then some (.tup (rng a b)) else none
  | _ => none
def opLstR1 (us : List U) : Option U :=
  match us with
  | [.int n] => if small n && decide (n.toNat ≤ line) then some (.lst (rng 0 n)) else none
  | _ => none
def opLstR2 (us : List U) : Option U :=
  match us with
  | [.int a, .int b] => if small a && small b && decide ((b - a).toNat ≤ line) then some (.lst (rng a b)) else none
  | _ => none
def opIndex (us : List U) : Option U :=
  match us with
  | [.lst us, a] => if a.plain && plains us then (idxU a us).map fun k => .int k else none
  | [.tup us, a] => if a.plain && plains us then (idxU a us).map fun k => .int k else none
  | _ => none
def opGet1 (us : List U) : Option U :=
  match us with
  | [.dic ks vs, k] => if kOk ks k then some ((dget ks vs k).getD .non) else none
  | _ => none
def opGet2 (us : List U) : Option U :=
  match us with
  | [.dic ks vs, k, d] => if kOk ks k && d.plain then some ((dget ks vs k).getD d) else none
  | _ => none
def opDivmod (us : List U) : Option U :=
  match us with
  | [.int i, .int j] => if decide (0 < j ∧ j.natAbs < 2 ^ 9000) then some (.prs [.int (i / j), .int (i % j)]) else none
  | _ => none
def opLenSet (us : List U) : Option U :=
  match us with
  | [.lst us] => (ints? us).bind fun is => if is.length ≤ 4000 then some (.int (onceI is).length) else none
  | _ => none
def opDictOf (us : List U) : Option U :=
  match us with
  | [.dic ks vs] => some (.dic ks vs)
  | _ => none
def opFld (g : Gst) (f : Nat) (us : List U) : Option U :=
  match us with
  | [.obj c fs] => match (g.attr c f).bind (fs[·]?) with
    | some .hole => none
    | r => r
  | [.exc c fs] => (g.attr c f).bind (fs[·]?)
  | _ => none
def opSem (g : Gst) (o : Opr) (us : List U) : Option U :=
  match o with
  | .add => opAdd us
  | .sub => opSub us
  | .mul => opMul us
  | .fdiv => opFdiv us
  | .mod => opMod us
  | .pow => opPow us
  | .neg => opNeg us
  | .abs => opAbs us
  | .eq => opEq us
  | .ne => opNe us
  | .lt => opLt us
  | .le => opLe us
  | .gt => opGt us
  | .ge => opGe us
  | .isN => opIsN us
  | .notN => opNotN us
  | .inn => opInn us
  | .notin => opNotin us
  | .ix => opIx us
  | .slice a b => opSlice a b us
  | .rev => opRev us
  | .tup => opTup us
  | .lst => opLst us
  | .dict n => opDict n us
  | .len => opLen us
  | .tupOf => opTupOf us
  | .lstOf => opLstOf us
  | .sorted => opSorted us
  | .max1 => opMax1 us
  | .max2 => opMax2 us
  | .min2 => opMin2 us
  | .all => opAll us
  | .any => opAny us
  | .sum => opSum us
  | .isi ts => opIsi g ts us
  | .tupR1 => opTupR1 us
  | .tupR2 => opTupR2 us
  | .lstR1 => opLstR1 us
  | .lstR2 => opLstR2 us
  | .index => opIndex us
  | .get1 => opGet1 us
  | .get2 => opGet2 us
  | .divmod => opDivmod us
  | .lenSet => opLenSet us
  | .dictOf => opDictOf us
  | .fld f => opFld g f us

/-! ### operations that change a list or a dict, and what they hand back -/
inductive Mop where
  | append | extend | pop | popAt | setIx | setdefault | remove | insert | dpop | reverse
  deriving Repr, Inhabited, DecidableEq

def muAppend (c : U) (us : List U) : Option (U × U) :=
  match c, us with
  | .lst xs, [a] => if xs.length < line then some (.lst (xs ++ [a]), .non) else none
  | _, _ => none
def muExtend (c : U) (us : List U) : Option (U × U) :=
  match c, us with
  | .lst xs, [.lst ys] => if xs.length + ys.length ≤ line then some (.lst (xs ++ ys), .non) else none
  | _, _ => none
def muPop (c : U) (us : List U) : Option (U × U) :=
  match c, us with
  | .lst xs, [] => match xs.getLast? with
    | some a => some (.lst xs.dropLast, a)
    | none => none
  | _, _ => none
def muPopAt (c : U) (us : List U) : Option (U × U) :=
  match c, us with
  | .lst xs, [.int i] => if 0 ≤ i ∧ i < bound then (match xs[i.toNat]? with
    | some a => some (.lst (xs.eraseIdx i.toNat), a)
    | none => none) else none
  | _, _ => none
def muSetIx (c : U) (us : List U) : Option (U × U) :=
  match c, us with
  | .lst xs, [.int i, a] => if 0 ≤ i then (if i.toNat < xs.length then some (.lst (xs.set i.toNat a), .non) else none)
      else if 0 ≤ i + xs.length then some (.lst (xs.set (i + xs.length).toNat a), .non) else none
  | .dic ks vs, [k, v] => if kOk ks k && decide (ks.length < line) then (let (a, b) := dput ks vs k v; some (.dic a b, .non)) else none
  | _, _ => none
def muSetdefault (c : U) (us : List U) : Option (U × U) :=
  match c, us with
  | .dic ks vs, [k, v] => if kOk ks k && decide (ks.length < line) then (match dget ks vs k with
    | some w => some (.dic ks vs, w)
    | none => some (.dic (ks ++ [k]) (vs ++ [v]), v)) else none
  | _, _ => none
def muRemove (c : U) (us : List U) : Option (U × U) :=
  match c, us with
  | .lst xs, [a] => if a.plain && plains xs then (match idxU a xs with
    | some k => some (.lst (xs.eraseIdx k), .non)
    | none => none) else none
  | _, _ => none
def mutSem (o : Mop) (c : U) (us : List U) : Option (U × U) :=
  match o with
  | .append => muAppend c us
  | .extend => muExtend c us
  | .pop => muPop c us
  | .popAt => muPopAt c us
  | .setIx => muSetIx c us
  | .setdefault => muSetdefault c us
  | .remove => muRemove c us
  | _ => none

/-! ### the syntax -/
inductive Tg where
  | one (i : Nat)
  | tup (ts : List Tg)
  deriving Inhabited, Repr

inductive ME where
  | var (i : Nat)          -- a value in a name
  | mv (i : Nat)           -- the name's own list, handed on and changed no more
  | lit (u : U)
  | glo (x : Nat) (u : U)
  | op (o : Opr) (as : List ME)
  | and (es : List ME)
  | or (es : List ME)
  | not (e : ME)
  | ifx (c a b : ME)
  | chain (o o' : Opr) (a b c : ME)
  | call (f : Nat) (as : List ME)
  | callv (i : Nat) (as : List ME)
  | meth (o : ME) (m : Nat) (as : List ME)
  | callL (f tid : Nat) (m : ME) (is : List Nat)   -- f(lambda: m), of a def with the table tid
  | mut (o : Mop) (c : ME) (as : List ME)
  | share (e : ME)
  | comp (e : ME) (t : Tg) (k : Nat) (its : List ME) (own : List Nat) (cond : Option ME)
  deriving Inhabited, Repr

inductive MS where
  | set (t : Tg) (e : ME)
  | own (i : Nat) (e : ME)
  | par (i j : Nat) (a b : ME)
  | aug (i : Nat) (o : Opr) (e : ME)
  | augIx (c ix : ME) (o : Opr) (e : ME)
  | setFld (o : ME) (f : Nat) (e : ME)
  | setIx (c ix e : ME)
  | expr (e : ME)
  | ret (e : ME)
  | ife (c : ME) (a b : List MS)
  | whil (c : ME) (b : List MS)
  | forr (t : Tg) (k : Nat) (its : List ME) (b : List MS)
  | brk | cont | pass
  | raise (c : Nat) (as : List ME)
  | tri (b : List MS) (hs : List (Nat × Option Nat × List MS))
  deriving Inhabited, Repr

inductive Fl where
  | next | brk | cont
  | ret (u : U)
  deriving Inhabited, Repr

/-! ### what it does -/
def slot (s : Sta) (i : Nat) : Slt := s.r.getD i .no
def Sta.put (s : Sta) (i : Nat) (x : Slt) : Sta := { s with r := s.r.set i x }

/-! targets -/
mutual
def bindT : Tg → U → Sta → Option Sta
  | .one i, u, s => some (s.put i (.val u))
  | .tup ts, .tup us, s => bindTs ts us s
  | .tup ts, .prs us, s => bindTs ts us s
  | _, _, _ => none
def bindTs : List Tg → List U → Sta → Option Sta
  | [], [], s => some s
  | t :: ts, u :: us, s => match bindT t u s with
    | some s => bindTs ts us s
    | none => none
  | _, _, _ => none
end

/-- an argument: a value, or a name's own list, read when all are there -/
inductive AV where
  | v (u : U)
  | own (i : Nat)
def AV.get (s : Sta) : AV → U
  | .v u => cont s.m u
  | .own i => match slot s i with
    | .own u => u
    | _ => .non
/-- is it still there to be read? -/
def AV.ok (s : Sta) : AV → Bool
  | .v _ => true
  | .own i => match slot s i with
    | .own _ => true
    | _ => false
/-- a list (1), a tuple (2), a dict (3) -/
def kindN : U → Nat
  | .lst _ => 1
  | .tup _ => 2
  | .dic _ _ => 3
  | _ => 0
/-- a method, called on its first argument -/
def Opr.meth : Opr → Bool
  | .index => true
  | _ => false
def Mop.kind : Mop → Nat
  | .setdefault | .dpop => 3
  | _ => 1
/-- does the operation hold its arguments as they are (and does not look into them)? -/
def Opr.holds : Opr → Bool
  | .tup | .lst | .dict _ => true
  | _ => false

/-- what is walked -/
def walk (k : Nat) (us : List U) : Option (List U) :=
  match k, us with
  | 0, [.tup xs] => some xs
  | 0, [.lst xs] => some xs
  | 1, [.int n] => if small n then some (rng 0 n) else none
  | 2, [.int a, .int b] => if small a && small b then some (rng a b) else none
  | 3, [.tup xs] => some (xs.mapIdx fun i x => .prs [.int i, x])
  | 3, [.lst xs] => some (xs.mapIdx fun i x => .prs [.int i, x])
  | 4, [.tup xs, .tup ys] => some (List.zipWith (fun a b => .prs [a, b]) xs ys)
  | 4, [.lst xs, .lst ys] => some (List.zipWith (fun a b => .prs [a, b]) xs ys)
  | 5, [.tup xs] => some xs.reverse
  | 5, [.lst xs] => some xs.reverse
  | 7, [.dic _ vs] => some vs
  | 8, [.dic ks vs] => some (pairsOf ks vs)
  | 9, [.str cs] => some (cs.map fun c => .str [c])
  | _, _ => none

def walkA (k : Nat) (avs : List AV) (s : Sta) : Option (List U) := if avs.all (AV.ok s) then walk k (avs.map (AV.get s)) else none
def lookS (s : Sta) : List Nat → Option (List U)
  | [] => some []
  | i :: is => match slot s i, lookS s is with
    | .val u, some us => some (u :: us)
    | _, _ => none

def wipeS (s : Sta) : List Nat → Sta
  | [] => s
  | i :: is => (wipeS s is).put i .no
/-- behind a comprehension: its own names are as they were -/
def backS (s0 s : Sta) : List Nat → Sta
  | [] => s
  | i :: is => (backS s0 s is).put i (slot s0 i)

/-- a comprehension's turns -/
def turnsC (f : U → Sta → Rs (Option U)) : List U → Sta → Rs (List U)
  | [], s => .ok [] s
  | x :: xs, s => (f x s).bind fun o s => (turnsC f xs s).bind fun ys s => .ok (match o with | some y => y :: ys | none => ys) s

/-- the walked list, where it may be changed, stays as it is through a turn -/
def stillIs (s s' : Sta) : List AV → Bool
  | [] => true
  | .own i :: r => AV.ok s' (.own i) && sameU ((AV.own i).get s) ((AV.own i).get s') && stillIs s s' r
  | .v (.ref n) :: r => sameU (cont s.m (.ref n)) (cont s'.m (.ref n)) && stillIs s s' r
  | .v _ :: r => stillIs s s' r

def opT (g : Gst) (o : Opr) (a b : U) (s : Sta) : Rs U := match opSem g o [a, b] with
  | some u => .ok u s
  | none => .stuck

def isOwn (s : Sta) : ME → Option Nat
  | .var i => match slot s i with
    | .own _ => some i
    | _ => none
  | _ => none
/-- a container that is changed: the name's own, or a shared one -/
def setC (s : Sta) (a : AV) (c : U) : Option Sta :=
  match a with
  | .own i => some (s.put i (.own c))
  | .v (.ref n) => if n < s.m.length then some { s with m := s.m.set n c } else none
  | _ => none

def rc (r : List Slt) : RC → Rs U
  | .ok u m => .ok u ⟨r, m⟩
  | .exc e m => .exc e ⟨r, m⟩
  | .stuck => .stuck

/-- a table of code objects -/
def tabU : U → Bool
  | .fn _ => true
  | _ => false
def resOf : Rs U → RC
  | .ok u s => .ok u s.m
  | .exc e s => .exc e s.m
  | .stuck => .stuck
/-- a frame of which the names is alone are known -/
def capR (n : Nat) (is : List Nat) (us : List U) : List Slt := (List.range n).map fun j => match (is.zip us).lookup j with
  | some u => .val u
  | none => .no
/-- a list, a dict -/
def isLD : U → Bool
  | .lst _ => true
  | .dic _ _ => true
  | _ => false
def newOf (r : Rs U) : Rs U := r.bind fun u s => if isLD u then .ok u s else .stuck
/-- a container's method: it changes the container, and tells -/
def mutF (o : Mop) (av : AV) (us : List U) (s : Sta) : Rs U := match mutSem o (av.get s) us with
  | some (c', u) => match setC s av c' with
    | some s => .ok u s
    | none => .stuck
  | none => .stuck
/-- an expression as an argument -/
def argOf (f : Sta → Rs U) (e : ME) (s : Sta) : Rs AV :=
  match isOwn s e with
  | some i => .ok (.own i) s
  | none => (f s).bind fun u s => .ok (.v u) s

mutual
def evalE (g : Gst) : ME → Sta → Rs U
  | .var i, s => match slot s i with
    | .val u => .ok u s
    | _ => .stuck
  | .mv i, s => match slot s i with
    | .own u => if tabU u then .stuck else .ok u (s.put i (.val u))
    | .val u => .ok u s
    | .no => .stuck
    | .clo _ => .stuck
  | .lit u, s => .ok u s
  | .glo _ u, s => .ok u s
  | .op o as, s => if o.holds then ((evalEs g as s).bind fun us s => match opSem g o us with
      | some u => .ok u s
      | none => .stuck)
    else (if o.meth then evalRecv g as s else evalAs g as s).bind fun avs s => if avs.all (AV.ok s) then (match opSem g o (avs.map (AV.get s)) with
      | some u => .ok u s
      | none => .stuck) else .stuck
  | .and es, s => evalAnd g es s
  | .or es, s => evalOr g es s
  | .not e, s => (argOf (fun s => evalE g e s) e s).bind fun av s => match truthy (av.get s) with
      | some b => .ok (.bl (!b)) s
      | none => .stuck
  | .ifx c a b, s => (argOf (fun s => evalE g c s) c s).bind fun av s => match truthy (av.get s) with
      | some true => evalE g a s
      | some false => evalE g b s
      | none => .stuck
  | .chain o o' a b c, s => (evalE g a s).bind fun x s => (evalE g b s).bind fun y s => match opSem g o [x, y] with
      | some (.bl true) => (evalE g c s).bind fun z s => match opSem g o' [y, z] with
        | some u => .ok u s
        | none => .stuck
      | some (.bl false) => .ok (.bl false) s
      | _ => .stuck
  | .call f as, s => (evalEs g as s).bind fun us s => rc s.r (g.call f us s.m)
  | .callv i as, s => match slot s i with
      | .clo us => if as.isEmpty then rc s.r (g.clo us s.m) else .stuck
      | _ => .stuck
  | .meth o m as, s => (evalE g o s).bind fun u s => match cont s.m u with
      | .obj c _ => (match g.mt c m with
        | some f => (evalEs g as s).bind fun us s => rc s.r (g.call f (u :: us) s.m)
        | none => .stuck)
      | _ => .stuck
  | .callL f tid m is, s => match lookS s is with
      | some us => (match s.m[tid]? with
        | some (.fn q) => if q == tid then rc s.r (g.callL f us (fun us mem => resOf (evalE g m ⟨capR s.r.length is us, mem⟩)) s.m) else .stuck
        | _ => .stuck)
      | none => .stuck
  | .mut o c as, s => (argOf (fun s => evalE g c s) c s).bind fun av s => if kindN (av.get s) != o.kind then .stuck else
      if o == .extend then (evalAs g as s).bind fun avs s => if avs.all (AV.ok s) then mutF o av (avs.map (AV.get s)) s else .stuck
      else (evalEs g as s).bind fun us s => mutF o av us s
  | .share e, s => (newOf (evalE g e s)).bind fun u s => .ok (.ref s.m.length) { s with m := s.m ++ [u] }
  | .comp e t k its own cond, s => (evalAs g its s).bind fun avs s1 => match walkA k avs s1 with
      | some xs => if stillIs s1 (wipeS s1 own) avs && own.all (fun j => !(AV.own j).ok s1) then
          (match turnsC (fun x s => match bindT t x (wipeS s own) with
            | some sb => (match cond with
              | none => Rs.ok true sb
              | some c => (argOf (fun s => evalE g c s) c sb).bind fun av s => match truthy (av.get s) with
                | some b => .ok b s
                | none => .stuck).bind fun b sc => if b then (evalE g e sc).bind fun u se => (if stillIs s1 se avs then .ok (some u) se else .stuck)
                  else (if stillIs s1 sc avs then .ok none sc else .stuck)
            | none => .stuck) xs s1 with
          | .ok us s' => if us.length ≤ line then .ok (.lst us) (backS s1 s' own) else .stuck
          | _ => .stuck) else .stuck
      | none => .stuck
def evalEs (g : Gst) : List ME → Sta → Rs (List U)
  | [], s => .ok [] s
  | e :: es, s => (evalE g e s).bind fun u s => (evalEs g es s).bind fun us s => .ok (u :: us) s
def evalAs (g : Gst) : List ME → Sta → Rs (List AV)
  | [], s => .ok [] s
  | e :: es, s => (argOf (fun s => evalE g e s) e s).bind fun u s => (evalAs g es s).bind fun us s => .ok (u :: us) s
def evalRecv (g : Gst) : List ME → Sta → Rs (List AV)
  | [], _ => .stuck
  | e :: es, s => (argOf (fun s => evalE g e s) e s).bind fun av s1 => if kindN (av.get s1) != 1 && kindN (av.get s1) != 2 then .stuck else (evalAs g es s1).bind fun us s2 =>
      if kindN (av.get s2) != kindN (av.get s1) then .stuck else .ok (av :: us) s2
def evalAnd (g : Gst) : List ME → Sta → Rs U
  | [], _ => .stuck
  | [e], s => evalE g e s
  | e :: es, s => (evalE g e s).bind fun u s => match u with
      | .bl true => evalAnd g es s
      | .bl false => .ok (.bl false) s
      | _ => .stuck
def evalOr (g : Gst) : List ME → Sta → Rs U
  | [], _ => .stuck
  | [e], s => evalE g e s
  | e :: es, s => (evalE g e s).bind fun u s => match u with
      | .bl true => .ok (.bl true) s
      | .bl false => evalOr g es s
      | _ => .stuck
end


/-! ### statements -/
/-- a loop's turns over given things -/
def turnsF (f : U → Sta → Rs Fl) : List U → Sta → Rs Fl
  | [], s => .ok .next s
  | x :: xs, s => (f x s).bind fun fl s => match fl with
    | .next => turnsF f xs s
    | .cont => turnsF f xs s
    | .brk => .ok .next s
    | .ret u => .ok (.ret u) s
def turnsW (c : Sta → Rs Bool) (f : Sta → Rs Fl) : Nat → Sta → Rs Fl
  | 0, _ => .stuck
  | n + 1, s => (c s).bind fun b s => if b then (f s).bind fun fl s => (match fl with
    | .next => turnsW c f n s
    | .cont => turnsW c f n s
    | .brk => .ok .next s
    | .ret u => .ok (.ret u) s) else .ok .next s
/-- x op= y: ints, and texts -/
def opAug (o : Opr) (x y : U) (s : Sta) : Rs U := match o, x, y with
  | .add, .int i, .int j => .ok (.int (i + j)) s
  | .sub, .int i, .int j => .ok (.int (i - j)) s
  | .mul, .int i, .int j => if i.natAbs < two64.natAbs then .ok (.int (i * j)) s else .stuck
  | .fdiv, .int i, .int j => if 0 < j ∧ j < 1073741824 then .ok (.int (i / j)) s else .stuck
  | .mod, .int i, .int j => if 0 < j then .ok (.int (i % j)) s else .stuck
  | .add, .str a, .str b => if a.length + b.length ≤ line then .ok (.str (a ++ b)) s else .stuck
  | _, _, _ => .stuck
def condOf (f : Sta → Rs U) (e : ME) (s : Sta) : Rs Bool := (argOf f e s).bind fun av s => match truthy (av.get s) with
  | some b => .ok b s
  | none => .stuck
/-- a field of an instance is set: the name's own, or a shared one -/
def setFldC (g : Gst) (s : Sta) (a : AV) (f : Nat) (u : U) : Option Sta := match a.get s with
  | .obj c fs => match g.attr c f with
    | some k => if k < fs.length then setC s a (.obj c (fs.set k u)) else none
    | none => none
  | _ => none

/-- is it an exception of that class? -/
def isX (g : Gst) (e : U) (c : Nat) : Option Bool := match e with
  | .exc d _ => if g.excs.contains d && g.excs.contains c then some (g.sub d c) else none
  | _ => none

mutual
def execS (g : Gst) : MS → Sta → Rs Fl
  | .set t e, s => (evalE g e s).bind fun u s => match bindT t u s with
    | some s => .ok .next s
    | none => .stuck
  | .own i e, s => (newOf (evalE g e s)).bind fun u s => .ok .next (s.put i (.own u))
  | .par i j a b, s => (evalE g a s).bind fun x s => (evalE g b s).bind fun y s => .ok .next ((s.put j (.val y)).put i (.val x))
  | .aug i o e, s => match slot s i with
    | .val x => (evalE g e s).bind fun y s => (opAug o x y s).bind fun u s => .ok .next (s.put i (.val u))
    | .own _ => if o == .add then (argOf (fun s => evalE g e s) e s).bind fun av s => if av.ok s then (mutF .extend (.own i) [av.get s] s).bind fun _ s => .ok .next s else .stuck
      else .stuck
    | .no => .stuck
    | .clo _ => .stuck
  | .augIx c ix o e, s => (argOf (fun s => evalE g c s) c s).bind fun av s => (evalE g ix s).bind fun k s =>
      match opSem g .ix [av.get s, k] with
      | some x => (evalE g e s).bind fun y s => (opAug o x y s).bind fun u s => match mutSem .setIx (av.get s) [k, u] with
        | some (c', _) => match setC s av c' with
          | some s => .ok .next s
          | none => .stuck
        | none => .stuck
      | none => .stuck
  | .setIx c ix e, s => (evalE g e s).bind fun u s => (argOf (fun s => evalE g c s) c s).bind fun av s => (evalE g ix s).bind fun k s =>
      match mutSem .setIx (av.get s) [k, u] with
      | some (c', _) => match setC s av c' with
        | some s => .ok .next s
        | none => .stuck
      | none => .stuck
  | .setFld o f e, s => (evalE g e s).bind fun u s => (argOf (fun s => evalE g o s) o s).bind fun av s => match setFldC g s av f u with
    | some s => .ok .next s
    | none => .stuck
  | .expr e, s => (evalE g e s).bind fun _ s => .ok .next s
  | .ret e, s => (evalE g e s).bind fun u s => .ok (.ret u) s
  | .ife c a b, s => (condOf (fun s => evalE g c s) c s).bind fun x s => if x then execs g a s else execs g b s
  | .whil c b, s => turnsW (fun s => condOf (fun s => evalE g c s) c s) (fun s => execs g b s) g.turns s
  | .forr t k its b, s => (evalAs g its s).bind fun avs s => match walkA k avs s with
    | some xs => turnsF (fun x s1 => match bindT t x s1 with
      | some s2 => (execs g b s2).bind fun fl s3 => if stillIs s s3 avs then .ok fl s3 else .stuck
      | none => .stuck) xs s
    | none => .stuck
  | .brk, s => .ok .brk s
  | .cont, s => .ok .cont s
  | .pass, s => .ok .next s
  | .raise c as, s => (evalEs g as s).bind fun us s => .exc (.exc c us) s
  | .tri b hs, s => match execs g b s with
    | .exc e s => handle g hs e s
    | r => r
def execs (g : Gst) : List MS → Sta → Rs Fl
  | [], s => .ok .next s
  | x :: xs, s => (execS g x s).bind fun fl s => match fl with
    | .next => execs g xs s
    | _ => .ok fl s
def handle (g : Gst) : List (Nat × Option Nat × List MS) → U → Sta → Rs Fl
  | [], e, s => .exc e s
  | (c, n, b) :: hs, e, s => match isX g e c with
    | some true => (match n with
      | some i => (execs g b (s.put i (.val e))).bind fun fl s => .ok fl (s.put i .no)
      | none => execs g b s)
    | some false => handle g hs e s
    | none => .stuck
end

/-! ### programs -/
structure MDef where
  params : Nat
  slots : Nat
  body : List MS
  deriving Inhabited, Repr

/-- what a program has: defs by number; a class's constructor is a def with the class's number: kind 1 keeps, kind 2 shares what it makes -/
structure Prg where
  def_ : Nat → Option MDef
  ctor : Nat → Option (Nat × Nat × Nat × Nat)    -- class, fields, the def of __init__, 1 | 2
  meth : Nat → Nat → Option Nat                  -- class, name: the def
  sub : Nat → Nat → Bool
  attr : Nat → Nat → Option Nat                  -- class, name of an attribute: its place
  turns : Nat
  excs : List Nat
  objs : List Nat

def slots0 (us : List U) (n : Nat) : List Slt := us.map Slt.val ++ List.replicate (n - us.length) .no

def runDef (g : Gst) (d : MDef) (us m : List U) : RC :=
  if us.length == d.params then (match execs g d.body ⟨slots0 us d.slots, m⟩ with
    | .ok (.ret u) s => .ok u s.m
    | .ok .next s => .ok .non s.m
    | .ok _ _ => .stuck
    | .exc e s => .exc e s.m
    | .stuck => .stuck) else .stuck
/-- __init__: the instance stands in slot 0 -/
def runInit (g : Gst) (d : MDef) (c n : Nat) (us m : List U) : RC :=
  if us.length + 1 == d.params then (match execs g d.body ⟨.own (.obj c (List.replicate n .hole)) :: slots0 us (d.slots - 1), m⟩ with
    | .ok .next s => (match slot s 0 with
      | .own (.obj c fs) => .ok (.obj c fs) s.m
      | _ => .stuck)
    | .ok _ _ => .stuck
    | .exc e s => .exc e s.m
    | .stuck => .stuck) else .stuck

/-- a def of one parameter, called with a lambda -/
def runL (g : Gst) (d : MDef) (us : List U) (φ : List U → List U → RC) (m : List U) : RC :=
  if d.params == 1 then (match execs { g with clo := φ } d.body ⟨.clo us :: slots0 [] (d.slots - 1), m⟩ with
    | .ok (.ret u) s => .ok u s.m
    | .ok .next s => .ok .non s.m
    | .ok _ _ => .stuck
    | .exc e s => .exc e s.m
    | .stuck => .stuck) else .stuck

def stOf (p : Prg) : Nat → Gst
  | 0 => { call := fun _ _ _ => .stuck, mt := p.meth, sub := p.sub, attr := p.attr, clo := fun _ _ => .stuck, callL := fun _ _ _ _ => .stuck, turns := p.turns, excs := p.excs, objs := p.objs }
  | n + 1 =>
    let g := stOf p n
    let call := fun f us m => match p.ctor f with
      | some (c, k, i, kind) => (match p.def_ i with
        | some d => (match runInit g d c k us m with
          | .ok u m => if kind == 1 then .ok u m else .ok (.ref m.length) (m ++ [u])
          | r => r)
        | none => .stuck)
      | none => (match p.def_ f with
        | some d => runDef g d us m
        | none => .stuck)
    { call := call
      mt := p.meth
      sub := p.sub
      attr := p.attr
      clo := fun _ _ => .stuck
      callL := fun f us φ m => match p.def_ f with
        | some d => runL g d us φ m
        | none => .stuck
      turns := p.turns
      excs := p.excs
      objs := p.objs }

end MP
set_option maxRecDepth 100000
/-! E0: how the small language's loops go (plain Lean). -/
namespace MPE
open MP
theorem line_ge : 10000 ≤ line := by unfold line; decide
theorem small_of {i : Int} (h1 : 0 ≤ i) (h2 : i ≤ 1000000) : small i = true := by
  unfold small bound
  exact decide_eq_true ⟨by omega, by omega⟩
theorem put_m (s : Sta) (i : Nat) (x : Slt) : (s.put i x).m = s.m := rfl
theorem wipe_m (s : Sta) : ∀ own, (wipeS s own).m = s.m
  | [] => rfl
  | i :: is => wipe_m s is
theorem wipe_len (s : Sta) : ∀ own, (wipeS s own).r.length = s.r.length
  | [] => rfl
  | i :: is => by
    show ((wipeS s is).r.set i .no).length = _
    rw [List.length_set]; exact wipe_len s is
theorem back_m (s0 s : Sta) : ∀ own, (backS s0 s own).m = s.m
  | [] => rfl
  | i :: is => back_m s0 s is
theorem back_len (s0 s : Sta) : ∀ own, (backS s0 s own).r.length = s.r.length
  | [] => rfl
  | i :: is => by
    show ((backS s0 s is).r.set i _).length = _
    rw [List.length_set]; exact back_len s0 s is
theorem wipe_get (s : Sta) (j : Nat) : ∀ own, j ∉ own → (wipeS s own).r[j]? = s.r[j]?
  | [], _ => rfl
  | i :: is, h => by
    simp only [List.mem_cons, not_or] at h
    show ((wipeS s is).r.set i .no)[j]? = _
    rw [List.getElem?_set_ne (fun e => h.1 e.symm)]; exact wipe_get s j is h.2
theorem back_get (s0 s : Sta) (j : Nat) : ∀ own, j ∉ own → (backS s0 s own).r[j]? = s.r[j]?
  | [], _ => rfl
  | i :: is, h => by
    simp only [List.mem_cons, not_or] at h
    show ((backS s0 s is).r.set i _)[j]? = _
    rw [List.getElem?_set_ne (fun e => h.1 e.symm)]; exact back_get s0 s j is h.2
theorem back_in (s0 s : Sta) (hl : s.r.length = s0.r.length) (j : Nat) : ∀ own, j ∈ own → (backS s0 s own).r[j]? = s0.r[j]?
  | i :: is, h => by
    show ((backS s0 s is).r.set i (slot s0 i))[j]? = _
    by_cases e : i = j
    · subst e
      by_cases hi : i < s0.r.length
      · rw [List.getElem?_set_self (by rw [back_len]; omega)]
        unfold slot
        rw [List.getD_eq_getElem?_getD, List.getElem?_eq_getElem hi]
        rfl
      · rw [List.getElem?_eq_none (by rw [List.length_set, back_len]; omega), List.getElem?_eq_none (by omega)]
    · rw [List.getElem?_set_ne e]
      rcases List.mem_cons.1 h with h | h
      · exact absurd h.symm e
      · exact back_in s0 s hl j is h
/-- behind a block whose own names alone have changed all is as ahead -/
theorem back_of {s0 s : Sta} {own : List Nat} (h : wipeS s own = wipeS s0 own) : backS s0 s own = s0 := by
  have hm : s.m = s0.m := by rw [← wipe_m s own, ← wipe_m s0 own, h]
  have hl : s.r.length = s0.r.length := by rw [← wipe_len s own, ← wipe_len s0 own, h]
  have hr : (backS s0 s own).r = s0.r := by
    apply List.ext_getElem?
    intro j
    by_cases hj : j ∈ own
    · exact back_in s0 s hl j own hj
    · rw [back_get s0 s j own hj, ← wipe_get s j own hj, ← wipe_get s0 j own hj, h]
  have hm2 := back_m s0 s own
  cases e : backS s0 s own with
  | mk r m =>
    cases s0
    rw [e] at hr hm2
    simp only at hr hm2 hm
    subst hr
    rw [hm] at hm2
    subst hm2
    rfl
/-- a comprehension whose element changes nothing -/
theorem turnsC_pure {f : U → Sta → Rs (Option U)} {own : List Nat} {s : Sta} {h : U → Option U} : ∀ (xs : List U) (s1 : Sta), wipeS s1 own = wipeS s own → (∀ x ∈ xs, ∀ s1, wipeS s1 own = wipeS s own → ∃ s2, f x s1 = .ok (h x) s2 ∧ wipeS s2 own = wipeS s own) →
    ∃ s2, turnsC f xs s1 = .ok (xs.filterMap h) s2 ∧ wipeS s2 own = wipeS s own
  | [], s1, e, _ => ⟨s1, rfl, e⟩
  | x :: xs, s1, e, hf => by
    obtain ⟨s2, h1, h2⟩ := hf x (by simp) s1 e
    obtain ⟨s3, h3, h4⟩ := turnsC_pure xs s2 h2 fun y hy => hf y (by simp [hy])
    refine ⟨s3, ?_, h4⟩
    simp only [turnsC, h1, Rs.bind, h3]
    cases hx : h x with
    | none => rw [List.filterMap_cons_none hx]
    | some y => rw [List.filterMap_cons_some hx]
theorem comp_end {F : U → Sta → Rs (Option U)} {h : U → Option U} {own : List Nat} {s : Sta} {xs ys : List U} (e : xs.filterMap h = ys) (hl : ys.length ≤ line) (q : ∃ s2, turnsC F xs s = .ok (xs.filterMap h) s2 ∧ wipeS s2 own = wipeS s own) :
    (match turnsC F xs s with | .ok us s' => if us.length ≤ line then Rs.ok (U.lst us) (backS s s' own) else .stuck | _ => .stuck) = .ok (.lst ys) s := by
  obtain ⟨s2, q1, q2⟩ := q
  rw [q1, e]
  simp only [hl, if_true]
  rw [back_of q2]
theorem ev_comp {g : Gst} {e : ME} {t : Tg} {k : Nat} {its : List ME} {own : List Nat} {s : Sta} {avs : List AV} {xs : List U} (h : U → U) (h1 : evalAs g its s = .ok avs s) (h2 : walkA k avs s = some xs) (h3 : stillIs s (wipeS s own) avs = true) (h4 : own.all (fun j => !(AV.own j).ok s) = true) (hl : xs.length ≤ line)
    (hb : ∀ x ∈ xs, ∃ sb, bindT t x (wipeS s own) = some sb ∧ evalE g e sb = .ok (h x) sb ∧ stillIs s sb avs = true ∧ wipeS sb own = wipeS s own) : evalE g (.comp e t k its own none) s = .ok (.lst (xs.map h)) s := by
  conv => lhs; unfold evalE
  simp only [h1, Rs.bind, h2, h3, h4, Bool.and_self, if_true]
  refine comp_end (h := fun x => some (h x)) (by rw [List.filterMap_eq_map']) (by rw [List.length_map]; exact hl) (turnsC_pure (own := own) (s := s) xs s rfl fun x hx s1 es => ?_)
  obtain ⟨sb, b1, b2, b3, b4⟩ := hb x hx
  refine ⟨sb, ?_, b4⟩
  simp only [es, b1, Rs.bind, if_true, b2, b3]
theorem turnsC_map {α : Type} {f : U → Sta → Rs (Option U)} {own : List Nat} {s : Sta} {enc : α → U} {h : α → Option U} : ∀ (l : List α) (s1 : Sta), wipeS s1 own = wipeS s own → (∀ a ∈ l, ∀ s1, wipeS s1 own = wipeS s own → ∃ s2, f (enc a) s1 = .ok (h a) s2 ∧ wipeS s2 own = wipeS s own) →
    ∃ s2, turnsC f (l.map enc) s1 = .ok (l.filterMap h) s2 ∧ wipeS s2 own = wipeS s own
  | [], s1, e, _ => ⟨s1, rfl, e⟩
  | x :: xs, s1, e, hf => by
    obtain ⟨s2, h1, h2⟩ := hf x (by simp) s1 e
    obtain ⟨s3, h3, h4⟩ := turnsC_map xs s2 h2 fun y hy => hf y (by simp [hy])
    refine ⟨s3, ?_, h4⟩
    simp only [List.map_cons, turnsC, h1, Rs.bind, h3]
    cases hx : h x with
    | none => rw [List.filterMap_cons_none hx]
    | some y => rw [List.filterMap_cons_some hx]
theorem comp_endM {F : U → Sta → Rs (Option U)} {own : List Nat} {s : Sta} {xs ys zs : List U} (e : zs = ys) (hl : ys.length ≤ line) (q : ∃ s2, turnsC F xs s = .ok zs s2 ∧ wipeS s2 own = wipeS s own) :
    (match turnsC F xs s with | .ok us s' => if us.length ≤ line then Rs.ok (U.lst us) (backS s s' own) else .stuck | _ => .stuck) = .ok (.lst ys) s := by
  obtain ⟨s2, q1, q2⟩ := q
  rw [q1, e]
  simp only [hl, if_true]
  rw [back_of q2]
/-- .. over mapped things -/
theorem ev_compM {α : Type} {g : Gst} {e : ME} {t : Tg} {k : Nat} {its : List ME} {own : List Nat} {s : Sta} {avs : List AV} {xs : List U} (l : List α) (enc h : α → U) (h1 : evalAs g its s = .ok avs s) (h2 : walkA k avs s = some xs) (hx : xs = l.map enc) (h3 : stillIs s (wipeS s own) avs = true) (h4 : own.all (fun j => !(AV.own j).ok s) = true) (hl : l.length ≤ line)
    (hb : ∀ a ∈ l, ∃ sb, bindT t (enc a) (wipeS s own) = some sb ∧ evalE g e sb = .ok (h a) sb ∧ stillIs s sb avs = true ∧ wipeS sb own = wipeS s own) : evalE g (.comp e t k its own none) s = .ok (.lst (l.map h)) s := by
  subst hx
  conv => lhs; unfold evalE
  simp only [h1, Rs.bind, h2, h3, h4, Bool.and_self, if_true]
  refine comp_endM (List.filterMap_eq_map' (f := h) ▸ rfl) (by rw [List.length_map]; exact hl) (turnsC_map (own := own) (s := s) (h := fun a => some (h a)) l s rfl fun a ha s1 es => ?_)
  obtain ⟨sb, b1, b2, b3, b4⟩ := hb a ha
  refine ⟨sb, ?_, b4⟩
  simp only [es, b1, Rs.bind, if_true, b2, b3]
/-- .. with a test -/
theorem ev_compIf {g : Gst} {e c : ME} {t : Tg} {k : Nat} {its : List ME} {own : List Nat} {s : Sta} {avs : List AV} {xs : List U} (h : U → Option U) (h1 : evalAs g its s = .ok avs s) (h2 : walkA k avs s = some xs) (h3 : stillIs s (wipeS s own) avs = true) (h4 : own.all (fun j => !(AV.own j).ok s) = true) (hl : xs.length ≤ line)
    (hb : ∀ x ∈ xs, ∃ sb, bindT t x (wipeS s own) = some sb ∧ stillIs s sb avs = true ∧ wipeS sb own = wipeS s own ∧ ∃ b, condOf (fun s => evalE g c s) c sb = .ok b sb ∧
      (match b with | true => ∃ u, h x = some u ∧ evalE g e sb = .ok u sb | false => h x = none)) : evalE g (.comp e t k its own (some c)) s = .ok (.lst (xs.filterMap h)) s := by
  conv => lhs; unfold evalE
  simp only [h1, Rs.bind, h2, h3, h4, Bool.and_self, if_true]
  refine comp_end (h := h) rfl (Nat.le_trans (List.length_filterMap_le _ _) hl) (turnsC_pure (own := own) (s := s) xs s rfl fun x hx s1 es => ?_)
  obtain ⟨sb, b1, b2, b3, b, b4, b5⟩ := hb x hx
  refine ⟨sb, ?_, b3⟩
  unfold condOf at b4
  simp only [Rs.bind] at b4
  simp only [es, b1, b4, Rs.bind]
  cases b with
  | true =>
    obtain ⟨u, hu, he⟩ := b5
    simp only [if_true, he, b2, hu]
  | false => simp only [Bool.false_eq_true, if_false, b2, if_true, b5]
/-- a comprehension whose element changes the state -/
def outs {α β : Type} (out : β → α → U) (step : β → α → β) : β → List α → List U
  | _, [] => []
  | b, a :: l => out b a :: outs out step (step b a) l
theorem turnsC_st {α β : Type} {f : U → Sta → Rs (Option U)} {St : β → Sta} {enc : α → U} {out : β → α → U} {step : β → α → β} {I : β → Prop} : ∀ (l : List α) (b : β), I b → (∀ b a, a ∈ l → I b → f (enc a) (St b) = .ok (some (out b a)) (St (step b a)) ∧ I (step b a)) →
    turnsC f (l.map enc) (St b) = .ok (outs out step b l) (St (l.foldl step b)) ∧ I (l.foldl step b)
  | [], b, hi, _ => ⟨rfl, hi⟩
  | a :: l, b, hi, h => by
    obtain ⟨h1, h2⟩ := h b a (by simp) hi
    obtain ⟨h3, h4⟩ := turnsC_st l (step b a) h2 fun b y hy => h b y (by simp [hy])
    refine ⟨?_, h4⟩
    simp only [List.map_cons, turnsC, h1, Rs.bind, h3, outs, List.foldl_cons]
theorem comp_endS {F : U → Sta → Rs (Option U)} {own : List Nat} {s s2 : Sta} {xs ys : List U} {P : Prop} (hl : ys.length ≤ line) (q : turnsC F xs s = .ok ys s2 ∧ P) :
    (match turnsC F xs s with | .ok us s' => if us.length ≤ line then Rs.ok (U.lst us) (backS s s' own) else .stuck | _ => .stuck) = .ok (.lst ys) (backS s s2 own) := by
  rw [q.1]
  simp only [hl, if_true]
theorem outs_len {α β : Type} {out : β → α → U} {step : β → α → β} : ∀ (l : List α) (b : β), (outs out step b l).length = l.length
  | [], b => rfl
  | a :: l, b => by simp [outs, outs_len l]
theorem ev_compS {α β : Type} {g : Gst} {e : ME} {t : Tg} {k : Nat} {its : List ME} {own : List Nat} {s : Sta} {avs : List AV} {xs : List U} (l : List α) (enc : α → U) (St : β → Sta) (out : β → α → U) (step : β → α → β) (I : β → Prop) (b0 : β) (hs : s = St b0) (hi : I b0) (h1 : evalAs g its s = .ok avs s) (h2 : walkA k avs s = some xs) (hx : xs = l.map enc) (h3 : stillIs s (wipeS s own) avs = true) (h4 : own.all (fun j => !(AV.own j).ok s) = true) (hl : l.length ≤ line)
    (hb : ∀ b a, a ∈ l → I b → ∃ sb, bindT t (enc a) (wipeS (St b) own) = some sb ∧ evalE g e sb = .ok (out b a) (St (step b a)) ∧ stillIs s (St (step b a)) avs = true ∧ I (step b a)) :
    evalE g (.comp e t k its own none) s = .ok (.lst (outs out step b0 l)) (backS s (St (l.foldl step b0)) own) := by
  subst hx
  conv => lhs; unfold evalE
  simp only [h1, Rs.bind, h2, h3, h4, Bool.and_self, if_true]
  subst hs
  refine comp_endS (by rw [outs_len]; exact hl) (turnsC_st (I := I) l b0 hi fun b a ha hi => ?_)
  obtain ⟨sb, b1, b2, b3, b4⟩ := hb b a ha hi
  refine ⟨?_, b4⟩
  simp only [b1, Rs.bind, if_true, b2, b3]
/-- a for whose turns go on -/
theorem turnsF_fold {β : Type} {St : β → Sta} {f : U → Sta → Rs Fl} {step : β → U → β} {I : β → Prop} : ∀ (xs : List U) (b : β), I b → (∀ b x, x ∈ xs → I b → (f x (St b) = .ok .next (St (step b x)) ∨ f x (St b) = .ok .cont (St (step b x))) ∧ I (step b x)) →
    turnsF f xs (St b) = .ok .next (St (xs.foldl step b)) ∧ I (xs.foldl step b)
  | [], b, hi, _ => ⟨rfl, hi⟩
  | x :: xs, b, hi, h => by
    obtain ⟨h1, h2⟩ := h b x (by simp) hi
    obtain ⟨h3, h4⟩ := turnsF_fold xs (step b x) h2 fun b y hy => h b y (by simp [hy])
    refine ⟨?_, h4⟩
    rcases h1 with h1 | h1 <;> simp only [turnsF, h1, Rs.bind, h3, List.foldl_cons]
/-- a loop by a count -/
def wh {β : Type} (cond : β → Bool) (step : β → β) : Nat → β → β
  | 0, b => b
  | n + 1, b => if cond b then wh cond step n (step b) else b
theorem wh_proj {β γ : Type} {cond : β → Bool} {step : β → β} {cond' : γ → Bool} {step' : γ → γ} (π : β → γ) (hc : ∀ b, cond b = cond' (π b)) (hs : ∀ b, π (step b) = step' (π b)) : ∀ (f : Nat) (b : β), π (wh cond step f b) = wh cond' step' f (π b)
  | 0, b => rfl
  | f + 1, b => by
    simp only [wh, hc b]
    split
    · rw [wh_proj π hc hs f (step b), hs]
    · rfl
theorem turnsW_wh {β : Type} {St : β → Sta} {c : Sta → Rs Bool} {f : Sta → Rs Fl} {cond : β → Bool} {step : β → β} {μ : β → Nat} {I : β → Prop} (hc : ∀ b, I b → c (St b) = .ok (cond b) (St b)) (hf : ∀ b, I b → cond b = true → (f (St b) = .ok .next (St (step b)) ∨ f (St b) = .ok .cont (St (step b))) ∧ I (step b) ∧ μ (step b) < μ b) :
    ∀ (m n : Nat) (b : β), μ b ≤ m → m < n → I b → turnsW c f n (St b) = .ok .next (St (wh cond step m b)) ∧ cond (wh cond step m b) = false ∧ I (wh cond step m b)
  | m, 0, b, _, h, _ => by omega
  | m, n + 1, b, h1, h2, hi => by
    cases hb : cond b with
    | false =>
      have e : wh cond step m b = b := by
        cases m with
        | zero => rfl
        | succ m => simp [wh, hb]
      refine ⟨?_, by rw [e]; exact hb, by rw [e]; exact hi⟩
      simp only [turnsW, hc b hi, hb, Rs.bind, e, Bool.false_eq_true, if_false]
    | true =>
      obtain ⟨g1, g2, g3⟩ := hf b hi hb
      cases m with
      | zero => omega
      | succ m =>
        obtain ⟨k1, k2, k3⟩ := turnsW_wh hc hf m n (step b) (by omega) (by omega) g2
        have e : wh cond step (m + 1) b = wh cond step m (step b) := by simp [wh, hb]
        refine ⟨?_, by rw [e]; exact k2, by rw [e]; exact k3⟩
        rcases g1 with g1 | g1 <;> simp only [turnsW, hc b hi, hb, Rs.bind, g1, k1, e, if_true]
/-! the same by a relation -/
theorem turnsF_rel {γ : Type} {R : γ → Sta → Prop} {f : U → Sta → Rs Fl} {step : γ → U → γ} : ∀ (xs : List U) (b : γ) (s : Sta), R b s → (∀ b s x, x ∈ xs → R b s → ∃ s', (f x s = .ok .next s' ∨ f x s = .ok .cont s') ∧ R (step b x) s') →
    ∃ s', turnsF f xs s = .ok .next s' ∧ R (xs.foldl step b) s'
  | [], b, s, r, _ => ⟨s, rfl, r⟩
  | x :: xs, b, s, r, h => by
    obtain ⟨s1, h1, r1⟩ := h b s x (by simp) r
    obtain ⟨s2, h2, r2⟩ := turnsF_rel xs (step b x) s1 r1 fun b s y hy => h b s y (by simp [hy])
    refine ⟨s2, ?_, r2⟩
    rcases h1 with h1 | h1 <;> simp only [turnsF, h1, Rs.bind, h2]
theorem turnsF_relM {γ α : Type} {R : γ → Sta → Prop} {f : U → Sta → Rs Fl} {enc : α → U} {step : γ → α → γ} : ∀ (l : List α) (b : γ) (s : Sta), R b s → (∀ b s x, x ∈ l → R b s → ∃ s', (f (enc x) s = .ok .next s' ∨ f (enc x) s = .ok .cont s') ∧ R (step b x) s') →
    ∃ s', turnsF f (l.map enc) s = .ok .next s' ∧ R (l.foldl step b) s'
  | [], b, s, r, _ => ⟨s, rfl, r⟩
  | x :: xs, b, s, r, h => by
    obtain ⟨s1, h1, r1⟩ := h b s x (by simp) r
    obtain ⟨s2, h2, r2⟩ := turnsF_relM xs (step b x) s1 r1 fun b s y hy => h b s y (by simp [hy])
    refine ⟨s2, ?_, r2⟩
    rcases h1 with h1 | h1 <;> simp only [List.map_cons, turnsF, h1, Rs.bind, h2]
theorem turnsF_relN {γ α : Type} {R : Nat → γ → Sta → Prop} {f : U → Sta → Rs Fl} {enc : α → U} {step : γ → α → γ} : ∀ (l : List α) (i0 : Nat) (b : γ) (s : Sta), R i0 b s → (∀ i b s x, i < i0 + l.length → x ∈ l → R i b s → ∃ s', (f (enc x) s = .ok .next s' ∨ f (enc x) s = .ok .cont s') ∧ R (i + 1) (step b x) s') →
    ∃ s', turnsF f (l.map enc) s = .ok .next s' ∧ R (i0 + l.length) (l.foldl step b) s'
  | [], i0, b, s, r, _ => ⟨s, rfl, r⟩
  | x :: xs, i0, b, s, r, h => by
    obtain ⟨s1, h1, r1⟩ := h i0 b s x (by simp) (by simp) r
    obtain ⟨s2, h2, r2⟩ := turnsF_relN xs (i0 + 1) (step b x) s1 r1 fun i b s y hi hy => h i b s y (by simp; omega) (by simp [hy])
    refine ⟨s2, ?_, by rw [List.length_cons, show i0 + (xs.length + 1) = i0 + 1 + xs.length by omega]; exact r2⟩
    rcases h1 with h1 | h1 <;> simp only [List.map_cons, turnsF, h1, Rs.bind, h2]
theorem turnsF_relI {α : Type} {R : Nat → Sta → Prop} {f : U → Sta → Rs Fl} {enc : α → U} (l : List α) (s : Sta) (r : R 0 s) (h : ∀ i s x, l[i]? = some x → R i s → ∃ s', (f (enc x) s = .ok .next s' ∨ f (enc x) s = .ok .cont s') ∧ R (i + 1) s') :
    ∃ s', turnsF f (l.map enc) s = .ok .next s' ∧ R l.length s' := by
  have key : ∀ (l2 l1 : List α) (s : Sta), l = l1 ++ l2 → R l1.length s → ∃ s', turnsF f (l2.map enc) s = .ok .next s' ∧ R l.length s' := by
    intro l2
    induction l2 with
    | nil => intro l1 s e r; subst e; exact ⟨s, rfl, by simpa using r⟩
    | cons x l2 ih =>
      intro l1 s e r
      obtain ⟨s1, h1, r1⟩ := h l1.length s x (by rw [e]; simp) r
      obtain ⟨s2, h2, r2⟩ := ih (l1 ++ [x]) s1 (by rw [e]; simp) (by simpa using r1)
      refine ⟨s2, ?_, r2⟩
      rcases h1 with h1 | h1 <;> simp only [List.map_cons, turnsF, h1, Rs.bind, h2]
  exact key l [] s rfl r
theorem turnsW_rel {γ : Type} {R : γ → Sta → Prop} {c : Sta → Rs Bool} {f : Sta → Rs Fl} {cond : γ → Bool} {step : γ → γ} {μ : γ → Nat} (hc : ∀ b s, R b s → c s = .ok (cond b) s) (hf : ∀ b s, R b s → cond b = true → ∃ s', (f s = .ok .next s' ∨ f s = .ok .cont s') ∧ R (step b) s' ∧ μ (step b) < μ b) :
    ∀ (m n : Nat) (b : γ) (s : Sta), μ b ≤ m → m < n → R b s → ∃ s', turnsW c f n s = .ok .next s' ∧ R (wh cond step m b) s' ∧ cond (wh cond step m b) = false
  | m, 0, b, s, _, h, _ => by omega
  | m, n + 1, b, s, h1, h2, r => by
    cases hb : cond b with
    | false =>
      have e : wh cond step m b = b := by
        cases m with
        | zero => rfl
        | succ m => simp [wh, hb]
      refine ⟨s, ?_, by rw [e]; exact r, by rw [e]; exact hb⟩
      simp only [turnsW, hc b s r, hb, Rs.bind, Bool.false_eq_true, if_false]
    | true =>
      obtain ⟨s1, g1, g2, g3⟩ := hf b s r hb
      cases m with
      | zero => omega
      | succ m =>
        obtain ⟨s2, k1, k2, k3⟩ := turnsW_rel hc hf m n (step b) s1 (by omega) (by omega) g2
        have e : wh cond step (m + 1) b = wh cond step m (step b) := by simp [wh, hb]
        refine ⟨s2, ?_, by rw [e]; exact k2, by rw [e]; exact k3⟩
        rcases g1 with g1 | g1 <;> simp only [turnsW, hc b s r, hb, Rs.bind, g1, k1, if_true]
/-- .. that ends by an exception -/
theorem turnsW_exc {γ : Type} {R : γ → Sta → Prop} {Q : U → Sta → Prop} {c : Sta → Rs Bool} {f : Sta → Rs Fl} {cond bad : γ → Bool} {step : γ → γ} (hc : ∀ b s, R b s → c s = .ok (cond b) s) (hf : ∀ b s, R b s → cond b = true → bad (step b) = false → ∃ s', (f s = .ok .next s' ∨ f s = .ok .cont s') ∧ R (step b) s')
    (hx : ∀ b s, R b s → cond b = true → bad (step b) = true → ∃ e s', f s = .exc e s' ∧ Q e s') :
    ∀ (m n : Nat) (b : γ) (s : Sta), bad b = false → bad (wh cond step m b) = true → m < n → R b s → ∃ e s', turnsW c f n s = .exc e s' ∧ Q e s'
  | 0, n, b, s, h1, h2, _, _ => by simp only [wh] at h2; rw [h1] at h2; cases h2
  | m + 1, 0, b, s, _, _, h, _ => by omega
  | m + 1, n + 1, b, s, h1, h2, h3, r => by
    cases hb : cond b with
    | false =>
      have e : wh cond step (m + 1) b = b := by simp [wh, hb]
      rw [e, h1] at h2; cases h2
    | true =>
      have e : wh cond step (m + 1) b = wh cond step m (step b) := by simp [wh, hb]
      rw [e] at h2
      cases hbad : bad (step b) with
      | true =>
        obtain ⟨e, s', g1, g2⟩ := hx b s r hb hbad
        refine ⟨e, s', ?_, g2⟩
        simp only [turnsW, hc b s r, hb, Rs.bind, g1, if_true]
      | false =>
        obtain ⟨s1, g1, g2⟩ := hf b s r hb hbad
        obtain ⟨e2, s', k1, k2⟩ := turnsW_exc hc hf hx m n (step b) s1 hbad h2 (by omega) g2
        refine ⟨e2, s', ?_, k2⟩
        rcases g1 with g1 | g1 <;> simp only [turnsW, hc b s r, hb, Rs.bind, g1, k1, if_true]
end MPE
set_option maxRecDepth 100000
/-! LB: the program's defs in the small language (printed by gen.py). -/
namespace MPE
open MP
namespace F
abbrev turns_is_whole : Nat := 0
abbrev turns_is_between : Nat := 1
abbrev turns_is_turn : Nat := 2
abbrev turns_need_turn : Nat := 3
abbrev turns_turn_after : Nat := 4
abbrev machines_is_below : Nat := 5
abbrev machines_is_room : Nat := 6
abbrev machines_is_machine : Nat := 7
abbrev machines_sure_machine : Nat := 8
abbrev machines_letters_of : Nat := 9
abbrev machines_numbered : Nat := 10
abbrev machines_room_marks : Nat := 11
abbrev machines_least_from : Nat := 12
abbrev machines_least : Nat := 13
abbrev products_paired : Nat := 14
abbrev products_both : Nat := 15
abbrev law__law_state : Nat := 16
abbrev law__law_next : Nat := 17
abbrev law__law_turn : Nat := 18
abbrev law__law_full_turn : Nat := 19
abbrev law__law_good : Nat := 20
abbrev law__law_marks : Nat := 21
abbrev law__law_as_both : Nat := 22
abbrev law__law_least : Nat := 23
abbrev law__law_ring : Nat := 24
abbrev law__law_told : Nat := 25
abbrev law_law : Nat := 26
abbrev turns_undone : Nat := 27
abbrev turns_turn_back : Nat := 28
abbrev machines_sure_row_of : Nat := 29
abbrev machines_led : Nat := 30
abbrev machines_run : Nat := 31
abbrev machines_room_behind : Nat := 32
abbrev machines_checked_room : Nat := 33
abbrev machines_begun_at : Nat := 34
abbrev machines_parting_row : Nat := 35
abbrev products_room_back : Nat := 36
abbrev products_turned_back : Nat := 37
abbrev law__law_same : Nat := 38
abbrev law__law_mixed : Nat := 39
abbrev law__law_chain : Nat := 40
abbrev law__law_led : Nat := 41
abbrev turns_still_turn : Nat := 42
abbrev words_is_word : Nat := 43
abbrev words_sure_word : Nat := 44
abbrev words_shortened : Nat := 45
abbrev rows_turn_by : Nat := 46
abbrev rows_behind_one : Nat := 47
abbrev tables_gone_over : Nat := 48
abbrev tables_parted : Nat := 49
abbrev tables_alike : Nat := 50
abbrev book_is_hand : Nat := 51
abbrev book_are_hands : Nat := 52
abbrev law__law_counter : Nat := 53
abbrev law__law_row : Nat := 54
abbrev law__law_refused : Nat := 55
abbrev book_Book___init__ : Nat := 56
abbrev book_Book___eq__ : Nat := 57
abbrev book_Book___len__ : Nat := 58
abbrev book_Book_letters : Nat := 59
abbrev book_Book_hands : Nat := 60
abbrev book_Book_steps : Nat := 61
abbrev book_Book_has_step : Nat := 62
abbrev book_Book_has_letter : Nat := 63
abbrev book_Book_turn : Nat := 64
abbrev book_Book_onward : Nat := 65
abbrev mk_Book : Nat := 66
end F
namespace C
abbrev HandError : Nat := 0
abbrev NoTurn : Nat := 1
abbrev NoMachine : Nat := 2
abbrev TooMany : Nat := 3
abbrev KeyError : Nat := 4
abbrev ValueError : Nat := 5
abbrev NoRow : Nat := 6
abbrev NoNumber : Nat := 7
abbrev NoBook : Nat := 8
abbrev NoWord : Nat := 9
abbrev Book : Nat := 10
end C
namespace M
abbrev __init__ : Nat := 0
abbrev __eq__ : Nat := 1
abbrev __len__ : Nat := 2
abbrev letters : Nat := 3
abbrev hands : Nat := 4
abbrev steps : Nat := 5
abbrev told : Nat := 6
abbrev has_step : Nat := 7
abbrev has_letter : Nat := 8
abbrev turn : Nat := 9
abbrev onward : Nat := 10
end M
namespace G
abbrev LEAST_MANY : Nat := 0
abbrev MOST_MANY : Nat := 1
abbrev MOST_ROOMS : Nat := 2
abbrev MOST_LETTERS : Nat := 3
abbrev MOST_STEPS : Nat := 4
abbrev MOST_WORDS : Nat := 5
abbrev MOST_HANDS : Nat := 6
end G
namespace A
abbrev many : Nat := 0
abbrev pairs : Nat := 1
end A
namespace LB
def d_turns_is_whole : MDef := { params := 1, slots := 1, body := [.ret (.and [(.op (.isi [0]) [(.var 0)]), (.not (.op (.isi [1]) [(.var 0)]))])] }
def d_turns_is_between : MDef := { params := 3, slots := 3, body := [.ret (.and [(.call F.turns_is_whole [(.var 0)]), (.chain .le .le (.var 1) (.var 0) (.var 2))])] }
def d_turns_is_turn : MDef := { params := 1, slots := 2, body := [.ife (.or [(.not (.op (.isi [2]) [(.var 0)])), (.not (.chain .le .le (.glo G.LEAST_MANY (.int 2)) (.op .len [(.var 0)]) (.glo G.MOST_MANY (.int 4))))]) [.ret (.lit (.bl false))] [],
  .ife (.not (.op .all [(.comp (.call F.turns_is_between [(.var 1), (.lit (.int 0)), (.op .sub [(.op .len [(.var 0)]), (.lit (.int 1))])]) (.one 1) 0 [(.var 0)] [1] none)])) [.ret (.lit (.bl false))] [],
  .ret (.op .eq [(.op .sorted [(.var 0)]), (.op .lstR1 [(.op .len [(.var 0)])])])] }
def d_turns_need_turn : MDef := { params := 1, slots := 1, body := [.ife (.not (.call F.turns_is_turn [(.var 0)])) [.raise C.NoTurn []] []] }
def d_turns_turn_after : MDef := { params := 2, slots := 3, body := [.expr (.call F.turns_need_turn [(.var 0)]),
  .expr (.call F.turns_need_turn [(.var 1)]),
  .ife (.op .ne [(.op .len [(.var 0)]), (.op .len [(.var 1)])]) [.raise C.NoTurn []] [],
  .ret (.op .tupOf [(.comp (.op .ix [(.var 1), (.var 2)]) (.one 2) 0 [(.var 0)] [2] none)])] }
def d_machines_is_below : MDef := { params := 2, slots := 2, body := [.ret (.and [(.op (.isi [0]) [(.var 0)]), (.not (.op (.isi [1]) [(.var 0)])), (.chain .le .lt (.lit (.int 0)) (.var 0) (.var 1))])] }
def d_machines_is_room : MDef := { params := 3, slots := 6, body := [.ife (.or [(.not (.op (.isi [2]) [(.var 0)])), (.op .ne [(.op .len [(.var 0)]), (.lit (.int 2))])]) [.ret (.lit (.bl false))] [],
  .set (.tup [(.one 3), (.one 4)]) (.var 0),
  .ife (.or [(.not (.call F.turns_is_turn [(.var 3)])), (.op .ne [(.op .len [(.var 3)]), (.var 1)]), (.not (.op (.isi [2]) [(.var 4)])), (.op .ne [(.op .len [(.var 4)]), (.var 1)])]) [.ret (.lit (.bl false))] [],
  .ret (.op .all [(.comp (.call F.machines_is_below [(.var 5), (.var 2)]) (.one 5) 0 [(.var 4)] [5] none)])] }
def d_machines_is_machine : MDef := { params := 1, slots := 3, body := [.ife (.or [(.not (.op (.isi [2]) [(.var 0)])), (.not (.chain .le .le (.lit (.int 1)) (.op .len [(.var 0)]) (.glo G.MOST_ROOMS (.int 60))))]) [.ret (.lit (.bl false))] [],
  .set (.one 1) (.op .ix [(.var 0), (.lit (.int 0))]),
  .ife (.or [(.not (.op (.isi [2]) [(.var 1)])), (.op .ne [(.op .len [(.var 1)]), (.lit (.int 2))]), (.not (.call F.turns_is_turn [(.op .ix [(.var 1), (.lit (.int 0))])]))]) [.ret (.lit (.bl false))] [],
  .ret (.op .all [(.comp (.call F.machines_is_room [(.var 2), (.op .len [(.op .ix [(.var 1), (.lit (.int 0))])]), (.op .len [(.var 0)])]) (.one 2) 0 [(.var 0)] [2] none)])] }
def d_machines_sure_machine : MDef := { params := 1, slots := 1, body := [.ife (.not (.call F.machines_is_machine [(.var 0)])) [.raise C.NoMachine []] [],
  .ret (.var 0)] }
def d_machines_letters_of : MDef := { params := 1, slots := 1, body := [.ret (.op .len [(.op .ix [(.op .ix [(.call F.machines_sure_machine [(.var 0)]), (.lit (.int 0))]), (.lit (.int 0))])])] }
def d_machines_numbered : MDef := { params := 1, slots := 3, body := [.own 1 (.op (.dict 0) []),
  .ret (.comp (.mut .setdefault (.var 1) [(.var 2), (.op .len [(.var 1)])]) (.one 2) 0 [(.var 0)] [2] none)] }
def d_machines_room_marks : MDef := { params := 1, slots := 6, body := [.set (.one 2) (.call F.machines_numbered [(.comp (.op .ix [(.var 1), (.lit (.int 0))]) (.one 1) 0 [(.var 0)] [1] none)]),
  .set (.one 3) (.lit (.int 0)),
  .whil (.op .ge [(.op .max1 [(.var 2)]), (.var 3)]) [.set (.one 3) (.op .add [(.op .max1 [(.var 2)]), (.lit (.int 1))]),
  .set (.one 2) (.call F.machines_numbered [(.comp (.op .tup [(.op .ix [(.var 2), (.var 5)]), (.op .tupOf [(.comp (.op .ix [(.var 2), (.var 4)]) (.one 4) 0 [(.op .ix [(.var 1), (.lit (.int 1))])] [4] none)])]) (.tup [(.one 5), (.one 1)]) 3 [(.var 0)] [5, 1] none)])],
  .ret (.var 2)] }
def d_machines_least_from : MDef := { params := 2, slots := 8, body := [.set (.one 2) (.call F.machines_room_marks [(.var 0)]),
  .own 3 (.op .lst [(.var 1)]),
  .own 4 (.op (.dict 1) [(.op .ix [(.var 2), (.var 1)]), (.lit (.int 0))]),
  .set (.one 5) (.lit (.int 0)),
  .whil (.op .lt [(.var 5), (.op .len [(.var 3)])]) [.forr (.one 6) 0 [(.op .ix [(.op .ix [(.var 0), (.op .ix [(.var 3), (.var 5)])]), (.lit (.int 1))])] [.ife (.op .notin [(.op .ix [(.var 2), (.var 6)]), (.var 4)]) [.setIx (.var 4) (.op .ix [(.var 2), (.var 6)]) (.op .len [(.var 3)]),
  .expr (.mut .append (.var 3) [(.var 6)])] []],
  .aug 5 .add (.lit (.int 1))],
  .ret (.op .tupOf [(.comp (.op .tup [(.op .ix [(.op .ix [(.var 0), (.var 7)]), (.lit (.int 0))]), (.op .tupOf [(.comp (.op .ix [(.var 4), (.op .ix [(.var 2), (.var 6)])]) (.one 6) 0 [(.op .ix [(.op .ix [(.var 0), (.var 7)]), (.lit (.int 1))])] [6] none)])]) (.one 7) 0 [(.var 3)] [7] none)])] }
def d_machines_least : MDef := { params := 1, slots := 1, body := [.ret (.call F.machines_least_from [(.call F.machines_sure_machine [(.var 0)]), (.lit (.int 0))])] }
def d_products_paired : MDef := { params := 2, slots := 13, body := [.own 2 (.op .lst [(.op .tup [(.lit (.int 0)), (.lit (.int 0))])]),
  .own 3 (.op (.dict 1) [(.op .tup [(.lit (.int 0)), (.lit (.int 0))]), (.lit (.int 0))]),
  .own 4 (.op .lst []),
  .whil (.op .lt [(.op .len [(.var 4)]), (.op .len [(.var 2)])]) [.set (.tup [(.one 5), (.one 6)]) (.op .ix [(.var 2), (.op .len [(.var 4)])]),
  .set (.tup [(.one 7), (.one 8)]) (.op .ix [(.var 0), (.var 5)]),
  .own 9 (.op .lst []),
  .forr (.tup [(.one 10), (.one 11)]) 3 [(.var 8)] [.set (.one 12) (.op .tup [(.var 11), (.op .ix [(.op .ix [(.op .ix [(.var 1), (.var 6)]), (.lit (.int 1))]), (.op .ix [(.var 7), (.var 10)])])]),
  .ife (.op .notin [(.var 12), (.var 3)]) [.setIx (.var 3) (.var 12) (.op .len [(.var 2)]),
  .expr (.mut .append (.var 2) [(.var 12)])] [],
  .expr (.mut .append (.var 9) [(.op .ix [(.var 3), (.var 12)])])],
  .ife (.op .gt [(.op .len [(.var 2)]), (.glo G.MOST_ROOMS (.int 60))]) [.raise C.TooMany []] [],
  .expr (.mut .append (.var 4) [(.op .tup [(.call F.turns_turn_after [(.var 7), (.op .ix [(.op .ix [(.var 1), (.var 6)]), (.lit (.int 0))])]), (.op .tupOf [(.var 9)])])])],
  .ret (.op .tupOf [(.var 4)])] }
def d_products_both : MDef := { params := 2, slots := 2, body := [.ife (.op .ne [(.call F.machines_letters_of [(.var 0)]), (.call F.machines_letters_of [(.var 1)])]) [.raise C.NoMachine []] [],
  .ret (.call F.machines_least [(.call F.products_paired [(.call F.machines_least [(.var 0)]), (.call F.machines_least [(.var 1)])])])] }
def d_turns_undone : MDef := { params := 1, slots := 2, body := [.ret (.op .tupOf [(.comp (.op .index [(.var 0), (.var 1)]) (.one 1) 1 [(.op .len [(.var 0)])] [1] none)])] }
def d_turns_turn_back : MDef := { params := 1, slots := 1, body := [.expr (.call F.turns_need_turn [(.var 0)]),
  .ret (.call F.turns_undone [(.var 0)])] }
def d_machines_sure_row_of : MDef := { params := 2, slots := 4, body := [.set (.one 2) (.call F.machines_letters_of [(.var 0)]),
  .ife (.or [(.not (.op (.isi [2]) [(.var 1)])), (.op .gt [(.op .len [(.var 1)]), (.glo G.MOST_LETTERS (.int 100))]), (.not (.op .all [(.comp (.call F.machines_is_below [(.var 3), (.var 2)]) (.one 3) 0 [(.var 1)] [3] none)]))]) [.raise C.NoRow []] [],
  .ret (.var 1)] }
def d_machines_led : MDef := { params := 2, slots := 7, body := [.expr (.call F.machines_sure_row_of [(.var 0), (.var 1)]),
  .own 2 (.op .lst []),
  .set (.one 3) (.lit (.int 0)),
  .forr (.one 4) 0 [(.var 1)] [.set (.tup [(.one 5), (.one 6)]) (.op .ix [(.var 0), (.var 3)]),
  .expr (.mut .append (.var 2) [(.op .ix [(.var 5), (.var 4)])]),
  .set (.one 3) (.op .ix [(.var 6), (.var 4)])],
  .ret (.op .tup [(.op .tupOf [(.var 2)]), (.var 3)])] }
def d_machines_run : MDef := { params := 2, slots := 2, body := [.ret (.op .ix [(.call F.machines_led [(.var 0), (.var 1)]), (.lit (.int 0))])] }
def d_machines_room_behind : MDef := { params := 2, slots := 2, body := [.ret (.op .ix [(.call F.machines_led [(.var 0), (.var 1)]), (.lit (.int 1))])] }
def d_machines_checked_room : MDef := { params := 2, slots := 2, body := [.ife (.not (.call F.machines_is_below [(.var 1), (.op .len [(.var 0)])])) [.raise C.NoNumber []] []] }
def d_machines_begun_at : MDef := { params := 2, slots := 2, body := [.expr (.call F.machines_sure_machine [(.var 0)]),
  .expr (.call F.machines_checked_room [(.var 0), (.var 1)]),
  .ret (.call F.machines_least_from [(.var 0), (.var 1)])] }
def d_machines_parting_row : MDef := { params := 3, slots := 12, body := [.set (.one 3) (.call F.machines_letters_of [(.var 0)]),
  .expr (.call F.machines_checked_room [(.var 0), (.var 1)]),
  .expr (.call F.machines_checked_room [(.var 0), (.var 2)]),
  .own 4 (.op .lst [(.op .tup [(.var 1), (.var 2), (.op .tup [])])]),
  .own 5 (.op (.dict 1) [(.op .tup [(.var 1), (.var 2)]), (.lit (.bl true))]),
  .set (.one 6) (.lit (.int 0)),
  .whil (.op .lt [(.var 6), (.op .len [(.var 4)])]) [.set (.tup [(.one 7), (.one 8), (.one 9)]) (.op .ix [(.var 4), (.var 6)]),
  .forr (.one 10) 1 [(.var 3)] [.ife (.op .ne [(.op .ix [(.op .ix [(.op .ix [(.var 0), (.var 7)]), (.lit (.int 0))]), (.var 10)]), (.op .ix [(.op .ix [(.op .ix [(.var 0), (.var 8)]), (.lit (.int 0))]), (.var 10)])]) [.ret (.op .add [(.var 9), (.op .tup [(.var 10)])])] []],
  .forr (.one 10) 1 [(.var 3)] [.set (.one 11) (.op .tup [(.op .ix [(.op .ix [(.op .ix [(.var 0), (.var 7)]), (.lit (.int 1))]), (.var 10)]), (.op .ix [(.op .ix [(.op .ix [(.var 0), (.var 8)]), (.lit (.int 1))]), (.var 10)])]),
  .ife (.op .notin [(.var 11), (.var 5)]) [.setIx (.var 5) (.var 11) (.lit (.bl true)),
  .expr (.mut .append (.var 4) [(.op .tup [(.op .ix [(.var 11), (.lit (.int 0))]), (.op .ix [(.var 11), (.lit (.int 1))]), (.op .add [(.var 9), (.op .tup [(.var 10)])])])])] []],
  .aug 6 .add (.lit (.int 1))],
  .ret (.lit .non)] }
def d_products_room_back : MDef := { params := 1, slots := 5, body := [.set (.tup [(.one 1), (.one 2)]) (.var 0),
  .set (.one 3) (.call F.turns_turn_back [(.var 1)]),
  .ret (.op .tup [(.var 3), (.op .tupOf [(.comp (.op .ix [(.var 2), (.var 4)]) (.one 4) 0 [(.var 3)] [4] none)])])] }
def d_products_turned_back : MDef := { params := 1, slots := 2, body := [.ret (.call F.machines_least [(.op .tupOf [(.comp (.call F.products_room_back [(.var 1)]) (.one 1) 0 [(.call F.machines_sure_machine [(.var 0)])] [1] none)])])] }
def d_turns_still_turn : MDef := { params := 1, slots := 1, body := [.ife (.not (.call F.turns_is_between [(.var 0), (.glo G.LEAST_MANY (.int 2)), (.glo G.MOST_MANY (.int 4))])) [.raise C.NoNumber []] [],
  .ret (.op .tupR1 [(.var 0)])] }
def d_words_is_word : MDef := { params := 2, slots := 3, body := [.ife (.or [(.not (.op (.isi [2]) [(.var 1)])), (.op .gt [(.op .len [(.var 1)]), (.glo G.MOST_STEPS (.int 100))])]) [.ret (.lit (.bl false))] [],
  .ret (.op .all [(.comp (.meth (.var 0) M.has_step [(.var 2)]) (.one 2) 0 [(.var 1)] [2] none)])] }
def d_words_sure_word : MDef := { params := 2, slots := 2, body := [.ife (.not (.call F.words_is_word [(.var 0), (.var 1)])) [.raise C.NoWord []] [],
  .ret (.var 1)] }
def d_words_shortened : MDef := { params := 1, slots := 3, body := [.own 1 (.op .lst []),
  .forr (.one 2) 0 [(.var 0)] [.ife (.and [(.op .ne [(.var 1), (.op .lst [])]), (.op .eq [(.op .ix [(.var 1), (.op .neg [(.lit (.int 1))])]), (.op .neg [(.var 2)])])]) [.expr (.mut .pop (.var 1) [])] [.expr (.mut .append (.var 1) [(.var 2)])]],
  .ret (.op .tupOf [(.var 1)])] }
def d_rows_turn_by : MDef := { params := 2, slots := 6, body := [.set (.one 2) (.op .tupR1 [(.meth (.var 0) M.letters [])]),
  .forr (.one 3) 0 [(.var 1)] [.set (.one 4) (.meth (.var 0) M.turn [(.var 3)]),
  .set (.one 2) (.op .tupOf [(.comp (.op .ix [(.var 4), (.var 5)]) (.one 5) 0 [(.var 2)] [5] none)])],
  .ret (.var 2)] }
def d_rows_behind_one : MDef := { params := 3, slots := 5, body := [.own 3 (.op .lst []),
  .forr (.one 4) 0 [(.var 1)] [.expr (.mut .append (.var 3) [(.meth (.var 0) M.onward [(.var 4), (.var 2)])]),
  .set (.one 2) (.op .ix [(.meth (.var 0) M.turn [(.var 4)]), (.var 2)])],
  .ret (.call F.words_shortened [(.comp (.var 4) (.one 4) 0 [(.var 3)] [4] (some (.op .ne [(.var 4), (.lit (.int 0))])))])] }
def d_tables_gone_over : MDef := { params := 2, slots := 12, body := [.set (.one 2) (.call F.turns_still_turn [(.meth (.var 0) M.letters [])]),
  .own 3 (.op .lst [(.call F.words_shortened [(.var 1)])]),
  .own 4 (.op (.dict 1) [(.op .ix [(.var 3), (.lit (.int 0))]), (.op .tup [])]),
  .set (.one 5) (.lit (.int 0)),
  .whil (.op .lt [(.var 5), (.op .len [(.var 3)])]) [.set (.one 6) (.op .ix [(.var 3), (.var 5)]),
  .set (.one 7) (.call F.rows_turn_by [(.var 0), (.var 6)]),
  .ife (.op .ne [(.var 7), (.var 2)]) [.set (.one 10) (.comp (.var 8) (.tup [(.one 8), (.one 9)]) 3 [(.var 7)] [8, 9] (some (.op .ne [(.var 8), (.var 9)]))),
  .ret (.op .tup [(.mv 3), (.op .add [(.op .ix [(.var 4), (.var 6)]), (.op .tup [(.op .ix [(.var 10), (.lit (.int 0))])])])])] [],
  .forr (.one 8) 1 [(.meth (.var 0) M.letters [])] [.set (.one 11) (.call F.rows_behind_one [(.var 0), (.var 6), (.var 8)]),
  .ife (.op .inn [(.var 11), (.var 4)]) [.cont] [],
  .ife (.op .eq [(.op .len [(.var 3)]), (.glo G.MOST_WORDS (.int 100))]) [.raise C.TooMany []] [],
  .setIx (.var 4) (.var 11) (.op .add [(.op .ix [(.var 4), (.var 6)]), (.op .tup [(.var 8)])]),
  .expr (.mut .append (.var 3) [(.var 11)])],
  .aug 5 .add (.lit (.int 1))],
  .ret (.op .tup [(.mv 3), (.lit .non)])] }
def d_tables_parted : MDef := { params := 3, slots := 6, body := [.set (.one 3) (.call F.words_sure_word [(.var 0), (.var 1)]),
  .set (.one 5) (.op .tupOf [(.comp (.op .neg [(.var 4)]) (.one 4) 0 [(.op .rev [(.call F.words_sure_word [(.var 0), (.var 2)])])] [4] none)]),
  .ret (.op .ix [(.call F.tables_gone_over [(.var 0), (.op .add [(.var 3), (.var 5)])]), (.lit (.int 1))])] }
def d_tables_alike : MDef := { params := 3, slots := 3, body := [.ret (.op .isN [(.call F.tables_parted [(.var 0), (.var 1), (.var 2)])])] }
def d_book_is_hand : MDef := { params := 3, slots := 4, body := [.ife (.or [(.not (.op (.isi [2]) [(.var 0)])), (.op .ne [(.op .len [(.var 0)]), (.lit (.int 2))]), (.not (.call F.turns_is_turn [(.op .ix [(.var 0), (.lit (.int 0))])])), (.op .ne [(.op .len [(.op .ix [(.var 0), (.lit (.int 0))])]), (.var 1)])]) [.ret (.lit (.bl false))] [],
  .ife (.or [(.not (.op (.isi [2]) [(.op .ix [(.var 0), (.lit (.int 1))])])), (.op .ne [(.op .len [(.op .ix [(.var 0), (.lit (.int 1))])]), (.var 1)])]) [.ret (.lit (.bl false))] [],
  .ret (.op .all [(.comp (.call F.turns_is_between [(.var 3), (.op .neg [(.var 2)]), (.var 2)]) (.one 3) 0 [(.op .ix [(.var 0), (.lit (.int 1))])] [3] none)])] }
def d_book_are_hands : MDef := { params := 2, slots := 3, body := [.ife (.or [(.not (.op (.isi [3, 2]) [(.var 0)])), (.op .gt [(.op .len [(.var 0)]), (.glo G.MOST_HANDS (.int 6))])]) [.ret (.lit (.bl false))] [],
  .ret (.op .all [(.comp (.call F.book_is_hand [(.var 2), (.var 1), (.op .len [(.var 0)])]) (.one 2) 0 [(.var 0)] [2] none)])] }
def d_book_Book___init__ : MDef := { params := 3, slots := 3, body := [.ife (.or [(.not (.call F.turns_is_between [(.var 1), (.glo G.LEAST_MANY (.int 2)), (.glo G.MOST_MANY (.int 4))])), (.not (.call F.book_are_hands [(.var 2), (.var 1)]))]) [.raise C.NoBook []] [],
  .setFld (.var 0) A.many (.var 1),
  .setFld (.var 0) A.pairs (.op .lstOf [(.var 2)])] }
def d_book_Book___eq__ : MDef := { params := 2, slots := 2, body := [.ret (.and [(.op (.isi [10 + C.Book]) [(.var 1)]), (.op .eq [(.op (.fld A.many) [(.var 0)]), (.op (.fld A.many) [(.var 1)])]), (.op .eq [(.op (.fld A.pairs) [(.var 0)]), (.op (.fld A.pairs) [(.var 1)])])])] }
def d_book_Book___len__ : MDef := { params := 1, slots := 1, body := [.ret (.op .len [(.op (.fld A.pairs) [(.var 0)])])] }
def d_book_Book_letters : MDef := { params := 1, slots := 1, body := [.ret (.op (.fld A.many) [(.var 0)])] }
def d_book_Book_hands : MDef := { params := 1, slots := 1, body := [.ret (.op .len [(.op (.fld A.pairs) [(.var 0)])])] }
def d_book_Book_steps : MDef := { params := 1, slots := 3, body := [.own 1 (.op .lst []),
  .forr (.one 2) 2 [(.lit (.int 1)), (.op .add [(.op .len [(.op (.fld A.pairs) [(.var 0)])]), (.lit (.int 1))])] [.aug 1 .add (.op .lst [(.var 2), (.op .neg [(.var 2)])])],
  .ret (.mv 1)] }
def d_book_Book_has_step : MDef := { params := 2, slots := 2, body := [.ret (.and [(.call F.turns_is_between [(.var 1), (.op .neg [(.op .len [(.op (.fld A.pairs) [(.var 0)])])]), (.op .len [(.op (.fld A.pairs) [(.var 0)])])]), (.op .ne [(.var 1), (.lit (.int 0))])])] }
def d_book_Book_has_letter : MDef := { params := 2, slots := 2, body := [.ret (.call F.turns_is_between [(.var 1), (.lit (.int 0)), (.op .sub [(.op (.fld A.many) [(.var 0)]), (.lit (.int 1))])])] }
def d_book_Book_turn : MDef := { params := 2, slots := 3, body := [.ife (.not (.meth (.var 0) M.has_step [(.var 1)])) [.raise C.NoWord []] [],
  .set (.one 2) (.op .ix [(.op .ix [(.op (.fld A.pairs) [(.var 0)]), (.op .sub [(.op .abs [(.var 1)]), (.lit (.int 1))])]), (.lit (.int 0))]),
  .ret (.ifx (.op .gt [(.var 1), (.lit (.int 0))]) (.var 2) (.call F.turns_undone [(.var 2)]))] }
def d_book_Book_onward : MDef := { params := 3, slots := 5, body := [.ife (.not (.meth (.var 0) M.has_step [(.var 1)])) [.raise C.NoWord []] [],
  .ife (.not (.meth (.var 0) M.has_letter [(.var 2)])) [.raise C.NoRow []] [],
  .set (.tup [(.one 3), (.one 4)]) (.op .ix [(.op (.fld A.pairs) [(.var 0)]), (.op .sub [(.op .abs [(.var 1)]), (.lit (.int 1))])]),
  .ret (.ifx (.op .gt [(.var 1), (.lit (.int 0))]) (.op .ix [(.var 4), (.var 2)]) (.op .neg [(.op .ix [(.var 4), (.op .index [(.var 3), (.var 2)])])]))] }
end LB
/-- the program has that def by that number -/
structure Has (p : Prg) (f : Nat) (d : MDef) : Prop where
  c : p.ctor f = none
  d : p.def_ f = some d
theorem Has.call {p : Prg} {f : Nat} {d : MDef} (h : Has p f d) (n : Nat) (us m : List U) : (stOf p (n + 1)).call f us m = runDef (stOf p n) d us m := by
  show (match p.ctor f with | some (c, k, i, kind) => _ | none => match p.def_ f with | some d => runDef (stOf p n) d us m | none => .stuck) = _
  rw [h.c, h.d]
end MPE
set_option maxRecDepth 100000
/-! E1: rows for simp: what each expression, each statement does. -/
namespace MPE
open MP
section
variable {α β : Type} {g : Gst} {s : Sta}
@[scoped simp] theorem bind_ok (a : α) (s : Sta) (f : α → Sta → Rs β) : (Rs.ok a s).bind f = f a s := Eq.trans rfl rfl
@[scoped simp] theorem bind_exc (e : U) (s : Sta) (f : α → Sta → Rs β) : (Rs.exc e s : Rs α).bind f = .exc e s := Eq.trans rfl rfl
@[scoped simp] theorem bind_stuck (f : α → Sta → Rs β) : (Rs.stuck : Rs α).bind f = .stuck := Eq.trans rfl rfl
@[scoped simp] theorem slot_mk (r : List Slt) (m : List U) (i : Nat) : slot ⟨r, m⟩ i = r.getD i .no := Eq.trans rfl rfl
@[scoped simp] theorem put_mk (r : List Slt) (m : List U) (i : Nat) (x : Slt) : (⟨r, m⟩ : Sta).put i x = ⟨r.set i x, m⟩ := Eq.trans rfl rfl
@[scoped simp] theorem wipe_nil : wipeS s [] = s := Eq.trans rfl rfl
@[scoped simp] theorem wipe_cons (i : Nat) (is : List Nat) : wipeS s (i :: is) = (wipeS s is).put i .no := Eq.trans rfl rfl
@[scoped simp] theorem rc_ok (r : List Slt) (u : U) (m : List U) : rc r (.ok u m) = .ok u ⟨r, m⟩ := Eq.trans rfl rfl
@[scoped simp] theorem rc_exc (r : List Slt) (u : U) (m : List U) : rc r (.exc u m) = .exc u ⟨r, m⟩ := Eq.trans rfl rfl
@[scoped simp] theorem rc_stuck (r : List Slt) : rc r .stuck = .stuck := Eq.trans rfl rfl
/-! expressions -/
@[scoped simp] theorem e_var (i : Nat) : evalE g (.var i) s = (match slot s i with | .val u => .ok u s | _ => .stuck) := by rw [evalE] <;> rfl
@[scoped simp] theorem e_mv (i : Nat) : evalE g (.mv i) s = (match slot s i with | .own u => if tabU u then .stuck else .ok u (s.put i (.val u)) | .val u => .ok u s | .no => .stuck | .clo _ => .stuck) := by rw [evalE] <;> rfl
@[scoped simp] theorem tabU_lst (us : List U) : tabU (.lst us) = false := Eq.trans rfl rfl
@[scoped simp] theorem tabU_dic (ks us : List U) : tabU (.dic ks us) = false := Eq.trans rfl rfl
@[scoped simp] theorem tabU_obj (c : Nat) (us : List U) : tabU (.obj c us) = false := Eq.trans rfl rfl
@[scoped simp] theorem e_lit (u : U) : evalE g (.lit u) s = .ok u s := by rw [evalE] <;> rfl
@[scoped simp] theorem e_glo (x : Nat) (u : U) : evalE g (.glo x u) s = .ok u s := by rw [evalE] <;> rfl
theorem e_op (o : Opr) (as : List ME) : evalE g (.op o as) s = if o.holds then ((evalEs g as s).bind fun us s => match opSem g o us with
      | some u => .ok u s
      | none => .stuck)
    else (if o.meth then evalRecv g as s else evalAs g as s).bind fun avs s => if avs.all (AV.ok s) then (match opSem g o (avs.map (AV.get s)) with
      | some u => .ok u s
      | none => .stuck) else .stuck := by rw [evalE] <;> rfl
def opH (g : Gst) (o : Opr) (r : Rs (List U)) : Rs U := r.bind fun us s => match opSem g o us with
      | some u => .ok u s
      | none => .stuck
def opA (g : Gst) (o : Opr) (r : Rs (List AV)) : Rs U := r.bind fun avs s => if avs.all (AV.ok s) then (match opSem g o (avs.map (AV.get s)) with
      | some u => .ok u s
      | none => .stuck) else .stuck
@[scoped simp] theorem opH_ok (o : Opr) (us : List U) : opH g o (.ok us s) = match opSem g o us with
      | some u => .ok u s
      | none => .stuck := rfl
theorem opA_ok (o : Opr) (avs : List AV) : opA g o (.ok avs s) = if avs.all (AV.ok s) then (match opSem g o (avs.map (AV.get s)) with
      | some u => .ok u s
      | none => .stuck) else .stuck := rfl
@[scoped simp] theorem opA_1 (o : Opr) (a : AV) : opA g o (.ok [a] s) = if a.ok s then (match opSem g o [a.get s] with
      | some u => .ok u s
      | none => .stuck) else .stuck := by
  rw [opA_ok]
  simp only [List.all_cons, List.all_nil, Bool.and_true, List.map_cons, List.map_nil]
@[scoped simp] theorem opA_2 (o : Opr) (a b : AV) : opA g o (.ok [a, b] s) = if a.ok s && b.ok s then (match opSem g o [a.get s, b.get s] with
      | some u => .ok u s
      | none => .stuck) else .stuck := by
  rw [opA_ok]
  simp only [List.all_cons, List.all_nil, Bool.and_true, List.map_cons, List.map_nil]
@[scoped simp] theorem opA_3 (o : Opr) (a b c : AV) : opA g o (.ok [a, b, c] s) = if a.ok s && (b.ok s && c.ok s) then (match opSem g o [a.get s, b.get s, c.get s] with
      | some u => .ok u s
      | none => .stuck) else .stuck := by
  rw [opA_ok]
  simp only [List.all_cons, List.all_nil, Bool.and_true, List.map_cons, List.map_nil]
@[scoped simp] theorem opH_exc (o : Opr) (e : U) : opH g o (.exc e s) = .exc e s := Eq.trans rfl rfl
@[scoped simp] theorem opA_exc (o : Opr) (e : U) : opA g o (.exc e s) = .exc e s := Eq.trans rfl rfl
@[scoped simp] theorem e_tup (as : List ME) : evalE g (.op .tup as) s = opH g .tup (evalEs g as s) := by rw [e_op]; rfl
@[scoped simp] theorem e_lst (as : List ME) : evalE g (.op .lst as) s = opH g .lst (evalEs g as s) := by rw [e_op]; rfl
@[scoped simp] theorem e_dict (n : Nat) (as : List ME) : evalE g (.op (.dict n) as) s = opH g (.dict n) (evalEs g as s) := by rw [e_op]; rfl
@[scoped simp] theorem e_index (as : List ME) : evalE g (.op .index as) s = opA g .index (evalRecv g as s) := by rw [e_op]; rfl
theorem e_opA (o : Opr) (as : List ME) (h1 : o.holds = false := by rfl) (h2 : o.meth = false := by rfl) : evalE g (.op o as) s = opA g o (evalAs g as s) := by rw [e_op, h1, h2]; rfl
@[scoped simp] theorem e_add (as : List ME) : evalE g (.op .add as) s = opA g .add (evalAs g as s) := e_opA _ _
@[scoped simp] theorem e_sub (as : List ME) : evalE g (.op .sub as) s = opA g .sub (evalAs g as s) := e_opA _ _
@[scoped simp] theorem e_mul (as : List ME) : evalE g (.op .mul as) s = opA g .mul (evalAs g as s) := e_opA _ _
@[scoped simp] theorem e_fdiv (as : List ME) : evalE g (.op .fdiv as) s = opA g .fdiv (evalAs g as s) := e_opA _ _
@[scoped simp] theorem e_mod (as : List ME) : evalE g (.op .mod as) s = opA g .mod (evalAs g as s) := e_opA _ _
@[scoped simp] theorem e_pow (as : List ME) : evalE g (.op .pow as) s = opA g .pow (evalAs g as s) := e_opA _ _
@[scoped simp] theorem e_neg (as : List ME) : evalE g (.op .neg as) s = opA g .neg (evalAs g as s) := e_opA _ _
@[scoped simp] theorem e_abs (as : List ME) : evalE g (.op .abs as) s = opA g .abs (evalAs g as s) := e_opA _ _
@[scoped simp] theorem e_eq (as : List ME) : evalE g (.op .eq as) s = opA g .eq (evalAs g as s) := e_opA _ _
@[scoped simp] theorem e_ne (as : List ME) : evalE g (.op .ne as) s = opA g .ne (evalAs g as s) := e_opA _ _
@[scoped simp] theorem e_lt (as : List ME) : evalE g (.op .lt as) s = opA g .lt (evalAs g as s) := e_opA _ _
@[scoped simp] theorem e_le (as : List ME) : evalE g (.op .le as) s = opA g .le (evalAs g as s) := e_opA _ _
@[scoped simp] theorem e_gt (as : List ME) : evalE g (.op .gt as) s = opA g .gt (evalAs g as s) := e_opA _ _
@[scoped simp] theorem e_ge (as : List ME) : evalE g (.op .ge as) s = opA g .ge (evalAs g as s) := e_opA _ _
@[scoped simp] theorem e_isN (as : List ME) : evalE g (.op .isN as) s = opA g .isN (evalAs g as s) := e_opA _ _
@[scoped simp] theorem e_notN (as : List ME) : evalE g (.op .notN as) s = opA g .notN (evalAs g as s) := e_opA _ _
@[scoped simp] theorem e_inn (as : List ME) : evalE g (.op .inn as) s = opA g .inn (evalAs g as s) := e_opA _ _
@[scoped simp] theorem e_notin (as : List ME) : evalE g (.op .notin as) s = opA g .notin (evalAs g as s) := e_opA _ _
@[scoped simp] theorem e_ix (as : List ME) : evalE g (.op .ix as) s = opA g .ix (evalAs g as s) := e_opA _ _
@[scoped simp] theorem e_slice (a b : Bool) (as : List ME) : evalE g (.op (.slice a b) as) s = opA g (.slice a b) (evalAs g as s) := e_opA _ _
@[scoped simp] theorem e_rev (as : List ME) : evalE g (.op .rev as) s = opA g .rev (evalAs g as s) := e_opA _ _
@[scoped simp] theorem e_len (as : List ME) : evalE g (.op .len as) s = opA g .len (evalAs g as s) := e_opA _ _
@[scoped simp] theorem e_tupOf (as : List ME) : evalE g (.op .tupOf as) s = opA g .tupOf (evalAs g as s) := e_opA _ _
@[scoped simp] theorem e_lstOf (as : List ME) : evalE g (.op .lstOf as) s = opA g .lstOf (evalAs g as s) := e_opA _ _
@[scoped simp] theorem e_sorted (as : List ME) : evalE g (.op .sorted as) s = opA g .sorted (evalAs g as s) := e_opA _ _
@[scoped simp] theorem e_max1 (as : List ME) : evalE g (.op .max1 as) s = opA g .max1 (evalAs g as s) := e_opA _ _
@[scoped simp] theorem e_max2 (as : List ME) : evalE g (.op .max2 as) s = opA g .max2 (evalAs g as s) := e_opA _ _
@[scoped simp] theorem e_min2 (as : List ME) : evalE g (.op .min2 as) s = opA g .min2 (evalAs g as s) := e_opA _ _
@[scoped simp] theorem e_all (as : List ME) : evalE g (.op .all as) s = opA g .all (evalAs g as s) := e_opA _ _
@[scoped simp] theorem e_any (as : List ME) : evalE g (.op .any as) s = opA g .any (evalAs g as s) := e_opA _ _
@[scoped simp] theorem e_sum (as : List ME) : evalE g (.op .sum as) s = opA g .sum (evalAs g as s) := e_opA _ _
@[scoped simp] theorem e_isi (ts : List Nat) (as : List ME) : evalE g (.op (.isi ts) as) s = opA g (.isi ts) (evalAs g as s) := e_opA _ _
@[scoped simp] theorem e_tupR1 (as : List ME) : evalE g (.op .tupR1 as) s = opA g .tupR1 (evalAs g as s) := e_opA _ _
@[scoped simp] theorem e_tupR2 (as : List ME) : evalE g (.op .tupR2 as) s = opA g .tupR2 (evalAs g as s) := e_opA _ _
@[scoped simp] theorem e_lstR1 (as : List ME) : evalE g (.op .lstR1 as) s = opA g .lstR1 (evalAs g as s) := e_opA _ _
@[scoped simp] theorem e_lstR2 (as : List ME) : evalE g (.op .lstR2 as) s = opA g .lstR2 (evalAs g as s) := e_opA _ _
@[scoped simp] theorem e_lenSet (as : List ME) : evalE g (.op .lenSet as) s = opA g .lenSet (evalAs g as s) := e_opA _ _
@[scoped simp] theorem e_get1 (as : List ME) : evalE g (.op .get1 as) s = opA g .get1 (evalAs g as s) := e_opA _ _
@[scoped simp] theorem e_get2 (as : List ME) : evalE g (.op .get2 as) s = opA g .get2 (evalAs g as s) := e_opA _ _
@[scoped simp] theorem e_divmod (as : List ME) : evalE g (.op .divmod as) s = opA g .divmod (evalAs g as s) := e_opA _ _
@[scoped simp] theorem e_fld (f : Nat) (as : List ME) : evalE g (.op (.fld f) as) s = opA g (.fld f) (evalAs g as s) := e_opA _ _
@[scoped simp] theorem e_and (es : List ME) : evalE g (.and es) s = evalAnd g es s := by rw [evalE] <;> rfl
@[scoped simp] theorem e_or (es : List ME) : evalE g (.or es) s = evalOr g es s := by rw [evalE] <;> rfl
@[scoped simp] theorem e_not (e : ME) : evalE g (.not e) s = (argOf (fun s => evalE g e s) e s).bind fun av s => match truthy (av.get s) with
      | some b => .ok (.bl (!b)) s
      | none => .stuck := by rw [evalE] <;> rfl
@[scoped simp] theorem e_ifx (c a b : ME) : evalE g (.ifx c a b) s = (argOf (fun s => evalE g c s) c s).bind fun av s => match truthy (av.get s) with
      | some true => evalE g a s
      | some false => evalE g b s
      | none => .stuck := by rw [evalE] <;> rfl
@[scoped simp] theorem e_chain (o o' : Opr) (a b c : ME) : evalE g (.chain o o' a b c) s = (evalE g a s).bind fun x s => (evalE g b s).bind fun y s => match opSem g o [x, y] with
      | some (.bl true) => (evalE g c s).bind fun z s => match opSem g o' [y, z] with
        | some u => .ok u s
        | none => .stuck
      | some (.bl false) => .ok (.bl false) s
      | _ => .stuck := by rw [evalE] <;> rfl
@[scoped simp] theorem e_call (f : Nat) (as : List ME) : evalE g (.call f as) s = (evalEs g as s).bind fun us s => rc s.r (g.call f us s.m) := by rw [evalE] <;> rfl
@[scoped simp] theorem e_meth (o : ME) (x : Nat) (as : List ME) : evalE g (.meth o x as) s = (evalE g o s).bind fun u s => match cont s.m u with
      | .obj c _ => (match g.mt c x with
        | some f => (evalEs g as s).bind fun us s => rc s.r (g.call f (u :: us) s.m)
        | none => .stuck)
      | _ => .stuck := by rw [evalE] <;> rfl
@[scoped simp] theorem e_callv (i : Nat) : evalE g (.callv i []) s = match slot s i with
      | .clo us => rc s.r (g.clo us s.m)
      | _ => .stuck := by rw [evalE] <;> rfl
theorem e_callL (f tid : Nat) (m : ME) (is : List Nat) : evalE g (.callL f tid m is) s = match lookS s is with
      | some us => (match s.m[tid]? with
        | some (.fn q) => if q == tid then rc s.r (g.callL f us (fun us mem => resOf (evalE g m ⟨capR s.r.length is us, mem⟩)) s.m) else .stuck
        | _ => .stuck)
      | none => .stuck := by rw [evalE] <;> rfl
@[scoped simp] theorem arg_callL (f tid : Nat) (m : ME) (is : List Nat) (h : Sta → Rs U) : argOf h (.callL f tid m is) s = (h s).bind fun u s => .ok (.v u) s := by
  unfold argOf isOwn
  rfl
@[scoped simp] theorem op_fld (f c : Nat) (fs : List U) : opSem g (.fld f) [.obj c fs] = match (g.attr c f).bind (fs[·]?) with
    | some .hole => none
    | r => r := Eq.trans rfl rfl
@[scoped simp] theorem op_rev_t (us : List U) : opSem g .rev [.tup us] = some (.tup us.reverse) := Eq.trans rfl rfl
@[scoped simp] theorem op_rev_l (us : List U) : opSem g .rev [.lst us] = some (.lst us.reverse) := Eq.trans rfl rfl
@[scoped simp] theorem e_share (e : ME) : evalE g (.share e) s = (newOf (evalE g e s)).bind fun u s => .ok (.ref s.m.length) { s with m := s.m ++ [u] } := by rw [evalE] <;> rfl
@[scoped simp] theorem e_mut (o : Mop) (c : ME) (as : List ME) : evalE g (.mut o c as) s = (argOf (fun s => evalE g c s) c s).bind fun av s => if kindN (av.get s) != o.kind then .stuck else
      if o == .extend then (evalAs g as s).bind fun avs s => if avs.all (AV.ok s) then mutF o av (avs.map (AV.get s)) s else .stuck
      else (evalEs g as s).bind fun us s => mutF o av us s := by rw [evalE] <;> rfl
@[scoped simp] theorem es_nil : evalEs g [] s = .ok [] s := by rw [evalEs] <;> rfl
@[scoped simp] theorem es_cons (e : ME) (es : List ME) : evalEs g (e :: es) s = (evalE g e s).bind fun u s => (evalEs g es s).bind fun us s => .ok (u :: us) s := by rw [evalEs] <;> rfl
@[scoped simp] theorem as_nil : evalAs g [] s = .ok [] s := by rw [evalAs] <;> rfl
@[scoped simp] theorem as_cons (e : ME) (es : List ME) : evalAs g (e :: es) s = (argOf (fun s => evalE g e s) e s).bind fun u s => (evalAs g es s).bind fun us s => .ok (u :: us) s := by rw [evalAs] <;> rfl
@[scoped simp] theorem recv_cons (e : ME) (es : List ME) : evalRecv g (e :: es) s = (argOf (fun s => evalE g e s) e s).bind fun av s1 => if kindN (av.get s1) != 1 && kindN (av.get s1) != 2 then .stuck else (evalAs g es s1).bind fun us s2 =>
      if kindN (av.get s2) != kindN (av.get s1) then .stuck else .ok (av :: us) s2 := by rw [evalRecv] <;> rfl
@[scoped simp] theorem and_one (e : ME) : evalAnd g [e] s = evalE g e s := by rw [evalAnd] <;> rfl
@[scoped simp] theorem and_cons (e e' : ME) (es : List ME) : evalAnd g (e :: e' :: es) s = (evalE g e s).bind fun u s => match u with
      | .bl true => evalAnd g (e' :: es) s
      | .bl false => .ok (.bl false) s
      | _ => .stuck := by rw [evalAnd] <;> first | rfl | simp
@[scoped simp] theorem or_one (e : ME) : evalOr g [e] s = evalE g e s := by rw [evalOr] <;> rfl
@[scoped simp] theorem or_cons (e e' : ME) (es : List ME) : evalOr g (e :: e' :: es) s = (evalE g e s).bind fun u s => match u with
      | .bl true => .ok (.bl true) s
      | .bl false => evalOr g (e' :: es) s
      | _ => .stuck := by rw [evalOr] <;> first | rfl | simp
/-- an argument that is a name -/
@[scoped simp] theorem arg_var (i : Nat) (f : Sta → Rs U) : argOf f (.var i) s = (match slot s i with | .own _ => .ok (.own i) s | _ => (f s).bind fun u s => .ok (.v u) s) := by
  unfold argOf isOwn
  simp only
  cases slot s i <;> rfl
theorem arg_no {e : ME} (f : Sta → Rs U) (h : isOwn s e = none) : argOf f e s = (f s).bind fun u s => .ok (.v u) s := by
  unfold argOf
  rw [h]
@[scoped simp] theorem arg_mv (i : Nat) (f : Sta → Rs U) : argOf f (.mv i) s = (f s).bind fun u s => .ok (.v u) s := arg_no f rfl
@[scoped simp] theorem arg_lit (u : U) (f : Sta → Rs U) : argOf f (.lit u) s = (f s).bind fun u s => .ok (.v u) s := arg_no f rfl
@[scoped simp] theorem arg_glo (x : Nat) (u : U) (f : Sta → Rs U) : argOf f (.glo x u) s = (f s).bind fun u s => .ok (.v u) s := arg_no f rfl
@[scoped simp] theorem arg_op (o : Opr) (as : List ME) (f : Sta → Rs U) : argOf f (.op o as) s = (f s).bind fun u s => .ok (.v u) s := arg_no f rfl
@[scoped simp] theorem arg_and (as : List ME) (f : Sta → Rs U) : argOf f (.and as) s = (f s).bind fun u s => .ok (.v u) s := arg_no f rfl
@[scoped simp] theorem arg_or (as : List ME) (f : Sta → Rs U) : argOf f (.or as) s = (f s).bind fun u s => .ok (.v u) s := arg_no f rfl
@[scoped simp] theorem arg_not (e : ME) (f : Sta → Rs U) : argOf f (.not e) s = (f s).bind fun u s => .ok (.v u) s := arg_no f rfl
@[scoped simp] theorem arg_ifx (a b c : ME) (f : Sta → Rs U) : argOf f (.ifx a b c) s = (f s).bind fun u s => .ok (.v u) s := arg_no f rfl
@[scoped simp] theorem arg_chain (o o' : Opr) (a b c : ME) (f : Sta → Rs U) : argOf f (.chain o o' a b c) s = (f s).bind fun u s => .ok (.v u) s := arg_no f rfl
@[scoped simp] theorem arg_call (x : Nat) (as : List ME) (f : Sta → Rs U) : argOf f (.call x as) s = (f s).bind fun u s => .ok (.v u) s := arg_no f rfl
@[scoped simp] theorem arg_callv (x : Nat) (as : List ME) (f : Sta → Rs U) : argOf f (.callv x as) s = (f s).bind fun u s => .ok (.v u) s := arg_no f rfl
@[scoped simp] theorem arg_meth (o : ME) (x : Nat) (as : List ME) (f : Sta → Rs U) : argOf f (.meth o x as) s = (f s).bind fun u s => .ok (.v u) s := arg_no f rfl
@[scoped simp] theorem arg_mut (o : Mop) (c : ME) (as : List ME) (f : Sta → Rs U) : argOf f (.mut o c as) s = (f s).bind fun u s => .ok (.v u) s := arg_no f rfl
@[scoped simp] theorem arg_comp (e : ME) (t : Tg) (k : Nat) (its : List ME) (own : List Nat) (c : Option ME) (f : Sta → Rs U) : argOf f (.comp e t k its own c) s = (f s).bind fun u s => .ok (.v u) s := arg_no f rfl
@[scoped simp] theorem get_v (u : U) : (AV.v u).get s = cont s.m u := Eq.trans rfl rfl
@[scoped simp] theorem get_own (i : Nat) : (AV.own i).get s = match slot s i with | .own u => u | _ => .non := Eq.trans rfl rfl
@[scoped simp] theorem ok_v (u : U) : (AV.v u).ok s = true := Eq.trans rfl rfl
@[scoped simp] theorem ok_own (i : Nat) : (AV.own i).ok s = match slot s i with | .own _ => true | _ => false := Eq.trans rfl rfl
@[scoped simp] theorem cont_int (m : List U) (i : Int) : cont m (.int i) = .int i := Eq.trans rfl rfl
@[scoped simp] theorem cont_bl (m : List U) (b : Bool) : cont m (.bl b) = .bl b := Eq.trans rfl rfl
@[scoped simp] theorem cont_non (m : List U) : cont m .non = .non := Eq.trans rfl rfl
@[scoped simp] theorem cont_str (m : List U) (b : List Nat) : cont m (.str b) = .str b := Eq.trans rfl rfl
@[scoped simp] theorem cont_prs (m : List U) (us : List U) : cont m (.prs us) = .prs us := Eq.trans rfl rfl
@[scoped simp] theorem cont_tup (m : List U) (us : List U) : cont m (.tup us) = .tup us := Eq.trans rfl rfl
@[scoped simp] theorem cont_lst (m : List U) (us : List U) : cont m (.lst us) = .lst us := Eq.trans rfl rfl
@[scoped simp] theorem cont_scr (m : List U) (us : List U) : cont m (.scr us) = .scr us := Eq.trans rfl rfl
@[scoped simp] theorem cont_dic (m : List U) (ks vs : List U) : cont m (.dic ks vs) = .dic ks vs := Eq.trans rfl rfl
@[scoped simp] theorem cont_obj (m : List U) (c : Nat) (us : List U) : cont m (.obj c us) = .obj c us := Eq.trans rfl rfl
@[scoped simp] theorem cont_exc (m : List U) (c : Nat) (us : List U) : cont m (.exc c us) = .exc c us := Eq.trans rfl rfl
@[scoped simp] theorem cont_ref (m : List U) (n : Nat) : cont m (.ref n) = m.getD n .non := Eq.trans rfl rfl
@[scoped simp] theorem truthy_bl (b : Bool) : truthy (.bl b) = some b := Eq.trans rfl rfl
@[scoped simp] theorem newOf_ok (u : U) : newOf (.ok u s) = if isLD u then .ok u s else .stuck := Eq.trans rfl rfl
@[scoped simp] theorem isLD_lst (us : List U) : isLD (.lst us) = true := Eq.trans rfl rfl
@[scoped simp] theorem isLD_dic (ks us : List U) : isLD (.dic ks us) = true := Eq.trans rfl rfl
@[scoped simp] theorem cond_of (f : Sta → Rs U) (e : ME) : condOf f e s = (argOf f e s).bind fun av s => match truthy (av.get s) with
  | some b => .ok b s
  | none => .stuck := rfl
/-! statements -/
@[scoped simp] theorem x_nil : execs g [] s = .ok .next s := by rw [execs] <;> rfl
@[scoped simp] theorem x_cons (x : MS) (xs : List MS) : execs g (x :: xs) s = (execS g x s).bind fun fl s => match fl with
    | .next => execs g xs s
    | _ => .ok fl s := by rw [execs] <;> rfl
@[scoped simp] theorem x_set (t : Tg) (e : ME) : execS g (.set t e) s = (evalE g e s).bind fun u s => match bindT t u s with
    | some s => .ok .next s
    | none => .stuck := by rw [execS] <;> rfl
@[scoped simp] theorem x_own (i : Nat) (e : ME) : execS g (.own i e) s = (newOf (evalE g e s)).bind fun u s => .ok .next (s.put i (.own u)) := by rw [execS] <;> rfl
@[scoped simp] theorem x_par (i j : Nat) (a b : ME) : execS g (.par i j a b) s = (evalE g a s).bind fun x s => (evalE g b s).bind fun y s => .ok .next ((s.put j (.val y)).put i (.val x)) := by rw [execS] <;> rfl
@[scoped simp] theorem x_expr (e : ME) : execS g (.expr e) s = (evalE g e s).bind fun _ s => .ok .next s := by rw [execS] <;> rfl
@[scoped simp] theorem x_ret (e : ME) : execS g (.ret e) s = (evalE g e s).bind fun u s => .ok (.ret u) s := by rw [execS] <;> rfl
@[scoped simp] theorem x_ife (c : ME) (a b : List MS) : execS g (.ife c a b) s = (condOf (fun s => evalE g c s) c s).bind fun x s => if x then execs g a s else execs g b s := by rw [execS] <;> rfl
theorem x_whil (c : ME) (b : List MS) : execS g (.whil c b) s = turnsW (fun s => condOf (fun s => evalE g c s) c s) (fun s => execs g b s) g.turns s := by rw [execS] <;> rfl
@[scoped simp] theorem x_brk : execS g .brk s = .ok .brk s := by rw [execS] <;> rfl
@[scoped simp] theorem x_cont : execS g .cont s = .ok .cont s := by rw [execS] <;> rfl
@[scoped simp] theorem x_pass : execS g .pass s = .ok .next s := by rw [execS] <;> rfl
@[scoped simp] theorem x_raise (c : Nat) (as : List ME) : execS g (.raise c as) s = (evalEs g as s).bind fun us s => .exc (.exc c us) s := by rw [execS] <;> rfl
@[scoped simp] theorem x_setFld (o : ME) (f : Nat) (e : ME) : execS g (.setFld o f e) s = (evalE g e s).bind fun u s => (argOf (fun s => evalE g o s) o s).bind fun av s => match setFldC g s av f u with
    | some s => .ok .next s
    | none => .stuck := by rw [execS] <;> rfl
@[scoped simp] theorem x_setIx (c ix e : ME) : execS g (.setIx c ix e) s = (evalE g e s).bind fun u s => (argOf (fun s => evalE g c s) c s).bind fun av s => (evalE g ix s).bind fun k s =>
      match mutSem .setIx (av.get s) [k, u] with
      | some (c', _) => match setC s av c' with
        | some s => .ok .next s
        | none => .stuck
      | none => .stuck := by rw [execS] <;> rfl
@[scoped simp] theorem x_aug (i : Nat) (o : Opr) (e : ME) : execS g (.aug i o e) s = match slot s i with
    | .val x => (evalE g e s).bind fun y s => (opAug o x y s).bind fun u s => .ok .next (s.put i (.val u))
    | .own _ => if o == .add then (argOf (fun s => evalE g e s) e s).bind fun av s => if av.ok s then (mutF .extend (.own i) [av.get s] s).bind fun _ s => .ok .next s else .stuck
      else .stuck
    | .no => .stuck
    | .clo _ => .stuck := by rw [execS] <;> rfl
@[scoped simp] theorem x_augIx (c ix : ME) (o : Opr) (e : ME) : execS g (.augIx c ix o e) s = (argOf (fun s => evalE g c s) c s).bind fun av s => (evalE g ix s).bind fun k s =>
      match opSem g .ix [av.get s, k] with
      | some x => (evalE g e s).bind fun y s => (opAug o x y s).bind fun u s => match mutSem .setIx (av.get s) [k, u] with
        | some (c', _) => match setC s av c' with
          | some s => .ok .next s
          | none => .stuck
        | none => .stuck
      | none => .stuck := by rw [execS] <;> rfl
theorem x_forr (t : Tg) (k : Nat) (its : List ME) (b : List MS) : execS g (.forr t k its b) s = (evalAs g its s).bind fun avs s => match walkA k avs s with
    | some xs => turnsF (fun x s1 => match bindT t x s1 with
      | some s2 => (execs g b s2).bind fun fl s3 => if stillIs s s3 avs then .ok fl s3 else .stuck
      | none => .stuck) xs s
    | none => .stuck := by rw [execS] <;> rfl
theorem x_triOk {b : List MS} {hs : List (Nat × Option Nat × List MS)} {s s' : Sta} {fl : Fl} (h : execs g b s = .ok fl s') : execS g (.tri b hs) s = .ok fl s' := by
  rw [execS, h]
theorem x_triX {b : List MS} {hs : List (Nat × Option Nat × List MS)} {s s' : Sta} {e : U} (h : execs g b s = .exc e s') : execS g (.tri b hs) s = handle g hs e s' := by
  rw [execS, h]
theorem hd_yes {c i : Nat} {b : List MS} {hs : List (Nat × Option Nat × List MS)} {e : U} {s s' : Sta} (h : isX g e c = some true) (hb : execs g b (s.put i (.val e)) = .ok .next s') : handle g ((c, some i, b) :: hs) e s = .ok .next (s'.put i .no) := by
  rw [handle, h]
  simp only [hb, bind_ok]
theorem x_ifT {c : ME} {a b : List MS} {s s' : Sta} (h : condOf (fun s => evalE g c s) c s = .ok true s') : execS g (.ife c a b) s = execs g a s' := by
  rw [x_ife, h]
  rfl
theorem x_ifF {c : ME} {a b : List MS} {s s' : Sta} (h : condOf (fun s => evalE g c s) c s = .ok false s') : execS g (.ife c a b) s = execs g b s' := by
  rw [x_ife, h]
  rfl
theorem x_seq {x : MS} {xs : List MS} {s s' : Sta} (h : execS g x s = .ok .next s') : execs g (x :: xs) s = execs g xs s' := by
  rw [x_cons, h]
  rfl
theorem x_last {x : MS} {s s' : Sta} {u : U} {xs : List MS} (h : execS g x s = .ok (.ret u) s') : execs g (x :: xs) s = .ok (.ret u) s' := by
  rw [x_cons, h]
  rfl
theorem map_mapIdx' {α β γ : Type} (f : Nat → α → β) (h : β → γ) (l : List α) : (l.mapIdx f).map h = l.mapIdx fun i x => h (f i x) := by
  apply List.ext_getElem
  · simp
  · intro i h1 h2
    simp
theorem mapIdx_map' {α β γ : Type} (f : Nat → β → γ) (h : α → β) (l : List α) : (l.map h).mapIdx f = l.mapIdx fun i x => f i (h x) := by
  apply List.ext_getElem
  · simp
  · intro i h1 h2
    simp
/-! a program's static part -/
@[scoped simp] theorem stOf_attr (p : Prg) (n : Nat) : (stOf p n).attr = p.attr := by cases n <;> rfl
@[scoped simp] theorem stOf_mt (p : Prg) (n : Nat) : (stOf p n).mt = p.meth := by cases n <;> rfl
@[scoped simp] theorem stOf_sub (p : Prg) (n : Nat) : (stOf p n).sub = p.sub := by cases n <;> rfl
@[scoped simp] theorem stOf_excs (p : Prg) (n : Nat) : (stOf p n).excs = p.excs := by cases n <;> rfl
@[scoped simp] theorem stOf_objs (p : Prg) (n : Nat) : (stOf p n).objs = p.objs := by cases n <;> rfl
@[scoped simp] theorem stOf_turns (p : Prg) (n : Nat) : (stOf p n).turns = p.turns := by cases n <;> rfl
theorem hd_no {c : Nat} {n : Option Nat} {b : List MS} {hs : List (Nat × Option Nat × List MS)} {e : U} {s : Sta} (h : isX g e c = some false) : handle g ((c, n, b) :: hs) e s = handle g hs e s := by
  cases n <;> rw [handle, h]
theorem hd_do {c : Nat} {b : List MS} {hs : List (Nat × Option Nat × List MS)} {e : U} {s : Sta} (h : isX g e c = some true) : handle g ((c, none, b) :: hs) e s = execs g b s := by
  rw [handle, h]
/-! targets -/
@[scoped simp] theorem b_one (i : Nat) (u : U) : bindT (.one i) u s = some (s.put i (.val u)) := by rw [bindT] <;> rfl
@[scoped simp] theorem b_tup (ts : List Tg) (us : List U) : bindT (.tup ts) (.tup us) s = bindTs ts us s := by rw [bindT] <;> rfl
@[scoped simp] theorem b_prs (ts : List Tg) (us : List U) : bindT (.tup ts) (.prs us) s = bindTs ts us s := by rw [bindT] <;> rfl
@[scoped simp] theorem bs_nil : bindTs [] [] s = some s := by rw [bindTs] <;> rfl
@[scoped simp] theorem bs_cons (t : Tg) (ts : List Tg) (u : U) (us : List U) : bindTs (t :: ts) (u :: us) s = match bindT t u s with
    | some s => bindTs ts us s
    | none => none := by rw [bindTs] <;> rfl
/-! operations -/
@[scoped simp] theorem op_add_i (i j : Int) : opSem g .add [.int i, .int j] = some (.int (i + j)) := Eq.trans rfl rfl
@[scoped simp] theorem op_sub_i (i j : Int) : opSem g .sub [.int i, .int j] = some (.int (i - j)) := Eq.trans rfl rfl
@[scoped simp] theorem op_eq (a b : U) : opSem g .eq [a, b] = if a.plain && b.plain then some (.bl (eqU a b)) else none := Eq.trans rfl rfl
@[scoped simp] theorem op_ne (a b : U) : opSem g .ne [a, b] = if a.plain && b.plain then some (.bl (!eqU a b)) else none := Eq.trans rfl rfl
@[scoped simp] theorem op_lt (i j : Int) : opSem g .lt [.int i, .int j] = some (.bl (decide (i < j))) := Eq.trans rfl rfl
@[scoped simp] theorem op_le (i j : Int) : opSem g .le [.int i, .int j] = some (.bl (decide (i ≤ j))) := Eq.trans rfl rfl
@[scoped simp] theorem op_gt (i j : Int) : opSem g .gt [.int i, .int j] = some (.bl (decide (j < i))) := Eq.trans rfl rfl
@[scoped simp] theorem op_ge (i j : Int) : opSem g .ge [.int i, .int j] = some (.bl (decide (j ≤ i))) := Eq.trans rfl rfl
@[scoped simp] theorem op_mod (i j : Int) : opSem g .mod [.int i, .int j] = if decide (0 < j) then some (.int (i % j)) else none := Eq.trans rfl rfl
@[scoped simp] theorem op_isi (ts : List Nat) (a : U) : opSem g (.isi ts) [a] = if isiOk g a then some (.bl (ts.any (isT g a))) else none := Eq.trans rfl rfl
@[scoped simp] theorem op_len_t (us : List U) : opSem g .len [.tup us] = some (.int us.length) := Eq.trans rfl rfl
@[scoped simp] theorem op_len_l (us : List U) : opSem g .len [.lst us] = some (.int us.length) := Eq.trans rfl rfl
@[scoped simp] theorem op_len_s (us : List U) : opSem g .len [.scr us] = some (.int us.length) := Eq.trans rfl rfl
@[scoped simp] theorem op_len_d (us vs : List U) : opSem g .len [.dic us vs] = some (.int us.length) := Eq.trans rfl rfl
@[scoped simp] theorem op_ix_t (us : List U) (i : Int) : opSem g .ix [.tup us, .int i] = atI us i := Eq.trans rfl rfl
@[scoped simp] theorem op_ix_l (us : List U) (i : Int) : opSem g .ix [.lst us, .int i] = atI us i := Eq.trans rfl rfl
@[scoped simp] theorem op_ix_s (us : List U) (i : Int) : opSem g .ix [.scr us, .int i] = atI us i := Eq.trans rfl rfl
@[scoped simp] theorem op_ix_d (ks us : List U) (k : U) : opSem g .ix [.dic ks us, k] = if kOk ks k then dget ks us k else none := Eq.trans rfl rfl
@[scoped simp] theorem op_tup (us : List U) : opSem g .tup us = okT us := Eq.trans rfl rfl
@[scoped simp] theorem op_lst (us : List U) : opSem g .lst us = okL us := Eq.trans rfl rfl
@[scoped simp] theorem op_dict1 (n : Nat) (us : List U) : opSem g (.dict n) us = opDict n us := Eq.trans rfl rfl
@[scoped simp] theorem op_tupOf_l (us : List U) : opSem g .tupOf [.lst us] = some (.tup us) := Eq.trans rfl rfl
@[scoped simp] theorem op_tupOf_t (us : List U) : opSem g .tupOf [.tup us] = some (.tup us) := Eq.trans rfl rfl
@[scoped simp] theorem op_lstOf_l (us : List U) : opSem g .lstOf [.lst us] = some (.lst us) := Eq.trans rfl rfl
@[scoped simp] theorem op_lstOf_t (us : List U) : opSem g .lstOf [.tup us] = some (.lst us) := Eq.trans rfl rfl
@[scoped simp] theorem op_all (us : List U) : opSem g .all [.lst us] = (allT us).map .bl := Eq.trans rfl rfl
@[scoped simp] theorem op_any (us : List U) : opSem g .any [.lst us] = (anyT us).map .bl := Eq.trans rfl rfl
@[scoped simp] theorem op_notin_d (ks us : List U) (k : U) : opSem g .notin [k, .dic ks us] = if kOk ks k then some (.bl (!memU k ks)) else none := by cases k <;> rfl
@[scoped simp] theorem op_inn_d (ks us : List U) (k : U) : opSem g .inn [k, .dic ks us] = if kOk ks k then some (.bl (memU k ks)) else none := by cases k <;> rfl
theorem op_lstR1 (n : Int) : opSem g .lstR1 [.int n] = if small n && decide (n.toNat ≤ line) then some (.lst (rng 0 n)) else none := rfl
theorem op_tupR1 (n : Int) : opSem g .tupR1 [.int n] = if small n && decide (n.toNat ≤ line) then some (.tup (rng 0 n)) else none := rfl
theorem mut_popAt (xs : List U) (i : Nat) (h : i < xs.length) (h2 : xs.length ≤ 100000) : mutSem .popAt (.lst xs) [.int (i : Int)] = some (.lst (xs.eraseIdx i), xs[i]) := by
  show muPopAt (.lst xs) [.int (i : Int)] = _
  unfold muPopAt
  simp only
  rw [if_pos ⟨by omega, by unfold bound; omega⟩, Int.toNat_natCast, List.getElem?_eq_getElem h]
/-! kinds -/
@[scoped simp] theorem isk_non (n : Nat) : isK .non n = false := by unfold isK; split <;> rfl
@[scoped simp] theorem isk_bl (b : Bool) (n : Nat) : isK (.bl b) n = decide (n < 2) := by
  match n with
  | 0 => rfl
  | 1 => rfl
  | 2 => rfl
  | 3 => rfl
  | 4 => rfl
  | 5 => rfl
  | n + 6 => simp [isK]
@[scoped simp] theorem isk_int (i : Int) (n : Nat) : isK (.int i) n = decide (n = 0) := by
  match n with
  | 0 => rfl
  | 1 => rfl
  | 2 => rfl
  | 3 => rfl
  | 4 => rfl
  | 5 => rfl
  | n + 6 => simp [isK]
@[scoped simp] theorem isk_tup (us : List U) (n : Nat) : isK (.tup us) n = decide (n = 2) := by
  match n with
  | 0 => rfl
  | 1 => rfl
  | 2 => rfl
  | 3 => rfl
  | 4 => rfl
  | 5 => rfl
  | n + 6 => simp [isK]
@[scoped simp] theorem isk_lst (us : List U) (n : Nat) : isK (.lst us) n = decide (n = 3) := by
  match n with
  | 0 => rfl
  | 1 => rfl
  | 2 => rfl
  | 3 => rfl
  | 4 => rfl
  | 5 => rfl
  | n + 6 => simp [isK]
@[scoped simp] theorem isk_str (us : List Nat) (n : Nat) : isK (.str us) n = decide (n = 4) := by
  match n with
  | 0 => rfl
  | 1 => rfl
  | 2 => rfl
  | 3 => rfl
  | 4 => rfl
  | 5 => rfl
  | n + 6 => simp [isK]
@[scoped simp] theorem ist_small (u : U) (t : Nat) (h : t < 10) : isT g u t = isK u t := by unfold isT; rw [if_pos h]
@[scoped simp] theorem ist_big_tup (us : List U) (t : Nat) (h : ¬ t < 10) : isT g (.tup us) t = false := by unfold isT; rw [if_neg h]
@[scoped simp] theorem ist_big_int (i : Int) (t : Nat) (h : ¬ t < 10) : isT g (.int i) t = false := by unfold isT; rw [if_neg h]
@[scoped simp] theorem ist_big_non (t : Nat) (h : ¬ t < 10) : isT g .non t = false := by unfold isT; rw [if_neg h]
@[scoped simp] theorem ist_big_exc (c : Nat) (fs : List U) (t : Nat) (h : ¬ t < 10) : isT g (.exc c fs) t = g.sub c (t - 10) := by unfold isT; rw [if_neg h]
@[scoped simp] theorem isiok_non : isiOk g .non = true := Eq.trans rfl rfl
@[scoped simp] theorem isiok_bl (b : Bool) : isiOk g (.bl b) = true := Eq.trans rfl rfl
@[scoped simp] theorem isiok_int (i : Int) : isiOk g (.int i) = true := Eq.trans rfl rfl
@[scoped simp] theorem isiok_str (us : List Nat) : isiOk g (.str us) = true := Eq.trans rfl rfl
@[scoped simp] theorem isiok_tup (us : List U) : isiOk g (.tup us) = true := Eq.trans rfl rfl
@[scoped simp] theorem isiok_lst (us : List U) : isiOk g (.lst us) = true := Eq.trans rfl rfl
@[scoped simp] theorem isiok_dic (ks us : List U) : isiOk g (.dic ks us) = true := Eq.trans rfl rfl
@[scoped simp] theorem isiok_obj (c : Nat) (us : List U) : isiOk g (.obj c us) = g.objs.contains c := Eq.trans rfl rfl
@[scoped simp] theorem isiok_exc (c : Nat) (us : List U) : isiOk g (.exc c us) = g.excs.contains c := Eq.trans rfl rfl
@[scoped simp] theorem op_sorted (us : List U) : opSem g .sorted us = opSorted us := Eq.trans rfl rfl
@[scoped simp] theorem eqU_tt (a b : List U) : eqU (.tup a) (.tup b) = eqUs a b := by rw [eqU]
@[scoped simp] theorem eqU_ll (a b : List U) : eqU (.lst a) (.lst b) = eqUs a b := by rw [eqU]
@[scoped simp] theorem eqU_ii (a b : Int) : eqU (.int a) (.int b) = (a == b) := by rw [eqU]
@[scoped simp] theorem eqU_sl (a b : List U) : eqU (.scr a) (.lst b) = eqUs a b := by rw [eqU]
@[scoped simp] theorem truthy_lst (us : List U) : truthy (.lst us) = some (!us.isEmpty) := Eq.trans rfl rfl
@[scoped simp] theorem truthy_tup (us : List U) : truthy (.tup us) = some (!us.isEmpty) := Eq.trans rfl rfl
@[scoped simp] theorem eqUs_nn : eqUs [] [] = true := by rw [eqUs]
@[scoped simp] theorem eqUs_nc (b : U) (bs : List U) : eqUs [] (b :: bs) = false := by rw [eqUs] <;> simp
@[scoped simp] theorem eqUs_cn (a : U) (as : List U) : eqUs (a :: as) [] = false := by rw [eqUs] <;> simp
@[scoped simp] theorem eqUs_cc (a b : U) (as bs : List U) : eqUs (a :: as) (b :: bs) = (eqU a b && eqUs as bs) := by rw [eqUs]
@[scoped simp] theorem deep_int (n : Nat) (i : Int) : deepU n (.int i) = true := by rw [deepU]
@[scoped simp] theorem deep_bl (n : Nat) (i : Bool) : deepU n (.bl i) = true := by rw [deepU]
@[scoped simp] theorem deep_non (n : Nat) : deepU n .non = true := by rw [deepU]
@[scoped simp] theorem deep_tup (n : Nat) (us : List U) : deepU (n + 1) (.tup us) = deepUs n us := by rw [deepU]
@[scoped simp] theorem deep_lst (n : Nat) (us : List U) : deepU (n + 1) (.lst us) = deepUs n us := by rw [deepU]
@[scoped simp] theorem deep_scr (n : Nat) (us : List U) : deepU (n + 1) (.scr us) = deepUs n us := by rw [deepU]
@[scoped simp] theorem deeps_nil (n : Nat) : deepUs n [] = true := by rw [deepUs]
@[scoped simp] theorem deeps_cons (n : Nat) (u : U) (us : List U) : deepUs n (u :: us) = (deepU n u && deepUs n us) := by rw [deepUs]
theorem deeps_all (n : Nat) : ∀ us : List U, deepUs n us = us.all (deepU n)
  | [] => by simp
  | u :: us => by simp [deeps_all n us]
@[scoped simp] theorem same_ll (a b : List U) : sameU (.lst a) (.lst b) = sameUs a b := by rw [sameU]
@[scoped simp] theorem same_tt (a b : List U) : sameU (.tup a) (.tup b) = sameUs a b := by rw [sameU]
@[scoped simp] theorem same_ii (a b : Int) : sameU (.int a) (.int b) = (a == b) := by rw [sameU]
@[scoped simp] theorem sames_nn : sameUs [] [] = true := by rw [sameUs]
@[scoped simp] theorem sames_cc (a b : U) (as bs : List U) : sameUs (a :: as) (b :: bs) = (sameU a b && sameUs as bs) := by rw [sameUs]
theorem sames_refl {α : Type} {f : α → U} (h : ∀ a, sameU (f a) (f a) = true) : ∀ l : List α, sameUs (l.map f) (l.map f) = true
  | [] => by simp
  | a :: l => by rw [List.map_cons, sames_cc, h, sames_refl h l]; rfl
def notOwn : Slt → Bool
  | .own _ => false
  | _ => true
theorem ok_not {s : Sta} {i : Nat} (h : notOwn (slot s i) = true) : (AV.own i).ok s = false := by
  rw [ok_own]
  revert h
  cases slot s i <;> intro h <;> first | rfl | cases h
theorem notOwn_ok {v : Slt} (h : notOwn v = true) : (match v with | .own _ => true | _ => false) = false := by cases v <;> first | rfl | cases h
/-! numbers -/
def iu (n : Nat) : U := .int n
abbrev nts (l : List Nat) : U := .tup (l.map iu)
abbrev nls (l : List Nat) : U := .lst (l.map iu)
theorem eqU_iu (a b : Nat) : eqU (iu a) (iu b) = decide (a = b) := by
  unfold iu
  rw [eqU]
  by_cases h : a = b
  · simp [h]
  · simp [h]; omega
@[scoped simp] theorem eqUs_iu : ∀ a b : List Nat, eqUs (a.map iu) (b.map iu) = decide (a = b)
  | [], [] => by simp
  | [], b :: bs => by simp
  | a :: as, [] => by simp
  | a :: as, b :: bs => by
    rw [List.map_cons, List.map_cons, eqUs_cc, eqU_iu, eqUs_iu as bs]
    simp only [List.cons.injEq]
    by_cases h1 : a = b <;> by_cases h2 : as = bs <;> simp [h1, h2]
theorem deep_iu (n a : Nat) : deepU n (iu a) = true := by unfold iu; simp
@[scoped simp] theorem deeps_iu (n : Nat) : ∀ a : List Nat, deepUs n (a.map iu) = true
  | [] => by simp
  | a :: as => by simp [deeps_iu n as, deep_iu]
@[scoped simp] theorem sames_iu (l : List Nat) : sameUs (l.map iu) (l.map iu) = true := sames_refl (fun a => by unfold iu; simp) l
theorem rng_iu (k : Nat) : rng 0 (k : Int) = (List.range k).map iu := by
  unfold rng iu
  have e : ((k : Int) - 0).toNat = k := by omega
  rw [e]
  apply List.map_congr_left
  intro a _
  simp
theorem lstR1_iu (k : Nat) (h : k ≤ 10000) : opSem g .lstR1 [.int (k : Int)] = some (.lst ((List.range k).map iu)) := by
  have h1 : small (k : Int) = true := small_of (by omega) (by omega)
  have h2 : decide ((k : Int).toNat ≤ line) = true := decide_eq_true (by have := line_ge; omega)
  show (if small (k : Int) && decide ((k : Int).toNat ≤ line) then some (U.lst (rng 0 k)) else none) = _
  rw [h1, h2, rng_iu]
  rfl
theorem tupR1_iu (k : Nat) (h : k ≤ 10000) : opSem g .tupR1 [.int (k : Int)] = some (.tup ((List.range k).map iu)) := by
  have h1 : small (k : Int) = true := small_of (by omega) (by omega)
  have h2 : decide ((k : Int).toNat ≤ line) = true := decide_eq_true (by have := line_ge; omega)
  show (if small (k : Int) && decide ((k : Int).toNat ≤ line) then some (U.tup (rng 0 k)) else none) = _
  rw [h1, h2, rng_iu]
  rfl
@[scoped simp] theorem iu_eq (n : Nat) : iu n = .int n := Eq.trans rfl rfl
@[scoped simp] theorem atI_nat (us : List U) (i : Nat) : MP.atI us (i : Int) = us[i]? := by
  unfold MP.atI
  rw [if_pos (by omega)]
  rfl
@[scoped simp] theorem atI_0 (us : List U) : MP.atI us 0 = us[0]? := atI_nat us 0
@[scoped simp] theorem atI_1 (us : List U) : MP.atI us 1 = us[1]? := atI_nat us 1
@[scoped simp] theorem atI_2 (us : List U) : MP.atI us 2 = us[2]? := atI_nat us 2
theorem cont_iu (m : List U) (n : Nat) : cont m (iu n) = iu n := Eq.trans rfl rfl
theorem iu_int (n : Nat) : iu n = .int n := rfl
@[scoped simp] theorem allT_map {α : Type} (b : α → Bool) : ∀ xs : List α, allT (xs.map fun x => .bl (b x)) = some (xs.all b)
  | [] => rfl
  | x :: xs => by simp [allT, allT_map b xs]
/-! how a def runs -/
theorem run_def (d : MDef) (us m : List U) (h : us.length = d.params) : runDef g d us m = (match execs g d.body ⟨slots0 us d.slots, m⟩ with
    | .ok (.ret u) s => .ok u s.m
    | .ok .next s => .ok .non s.m
    | .ok _ _ => .stuck
    | .exc e s => .exc e s.m
    | .stuck => .stuck) := by
  unfold runDef
  rw [if_pos (by simpa using h)]
  try rfl
theorem run_ret (d : MDef) (us m : List U) (h : us.length = d.params) {u : U} {s : Sta} (hx : execs g d.body ⟨slots0 us d.slots, m⟩ = .ok (.ret u) s) : runDef g d us m = .ok u s.m := by
  rw [run_def d us m h, hx]
end
end MPE
/-! M1: numbers for things, in the order in which they come (plain Lean). -/
namespace MM
section
variable {α β : Type} [DecidableEq α] [DecidableEq β]

def keys (ks : List α) : List α → List α
  | [] => ks
  | x :: xs => if x ∈ ks then keys ks xs else keys (ks ++ [x]) xs
def num (ks : List α) : List α → List Nat
  | [] => []
  | x :: xs => if x ∈ ks then ks.idxOf x :: num ks xs else ks.length :: num (ks ++ [x]) xs

theorem mem_keys : ∀ (xs ks : List α) (a : α), a ∈ keys ks xs ↔ a ∈ ks ∨ a ∈ xs
  | [], ks, a => by simp [keys]
  | x :: xs, ks, a => by
    simp only [keys]
    split
    · rename_i h
      rw [mem_keys xs ks a]
      simp only [List.mem_cons]
      constructor
      · rintro (h1 | h1)
        · exact .inl h1
        · exact .inr (.inr h1)
      · rintro (h1 | rfl | h1)
        · exact .inl h1
        · exact .inl h
        · exact .inr h1
    · rw [mem_keys xs (ks ++ [x]) a]
      simp only [List.mem_cons, List.mem_append, List.not_mem_nil, or_false]
      constructor
      · rintro ((h1 | h1) | h1)
        · exact .inl h1
        · exact .inr (.inl h1)
        · exact .inr (.inr h1)
      · rintro (h1 | h1 | h1)
        · exact .inl (.inl h1)
        · exact .inl (.inr h1)
        · exact .inr h1
theorem keys_pre : ∀ (xs ks : List α), ∃ r, keys ks xs = ks ++ r
  | [], ks => ⟨[], by simp [keys]⟩
  | x :: xs, ks => by
    simp only [keys]
    split
    · exact keys_pre xs ks
    · obtain ⟨r, h⟩ := keys_pre xs (ks ++ [x])
      exact ⟨x :: r, by rw [h]; simp⟩
theorem keys_nodup : ∀ (xs ks : List α), ks.Nodup → (keys ks xs).Nodup
  | [], ks, h => h
  | x :: xs, ks, h => by
    simp only [keys]
    split
    · exact keys_nodup xs ks h
    · rename_i hx
      refine keys_nodup xs _ ?_
      rw [List.nodup_append]
      refine ⟨h, by simp, ?_⟩
      intro a ha b hb
      simp only [List.mem_singleton] at hb
      subst hb
      rintro rfl
      exact hx ha
theorem idxOf_pre {ks r : List α} {a : α} (h : a ∈ ks) : (ks ++ r).idxOf a = ks.idxOf a := by
  rw [List.idxOf_append, if_pos h]
theorem num_eq : ∀ (xs ks : List α), num ks xs = xs.map (fun x => (keys ks xs).idxOf x)
  | [], ks => by simp [num]
  | x :: xs, ks => by
    simp only [num, keys]
    split
    · rename_i h
      rw [num_eq xs ks, List.map_cons]
      obtain ⟨r, hr⟩ := keys_pre xs ks
      rw [hr, idxOf_pre h]
    · rename_i h
      rw [num_eq xs (ks ++ [x]), List.map_cons]
      obtain ⟨r, hr⟩ := keys_pre xs (ks ++ [x])
      rw [hr, idxOf_pre (by simp)]
      rw [List.idxOf_append, if_neg h]
      simp
theorem num_len (xs ks : List α) : (num ks xs).length = xs.length := by rw [num_eq]; simp
theorem keys_len (xs : List α) : ∀ ks : List α, (keys ks xs).length ≤ ks.length + xs.length := by
  induction xs with
  | nil => intro ks; simp [keys]
  | cons x xs ih =>
    intro ks
    simp only [keys]
    split
    · have := ih ks; simp; omega
    · have := ih (ks ++ [x]); simp at this ⊢; omega
theorem idxOf_inj {ks : List α} {a b : α} (ha : a ∈ ks) (h : ks.idxOf a = ks.idxOf b) : a = b := by
  have hl := List.idxOf_lt_length_of_mem ha
  have h1 : ks[ks.idxOf a]'hl = a := List.getElem_idxOf hl
  have hl2 : ks.idxOf b < ks.length := by omega
  have h2 : ks[ks.idxOf b]'hl2 = b := List.getElem_idxOf hl2
  rw [← h1, ← h2]
  congr 1
/-- like numbers just for like things -/
theorem num_iff {xs : List α} {i j : Nat} (hi : i < xs.length) (hj : j < xs.length) : ((num [] xs).getD i 0 = (num [] xs).getD j 0) ↔ xs[i] = xs[j] := by
  rw [num_eq]
  simp only [List.getD_eq_getElem?_getD, List.getElem?_map, List.getElem?_eq_getElem hi, List.getElem?_eq_getElem hj, Option.map_some, Option.getD_some]
  constructor
  · intro h
    exact idxOf_inj ((mem_keys xs [] _).2 (.inr (List.getElem_mem hi))) h
  · intro h; rw [h]
def cnt (xs : List α) : Nat := (keys [] xs).length
theorem num_lt {xs : List α} {a : Nat} (h : a ∈ num [] xs) : a < cnt xs := by
  rw [num_eq] at h
  simp only [List.mem_map] at h
  obtain ⟨x, hx, rfl⟩ := h
  exact List.idxOf_lt_length_of_mem ((mem_keys xs [] x).2 (.inr hx))
theorem idxOf_at {l : List α} (nd : l.Nodup) {i : Nat} (h : i < l.length) : l.idxOf l[i] = i := List.Nodup.idxOf_getElem nd i h
/-- every number below the count comes -/
theorem num_all {xs : List α} {a : Nat} (h : a < cnt xs) : a ∈ num [] xs := by
  rw [num_eq]
  simp only [List.mem_map]
  have hm : (keys [] xs)[a]'h ∈ xs := by
    rcases (mem_keys xs [] _).1 (List.getElem_mem h) with q | q
    · cases q
    · exact q
  exact ⟨_, hm, idxOf_at (keys_nodup xs [] (by simp)) h⟩
theorem cnt_le (xs : List α) : cnt xs ≤ xs.length := by have := keys_len xs []; simpa [cnt] using this
theorem cnt_pos {xs : List α} (h : xs ≠ []) : 0 < cnt xs := by
  cases xs with
  | nil => exact absurd rfl h
  | cons x xs =>
    have : x ∈ keys [] (x :: xs) := (mem_keys _ [] _).2 (.inr (by simp))
    exact List.length_pos_of_mem this
/-- lists without twins -/
theorem sub_len : ∀ (l l' : List α), l.Nodup → (∀ a ∈ l, a ∈ l') → l.length ≤ l'.length
  | [], _, _, _ => by simp
  | x :: l, l', nd, hs => by
    rw [List.nodup_cons] at nd
    have hx := hs x (by simp)
    have := sub_len l (l'.erase x) nd.2 fun a ha => by
      have h1 := hs a (by simp [ha])
      refine (List.mem_erase_of_ne ?_).2 h1
      rintro rfl
      exact nd.1 ha
    rw [List.length_erase_of_mem hx] at this
    have := List.length_pos_of_mem hx
    simp only [List.length_cons]
    omega
theorem nodup_of_len : ∀ (l l' : List α), l'.Nodup → (∀ a ∈ l', a ∈ l) → l.length ≤ l'.length → l.Nodup
  | [], _, _, _, _ => by simp
  | x :: l, l', nd, hs, hl => by
    rw [List.nodup_cons]
    by_cases hx : x ∈ l
    · exfalso
      have := sub_len l' l nd fun a ha => by
        have := hs a ha
        simp only [List.mem_cons] at this
        rcases this with rfl | h
        · exact hx
        · exact h
      simp only [List.length_cons] at hl
      omega
    · refine ⟨hx, nodup_of_len l (l'.erase x) (nd.erase x) ?_ ?_⟩
      · intro a ha
        have h1 := List.mem_of_mem_erase ha
        have := hs a h1
        simp only [List.mem_cons] at this
        rcases this with rfl | h
        · exact absurd ha (List.Nodup.not_mem_erase nd)
        · exact h
      · rw [List.length_erase]
        simp only [List.length_cons] at hl
        split <;> omega
theorem inj_of_nodup {l : List α} {f : α → β} (h : (l.map f).Nodup) {a b : α} (ha : a ∈ l) (hb : b ∈ l) (e : f a = f b) : a = b := by
  induction l with
  | nil => cases ha
  | cons x l ih =>
    rw [List.map_cons, List.nodup_cons] at h
    simp only [List.mem_cons] at ha hb
    rcases ha with rfl | ha <;> rcases hb with rfl | hb
    · rfl
    · exact absurd (List.mem_map.2 ⟨b, hb, e.symm⟩) h.1
    · exact absurd (List.mem_map.2 ⟨a, ha, e⟩) h.1
    · exact ih h.2 ha hb
/-- marks of finer things: as many at least; if not more, the finer part no more -/
theorem cnt_map_le (f : α → β) (xs : List α) : cnt (xs.map f) ≤ cnt xs := by
  have := sub_len (keys [] (xs.map f)) ((keys [] xs).map f) (keys_nodup _ _ (by simp)) fun a ha => by
    rcases (mem_keys _ _ _).1 ha with q | q
    · cases q
    · obtain ⟨x, hx, rfl⟩ := List.mem_map.1 q
      exact List.mem_map.2 ⟨x, (mem_keys _ _ _).2 (.inr hx), rfl⟩
  simpa [cnt] using this
theorem cnt_map_eq {f : α → β} {xs : List α} (h : cnt xs ≤ cnt (xs.map f)) {a b : α} (ha : a ∈ xs) (hb : b ∈ xs) (e : f a = f b) : a = b := by
  have nd : ((keys [] xs).map f).Nodup := nodup_of_len _ (keys [] (xs.map f)) (keys_nodup _ _ (by simp)) (fun a ha => by
    rcases (mem_keys _ _ _).1 ha with q | q
    · cases q
    · obtain ⟨x, hx, rfl⟩ := List.mem_map.1 q
      exact List.mem_map.2 ⟨x, (mem_keys _ _ _).2 (.inr hx), rfl⟩) (by simpa [cnt] using h)
  exact inj_of_nodup nd ((mem_keys _ _ _).2 (.inr ha)) ((mem_keys _ _ _).2 (.inr hb)) e
end
end MM
/-! M2: machines, marks, the least machine (plain Lean). -/
namespace MM
abbrev Room := List Nat × List Nat
abbrev Mach := List Room
def tn (M : Mach) (i : Nat) : List Nat := (M.getD i ([], [])).1
def rs (M : Mach) (i : Nat) : List Nat := (M.getD i ([], [])).2
def to (M : Mach) (i l : Nat) : Nat := (rs M i).getD l 0
def go (M : Mach) (i : Nat) (row : List Nat) : Nat := row.foldl (to M) i
/-- a turn of k letters -/
def IsTurn (k : Nat) (t : List Nat) : Prop := t.Perm (List.range k)
structure Good (k : Nat) (M : Mach) : Prop where
  turn : ∀ r ∈ M, IsTurn k r.1
  many : ∀ r ∈ M, r.2.length = k
  rest : ∀ r ∈ M, ∀ j ∈ r.2, j < M.length
/-- begun in i, the one does what the other does, begun in j -/
def Eqv (k : Nat) (M M' : Mach) (i j : Nat) : Prop := ∀ row, (∀ l ∈ row, l < k) → tn M (go M i row) = tn M' (go M' j row)
section
variable {k : Nat} {M M' M'' : Mach} {i j l : Nat}
theorem Eqv.refl : Eqv k M M i i := fun _ _ => rfl
theorem Eqv.symm (h : Eqv k M M' i j) : Eqv k M' M j i := fun row hr => (h row hr).symm
theorem Eqv.trans {m : Nat} (h : Eqv k M M' i j) (h' : Eqv k M' M'' j m) : Eqv k M M'' i m := fun row hr => (h row hr).trans (h' row hr)
theorem Eqv.tn (h : Eqv k M M' i j) : tn M i = tn M' j := h [] (by simp)
theorem Eqv.to (h : Eqv k M M' i j) (hl : l < k) : Eqv k M M' (to M i l) (to M' j l) := fun row hr => h (l :: row) (by
  intro x hx
  rcases List.mem_cons.1 hx with rfl | hx
  · exact hl
  · exact hr x hx)
theorem Eqv.of (R : Nat → Nat → Prop) (ht : ∀ i j, R i j → MM.tn M i = MM.tn M' j) (hs : ∀ i j, R i j → ∀ l, l < k → R (MM.to M i l) (MM.to M' j l)) (h : R i j) : Eqv k M M' i j := by
  intro row
  induction row generalizing i j with
  | nil => intro _; exact ht i j h
  | cons l row ih => intro hr; exact ih (hs i j h l (hr l (by simp))) fun x hx => hr x (by simp [hx])
theorem Eqv.go {row : List Nat} (h : Eqv k M M' i j) (hr : ∀ l ∈ row, l < k) : Eqv k M M' (go M i row) (go M' j row) := by
  intro r2 h2
  have := h (row ++ r2) (by intro x hx; rcases List.mem_append.1 hx with q | q; exact hr x q; exact h2 x q)
  simpa [MM.go, List.foldl_append] using this
theorem Good.at (g : Good k M) (hi : i < M.length) : M.getD i ([], []) ∈ M := by
  rw [List.getD_eq_getElem?_getD, List.getElem?_eq_getElem hi]
  exact List.getElem_mem hi
theorem Good.tn (g : Good k M) (hi : i < M.length) : IsTurn k (tn M i) := g.turn _ (g.at hi)
theorem Good.rsl (g : Good k M) (hi : i < M.length) : (rs M i).length = k := g.many _ (g.at hi)
theorem Good.mem (g : Good k M) (hi : i < M.length) {x : Nat} (hx : x ∈ rs M i) : x < M.length := g.rest _ (g.at hi) x hx
theorem to_mem (g : Good k M) (hi : i < M.length) (hl : l < k) : to M i l ∈ rs M i := by
  unfold MM.to
  have := g.rsl hi
  rw [List.getD_eq_getElem?_getD, List.getElem?_eq_getElem (by omega)]
  exact List.getElem_mem _
theorem Good.to (g : Good k M) (hi : i < M.length) (hl : l < k) : to M i l < M.length := g.mem hi (to_mem g hi hl)
theorem Good.go (g : Good k M) {row : List Nat} (hr : ∀ l ∈ row, l < k) (hi : i < M.length) : go M i row < M.length := by
  induction row generalizing i with
  | nil => exact hi
  | cons l row ih => exact ih (fun x hx => hr x (by simp [hx])) (g.to hi (hr l (by simp)))
theorem rs_eq (g : Good k M) (hi : i < M.length) : rs M i = (List.range k).map (MM.to M i) := by
  apply List.ext_getElem
  · simp [g.rsl hi]
  · intro n h1 h2
    simp only [List.getElem_map, List.getElem_range]
    unfold MM.to
    rw [List.getD_eq_getElem?_getD, List.getElem?_eq_getElem h1]
    rfl
end

/-! ### marks -/
def sig (M : Mach) (mk : List Nat) : List (Nat × List Nat) := M.mapIdx fun i r => (mk.getD i 0, r.2.map fun j => mk.getD j 0)
def marksL (M : Mach) : Nat → Nat → Nat → List Nat → List Nat
  | 0, _, _, mk => mk
  | n + 1, known, c, mk => if known < c then marksL M n c (cnt (sig M mk)) (num [] (sig M mk)) else mk
def marks (M : Mach) : List Nat := marksL M (M.length + 2) 0 (cnt (M.map (·.1))) (num [] (M.map (·.1)))

theorem sig_len (M : Mach) (mk : List Nat) : (sig M mk).length = M.length := by simp [sig]
theorem sig_at {M : Mach} {mk : List Nat} {i : Nat} (h : i < M.length) : (sig M mk)[i]'(by rw [sig_len]; exact h) = (mk.getD i 0, (rs M i).map fun j => mk.getD j 0) := by
  simp [sig, rs, List.getD_eq_getElem?_getD, List.getElem?_eq_getElem h]
theorem sig_fst {M : Mach} {mk : List Nat} (h : mk.length = M.length) : (sig M mk).map (·.1) = mk := by
  apply List.ext_getElem
  · simp [sig, h]
  · intro n h1 h2
    simp [sig, List.getD_eq_getElem?_getD, List.getElem?_eq_getElem h2]
theorem cnt_inj {α β : Type} [DecidableEq α] [DecidableEq β] {f : α → β} {xs : List α} (hf : ∀ a ∈ xs, ∀ b ∈ xs, f a = f b → a = b) : cnt (xs.map f) = cnt xs := by
  apply Nat.le_antisymm (cnt_map_le f xs)
  have nd : ((keys [] xs).map f).Nodup := by
    have h1 := keys_nodup xs [] (by simp)
    have h2 : ∀ a ∈ keys [] xs, a ∈ xs := fun a ha => by
      rcases (mem_keys _ _ _).1 ha with q | q
      · cases q
      · exact q
    revert h1 h2
    generalize keys [] xs = l
    intro h1 h2
    induction l with
    | nil => simp
    | cons x l ih =>
      rw [List.map_cons, List.nodup_cons]
      rw [List.nodup_cons] at h1
      refine ⟨?_, ih h1.2 fun a ha => h2 a (by simp [ha])⟩
      intro hm
      obtain ⟨b, hb, e⟩ := List.mem_map.1 hm
      have := hf b (h2 b (by simp [hb])) x (h2 x (by simp)) e
      subst this
      exact h1.1 hb
  have := sub_len _ (keys [] (xs.map f)) nd fun a ha => by
    obtain ⟨x, hx, rfl⟩ := List.mem_map.1 ha
    rcases (mem_keys _ _ _).1 hx with q | q
    · cases q
    · exact (mem_keys _ _ _).2 (.inr (List.mem_map.2 ⟨x, q, rfl⟩))
  simpa [cnt] using this
theorem cnt_num {α : Type} [DecidableEq α] (xs : List α) : cnt (num [] xs) = cnt xs := by
  rw [num_eq]
  exact cnt_inj fun a ha b hb e => idxOf_inj ((mem_keys _ _ _).2 (.inr ha)) e

/-- where they end: like marks, then the same turn and like marks behind each letter; rooms that do the same have like marks -/
structure Marks (k : Nat) (M : Mach) (mk : List Nat) : Prop where
  len : mk.length = M.length
  lt : ∀ a ∈ mk, a < M.length
  tn : ∀ i j, i < M.length → j < M.length → mk.getD i 0 = mk.getD j 0 → tn M i = tn M j
  to : ∀ i j l, i < M.length → j < M.length → l < k → mk.getD i 0 = mk.getD j 0 → mk.getD (to M i l) 0 = mk.getD (to M j l) 0
  eqv : ∀ i j, i < M.length → j < M.length → Eqv k M M i j → mk.getD i 0 = mk.getD j 0
section
variable {k : Nat} {M : Mach} {mk : List Nat}
/-- a stage -/
structure Stage (k : Nat) (M : Mach) (mk : List Nat) : Prop where
  len : mk.length = M.length
  tn : ∀ i j, i < M.length → j < M.length → mk.getD i 0 = mk.getD j 0 → tn M i = tn M j
  eqv : ∀ i j, i < M.length → j < M.length → Eqv k M M i j → mk.getD i 0 = mk.getD j 0
theorem stage0 : Stage k M (num [] (M.map (·.1))) := by
  have h : ∀ i j, (hi : i < M.length) → (hj : j < M.length) → ((num [] (M.map (·.1))).getD i 0 = (num [] (M.map (·.1))).getD j 0 ↔ tn M i = tn M j) := fun i j hi hj => by
    rw [num_iff (by simpa using hi) (by simpa using hj)]
    simp [tn, List.getD_eq_getElem?_getD, List.getElem?_eq_getElem hi, List.getElem?_eq_getElem hj]
  exact ⟨by rw [num_len]; simp, fun i j hi hj e => (h i j hi hj).1 e, fun i j hi hj e => (h i j hi hj).2 e.tn⟩
theorem sig_iff {i j : Nat} (hi : i < M.length) (hj : j < M.length) : ((num [] (sig M mk)).getD i 0 = (num [] (sig M mk)).getD j 0) ↔ (mk.getD i 0 = mk.getD j 0 ∧ (rs M i).map (fun j => mk.getD j 0) = (rs M j).map fun j => mk.getD j 0) := by
  rw [num_iff (by rw [sig_len]; exact hi) (by rw [sig_len]; exact hj), sig_at hi, sig_at hj, Prod.mk.injEq]
theorem stageS (g : Good k M) (h : Stage k M mk) : Stage k M (num [] (sig M mk)) := by
  refine ⟨by rw [num_len, sig_len], fun i j hi hj e => h.tn i j hi hj ((sig_iff hi hj).1 e).1, fun i j hi hj e => (sig_iff hi hj).2 ⟨h.eqv i j hi hj e, ?_⟩⟩
  rw [rs_eq g hi, rs_eq g hj, List.map_map, List.map_map]
  apply List.map_congr_left
  intro l hl
  have hl := List.mem_range.1 hl
  exact h.eqv _ _ (g.to hi hl) (g.to hj hl) (e.to hl)
theorem done (g : Good k M) (h : Stage k M mk) (hc : cnt (sig M mk) ≤ cnt mk) : Marks k M (num [] (sig M mk)) := by
  have s := stageS g h
  have key : ∀ i j, i < M.length → j < M.length → mk.getD i 0 = mk.getD j 0 → (num [] (sig M mk)).getD i 0 = (num [] (sig M mk)).getD j 0 := fun i j hi hj e => by
    have hf := sig_fst h.len
    have := cnt_map_eq (f := fun (p : Nat × List Nat) => p.1) (xs := sig M mk) (by rw [hf]; exact hc) (List.getElem_mem (by rw [sig_len]; exact hi)) (List.getElem_mem (n := j) (by rw [sig_len]; exact hj)) (by rw [sig_at hi, sig_at hj]; exact e)
    rw [num_iff (by rw [sig_len]; exact hi) (by rw [sig_len]; exact hj)]
    exact this
  refine ⟨s.len, fun a ha => by have := num_lt ha; have := cnt_le (sig M mk); rw [sig_len] at this; omega, s.tn, fun i j l hi hj hl e => ?_, s.eqv⟩
  have e2 := ((sig_iff hi hj).1 e).2
  rw [rs_eq g hi, rs_eq g hj, List.map_map, List.map_map] at e2
  have := List.map_inj_left.1 e2 l (List.mem_range.2 hl)
  exact key _ _ (g.to hi hl) (g.to hj hl) this
theorem marksL_ok (g : Good k M) : ∀ (n : Nat) (mk : List Nat), Stage k M mk → M.length < n + cnt mk → Marks k M (marksL M n (cnt mk) (cnt (sig M mk)) (num [] (sig M mk)))
  | 0, mk, s, h => by have := cnt_le mk; rw [s.len] at this; omega
  | n + 1, mk, s, h => by
    unfold marksL
    split
    · rename_i hlt
      have := marksL_ok g n (num [] (sig M mk)) (stageS g s) (by rw [cnt_num]; omega)
      rw [cnt_num] at this
      exact this
    · exact done g s (by omega)
theorem marks_ok (g : Good k M) (h : M ≠ []) : Marks k M (marks M) := by
  unfold marks marksL
  have : 0 < cnt (M.map (·.1)) := cnt_pos (by simpa using h)
  rw [if_pos this]
  have := marksL_ok g (M.length + 1) (num [] (M.map (·.1))) stage0 (by omega)
  rw [cnt_num] at this
  exact this
theorem marks_iff (h : Marks k M mk) (g : Good k M) {i j : Nat} (hi : i < M.length) (hj : j < M.length) : mk.getD i 0 = mk.getD j 0 ↔ Eqv k M M i j :=
  ⟨fun e => Eqv.of (fun i j => i < M.length ∧ j < M.length ∧ mk.getD i 0 = mk.getD j 0) (fun i j q => h.tn i j q.1 q.2.1 q.2.2) (fun i j q l hl => ⟨g.to q.1 hl, g.to q.2.1 hl, h.to i j l q.1 q.2.1 hl q.2.2⟩) ⟨hi, hj, e⟩, h.eqv i j hi hj⟩
end
end MM
set_option maxRecDepth 100000
set_option maxHeartbeats 1000000
/-! E2: turns, walked. -/
namespace MPE
open MP
open MM
structure HTurns (p : Prg) : Prop where
  is_whole : Has p F.turns_is_whole LB.d_turns_is_whole
  is_between : Has p F.turns_is_between LB.d_turns_is_between
  is_turn : Has p F.turns_is_turn LB.d_turns_is_turn
/-- all turns of two to four letters -/
def ins (x : Nat) : List Nat → List (List Nat)
  | [] => [[x]]
  | y :: ys => (x :: y :: ys) :: (ins x ys).map (y :: ·)
def perms : List Nat → List (List Nat)
  | [] => [[]]
  | x :: xs => (perms xs).flatMap (ins x)
theorem mem_ins : ∀ {x : Nat} {l l' : List Nat}, l.Perm (x :: l') → ∃ m, l ∈ ins x m ∧ m.Perm l'
  | x, [], l', h => by have := h.length_eq; simp at this
  | x, y :: ys, l', h => by
    by_cases e : y = x
    · subst e
      have h1 := (List.perm_cons y).1 h
      refine ⟨ys, ?_, h1⟩
      cases ys <;> simp [ins]
    · have hx : x ∈ ys := by
        have := h.mem_iff (a := x)
        simp only [List.mem_cons, true_or, iff_true] at this
        rcases this with h | h
        · exact absurd h.symm e
        · exact h
      have hy : y ∈ l' := by
        have := h.mem_iff (a := y)
        simp only [List.mem_cons, true_or, true_iff] at this
        rcases this with h | h
        · exact absurd h e
        · exact h
      have h2 : ys.Perm (x :: l'.erase y) := by
        have := h.erase y
        rw [List.erase_cons_head] at this
        have e2 : (x :: l').erase y = x :: l'.erase y := by
          rw [List.erase_cons_tail]
          simpa using fun q => e q.symm
        rw [e2] at this
        exact this
      obtain ⟨m, h3, h4⟩ := mem_ins h2
      refine ⟨y :: m, ?_, ?_⟩
      · simp only [ins, List.mem_cons, List.mem_map]
        exact .inr ⟨ys, h3, rfl⟩
      · exact ((List.perm_cons y).2 h4).trans (List.perm_cons_erase hy).symm
theorem mem_perms : ∀ {l' l : List Nat}, l.Perm l' → l ∈ perms l'
  | [], l, h => by simp [perms, h.eq_nil]
  | x :: l', l, h => by
    obtain ⟨m, h1, h2⟩ := mem_ins h
    simp only [perms, List.mem_flatMap]
    exact ⟨m, mem_perms h2, h1⟩
theorem turn_in {k : Nat} {t : List Nat} (h : IsTurn k t) : t ∈ perms (List.range k) := mem_perms h
structure K24 (k : Nat) : Prop where
  lo : 2 ≤ k
  hi : k ≤ 4
theorem K24.cases {k : Nat} (h : K24 k) : k = 2 ∨ k = 3 ∨ k = 4 := by have := h.lo; have := h.hi; omega
theorem sort_all2 : ∀ z ∈ perms (List.range 2), opSorted [nts z] = some (.lst (rng 0 (2 : Int))) := by
  rw [show perms (List.range 2) = [[0, 1], [1, 0]] by decide]
  simp only [List.forall_mem_cons]
  repeat' (first | (intro x hx; cases hx; done) | rfl | apply And.intro)
theorem sort_all3 : ∀ z ∈ perms (List.range 3), opSorted [nts z] = some (.lst (rng 0 (3 : Int))) := by
  rw [show perms (List.range 3) = [[0, 1, 2], [1, 0, 2], [1, 2, 0], [0, 2, 1], [2, 0, 1], [2, 1, 0]] by decide]
  simp only [List.forall_mem_cons]
  repeat' (first | (intro x hx; cases hx; done) | rfl | apply And.intro)
theorem sort_all4 : ∀ z ∈ perms (List.range 4), opSorted [nts z] = some (.lst (rng 0 (4 : Int))) := by
  rw [show perms (List.range 4) = [[0, 1, 2, 3], [1, 0, 2, 3], [1, 2, 0, 3], [1, 2, 3, 0], [0, 2, 1, 3], [2, 0, 1, 3], [2, 1, 0, 3], [2, 1, 3, 0], [0, 2, 3, 1], [2, 0, 3, 1], [2, 3, 0, 1], [2, 3, 1, 0],
    [0, 1, 3, 2], [1, 0, 3, 2], [1, 3, 0, 2], [1, 3, 2, 0], [0, 3, 1, 2], [3, 0, 1, 2], [3, 1, 0, 2], [3, 1, 2, 0], [0, 3, 2, 1], [3, 0, 2, 1], [3, 2, 0, 1], [3, 2, 1, 0]] by decide]
  simp only [List.forall_mem_cons]
  repeat' (first | (intro x hx; cases hx; done) | rfl | apply And.intro)
theorem sort_turn {k : Nat} (hk : K24 k) {t : List Nat} (ht : IsTurn k t) : opSorted [nts t] = some (.lst (rng 0 (k : Int))) := by
  have hm := turn_in ht
  rcases hk.cases with rfl | rfl | rfl
  · exact sort_all2 t hm
  · exact sort_all3 t hm
  · exact sort_all4 t hm
section
variable {p : Prg} (n : Nat) (m : List U)
theorem is_whole_int (H : HTurns p) (i : Int) : (stOf p (n + 1)).call F.turns_is_whole [.int i] m = .ok (.bl true) m := by
  rw [H.is_whole.call]
  rfl
theorem is_between_int (H : HTurns p) (i a b : Int) : (stOf p (n + 2)).call F.turns_is_between [.int i, .int a, .int b] m = .ok (.bl (decide (a ≤ i) && decide (i ≤ b))) m := by
  rw [H.is_between.call, run_def _ _ _ rfl]
  simp [LB.d_turns_is_between, slots0, is_whole_int, H]
  by_cases h : a ≤ i <;> simp [h]
theorem is_turn_c (H : HTurns p) {k : Nat} (hk : K24 k) {t : List Nat} (ht : IsTurn k t) (hlen : t.length = k) : evalE (stOf p (n + 2)) (.comp (.call F.turns_is_between [(.var 1), (.lit (.int 0)), (.op .sub [(.op .len [(.var 0)]), (.lit (.int 1))])]) (.one 1) 0 [(.var 0)] [1] none) ⟨[.val (nts t), .no], m⟩ = .ok (.lst (t.map fun _ => .bl true)) ⟨[.val (nts t), .no], m⟩ := by
  have h1 : ∀ i a b : Int, (stOf p (n + 2)).call F.turns_is_between [.int i, .int a, .int b] m = .ok (.bl (decide (a ≤ i) && decide (i ≤ b))) m := fun i a b => is_between_int n m H i a b
  refine ev_compM (avs := [.v (nts t)]) (xs := t.map iu) t iu (fun _ => .bl true) (by simp) (by simp [walkA, walk]) rfl (by simp [stillIs]) (by simp) (by rw [hlen]; have := hk.hi; have := line_ge; omega) ?_
  intro j hj
  have hjk : j < k := by have := ht.mem_iff (a := j); rw [List.mem_range] at this; exact this.1 hj
  refine ⟨⟨[.val (nts t), .val (iu j)], m⟩, by simp, ?_, by simp [stillIs], by simp⟩
  simp [iu, h1, hlen]
  omega
theorem is_turn_ok (H : HTurns p) {k : Nat} (hk : K24 k) {t : List Nat} (ht : IsTurn k t) : (stOf p (n + 3)).call F.turns_is_turn [nts t] m = .ok (.bl true) m := by
  have hm := turn_in ht
  have hlen : t.length = k := by have := ht.length_eq; simpa using this
  rw [H.is_turn.call, run_def _ _ _ rfl]
  have hc := is_turn_c n m H hk ht hlen
  have hsort : opSorted [nts t] = some (.lst (rng 0 (k : Int))) := by
    exact sort_turn hk ht
  have k1 : (2 : Int) ≤ k := by have := hk.lo; omega
  have k2 : (k : Int) ≤ 4 := by have := hk.hi; omega
  have k3 := lstR1_iu (g := stOf p (n + 2)) k (by omega)
  simp [LB.d_turns_is_turn, slots0, hc, hlen, k1, k2, k3, hsort, rng_iu]
end
end MPE
set_option maxRecDepth 100000
set_option maxHeartbeats 4000000
/-! E10: books of counters, walked. -/
namespace MPE
open MP
open MM
structure HBook (p : Prg) : Prop extends HTurns p where
  undone : Has p F.turns_undone LB.d_turns_undone
  still : Has p F.turns_still_turn LB.d_turns_still_turn
  is_hand : Has p F.book_is_hand LB.d_book_is_hand
  are_hands : Has p F.book_are_hands LB.d_book_are_hands
  letters : Has p F.book_Book_letters LB.d_book_Book_letters
  has_step : Has p F.book_Book_has_step LB.d_book_Book_has_step
  has_letter : Has p F.book_Book_has_letter LB.d_book_Book_has_letter
  turn : Has p F.book_Book_turn LB.d_book_Book_turn
  onward : Has p F.book_Book_onward LB.d_book_Book_onward
  mletters : p.meth C.Book M.letters = some F.book_Book_letters
  mhas_step : p.meth C.Book M.has_step = some F.book_Book_has_step
  mhas_letter : p.meth C.Book M.has_letter = some F.book_Book_has_letter
  mturn : p.meth C.Book M.turn = some F.book_Book_turn
  monward : p.meth C.Book M.onward = some F.book_Book_onward
  amany : p.attr C.Book A.many = some 0
  apairs : p.attr C.Book A.pairs = some 1
  mkc : p.ctor F.mk_Book = some (C.Book, 2, F.book_Book___init__, 1)
  mkd : p.def_ F.book_Book___init__ = some LB.d_book_Book___init__
def handU (T W : List Nat) : U := .tup [nts T, nts W]
def bookU (k : Nat) (T W : List Nat) : U := .obj C.Book [.int k, .lst [handU T W, handU T W]]
structure GoodB (k : Nat) (T W : List Nat) : Prop where
  kk : K24 k
  turn : IsTurn k T
  many : W.length = k
  few : ∀ x ∈ W, x ≤ 2
def IsStep (s : Int) : Prop := s = 1 ∨ s = 2 ∨ s = -1 ∨ s = -2
def invB (t : List Nat) : List Nat := (List.range t.length).map fun l => t.idxOf l
def actT (T : List Nat) (s : Int) : List Nat := if 0 < s then T else invB T
def emi (T W : List Nat) (s : Int) (x : Nat) : Int := if 0 < s then (W.getD x 0 : Nat) else -(W.getD (T.idxOf x) 0 : Nat)
theorem bidx_iu (x : Nat) : ∀ (l : List Nat), x ∈ l → idxU (iu x) (l.map iu) = some (l.idxOf x)
  | [], h => by simp at h
  | y :: l, h => by
    rw [List.map_cons]
    unfold idxU
    rw [eqU_iu]
    by_cases e : y = x
    · subst e; simp
    · have hx : x ∈ l := by
        rcases List.mem_cons.1 h with h | h
        · exact absurd h.symm e
        · exact h
      rw [bidx_iu x l hx, List.idxOf_cons]
      have : (y == x) = false := by simpa using e
      simp [e, this]
theorem bindex (g : Gst) (t : List Nat) (x : Nat) (h : x ∈ t) : opSem g .index [nts t, .int x] = some (.int (t.idxOf x)) := by
  have e : opSem g .index [nts t, iu x] = opIndex [nts t, iu x] := Eq.trans rfl rfl
  rw [iu_eq] at e
  rw [e]
  unfold opIndex
  have h1 : plains (t.map iu) = true := deeps_iu 6 t
  have h2 := bidx_iu x t h
  rw [iu_eq] at h2
  simp [h1, h2]
theorem op_abs' (g : Gst) (i : Int) : opSem g .abs [.int i] = some (.int i.natAbs) := Eq.trans rfl rfl
theorem op_neg' (g : Gst) (i : Int) : opSem g .neg [.int i] = some (.int (-i)) := Eq.trans rfl rfl
theorem _root_.MM.IsTurn.blen {k : Nat} {t : List Nat} (h : IsTurn k t) : t.length = k := by have := h.length_eq; simpa using this
theorem _root_.MM.IsTurn.bmem {k : Nat} {t : List Nat} (h : IsTurn k t) {x : Nat} : x ∈ t ↔ x < k := by have := h.mem_iff (a := x); rw [List.mem_range] at this; exact this
section
variable {p : Prg} (n : Nat) (m : List U) (H : HBook p) {k : Nat} {T W : List Nat}
include H
theorem b_letters : (stOf p (n + 1)).call F.book_Book_letters [bookU k T W] m = .ok (.int k) m := by
  rw [H.letters.call, run_def _ _ _ rfl]
  simp [LB.d_book_Book_letters, slots0, bookU, H.amany]
theorem b_has_step {s : Int} (hs : IsStep s) : (stOf p (n + 3)).call F.book_Book_has_step [bookU k T W, .int s] m = .ok (.bl true) m := by
  rw [H.has_step.call, run_def _ _ _ rfl]
  have q := is_between_int n m H.toHTurns s (-2) 2
  rcases hs with rfl | rfl | rfl | rfl <;> simp [LB.d_book_Book_has_step, slots0, bookU, H.apairs, q, op_neg']
theorem b_has_letter {x : Nat} (hx : x < k) : (stOf p (n + 3)).call F.book_Book_has_letter [bookU k T W, .int x] m = .ok (.bl true) m := by
  rw [H.has_letter.call, run_def _ _ _ rfl]
  have q := is_between_int n m H.toHTurns x 0 (k - 1)
  simp [LB.d_book_Book_has_letter, slots0, bookU, H.amany, q]
  omega
theorem b_undone (hk : K24 k) (ht : IsTurn k T) : (stOf p (n + 1)).call F.turns_undone [nts T] m = .ok (nts (invB T)) m := by
  rw [H.undone.call]
  have hl : T.length = k := ht.blen
  have hc : evalE (stOf p n) (.comp (.op .index [(.var 0), (.var 1)]) (.one 1) 1 [(.op .len [(.var 0)])] [1] none) ⟨[.val (nts T), .no], m⟩ = .ok (.lst ((List.range T.length).map fun l => iu (T.idxOf l))) ⟨[.val (nts T), .no], m⟩ := by
    have hs : small (T.length : Int) = true := small_of (by omega) (by have := hk.hi; omega)
    refine ev_compM (avs := [.v (iu T.length)]) (xs := (List.range T.length).map iu) (List.range T.length) iu (fun l => iu (T.idxOf l)) (by simp) (by simp only [walkA, List.all_cons, ok_v, List.all_nil, Bool.and_self, if_true, List.map_cons, List.map_nil, get_v, iu_eq, cont_int, walk, hs, rng_iu]) rfl (by simp [stillIs]) (by simp) (by have := line_ge; have := hk.hi; simp; omega) ?_
    intro x hx
    have hm : x ∈ T := ht.bmem.2 (by rw [← hl]; exact List.mem_range.1 hx)
    refine ⟨⟨[.val (nts T), .val (iu x)], m⟩, by simp, ?_, by simp [stillIs], by simp⟩
    have hop := bindex (stOf p n) T x hm
    generalize T.idxOf x = z at *
    simp [kindN, hop]
  have e : (List.range T.length).map (fun l => iu (T.idxOf l)) = (invB T).map iu := by unfold invB; rw [List.map_map]; rfl
  rw [e] at hc
  generalize invB T = z at *
  refine run_ret (s := ⟨[.val (nts T), .no], m⟩) LB.d_turns_undone [nts T] m rfl (x_last (xs := []) (x := .ret (.op .tupOf [(.comp (.op .index [(.var 0), (.var 1)]) (.one 1) 1 [(.op .len [(.var 0)])] [1] none)])) ?_)
  have e0 : slots0 [nts T] LB.d_turns_undone.slots = [.val (nts T), .no] := rfl
  rw [e0, x_ret, e_tupOf, as_cons, arg_comp, hc]
  simp
theorem b_turn (hb : GoodB k T W) {s : Int} (hs : IsStep s) : (stOf p (n + 4)).call F.book_Book_turn [bookU k T W, .int s] m = .ok (nts (actT T s)) m := by
  rw [H.turn.call, run_def _ _ _ rfl]
  have q1 := b_has_step n m H (k := k) (T := T) (W := W) hs
  have q2 := b_undone (n + 2) m H hb.kk hb.turn
  unfold bookU handU at q1 ⊢
  unfold actT
  generalize invB T = z at *
  rcases hs with rfl | rfl | rfl | rfl <;> simp [LB.d_book_Book_turn, slots0, H.apairs, H.mhas_step, q1, q2, op_abs', handU]
theorem b_onward (hb : GoodB k T W) {s : Int} (hs : IsStep s) {x : Nat} (hx : x < k) : (stOf p (n + 4)).call F.book_Book_onward [bookU k T W, .int s, .int x] m = .ok (.int (emi T W s x)) m := by
  rw [H.onward.call, run_def _ _ _ rfl]
  have q1 := b_has_step n m H (k := k) (T := T) (W := W) hs
  have q2 := b_has_letter n m H (T := T) (W := W) hx
  have hm : x ∈ T := hb.turn.bmem.2 hx
  have q3 := bindex (stOf p (n + 3)) T x hm
  have hi : T.idxOf x < W.length := by rw [hb.many, ← hb.turn.blen]; exact List.idxOf_lt_length_iff.2 hm
  have hx2 : x < W.length := by rw [hb.many]; exact hx
  unfold bookU handU at q1 q2 ⊢
  unfold emi
  generalize T.idxOf x = z at *
  rcases hs with rfl | rfl | rfl | rfl <;> simp [LB.d_book_Book_onward, slots0, H.apairs, H.mhas_step, H.mhas_letter, q1, q2, q3, op_abs', op_neg', handU, kindN, hx2, hi]
theorem b_is_hand (hb : GoodB k T W) : (stOf p (n + 4)).call F.book_is_hand [handU T W, .int k, .int 2] m = .ok (.bl true) m := by
  rw [H.is_hand.call, run_def _ _ _ rfl]
  have q1 := is_turn_ok n m H.toHTurns hb.kk hb.turn
  have hc : evalE (stOf p (n + 3)) (.comp (.call F.turns_is_between [(.var 3), (.op .neg [(.var 2)]), (.var 2)]) (.one 3) 0 [(.op .ix [(.var 0), (.lit (.int 1))])] [3] none) ⟨[.val (handU T W), .val (.int k), .val (.int 2), .no], m⟩ = .ok (.lst (W.map fun _ => .bl true)) ⟨[.val (handU T W), .val (.int k), .val (.int 2), .no], m⟩ := by
    refine ev_compM (avs := [.v (nts W)]) (xs := W.map iu) W iu (fun _ => .bl true) (by simp [handU]) (by simp [walkA, walk]) rfl (by simp [stillIs]) (by simp) (by have := line_ge; have := hb.kk.hi; rw [hb.many]; omega) ?_
    intro j hj
    refine ⟨⟨[.val (handU T W), .val (.int k), .val (.int 2), .val (iu j)], m⟩, by simp, ?_, by simp [stillIs], by simp⟩
    have q := is_between_int (n + 1) m H.toHTurns j (-2) 2
    have := hb.few j hj
    simp [q, op_neg']
    omega
  have e1 := hb.turn.blen
  have e2 := hb.many
  simp [LB.d_book_is_hand, slots0, hc, handU] at hc ⊢
  simp [q1, e1, e2, hc]
theorem b_are_hands (hb : GoodB k T W) : (stOf p (n + 5)).call F.book_are_hands [.lst [handU T W, handU T W], .int k] m = .ok (.bl true) m := by
  rw [H.are_hands.call, run_def _ _ _ rfl]
  have q := b_is_hand n m H hb
  have hc : evalE (stOf p (n + 4)) (.comp (.call F.book_is_hand [(.var 2), (.var 1), (.op .len [(.var 0)])]) (.one 2) 0 [(.var 0)] [2] none) ⟨[.val (.lst [handU T W, handU T W]), .val (.int k), .no], m⟩ = .ok (.lst ([handU T W, handU T W].map fun _ => .bl true)) ⟨[.val (.lst [handU T W, handU T W]), .val (.int k), .no], m⟩ := by
    refine ev_compM (avs := [.v (.lst [handU T W, handU T W])]) (xs := [handU T W, handU T W].map id) [handU T W, handU T W] id (fun _ => .bl true) (by simp) (by simp [walkA, walk]) rfl (by simp [stillIs]) (by simp) (by have := line_ge; simp; omega) ?_
    intro j hj
    have : j = handU T W := by simpa using hj
    subst this
    refine ⟨⟨[.val (.lst [handU T W, handU T W]), .val (.int k), .val (handU T W)], m⟩, by simp, ?_, by simp [stillIs], by simp⟩
    simp [q]
  have ha : allT [.bl true, .bl true] = some true := rfl
  simp [LB.d_book_are_hands, slots0, hc, ha]
theorem b_make (hb : GoodB k T W) : (stOf p (n + 7)).call F.mk_Book [.int k, .lst [handU T W, handU T W]] m = .ok (bookU k T W) m := by
  have q1 := is_between_int (n + 4) m H.toHTurns k 2 4
  have q2 := b_are_hands (n + 1) m H hb
  have h1 := hb.kk.lo
  have h2 := hb.kk.hi
  have h3 : decide ((2 : Int) ≤ k) = true := by simp; omega
  have h4 : decide ((k : Int) ≤ 4) = true := by simp; omega
  rw [h3, h4] at q1
  show (match p.ctor F.mk_Book with
      | some (c, k, i, kind) => (match p.def_ i with
        | some d => (match runInit (stOf p (n + 6)) d c k _ m with
          | .ok u m => if kind == 1 then RC.ok u m else RC.ok (.ref m.length) (m ++ [u])
          | r => r)
        | none => RC.stuck)
      | none => (match p.def_ F.mk_Book with
        | some d => runDef (stOf p (n + 6)) d _ m
        | none => .stuck)) = _
  rw [H.mkc]
  simp only [H.mkd, runInit]
  simp [LB.d_book_Book___init__, slots0, q1, q2, setFldC, H.amany, H.apairs, setC, bookU]
end
end MPE
set_option maxRecDepth 100000
set_option maxHeartbeats 4000000
/-! E11: words of steps, walked; what a word makes of letters. -/
namespace MPE
open MP
open MM
abbrev zls (w : List Int) : U := .lst (w.map U.int)
abbrev zts (w : List Int) : U := .tup (w.map U.int)
@[scoped simp] theorem eqUs_z : ∀ a b : List Int, eqUs (a.map U.int) (b.map U.int) = decide (a = b)
  | [], [] => by simp
  | [], b :: bs => by simp
  | a :: as, [] => by simp
  | a :: as, b :: bs => by
    rw [List.map_cons, List.map_cons, eqUs_cc, eqU_ii, eqUs_z as bs]
    simp only [List.cons.injEq]
    by_cases h1 : a = b <;> by_cases h2 : as = bs <;> simp [h1, h2]
@[scoped simp] theorem deeps_z (n : Nat) : ∀ a : List Int, deepUs n (a.map U.int) = true
  | [] => by simp
  | a :: as => by simp [deeps_z n as]
@[scoped simp] theorem sames_z (l : List Int) : sameUs (l.map U.int) (l.map U.int) = true := sames_refl (fun a => by simp) l
/-! shortened -/
def red (f : List Int) (s : Int) : List Int := if f.getLast? = some (-s) then f.dropLast else f ++ [s]
def shortL (w : List Int) : List Int := w.foldl red []
theorem red_len (f : List Int) (s : Int) : (red f s).length ≤ f.length + 1 := by
  unfold red; split <;> simp
  omega
theorem atI_last (f : List Int) : MP.atI (f.map U.int) (-1) = f.getLast?.map U.int := by
  unfold MP.atI
  rw [if_neg (by omega)]
  cases f with
  | nil => rfl
  | cons a l =>
    rw [if_pos (by simp; omega)]
    have : ((-1 : Int) + ((List.map U.int (a :: l)).length : Nat)).toNat = l.length := by simp; omega
    rw [this, List.getLast?_eq_getElem?, List.getElem?_map]
    rfl
theorem muPop_z (f : List Int) (h : f ≠ []) : ∃ u, mutSem .pop (zls f) [] = some (zls f.dropLast, u) := by
  have e : mutSem .pop (zls f) [] = muPop (zls f) [] := Eq.trans rfl rfl
  rw [e]
  unfold muPop
  cases hf : f.reverse with
  | nil => simp at hf; exact absurd hf h
  | cons a l =>
    have : f = l.reverse ++ [a] := by
      have := congrArg List.reverse hf
      simpa using this
    subst this
    simp
theorem muApp_z (f : List Int) (s : Int) (h : f.length < 10000) : mutSem .append (zls f) [.int s] = some (zls (f ++ [s]), .non) := by
  have e : mutSem .append (zls f) [.int s] = muAppend (zls f) [.int s] := Eq.trans rfl rfl
  rw [e]
  have := line_ge
  unfold muAppend
  simp
  omega
structure HWords (p : Prg) : Prop extends HBook p where
  is_word : Has p F.words_is_word LB.d_words_is_word
  sure_word : Has p F.words_sure_word LB.d_words_sure_word
  shortened : Has p F.words_shortened LB.d_words_shortened
  turn_by : Has p F.rows_turn_by LB.d_rows_turn_by
  behind_one : Has p F.rows_behind_one LB.d_rows_behind_one
section
variable {p : Prg} (n : Nat) (m : List U) (H : HWords p) {k : Nat} {T W : List Nat}
include H
theorem w_is_word {w : List Int} (hw : ∀ s ∈ w, IsStep s) (hl : w.length ≤ 100) : (stOf p (n + 4)).call F.words_is_word [bookU k T W, zts w] m = .ok (.bl true) m := by
  rw [H.is_word.call, run_def _ _ _ rfl]
  have hc : evalE (stOf p (n + 3)) (.comp (.meth (.var 0) M.has_step [(.var 2)]) (.one 2) 0 [(.var 1)] [2] none) ⟨[.val (bookU k T W), .val (zts w), .no], m⟩ = .ok (.lst (w.map fun _ => .bl true)) ⟨[.val (bookU k T W), .val (zts w), .no], m⟩ := by
    refine ev_compM (avs := [.v (zts w)]) (xs := w.map U.int) w U.int (fun _ => .bl true) (by simp) (by simp [walkA, walk]) rfl (by simp [stillIs]) (by simp) (by have := line_ge; omega) ?_
    intro s hs
    refine ⟨⟨[.val (bookU k T W), .val (zts w), .val (.int s)], m⟩, by simp, ?_, by simp [stillIs], by simp⟩
    have q := b_has_step n m H.toHBook (k := k) (T := T) (W := W) (hw s hs)
    unfold bookU at q ⊢
    simp [H.mhas_step, q]
  have h : ¬ ((100 : Int) < (w.length : Int)) := by omega
  simp [LB.d_words_is_word, slots0, hc, h]
theorem w_is_word_no {w : List Int} (hl : 100 < w.length) : (stOf p (n + 1)).call F.words_is_word [bookU k T W, zts w] m = .ok (.bl false) m := by
  rw [H.is_word.call, run_def _ _ _ rfl]
  have h : (100 : Int) < (w.length : Int) := by omega
  simp [LB.d_words_is_word, slots0, h]
theorem w_sure {w : List Int} (hw : ∀ s ∈ w, IsStep s) (hl : w.length ≤ 100) : (stOf p (n + 5)).call F.words_sure_word [bookU k T W, zts w] m = .ok (zts w) m := by
  rw [H.sure_word.call, run_def _ _ _ rfl]
  have q := w_is_word n m H (k := k) (T := T) (W := W) hw hl
  simp [LB.d_words_sure_word, slots0, q]
theorem w_sure_no {w : List Int} (hl : 100 < w.length) : (stOf p (n + 2)).call F.words_sure_word [bookU k T W, zts w] m = .exc (.exc C.NoWord []) m := by
  rw [H.sure_word.call, run_def _ _ _ rfl]
  have q := w_is_word_no n m H (k := k) (T := T) (W := W) hl
  simp [LB.d_words_sure_word, slots0, q]
theorem w_short {w : List Int} {u : U} (hu : u = zts w ∨ u = zls w) (hl : w.length ≤ 200) : (stOf p (n + 1)).call F.words_shortened [u] m = .ok (zts (shortL w)) m := by
  rw [H.shortened.call]
  let R : List Int → Sta → Prop := fun f s => f.length ≤ 1000 ∧ ∃ j, s = ⟨[.val u, .own (zls f), j], m⟩
  have key : ∀ (w : List Int) (f : List Int) (s : Sta), f.length + w.length ≤ 1000 → (∃ j, s = ⟨[.val u, .own (zls f), j], m⟩) → ∃ s', turnsF (fun x s1 => match bindT (.one 2) x s1 with
      | some s2 => (execs (stOf p n) [.ife (.and [(.op .ne [(.var 1), (.op .lst [])]), (.op .eq [(.op .ix [(.var 1), (.op .neg [(.lit (.int 1))])]), (.op .neg [(.var 2)])])]) [.expr (.mut .pop (.var 1) [])] [.expr (.mut .append (.var 1) [(.var 2)])]] s2).bind fun fl s3 => if stillIs ⟨[.val u, .own (zls []), .no], m⟩ s3 [.v u] then .ok fl s3 else .stuck
      | none => .stuck) (w.map U.int) s = .ok .next s' ∧ ∃ j, s' = ⟨[.val u, .own (zls (w.foldl red f)), j], m⟩ := by
    intro w
    induction w with
    | nil => intro f s _ h; exact ⟨s, rfl, h⟩
    | cons x w ih =>
      rintro f s hl ⟨j, rfl⟩
      have hst : ∀ s3 : Sta, stillIs ⟨[.val u, .own (zls []), .no], m⟩ s3 [.v u] = true := fun s3 => by rcases hu with rfl | rfl <;> simp [stillIs]
      obtain ⟨s', q1, q2⟩ := ih (red f x) ⟨[.val u, .own (zls (red f x)), .val (.int x)], m⟩ (by have := red_len f x; simp at hl; omega) ⟨_, rfl⟩
      refine ⟨s', ?_, q2⟩
      rw [List.map_cons, turnsF]
      simp only [hst, if_true]
      suffices hx : execs (stOf p n) [.ife (.and [(.op .ne [(.var 1), (.op .lst [])]), (.op .eq [(.op .ix [(.var 1), (.op .neg [(.lit (.int 1))])]), (.op .neg [(.var 2)])])]) [.expr (.mut .pop (.var 1) [])] [.expr (.mut .append (.var 1) [(.var 2)])]] ⟨[.val u, .own (zls f), .val (.int x)], m⟩ = .ok .next ⟨[.val u, .own (zls (red f x)), .val (.int x)], m⟩ by
        simp only [b_one, put_mk, List.set_cons_succ, List.set_cons_zero, hx, bind_ok]
        simp only [hst, if_true] at q1
        exact q1
      have happ := muApp_z f x (by simp at hl; omega)
      cases hf : f with
      | nil =>
        rw [hf] at happ
        simp [okL, red, kindN, Mop.kind, mutF, happ, setC]
      | cons a l =>
        rw [← hf]
        have hne : f ≠ [] := by rw [hf]; simp
        have h1 : eqUs (f.map U.int) [] = false := by rw [hf]; simp
        have hat := atI_last f
        obtain ⟨b, hb⟩ : ∃ b, f.getLast? = some b := by
          cases hq : f.getLast? with
          | none => simp at hq; exact absurd hq hne
          | some b => exact ⟨b, rfl⟩
        rw [hb] at hat
        obtain ⟨u', hpop⟩ := muPop_z f hne
        have hpl : (U.lst (f.map U.int)).plain = true := by simp
        unfold red
        rw [hb]
        by_cases hbx : b = -x
        · subst hbx
          simp [okL, h1, op_neg', hat, kindN, Mop.kind, mutF, hpop, setC]
        · simp [okL, h1, op_neg', hat, hbx, kindN, Mop.kind, mutF, happ, setC]
  obtain ⟨s', q1, j, rfl⟩ := key w [] ⟨[.val u, .own (zls []), .no], m⟩ (by simp; omega) ⟨_, rfl⟩
  have hwalk : evalAs (stOf p n) [.var 0] ⟨[.val u, .own (zls []), .no], m⟩ = .ok [.v u] ⟨[.val u, .own (zls []), .no], m⟩ := by simp
  have hw2 : walkA 0 [.v u] ⟨[.val u, .own (zls []), .no], m⟩ = some (w.map U.int) := by rcases hu with rfl | rfl <;> simp [walkA, walk]
  have s1 : execS (stOf p n) (.own 1 (.op .lst [])) ⟨[.val u, .no, .no], m⟩ = .ok .next ⟨[.val u, .own (zls []), .no], m⟩ := by simp [okL]
  have s2 := x_forr (g := stOf p n) (s := ⟨[.val u, .own (zls []), .no], m⟩) (.one 2) 0 [(.var 0)] [.ife (.and [(.op .ne [(.var 1), (.op .lst [])]), (.op .eq [(.op .ix [(.var 1), (.op .neg [(.lit (.int 1))])]), (.op .neg [(.var 2)])])]) [.expr (.mut .pop (.var 1) [])] [.expr (.mut .append (.var 1) [(.var 2)])]]
  rw [hwalk] at s2
  simp only [bind_ok, hw2] at s2
  refine run_ret (s := ⟨[.val u, .own (zls (w.foldl red [])), j], m⟩) LB.d_words_shortened [u] m rfl ((x_seq s1).trans ((x_seq (s2.trans q1)).trans (x_last (xs := []) (x := .ret (.op .tupOf [(.var 1)])) (u := zts (shortL w)) ?_)))
  unfold shortL
  generalize w.foldl red [] = z
  simp
end
end MPE
set_option maxRecDepth 100000
set_option maxHeartbeats 4000000
/-! E12: letters led by words, walked. -/
namespace MPE
open MP
open MM
def act (T : List Nat) (s : Int) (x : Nat) : Nat := (actT T s).getD x 0
def turnL (T : List Nat) (w : List Int) (cur : List Nat) : List Nat := w.foldl (fun cur s => cur.map (act T s)) cur
def emits (T W : List Nat) : List Int → Nat → List Int
  | [], _ => []
  | s :: w, x => emi T W s x :: emits T W w (act T s x)
theorem emits_len (T W : List Nat) : ∀ (w : List Int) (x : Nat), (emits T W w x).length = w.length
  | [], x => rfl
  | s :: w, x => by simp [emits, emits_len T W w]
theorem invB_lt {k : Nat} {T : List Nat} (h : IsTurn k T) {x : Nat} (hx : x < k) : (invB T).getD x 0 < k := by
  have hl := h.blen
  unfold invB
  rw [List.getD_eq_getElem?_getD, List.getElem?_map, List.getElem?_range (by omega)]
  simp only [Option.map_some, Option.getD_some]
  rw [← hl]
  exact List.idxOf_lt_length_iff.2 (h.bmem.2 hx)
theorem actT_len {k : Nat} {T : List Nat} (h : IsTurn k T) (s : Int) : (actT T s).length = k := by
  unfold actT
  split
  · exact h.blen
  · simp [invB, h.blen]
theorem act_lt {k : Nat} {T : List Nat} (h : IsTurn k T) (s : Int) {x : Nat} (hx : x < k) : act T s x < k := by
  unfold act actT
  split
  · have hl := h.blen
    rw [List.getD_eq_getElem?_getD, List.getElem?_eq_getElem (by omega)]
    exact h.bmem.1 (List.getElem_mem _)
  · exact invB_lt h hx
theorem act_at {k : Nat} {T : List Nat} (h : IsTurn k T) (s : Int) {x : Nat} (hx : x < k) : (actT T s)[x]? = some (act T s x) := by
  unfold act
  have := actT_len h s
  rw [List.getD_eq_getElem?_getD, List.getElem?_eq_getElem (by omega)]
  rfl
section
variable {p : Prg} (n : Nat) (m : List U) (H : HWords p) {k : Nat} {T W : List Nat}
include H
theorem w_turn_by (hb : GoodB k T W) {w : List Int} (hw : ∀ s ∈ w, IsStep s) (hl : w.length ≤ 1000) : (stOf p (n + 5)).call F.rows_turn_by [bookU k T W, zts w] m = .ok (nts (turnL T w (List.range k))) m := by
  rw [H.turn_by.call]
  have hk : k ≤ 10000 := by have := hb.kk.hi; omega
  let R : List Nat → Sta → Prop := fun cur s => cur.length = k ∧ (∀ y ∈ cur, y < k) ∧ ∃ a b c, s = ⟨[.val (bookU k T W), .val (zts w), .val (nts cur), a, b, c], m⟩ ∧ notOwn c = true
  obtain ⟨s', q1, hlen, hlt, a, b, c, rfl, hc0⟩ := turnsF_relM (R := R) (f := fun x s1 => match bindT (.one 3) x s1 with
      | some s2 => (execs (stOf p (n + 4)) [.set (.one 4) (.meth (.var 0) M.turn [(.var 3)]), .set (.one 2) (.op .tupOf [(.comp (.op .ix [(.var 4), (.var 5)]) (.one 5) 0 [(.var 2)] [5] none)])] s2).bind fun fl s3 => if stillIs ⟨[.val (bookU k T W), .val (zts w), .val (nts (List.range k)), .no, .no, .no], m⟩ s3 [.v (zts w)] then .ok fl s3 else .stuck
      | none => .stuck) (enc := U.int) (step := fun cur s => cur.map (act T s)) w (List.range k) ⟨[.val (bookU k T W), .val (zts w), .val (nts (List.range k)), .no, .no, .no], m⟩ ⟨by simp, fun y hy => List.mem_range.1 hy, _, _, _, rfl, rfl⟩ (by
    rintro cur st x hx ⟨h1, h2, a, b, c, rfl, hc⟩
    refine ⟨⟨[.val (bookU k T W), .val (zts w), .val (nts (cur.map (act T x))), .val (.int x), .val (nts (actT T x)), c], m⟩, .inl ?_, by simp [h1], ?_, _, _, _, rfl, hc⟩
    · have q := b_turn n m H.toHBook hb (hw x hx)
      have s1 : execS (stOf p (n + 4)) (.set (.one 4) (.meth (.var 0) M.turn [(.var 3)])) ⟨[.val (bookU k T W), .val (zts w), .val (nts cur), .val (.int x), b, c], m⟩ = .ok .next ⟨[.val (bookU k T W), .val (zts w), .val (nts cur), .val (.int x), .val (nts (actT T x)), c], m⟩ := by
        generalize actT T x = z at *
        unfold bookU at q ⊢
        simp [H.mturn, q]
      have hcomp : evalE (stOf p (n + 4)) (.comp (.op .ix [(.var 4), (.var 5)]) (.one 5) 0 [(.var 2)] [5] none) ⟨[.val (bookU k T W), .val (zts w), .val (nts cur), .val (.int x), .val (nts (actT T x)), c], m⟩ = .ok (.lst (cur.map fun y => iu (act T x y))) ⟨[.val (bookU k T W), .val (zts w), .val (nts cur), .val (.int x), .val (nts (actT T x)), c], m⟩ := by
        refine ev_compM (avs := [.v (nts cur)]) (xs := cur.map iu) cur iu (fun y => iu (act T x y)) (by simp) (by simp [walkA, walk]) rfl (by simp [stillIs]) (by simp; revert hc; cases c <;> simp [notOwn]) (by have := line_ge; omega) ?_
        intro y hy
        have hat := act_at hb.turn x (h2 y hy)
        refine ⟨⟨[.val (bookU k T W), .val (zts w), .val (nts cur), .val (.int x), .val (nts (actT T x)), .val (iu y)], m⟩, by simp, ?_, by simp [stillIs], by simp⟩
        generalize actT T x = z at *
        simp [hat]
      have s2 : execS (stOf p (n + 4)) (.set (.one 2) (.op .tupOf [(.comp (.op .ix [(.var 4), (.var 5)]) (.one 5) 0 [(.var 2)] [5] none)])) ⟨[.val (bookU k T W), .val (zts w), .val (nts cur), .val (.int x), .val (nts (actT T x)), c], m⟩ = .ok .next ⟨[.val (bookU k T W), .val (zts w), .val (nts (cur.map (act T x))), .val (.int x), .val (nts (actT T x)), c], m⟩ := by
        rw [x_set, e_tupOf, as_cons, arg_comp, hcomp]
        generalize actT T x = z at *
        simp
      have fin := (x_seq s1).trans ((x_seq s2).trans x_nil)
      simp only [b_one, put_mk, List.set_cons_succ, List.set_cons_zero, fin, bind_ok]
      simp [stillIs]
    · intro y hy
      obtain ⟨z, hz, rfl⟩ := List.mem_map.1 hy
      exact act_lt hb.turn x (h2 z hz))
  have q0 := b_letters (n + 3) m H.toHBook (k := k) (T := T) (W := W)
  have hR := tupR1_iu (g := stOf p (n + 4)) k hk
  have s1 : execS (stOf p (n + 4)) (.set (.one 2) (.op .tupR1 [(.meth (.var 0) M.letters [])])) ⟨[.val (bookU k T W), .val (zts w), .no, .no, .no, .no], m⟩ = .ok .next ⟨[.val (bookU k T W), .val (zts w), .val (nts (List.range k)), .no, .no, .no], m⟩ := by
    unfold bookU at q0 ⊢
    simp [H.mletters, q0, hR]
  have s2 := x_forr (g := stOf p (n + 4)) (s := ⟨[.val (bookU k T W), .val (zts w), .val (nts (List.range k)), .no, .no, .no], m⟩) (.one 3) 0 [(.var 1)] [.set (.one 4) (.meth (.var 0) M.turn [(.var 3)]), .set (.one 2) (.op .tupOf [(.comp (.op .ix [(.var 4), (.var 5)]) (.one 5) 0 [(.var 2)] [5] none)])]
  have hwalk : evalAs (stOf p (n + 4)) [.var 1] ⟨[.val (bookU k T W), .val (zts w), .val (nts (List.range k)), .no, .no, .no], m⟩ = .ok [.v (zts w)] ⟨[.val (bookU k T W), .val (zts w), .val (nts (List.range k)), .no, .no, .no], m⟩ := by simp
  have hw2 : walkA 0 [.v (zts w)] ⟨[.val (bookU k T W), .val (zts w), .val (nts (List.range k)), .no, .no, .no], m⟩ = some (w.map U.int) := by simp [walkA, walk]
  rw [hwalk] at s2
  simp only [bind_ok, hw2] at s2
  refine run_ret (s := ⟨[.val (bookU k T W), .val (zts w), .val (nts (turnL T w (List.range k))), a, b, c], m⟩) LB.d_rows_turn_by [bookU k T W, zts w] m rfl ((x_seq s1).trans ((x_seq (s2.trans q1)).trans (x_last (xs := []) (x := .ret (.var 2)) (u := nts (turnL T w (List.range k))) ?_)))
  unfold turnL
  simp
theorem w_behind (hb : GoodB k T W) {w : List Int} (hw : ∀ s ∈ w, IsStep s) (hl : w.length ≤ 200) {x : Nat} (hx : x < k) : (stOf p (n + 5)).call F.rows_behind_one [bookU k T W, zts w, .int x] m = .ok (zts (shortL ((emits T W w x).filter fun e => decide (e ≠ 0)))) m := by
  rw [H.behind_one.call]
  have key : ∀ (FF : U → Sta → Rs Fl), (∀ u0 s1, FF u0 s1 = (match bindT (.one 4) u0 s1 with
      | some s2 => (execs (stOf p (n + 4)) [.expr (.mut .append (.var 3) [(.meth (.var 0) M.onward [(.var 4), (.var 2)])]), .set (.one 2) (.op .ix [(.meth (.var 0) M.turn [(.var 4)]), (.var 2)])] s2).bind fun fl s3 => if stillIs ⟨[.val (bookU k T W), .val (zts w), .val (.int x), .own (zls []), .no], m⟩ s3 [.v (zts w)] then .ok fl s3 else .stuck
      | none => .stuck)) → ∀ (w' : List Int) (f : List Int) (y : Nat) (s : Sta), (∀ s ∈ w', IsStep s) → y < k → f.length + w'.length ≤ 1000 → (∃ j, s = ⟨[.val (bookU k T W), .val (zts w), .val (.int y), .own (zls f), j], m⟩ ∧ notOwn j = true) → ∃ s', turnsF FF (w'.map U.int) s = .ok .next s' ∧ ∃ y' j, s' = ⟨[.val (bookU k T W), .val (zts w), .val (.int y'), .own (zls (f ++ emits T W w' y)), j], m⟩ ∧ notOwn j = true := by
    intro FF hF w'
    induction w' with
    | nil =>
      rintro f y s _ _ _ ⟨j, rfl, hj⟩
      exact ⟨_, rfl, y, j, by simp [emits], hj⟩
    | cons e w' ih =>
      rintro f y s h1 h2 h3 ⟨j, rfl, hj⟩
      have he := h1 e (by simp)
      obtain ⟨s', q1, y', j', rfl, hj'⟩ := ih (f ++ [emi T W e y]) ((act T e y : Nat) : Nat) ⟨[.val (bookU k T W), .val (zts w), .val (.int (act T e y : Nat)), .own (zls (f ++ [emi T W e y])), .val (.int e)], m⟩ (fun s hs => h1 s (by simp [hs])) (act_lt hb.turn e h2) (by simp at h3 ⊢; omega) ⟨_, rfl, rfl⟩
      have hEq : f ++ emits T W (e :: w') y = f ++ [emi T W e y] ++ emits T W w' (act T e y) := by simp [emits]
      refine ⟨_, ?_, y', j', by rw [hEq], hj'⟩
      rw [List.map_cons, turnsF]
      have qo := b_onward n m H.toHBook hb he h2
      have qt := b_turn n m H.toHBook hb he
      have hat := act_at hb.turn e h2
      have happ := muApp_z f (emi T W e y) (by simp at h3; omega)
      have s1 : execS (stOf p (n + 4)) (.expr (.mut .append (.var 3) [(.meth (.var 0) M.onward [(.var 4), (.var 2)])])) ⟨[.val (bookU k T W), .val (zts w), .val (.int y), .own (zls f), .val (.int e)], m⟩ = .ok .next ⟨[.val (bookU k T W), .val (zts w), .val (.int y), .own (zls (f ++ [emi T W e y])), .val (.int e)], m⟩ := by
        generalize emi T W e y = z at *
        unfold bookU at qo ⊢
        simp [H.monward, qo, kindN, Mop.kind, mutF, happ, setC]
      have s2 : execS (stOf p (n + 4)) (.set (.one 2) (.op .ix [(.meth (.var 0) M.turn [(.var 4)]), (.var 2)])) ⟨[.val (bookU k T W), .val (zts w), .val (.int y), .own (zls (f ++ [emi T W e y])), .val (.int e)], m⟩ = .ok .next ⟨[.val (bookU k T W), .val (zts w), .val (.int (act T e y : Nat)), .own (zls (f ++ [emi T W e y])), .val (.int e)], m⟩ := by
        generalize emi T W e y = z at *
        generalize actT T e = t at *
        unfold bookU at qt ⊢
        simp [H.mturn, qt, hat]
      have fin := (x_seq s1).trans ((x_seq s2).trans x_nil)
      have hx1 : FF (.int e) ⟨[.val (bookU k T W), .val (zts w), .val (.int y), .own (zls f), j], m⟩ = .ok .next ⟨[.val (bookU k T W), .val (zts w), .val (.int (act T e y : Nat)), .own (zls (f ++ [emi T W e y])), .val (.int e)], m⟩ := by
        rw [hF]
        simp only [b_one, put_mk, List.set_cons_succ, List.set_cons_zero, fin, bind_ok]
        simp [stillIs]
      rw [hx1]
      exact q1
  obtain ⟨s', q1, y', j, rfl, hj⟩ := key _ (fun _ _ => rfl) w [] x ⟨[.val (bookU k T W), .val (zts w), .val (.int x), .own (zls []), .no], m⟩ hw hx (by simp; omega) ⟨_, rfl, rfl⟩
  rw [List.nil_append] at q1
  have hel := emits_len T W w x
  generalize hE : emits T W w x = es at *
  have s1 : execS (stOf p (n + 4)) (.own 3 (.op .lst [])) ⟨[.val (bookU k T W), .val (zts w), .val (.int x), .no, .no], m⟩ = .ok .next ⟨[.val (bookU k T W), .val (zts w), .val (.int x), .own (zls []), .no], m⟩ := by simp [okL]
  have s2 := x_forr (g := stOf p (n + 4)) (s := ⟨[.val (bookU k T W), .val (zts w), .val (.int x), .own (zls []), .no], m⟩) (.one 4) 0 [(.var 1)] [.expr (.mut .append (.var 3) [(.meth (.var 0) M.onward [(.var 4), (.var 2)])]), .set (.one 2) (.op .ix [(.meth (.var 0) M.turn [(.var 4)]), (.var 2)])]
  have hwalk : evalAs (stOf p (n + 4)) [.var 1] ⟨[.val (bookU k T W), .val (zts w), .val (.int x), .own (zls []), .no], m⟩ = .ok [.v (zts w)] ⟨[.val (bookU k T W), .val (zts w), .val (.int x), .own (zls []), .no], m⟩ := by simp
  have hw2 : walkA 0 [.v (zts w)] ⟨[.val (bookU k T W), .val (zts w), .val (.int x), .own (zls []), .no], m⟩ = some (w.map U.int) := by simp [walkA, walk]
  rw [hwalk] at s2
  simp only [bind_ok, hw2] at s2
  have hcomp : evalE (stOf p (n + 4)) (.comp (.var 4) (.one 4) 0 [(.var 3)] [4] (some (.op .ne [(.var 4), (.lit (.int 0))]))) ⟨[.val (bookU k T W), .val (zts w), .val (.int y'), .own (zls es), j], m⟩ = .ok (zls (es.filter fun e => decide (e ≠ 0))) ⟨[.val (bookU k T W), .val (zts w), .val (.int y'), .own (zls es), j], m⟩ := by
    have z := ev_compIf (g := stOf p (n + 4)) (e := .var 4) (c := .op .ne [(.var 4), (.lit (.int 0))]) (t := .one 4) (k := 0) (its := [.var 3]) (own := [4]) (s := ⟨[.val (bookU k T W), .val (zts w), .val (.int y'), .own (zls es), j], m⟩) (avs := [.own 3]) (xs := es.map U.int) (fun u => match u with | .int i => if i ≠ 0 then some (.int i) else none | _ => none) (by simp) (by simp [walkA, walk]) (by simp [stillIs]) (by simp; revert hj; cases j <;> simp [notOwn]) (by have := line_ge; simp; omega) ?_
    · rw [z]
      congr 2
      rw [List.filterMap_map]
      clear z s2 q1 key hE hel
      induction es with
      | nil => rfl
      | cons a l ih =>
        by_cases h : a = 0 <;> simp [h] at ih ⊢ <;> exact ih
    · intro u hu
      obtain ⟨i, hi, rfl⟩ := List.mem_map.1 hu
      refine ⟨⟨[.val (bookU k T W), .val (zts w), .val (.int y'), .own (zls es), .val (.int i)], m⟩, by simp, ?_⟩
      by_cases h : i = 0 <;> simp [h, stillIs]
  have hfl : (es.filter fun e => decide (e ≠ 0)).length ≤ 200 := by
    have := List.length_filter_le (fun e => decide (e ≠ 0)) es
    omega
  have qs := w_short (n + 3) m H (w := es.filter fun e => decide (e ≠ 0)) (.inr rfl) hfl
  generalize (es.filter fun e => decide (e ≠ 0)) = fs at *
  refine run_ret (s := ⟨[.val (bookU k T W), .val (zts w), .val (.int y'), .own (zls es), j], m⟩) LB.d_rows_behind_one [bookU k T W, zts w, .int x] m rfl ((x_seq s1).trans ((x_seq (s2.trans q1)).trans (x_last (xs := []) (x := .ret (.call F.words_shortened [(.comp (.var 4) (.one 4) 0 [(.var 3)] [4] (some (.op .ne [(.var 4), (.lit (.int 0))])))])) (u := zts (shortL fs)) ?_)))
  rw [x_ret, e_call, es_cons, hcomp]
  simp [qs]
end
end MPE
set_option maxRecDepth 100000
set_option maxHeartbeats 4000000
/-! E13: counters, in plain mathematics: what a word makes of a ring of letters. -/
namespace MPE
open MP
open MM
def sg (s : Int) : Int := if 0 < s then 1 else -1
def sums : List Int → Int
  | [] => 0
  | s :: w => sg s + sums w
theorem sums_app : ∀ a b : List Int, sums (a ++ b) = sums a + sums b
  | [], b => by simp [sums]
  | s :: a, b => by simp [sums, sums_app a b]; omega
theorem sums_rep (s : Int) : ∀ n : Nat, sums (List.replicate n s) = n * sg s
  | 0 => by simp [sums]
  | n + 1 => by
    rw [List.replicate_succ, sums, sums_rep s n]
    have : ((n + 1 : Nat) : Int) * sg s = n * sg s + sg s := by push_cast; rw [Int.add_mul, Int.one_mul]
    omega
structure RingB (k : Nat) (T W : List Nat) (L : Int → Nat) (d : Int) : Prop where
  gb : GoodB k T W
  lt : ∀ z, L z < k
  nx : ∀ z, T.getD (L z) 0 = L (z + 1)
  wn : ∀ z : Int, ((W.getD (L z) 0 : Nat) : Int) = if z % k = k - 1 then d else 0
  at_ : ∀ x, x < k → ∃ z : Int, 0 ≤ z ∧ z < k ∧ L z = x
  inj : ∀ z z' : Int, L z = L z' ↔ z % k = z' % k
  dd : d = 1 ∨ d = 2
section
variable {k : Nat} {T W : List Nat} {L : Int → Nat} {d : Int}
theorem idx_back (R : RingB k T W L d) (z : Int) : T.idxOf (L (z + 1)) = L z := by
  have hl := R.gb.turn.blen
  have nd : T.Nodup := R.gb.turn.nodup_iff.2 List.nodup_range
  have h := R.nx z
  have hz : L z < T.length := by rw [hl]; exact R.lt z
  rw [List.getD_eq_getElem?_getD, List.getElem?_eq_getElem hz] at h
  simp only [Option.getD_some] at h
  rw [← h]
  exact List.Nodup.idxOf_getElem nd _ hz
theorem inv_at (R : RingB k T W L d) {x : Nat} (hx : x < k) : (invB T).getD x 0 = T.idxOf x := by
  have hl := R.gb.turn.blen
  unfold invB
  rw [List.getD_eq_getElem?_getD, List.getElem?_map, List.getElem?_range (by omega)]
  rfl
theorem act_L (R : RingB k T W L d) {s : Int} (hs : IsStep s) (z : Int) : act T s (L z) = L (z + sg s) := by
  unfold act actT sg
  by_cases h : 0 < s
  · rw [if_pos h, if_pos h, R.nx]
  · rw [if_neg h, if_neg h, inv_at R (R.lt z)]
    have := idx_back R (z - 1)
    rw [show z - 1 + 1 = z by omega] at this
    rw [this]
    rfl
theorem div_step {k : Nat} (hk : K24 k) (z : Int) : (z + 1) / (k : Int) - z / k = if z % k = k - 1 then 1 else 0 := by
  rcases hk.cases with rfl | rfl | rfl
  · split <;> omega
  · split <;> omega
  · split <;> omega
theorem emi_L (R : RingB k T W L d) {s : Int} (hs : IsStep s) (z : Int) : emi T W s (L z) = d * ((z + sg s) / k - z / k) := by
  unfold emi sg
  by_cases h : 0 < s
  · rw [if_pos h, if_pos h, R.wn, div_step R.gb.kk]
    split <;> simp
  · rw [if_neg h, if_neg h]
    have h1 := idx_back R (z - 1)
    rw [show z - 1 + 1 = z by omega] at h1
    have h2 := div_step R.gb.kk (z - 1)
    rw [show z - 1 + 1 = z by omega] at h2
    have h3 : (z + -1) / (k : Int) - z / k = -(z / k - (z - 1) / k) := by
      rw [show z + -1 = z - 1 by omega]; omega
    rw [h1, R.wn, h3, h2]
    split <;> simp
def pw (d : Int) (n : Int) : List Int := if 0 ≤ n then List.replicate n.toNat d else List.replicate (-n).toNat (-d)
theorem pw_len (d n : Int) : (pw d n).length = n.natAbs := by
  unfold pw
  split <;> simp <;> omega
theorem pw_zero (d : Int) : pw d 0 = [] := by simp [pw]
theorem red_same {x : Int} (hx : x ≠ 0) (n : Nat) : red (List.replicate n x) x = List.replicate (n + 1) x := by
  unfold red
  rw [if_neg, List.replicate_succ']
  rw [List.getLast?_replicate]
  split
  · simp
  · simp; omega
theorem red_back (x : Int) (n : Nat) : red (List.replicate (n + 1) x) (-x) = List.replicate n x := by
  unfold red
  rw [if_pos]
  · rw [List.replicate_succ', List.dropLast_concat]
  · rw [List.getLast?_replicate]
    simp
theorem red_up {d : Int} (hd : d ≠ 0) (a : Int) : red (pw d a) d = pw d (a + 1) := by
  unfold pw
  by_cases h : 0 ≤ a
  · rw [if_pos h, if_pos (by omega), red_same hd]
    congr 1; omega
  · rw [if_neg h]
    obtain ⟨n, hn⟩ : ∃ n : Nat, (-a).toNat = n + 1 := ⟨(-a).toNat - 1, by omega⟩
    have := red_back (-d) n
    rw [Int.neg_neg] at this
    rw [hn, this]
    by_cases h2 : 0 ≤ a + 1
    · have e1 : n = 0 := by omega
      have e2 : (a + 1).toNat = 0 := by omega
      rw [if_pos h2, e1, e2]; rfl
    · rw [if_neg h2]; congr 1; omega
theorem red_dn {d : Int} (hd : d ≠ 0) (a : Int) : red (pw d a) (-d) = pw d (a - 1) := by
  unfold pw
  by_cases h : 0 ≤ a
  · rw [if_pos h]
    by_cases h0 : a = 0
    · subst h0
      rw [if_neg (by omega)]
      have := red_same (x := -d) (by omega) 0
      simpa using this
    · obtain ⟨n, hn⟩ : ∃ n : Nat, a.toNat = n + 1 := ⟨a.toNat - 1, by omega⟩
      rw [hn, red_back, if_pos (by omega)]
      congr 1; omega
  · rw [if_neg h, if_neg (by omega), red_same (by omega)]
    congr 1; omega
theorem emits_red (R : RingB k T W L d) : ∀ (w : List Int), (∀ s ∈ w, IsStep s) → ∀ (z a : Int), ((emits T W w (L z)).filter fun e => decide (e ≠ 0)).foldl red (pw d a) = pw d (a + ((z + sums w) / k - z / k))
  | [], _, z, a => by simp [emits, sums]
  | s :: w, hw, z, a => by
    have hs := hw s (by simp)
    have hd : d ≠ 0 := by rcases R.dd with h | h <;> omega
    have ih := emits_red R w fun s h => hw s (by simp [h])
    have e1 : z + sums (s :: w) = z + sg s + sums w := by simp [sums]; omega
    rw [emits, emi_L R hs, act_L R hs, e1]
    have hc : (z + sg s) / (k : Int) - z / k = 0 ∨ (z + sg s) / (k : Int) - z / k = 1 ∨ (z + sg s) / (k : Int) - z / k = -1 := by
      have h1 := div_step R.gb.kk z
      have h2 := div_step R.gb.kk (z - 1)
      rw [show z - 1 + 1 = z by omega] at h2
      unfold sg
      split
      · rw [h1]; split <;> simp
      · rw [show z + -1 = z - 1 by omega]
        split at h2 <;> omega
    rcases hc with h | h | h
    · rw [h, Int.mul_zero, List.filter_cons_of_neg (by simp), ih]
      congr 1; omega
    · rw [h, Int.mul_one, List.filter_cons_of_pos (by simpa using hd), List.foldl_cons, red_up hd, ih]
      congr 1; omega
    · rw [h, show d * -1 = -d by omega, List.filter_cons_of_pos (by simp; omega), List.foldl_cons, red_dn hd, ih]
      congr 1; omega
/-- what stands behind one letter -/
theorem behind_L (R : RingB k T W L d) {w : List Int} (hw : ∀ s ∈ w, IsStep s) {x : Nat} (hx : x < k) (h0 : sums w % k = 0) : shortL ((emits T W w x).filter fun e => decide (e ≠ 0)) = pw d (sums w / k) := by
  obtain ⟨z, h1, h2, rfl⟩ := R.at_ x hx
  have := emits_red R w hw z 0
  rw [pw_zero] at this
  unfold shortL
  rw [this]
  congr 1
  have hz : z / (k : Int) = 0 := Int.ediv_eq_zero_of_lt h1 h2
  have hk : (k : Int) ≠ 0 := by omega
  have hd : (k : Int) ∣ sums w := Int.dvd_of_emod_eq_zero h0
  rw [Int.add_ediv_of_dvd_right hd, hz]
  omega
/-- a row, turned -/
def led (T : List Nat) (w : List Int) (x : Nat) : Nat := w.foldl (fun y s => act T s y) x
theorem turnL_eq (T : List Nat) : ∀ (w : List Int) (cur : List Nat), turnL T w cur = cur.map (led T w)
  | [], cur => (List.map_id cur).symm
  | s :: w, cur => by
    have := turnL_eq T w (cur.map (act T s))
    unfold turnL at this ⊢
    rw [List.foldl_cons, this, List.map_map]
    rfl
theorem led_L (R : RingB k T W L d) : ∀ (w : List Int), (∀ s ∈ w, IsStep s) → ∀ z : Int, led T w (L z) = L (z + sums w)
  | [], _, z => by simp [led, sums]
  | s :: w, hw, z => by
    have ih := led_L R w fun s h => hw s (by simp [h])
    unfold led at ih ⊢
    rw [List.foldl_cons, act_L R (hw s (by simp)), ih]
    simp [sums, Int.add_assoc]
theorem led_same (R : RingB k T W L d) {w : List Int} (hw : ∀ s ∈ w, IsStep s) {x : Nat} (hx : x < k) : led T w x = x ↔ sums w % k = 0 := by
  obtain ⟨z, h1, h2, rfl⟩ := R.at_ x hx
  rw [led_L R w hw, R.inj]
  constructor
  · intro h
    have := Int.emod_emod_of_dvd (z + sums w - z) (Int.dvd_refl (k : Int))
    have h3 : (z + sums w - z) % (k : Int) = 0 := by rw [Int.sub_emod, h]; simp
    rwa [show z + sums w - z = sums w by omega] at h3
  · intro h
    rw [Int.add_emod, h]; simp
theorem turnL_still (R : RingB k T W L d) {w : List Int} (hw : ∀ s ∈ w, IsStep s) (h : sums w % k = 0) : turnL T w (List.range k) = List.range k := by
  rw [turnL_eq]
  conv => rhs; rw [← List.map_id (List.range k)]
  apply List.map_congr_left
  intro x hx
  exact (led_same R hw (List.mem_range.1 hx)).2 h
theorem pw_step (R : RingB k T W L d) (n : Int) : ∀ s ∈ pw d n, IsStep s := by
  intro s hs
  unfold pw at hs
  split at hs
  · have := List.eq_of_mem_replicate hs
    subst this
    rcases R.dd with rfl | rfl <;> simp [IsStep]
  · have := List.eq_of_mem_replicate hs
    subst this
    rcases R.dd with rfl | rfl <;> simp [IsStep]
theorem pw_sums (R : RingB k T W L d) (n : Int) : sums (pw d n) = n := by
  unfold pw
  split
  · rw [sums_rep]
    have : sg d = 1 := by rcases R.dd with rfl | rfl <;> rfl
    rw [this]; omega
  · rw [sums_rep]
    have : sg (-d) = -1 := by rcases R.dd with rfl | rfl <;> rfl
    rw [this]; omega
theorem red_id : ∀ (w f : List Int), (∀ x ∈ f ++ w, ∀ y ∈ w, x ≠ -y) → w.foldl red f = f ++ w
  | [], f, _ => by simp
  | s :: w, f, h => by
    have e : red f s = f ++ [s] := by
      unfold red
      rw [if_neg]
      intro q
      have := List.mem_of_getLast? q
      exact h _ (by simp [this]) s (by simp) rfl
    rw [List.foldl_cons, e, red_id w (f ++ [s]) fun x hx y hy => h x (by simpa using hx) y (by simp [hy])]
    simp
end
end MPE
set_option maxRecDepth 100000
set_option maxHeartbeats 2000000
/-! E3: machines looked at. -/
namespace MPE
open MP
open MM
def roomU (r : Room) : U := .tup [nts r.1, nts r.2]
abbrev machU (M : Mach) : U := .tup (M.map roomU)
@[scoped simp] theorem roomU_eq (r : Room) : roomU r = .tup [nts r.1, nts r.2] := Eq.trans rfl rfl
structure HMach (p : Prg) : Prop extends HTurns p where
  need_turn : Has p F.turns_need_turn LB.d_turns_need_turn
  turn_after : Has p F.turns_turn_after LB.d_turns_turn_after
  is_below : Has p F.machines_is_below LB.d_machines_is_below
  is_room : Has p F.machines_is_room LB.d_machines_is_room
  is_machine : Has p F.machines_is_machine LB.d_machines_is_machine
  sure_machine : Has p F.machines_sure_machine LB.d_machines_sure_machine
  letters_of : Has p F.machines_letters_of LB.d_machines_letters_of
section
variable {p : Prg} (n : Nat) (m : List U) (H : HMach p) {k : Nat} (hk : K24 k)
include H
theorem is_below_int (i e : Int) : (stOf p (n + 1)).call F.machines_is_below [.int i, .int e] m = .ok (.bl (decide (0 ≤ i) && decide (i < e))) m := by
  rw [H.is_below.call, run_def _ _ _ rfl]
  simp [LB.d_machines_is_below, slots0]
  by_cases h : 0 ≤ i <;> simp [h]
include hk
theorem need_turn_ok {t : List Nat} (ht : IsTurn k t) : (stOf p (n + 4)).call F.turns_need_turn [nts t] m = .ok .non m := by
  rw [H.need_turn.call, run_def _ _ _ rfl]
  simp [LB.d_turns_need_turn, slots0, is_turn_ok n m H.toHTurns hk ht]
omit H hk in
theorem _root_.MM.IsTurn.lt {k : Nat} {t : List Nat} (ht : IsTurn k t) {x : Nat} (hx : x ∈ t) : x < k := by
  have := ht.mem_iff (a := x)
  rw [List.mem_range] at this
  exact this.1 hx
omit H hk in
theorem _root_.MM.IsTurn.len {k : Nat} {t : List Nat} (ht : IsTurn k t) : t.length = k := by have := ht.length_eq; simpa using this
omit H in
theorem K24.line_ (x : Nat) (h : x ≤ k) : x ≤ line := by have := hk.hi; have := line_ge; omega
theorem turn_after_ok {a b : List Nat} (ha : IsTurn k a) (hb : IsTurn k b) : (stOf p (n + 5)).call F.turns_turn_after [nts a, nts b] m = .ok (nts (a.map fun l => b.getD l 0)) m := by
  rw [H.turn_after.call, run_def _ _ _ rfl]
  have hc : evalE (stOf p (n + 4)) (.comp (.op .ix [(.var 1), (.var 2)]) (.one 2) 0 [(.var 0)] [2] none) ⟨[.val (nts a), .val (nts b), .no], m⟩ = .ok (.lst (a.map fun l => iu (b.getD l 0))) ⟨[.val (nts a), .val (nts b), .no], m⟩ := by
    refine ev_compM (avs := [.v (nts a)]) (xs := a.map iu) a iu (fun l => iu (b.getD l 0)) (by simp) (by simp [walkA, walk]) rfl (by simp [stillIs]) (by simp) (hk.line_ _ (Nat.le_of_eq ha.len)) ?_
    intro j hj
    have hjb : j < b.length := by rw [hb.len]; exact ha.lt hj
    refine ⟨⟨[.val (nts a), .val (nts b), .val (iu j)], m⟩, by simp, ?_, by simp [stillIs], by simp⟩
    simp [hjb]
  simp [LB.d_turns_turn_after, slots0, need_turn_ok n m H hk ha, need_turn_ok n m H hk hb, ha.len, hb.len, hc]
theorem is_room_ok {r : Room} (ht : IsTurn k r.1) (hl : r.2.length = k) {e : Nat} (he : ∀ x ∈ r.2, x < e) : (stOf p (n + 4)).call F.machines_is_room [roomU r, iu k, iu e] m = .ok (.bl true) m := by
  rw [H.is_room.call, run_def _ _ _ rfl]
  have hc : evalE (stOf p (n + 3)) (.comp (.call F.machines_is_below [(.var 5), (.var 2)]) (.one 5) 0 [(.var 4)] [5] none) ⟨[.val (roomU r), .val (iu k), .val (iu e), .val (nts r.1), .val (nts r.2), .no], m⟩ = .ok (.lst (r.2.map fun _ => .bl true)) ⟨[.val (roomU r), .val (iu k), .val (iu e), .val (nts r.1), .val (nts r.2), .no], m⟩ := by
    refine ev_compM (avs := [.v (nts r.2)]) (xs := r.2.map iu) r.2 iu (fun _ => .bl true) (by simp) (by simp [walkA, walk]) rfl (by simp [stillIs]) (by simp) (hk.line_ _ (Nat.le_of_eq hl)) ?_
    intro j hj
    refine ⟨⟨[.val (roomU r), .val (iu k), .val (iu e), .val (nts r.1), .val (nts r.2), .val (iu j)], m⟩, by simp, ?_, by simp [stillIs], by simp⟩
    have := is_below_int (n + 2) m H j e
    have h2 := he j hj
    simp [this]
    omega
  simp only [iu_eq, roomU_eq] at hc
  simp [LB.d_machines_is_room, slots0, is_turn_ok n m H.toHTurns hk ht, ht.len, hl, hc]
theorem is_machine_ok {M : Mach} (g : Good k M) (h1 : 1 ≤ M.length) (h2 : M.length ≤ 60) : (stOf p (n + 5)).call F.machines_is_machine [machU M] m = .ok (.bl true) m := by
  rw [H.is_machine.call, run_def _ _ _ rfl]
  obtain ⟨r0, h0⟩ : ∃ r0, M[0]? = some r0 := ⟨M[0], List.getElem?_eq_getElem (by omega)⟩
  have hr0 : IsTurn k r0.1 := g.turn r0 (List.mem_of_getElem? h0)
  have hc : evalE (stOf p (n + 4)) (.comp (.call F.machines_is_room [(.var 2), (.op .len [(.op .ix [(.var 1), (.lit (.int 0))])]), (.op .len [(.var 0)])]) (.one 2) 0 [(.var 0)] [2] none) ⟨[.val (machU M), .val (roomU r0), .no], m⟩ = .ok (.lst (M.map fun _ => .bl true)) ⟨[.val (machU M), .val (roomU r0), .no], m⟩ := by
    refine ev_compM (avs := [.v (machU M)]) (xs := M.map roomU) M roomU (fun _ => .bl true) (by simp) (by simp [walkA, walk]) rfl (by simp [stillIs]) (by simp) (by have := line_ge; omega) ?_
    intro r hr
    refine ⟨⟨[.val (machU M), .val (roomU r0), .val (roomU r)], m⟩, by simp, ?_, by simp [stillIs], by simp⟩
    have h := is_room_ok n m H hk (g.turn r hr) (g.many r hr) (e := M.length) (fun x hx => g.rest r hr x hx)
    simp only [iu_eq, roomU_eq] at h
    simp [h, hr0.len]
  simp only [roomU_eq] at hc
  have k1 : ((M.length : Int) ≤ 60) := by omega
  have k2 : (1 : Int) ≤ (M.length : Int) := by omega
  simp [LB.d_machines_is_machine, slots0, is_turn_ok (n + 1) m H.toHTurns hk hr0, k1, k2, hc, h0]
theorem sure_machine_ok {M : Mach} (g : Good k M) (h1 : 1 ≤ M.length) (h2 : M.length ≤ 60) : (stOf p (n + 6)).call F.machines_sure_machine [machU M] m = .ok (machU M) m := by
  rw [H.sure_machine.call, run_def _ _ _ rfl]
  simp [LB.d_machines_sure_machine, slots0, is_machine_ok n m H hk g h1 h2]
theorem letters_of_ok {M : Mach} (g : Good k M) (h1 : 1 ≤ M.length) (h2 : M.length ≤ 60) : (stOf p (n + 7)).call F.machines_letters_of [machU M] m = .ok (iu k) m := by
  rw [H.letters_of.call, run_def _ _ _ rfl]
  have := sure_machine_ok n m H hk g h1 h2
  obtain ⟨r0, h0⟩ : ∃ r0, M[0]? = some r0 := ⟨M[0], List.getElem?_eq_getElem (by omega)⟩
  have hr0 : IsTurn k r0.1 := g.turn r0 (List.mem_of_getElem? h0)
  simp [LB.d_machines_letters_of, slots0, this, hr0.len, h0]
end
end MPE
set_option maxRecDepth 100000
set_option maxHeartbeats 2000000
/-! E4: numbered, marks. -/
namespace MPE
open MP
open MM
/-- values of things, by which they are told apart as keys -/
structure Enc {α : Type} [DecidableEq α] (enc : α → U) : Prop where
  eq : ∀ a b, eqU (enc a) (enc b) = decide (a = b)
  key : ∀ (ks : List α) x, kOk (ks.map enc) (enc x) = true
section
variable {α : Type} [DecidableEq α] {enc : α → U} (E : Enc enc)
include E
theorem Enc.mem (x : α) : ∀ ks : List α, memU (enc x) (ks.map enc) = decide (x ∈ ks)
  | [] => by simp [memU]
  | k :: ks => by
    have := Enc.mem x ks
    unfold memU at this ⊢
    rw [List.map_cons, List.any_cons, this, E.eq]
    by_cases h : k = x
    · simp [h]
    · have h' : ¬ x = k := fun e => h e.symm
      simp [h, h']
theorem Enc.dget (x : α) : ∀ (ks : List α) (vs : List U), ks.length ≤ vs.length → MP.dget (ks.map enc) vs (enc x) = if x ∈ ks then vs[ks.idxOf x]? else none
  | [], vs, _ => by cases vs <;> simp [MP.dget]
  | k :: ks, [], h => by simp at h
  | k :: ks, v :: vs, h => by
    rw [List.map_cons]
    unfold MP.dget
    rw [E.eq]
    by_cases h1 : k = x
    · subst h1; simp
    · have h' : ¬ x = k := fun e => h1 e.symm
      have := Enc.dget x ks vs (by simpa using h)
      simp only [h1, decide_false, Bool.false_eq_true, if_false, this, List.mem_cons, h', false_or]
      have e : (k :: ks).idxOf x = ks.idxOf x + 1 := by
        rw [List.idxOf_cons]
        have : (k == x) = false := by simpa using h1
        rw [this]; rfl
      rw [e, List.getElem?_cons_succ]
end
def numD (enc : α → U) (ks : List α) : U := .dic (ks.map enc) ((List.range ks.length).map iu)
structure HNum (p : Prg) : Prop extends HMach p where
  numbered : Has p F.machines_numbered LB.d_machines_numbered
  room_marks : Has p F.machines_room_marks LB.d_machines_room_marks
section
variable {p : Prg} (n : Nat) (m : List U) (H : HNum p)
include H
theorem outs_num {α : Type} [DecidableEq α] : ∀ (xs ks : List α) (v : Slt) (enc : α → U), outs (fun (b : List α × Slt) a => iu (b.1.idxOf a)) (fun b a => (if a ∈ b.1 then b.1 else b.1 ++ [a], .val (enc a))) (ks, v) xs = (num ks xs).map iu := by
  intro xs
  induction xs with
  | nil => intro ks v enc; rfl
  | cons x xs ih =>
    intro ks v enc
    simp only [outs, num]
    by_cases h : x ∈ ks
    · simp only [h, if_true, ih, List.map_cons]
    · simp only [h, if_false, ih, List.map_cons]
      rw [List.idxOf_eq_length h]
theorem numbered_ok {α : Type} [DecidableEq α] {enc : α → U} (E : Enc enc) (xs : List α) (hl : xs.length ≤ 9000) : (stOf p (n + 1)).call F.machines_numbered [.lst (xs.map enc)] m = .ok (.lst ((num [] xs).map iu)) m := by
  rw [H.numbered.call, run_def _ _ _ rfl]
  have hc : evalE (stOf p n) (.comp (.mut .setdefault (.var 1) [(.var 2), (.op .len [(.var 1)])]) (.one 2) 0 [(.var 0)] [2] none) ⟨[.val (.lst (xs.map enc)), .own (numD enc ([] : List α)), .no], m⟩ = .ok (.lst ((num [] xs).map iu)) (backS ⟨[.val (.lst (xs.map enc)), .own (numD enc ([] : List α)), .no], m⟩ ((fun (b : List α × Slt) => ⟨[.val (.lst (xs.map enc)), .own (numD enc b.1), b.2], m⟩) (xs.foldl (fun b a => (if a ∈ b.1 then b.1 else b.1 ++ [a], .val (enc a))) (([] : List α), Slt.no))) [2]) := by
    rw [← outs_num H xs [] .no enc]
    refine ev_compS (avs := [.v (.lst (xs.map enc))]) (xs := xs.map enc) xs enc (fun (b : List α × Slt) => ⟨[.val (.lst (xs.map enc)), .own (numD enc b.1), b.2], m⟩) (fun b a => iu (b.1.idxOf a)) (fun b a => (if a ∈ b.1 then b.1 else b.1 ++ [a], .val (enc a))) (fun b => b.1.Nodup ∧ ∀ a ∈ b.1, a ∈ xs) ([], .no) rfl ⟨by simp, by simp⟩ (by simp) (by simp [walkA, walk]) rfl (by simp [stillIs]) (by simp) (by have := line_ge; omega) ?_
    rintro ⟨ks, v⟩ a ha ⟨nd, sub⟩
    have hlen : ks.length < line := by have := sub_len ks xs nd sub; have := line_ge; omega
    refine ⟨⟨[.val (.lst (xs.map enc)), .own (numD enc ks), .val (enc a)], m⟩, by simp, ?_, by simp [stillIs], ?_⟩
    · have hd := E.dget a ks ((List.range ks.length).map iu) (by simp)
      have hk := E.key ks a
      by_cases h : a ∈ ks
      · have hi := List.idxOf_lt_length_of_mem h
        simp only [h, if_true, List.getElem?_map, List.getElem?_range hi, Option.map_some] at hd
        simp [numD, kindN, Mop.kind, mutF, mutSem, muSetdefault, hk, hlen, hd, setC, h]
      · simp only [h, if_false] at hd
        simp [numD, kindN, Mop.kind, mutF, mutSem, muSetdefault, hk, hlen, hd, setC, h, List.idxOf_eq_length h, List.range_succ]
    · by_cases h : a ∈ ks
      · simp only [h, if_true]; exact ⟨nd, sub⟩
      · simp only [h, if_false]
        refine ⟨?_, ?_⟩
        · rw [List.nodup_append]
          exact ⟨nd, by simp, fun x hx y hy => by simp only [List.mem_singleton] at hy; subst hy; rintro rfl; exact h hx⟩
        · intro x hx
          rcases List.mem_append.1 hx with q | q
          · exact sub x q
          · simp only [List.mem_singleton] at q; subst q; exact ha
  simp only [numD, List.map_nil, List.length_nil, List.range_zero] at hc
  simp [LB.d_machines_numbered, slots0, opDict, opSem, mkDic, hc, back_m]
omit H in
theorem encT : Enc (fun t : List Nat => nts t) := by
  refine ⟨fun a b => by simp, fun ks x => ?_⟩
  have h1 : ∀ l : List Nat, keyTs 6 (l.map iu) = true := fun l => by
    induction l with
    | nil => simp [keyTs]
    | cons a l ih => rw [List.map_cons, keyTs, ih, iu_eq, keyT]; rfl
  have h2 : keyT 7 (nts x) = true := by rw [keyT]; exact h1 x
  unfold kOk
  rw [h2]
  simp [isIS, isTupU]
def pairU (q : Nat × List Nat) : U := .tup [iu q.1, nts q.2]
omit H in
theorem encP : Enc pairU := by
  refine ⟨fun a b => ?_, fun ks x => ?_⟩
  · unfold pairU
    simp only [eqU_tt, eqUs_cc, eqUs_nn, eqU_iu, eqUs_iu, Bool.and_true]
    by_cases h1 : a.1 = b.1 <;> by_cases h2 : a.2 = b.2 <;> simp [h1, h2, Prod.ext_iff]
  · have h1 : ∀ (n : Nat) (l : List Nat), keyTs n (l.map iu) = true := fun n l => by
      induction l with
      | nil => simp [keyTs]
      | cons a l ih => rw [List.map_cons, keyTs, ih, iu_eq, keyT]; rfl
    have h2 : keyT 7 (pairU x) = true := by
      unfold pairU
      rw [keyT, keyTs, keyTs, keyTs, iu_eq, keyT, keyT, h1]; rfl
    unfold kOk
    rw [h2]
    simp [isIS, isTupU, pairU]
omit H in
theorem maxI_of : ∀ (l : List Int) (v : Int), v ∈ l → (∀ x ∈ l, x ≤ v) → maxI l = some v
  | [], v, h, _ => by cases h
  | a :: l, v, h, hv => by
    unfold maxI
    by_cases hl : v ∈ l
    · rw [maxI_of l v hl fun x hx => hv x (by simp [hx])]
      have := hv a (by simp)
      simp only
      congr 1
      omega
    · have e : v = a := by
        rcases List.mem_cons.1 h with h | h
        · exact h
        · exact absurd h hl
      subst e
      cases q : maxI l with
      | none => rfl
      | some b =>
        have hb : b ∈ l := by
          clear h hv hl
          induction l generalizing b with
          | nil => simp [maxI] at q
          | cons c l ih =>
            unfold maxI at q
            split at q
            · cases q; simp
            · rename_i d hd
              have := ih d hd
              simp only [Option.some.injEq] at q
              rcases Int.le_total c d with z | z
              · have e : b = d := by omega
                subst e; simp [this]
              · have e : b = c := by omega
                subst e; simp
        have := hv b (by simp [hb])
        simp only
        congr 1
        omega
omit H in
theorem ints_iu : ∀ l : List Nat, ints? (l.map iu) = some (l.map fun (x : Nat) => (x : Int))
  | [] => rfl
  | a :: l => by
    have := ints_iu l
    simp only [List.map_cons, iu_eq, ints?, this, Option.map_some]
/-- the greatest, by the count -/
structure MaxIs (mk : List Nat) (c : Nat) : Prop where
  pos : 0 < c
  mem : c - 1 ∈ mk
  lt : ∀ a ∈ mk, a < c
omit H in
theorem MaxIs.op {mk : List Nat} {c : Nat} (h : MaxIs mk c) {g : Gst} : opSem g .max1 [.lst (mk.map iu)] = some (.int ((c : Int) - 1)) := by
  show ((ints? (mk.map iu)).bind maxI).map U.int = _
  rw [ints_iu]
  have := maxI_of (mk.map fun (x : Nat) => (x : Int)) ((c : Int) - 1) (List.mem_map.2 ⟨c - 1, h.mem, by have := h.pos; omega⟩) (fun x hx => by
    obtain ⟨y, hy, rfl⟩ := List.mem_map.1 hx
    have := h.lt y hy
    omega)
  simp only [Option.bind_some, this, Option.map_some]
omit H in
theorem maxIs_num {α : Type} [DecidableEq α] {xs : List α} (h : xs ≠ []) : MaxIs (num [] xs) (cnt xs) :=
  ⟨cnt_pos h, num_all (by have := cnt_pos h; omega), fun a ha => num_lt ha⟩
omit H in
theorem marksL_wh (M : Mach) : ∀ (f known c : Nat) (mk : List Nat), marksL M f known c mk = (wh (fun (b : Nat × Nat × List Nat) => decide (b.1 < b.2.1)) (fun b => (b.2.1, cnt (sig M b.2.2), num [] (sig M b.2.2))) f (known, c, mk)).2.2
  | 0, _, _, _ => rfl
  | f + 1, known, c, mk => by
    simp only [marksL, wh, decide_eq_true_eq]
    split
    · exact marksL_wh M f _ _ _
    · rfl
theorem room_marks_ok {k : Nat} {M : Mach} (g : Good k M) (h1 : M ≠ []) (h2 : M.length ≤ 1000) (hk : k ≤ 4) (ht : M.length + 2 < (stOf p (n + 1)).turns) : (stOf p (n + 2)).call F.machines_room_marks [machU M] m = .ok (.lst ((marks M).map iu)) m := by
  rw [H.room_marks.call, run_def _ _ _ rfl]
  have c1 : evalE (stOf p (n + 1)) (.comp (.op .ix [(.var 1), (.lit (.int 0))]) (.one 1) 0 [(.var 0)] [1] none) ⟨[.val (machU M), .no, .no, .no, .no, .no], m⟩ = .ok (.lst (M.map fun r => nts r.1)) ⟨[.val (machU M), .no, .no, .no, .no, .no], m⟩ := by
    refine ev_compM (avs := [.v (machU M)]) (xs := M.map roomU) M roomU (fun r => nts r.1) (by simp) (by simp [walkA, walk]) rfl (by simp [stillIs]) (by simp) (by have := line_ge; omega) ?_
    intro r hr
    exact ⟨⟨[.val (machU M), .val (roomU r), .no, .no, .no, .no], m⟩, by simp, by simp, by simp [stillIs], by simp⟩
  have n1 := numbered_ok n m H encT (M.map (·.1)) (by simp; omega)
  simp only [List.map_map] at n1
  have n1 : (stOf p (n + 1)).call F.machines_numbered [.lst (M.map fun r => nts r.1)] m = .ok (.lst ((num [] (M.map (·.1))).map iu)) m := n1
  let St : Nat × Nat × List Nat → Sta := fun b => ⟨[.val (machU M), .no, .val (.lst (b.2.2.map iu)), .val (iu b.1), .no, .no], m⟩
  have hcond : ∀ b : Nat × Nat × List Nat, (b.2.2.length = M.length ∧ MaxIs b.2.2 b.2.1 ∧ b.2.1 ≤ M.length) → condOf (fun s => evalE (stOf p (n + 1)) (.op .ge [(.op .max1 [(.var 2)]), (.var 3)]) s) (.op .ge [(.op .max1 [(.var 2)]), (.var 3)]) (St b) = .ok (decide (b.1 < b.2.1)) (St b) := by
    rintro ⟨known, c, mk⟩ ⟨i1, i2, i3⟩
    have := i2.op (g := stOf p (n + 1))
    simp [St, this]
    have := i2.pos
    omega
  have hstep : ∀ b : Nat × Nat × List Nat, (b.2.2.length = M.length ∧ MaxIs b.2.2 b.2.1 ∧ b.2.1 ≤ M.length) → decide (b.1 < b.2.1) = true → (execs (stOf p (n + 1)) [.set (.one 3) (.op .add [(.op .max1 [(.var 2)]), (.lit (.int 1))]),
      .set (.one 2) (.call F.machines_numbered [(.comp (.op .tup [(.op .ix [(.var 2), (.var 5)]), (.op .tupOf [(.comp (.op .ix [(.var 2), (.var 4)]) (.one 4) 0 [(.op .ix [(.var 1), (.lit (.int 1))])] [4] none)])]) (.tup [(.one 5), (.one 1)]) 3 [(.var 0)] [5, 1] none)])] (St b) = .ok .next (St (b.2.1, cnt (sig M b.2.2), num [] (sig M b.2.2)))) := by
    rintro ⟨known, c, mk⟩ ⟨i1, i2, i3⟩ _
    have hm := i2.op (g := stOf p (n + 1))
    have e1 : execS (stOf p (n + 1)) (.set (.one 3) (.op .add [(.op .max1 [(.var 2)]), (.lit (.int 1))])) (St (known, c, mk)) = .ok .next (St (c, c, mk)) := by
      simp [St, hm]
    have c2 : evalE (stOf p (n + 1)) (.comp (.op .tup [(.op .ix [(.var 2), (.var 5)]), (.op .tupOf [(.comp (.op .ix [(.var 2), (.var 4)]) (.one 4) 0 [(.op .ix [(.var 1), (.lit (.int 1))])] [4] none)])]) (.tup [(.one 5), (.one 1)]) 3 [(.var 0)] [5, 1] none) (St (c, c, mk)) = .ok (.lst ((sig M mk).map pairU)) (St (c, c, mk)) := by
      have e3 : (sig M mk).map pairU = (M.mapIdx fun i r => (i, r)).map fun (q : Nat × Room) => pairU (mk.getD q.1 0, q.2.2.map fun j => mk.getD j 0) := by
        unfold sig
        rw [map_mapIdx', map_mapIdx']
      rw [e3]
      refine ev_compM (avs := [.v (machU M)]) (xs := (M.map roomU).mapIdx fun i x => .prs [.int i, x]) (M.mapIdx fun i r => (i, r)) (fun q => .prs [iu q.1, roomU q.2]) _ (by simp [St]) (by simp [walkA, walk, St]) (by rw [map_mapIdx', mapIdx_map']; rfl) (by simp [stillIs, St]) (by simp [St]) (by simp; have := line_ge; omega) ?_
      rintro ⟨i, r⟩ hq
      obtain ⟨i', hi', e⟩ := List.mem_mapIdx.1 hq
      simp only [Prod.mk.injEq] at e
      obtain ⟨rfl, rfl⟩ := e
      have hr : M[i'] ∈ M := List.getElem_mem hi'
      have c3 : evalE (stOf p (n + 1)) (.comp (.op .ix [(.var 2), (.var 4)]) (.one 4) 0 [(.op .ix [(.var 1), (.lit (.int 1))])] [4] none) ⟨[.val (machU M), .val (roomU M[i']), .val (.lst (mk.map iu)), .val (iu c), .no, .val (iu i')], m⟩ = .ok (.lst (M[i'].2.map fun j => iu (mk.getD j 0))) ⟨[.val (machU M), .val (roomU M[i']), .val (.lst (mk.map iu)), .val (iu c), .no, .val (iu i')], m⟩ := by
        refine ev_compM (avs := [.v (nts M[i'].2)]) (xs := M[i'].2.map iu) M[i'].2 iu (fun j => iu (mk.getD j 0)) (by simp) (by simp [walkA, walk]) rfl (by simp [stillIs]) (by simp) (by rw [g.many _ hr]; have := line_ge; omega) ?_
        intro j hj
        have hjl : j < mk.length := by rw [i1]; exact g.rest _ hr j hj
        exact ⟨⟨[.val (machU M), .val (roomU M[i']), .val (.lst (mk.map iu)), .val (iu c), .val (iu j), .val (iu i')], m⟩, by simp, by simp [hjl], by simp [stillIs], by simp⟩
      refine ⟨⟨[.val (machU M), .val (roomU M[i']), .val (.lst (mk.map iu)), .val (iu c), .no, .val (iu i')], m⟩, by simp [St], ?_, by simp [stillIs, St], by simp [St]⟩
      have hil : i' < mk.length := by rw [i1]; exact hi'
      have h2 : 2 ≤ line := by have := line_ge; omega
      simp only [iu_eq, roomU_eq] at c3
      simp [c3, hil, okT, h2, pairU]
    have n2 := numbered_ok n m H encP (sig M mk) (by rw [sig_len]; omega)
    rw [x_cons, e1, bind_ok]
    simp only [x_cons, x_nil, x_set, e_call, es_cons, es_nil, c2, bind_ok, b_one]
    simp [St, n2]
  obtain ⟨l1, l2, l3⟩ := turnsW_wh (St := St) (c := fun s => condOf (fun s => evalE (stOf p (n + 1)) (.op .ge [(.op .max1 [(.var 2)]), (.var 3)]) s) (.op .ge [(.op .max1 [(.var 2)]), (.var 3)]) s)
    (f := fun s => execs (stOf p (n + 1)) [.set (.one 3) (.op .add [(.op .max1 [(.var 2)]), (.lit (.int 1))]),
      .set (.one 2) (.call F.machines_numbered [(.comp (.op .tup [(.op .ix [(.var 2), (.var 5)]), (.op .tupOf [(.comp (.op .ix [(.var 2), (.var 4)]) (.one 4) 0 [(.op .ix [(.var 1), (.lit (.int 1))])] [4] none)])]) (.tup [(.one 5), (.one 1)]) 3 [(.var 0)] [5, 1] none)])] s)
    (cond := fun b => decide (b.1 < b.2.1)) (step := fun b => (b.2.1, cnt (sig M b.2.2), num [] (sig M b.2.2))) (μ := fun b => M.length + 1 - b.1) (I := fun b => b.2.2.length = M.length ∧ MaxIs b.2.2 b.2.1 ∧ b.2.1 ≤ M.length) hcond (fun b hi hc => ⟨.inl (hstep b hi hc), ⟨by rw [num_len, sig_len], maxIs_num (by intro e; have := sig_len M b.2.2; rw [e] at this; simp at this; exact h1 (List.length_eq_zero_iff.1 this.symm)), by have := cnt_le (sig M b.2.2); rw [sig_len] at this; exact this⟩, by
      have := hi.2.2
      simp only [decide_eq_true_eq] at hc
      simp only
      omega⟩) (M.length + 2) (stOf p (n + 1)).turns (0, cnt (M.map (·.1)), num [] (M.map (·.1))) (by simp) ht
    ⟨by rw [num_len]; simp, maxIs_num (by simpa using h1), by have := cnt_le (M.map (·.1)); simpa using this⟩
  have em : marks M = (wh (fun (b : Nat × Nat × List Nat) => decide (b.1 < b.2.1)) (fun b => (b.2.1, cnt (sig M b.2.2), num [] (sig M b.2.2))) (M.length + 2) (0, cnt (M.map (·.1)), num [] (M.map (·.1)))).2.2 := marksL_wh M (M.length + 2) 0 _ _
  rw [em]
  revert l1
  generalize wh (fun (b : Nat × Nat × List Nat) => decide (b.1 < b.2.1)) (fun b => (b.2.1, cnt (sig M b.2.2), num [] (sig M b.2.2))) (M.length + 2) (0, cnt (M.map (·.1)), num [] (M.map (·.1))) = bf
  intro l1
  refine run_ret (s := St bf) LB.d_machines_room_marks [machU M] m rfl ?_
  have i1 : execS (stOf p (n + 1)) (.set (.one 2) (.call F.machines_numbered [(.comp (.op .ix [(.var 1), (.lit (.int 0))]) (.one 1) 0 [(.var 0)] [1] none)])) ⟨[.val (machU M), .no, .no, .no, .no, .no], m⟩ = .ok .next ⟨[.val (machU M), .no, .val (.lst ((num [] (M.map (·.1))).map iu)), .no, .no, .no], m⟩ := by
    simp [c1, n1]
  have i2 : execS (stOf p (n + 1)) (.set (.one 3) (.lit (.int 0))) ⟨[.val (machU M), .no, .val (.lst ((num [] (M.map (·.1))).map iu)), .no, .no, .no], m⟩ = .ok .next (St (0, cnt (M.map (·.1)), num [] (M.map (·.1)))) := by
    simp [St]
  have hw := (x_whil (g := stOf p (n + 1)) (s := St (0, cnt (M.map (·.1)), num [] (M.map (·.1)))) _ _).trans l1
  exact (x_seq i1).trans ((x_seq i2).trans ((x_seq hw).trans (x_last (by simp [St]))))
omit H in
theorem encI : Enc iu := by
  refine ⟨fun a b => eqU_iu a b, fun ks x => ?_⟩
  unfold kOk
  have h : (ks.map iu).all isIS = true := by
    rw [List.all_map, List.all_eq_true]
    intro a _
    rfl
  rw [h]
  rfl
end
end MPE
set_option maxRecDepth 100000
set_option maxHeartbeats 4000000
/-! E14: tables of words, walked. -/
namespace MPE
open MP
open MM
structure HTab (p : Prg) : Prop extends HWords p where
  gone_over : Has p F.tables_gone_over LB.d_tables_gone_over
  parted : Has p F.tables_parted LB.d_tables_parted
  alike : Has p F.tables_alike LB.d_tables_alike
def ztsF (w : List Int) : U := zts w
theorem ztsF_eq (w : List Int) : ztsF w = zts w := Eq.trans rfl rfl
theorem keyTs_z (n : Nat) : ∀ w : List Int, keyTs n (w.map U.int) = true
  | [] => by rw [List.map_nil, keyTs]
  | a :: w => by rw [List.map_cons, keyTs, keyTs_z n w, keyT]; rfl
theorem encZ : Enc ztsF := by
  refine ⟨fun a b => ?_, fun ks x => ?_⟩
  · unfold ztsF
    rw [eqU_tt, eqUs_z]
  · have h2 : keyT 7 (ztsF x) = true := by
      unfold ztsF
      rw [keyT, keyTs_z]
    unfold kOk
    rw [h2]
    simp [isIS, isTupU, ztsF]
def zr (i : Nat) : U := nts (List.replicate i 0)
def metU (ws : List (List Int)) : U := .lst (ws.map ztsF)
def rowsU (ws : List (List Int)) : U := .dic (ws.map ztsF) ((List.range ws.length).map zr)
def stG (k : Nat) (T W : List Nat) (w0 : List Int) (m : List U) (ws : List (List Int)) (a : Nat) (j6 j7 j8 j9 j10 j11 : Slt) : Sta :=
  ⟨[.val (bookU k T W), .val (zts w0), .val (nts (List.range k)), .own (metU ws), .own (rowsU ws), .val (.int a), j6, j7, j8, j9, j10, j11], m⟩
def fb : List MS := [.set (.one 11) (.call F.rows_behind_one [(.var 0), (.var 6), (.var 8)]),
  .ife (.op .inn [(.var 11), (.var 4)]) [.cont] [],
  .ife (.op .eq [(.op .len [(.var 3)]), (.glo G.MOST_WORDS (.int 100))]) [.raise C.TooMany []] [],
  .setIx (.var 4) (.var 11) (.op .add [(.op .ix [(.var 4), (.var 6)]), (.op .tup [(.var 8)])]),
  .expr (.mut .append (.var 3) [(.var 11)])]
def wb : List MS := [.set (.one 6) (.op .ix [(.var 3), (.var 5)]),
  .set (.one 7) (.call F.rows_turn_by [(.var 0), (.var 6)]),
  .ife (.op .ne [(.var 7), (.var 2)]) [.set (.one 10) (.comp (.var 8) (.tup [(.one 8), (.one 9)]) 3 [(.var 7)] [8, 9] (some (.op .ne [(.var 8), (.var 9)]))),
  .ret (.op .tup [(.mv 3), (.op .add [(.op .ix [(.var 4), (.var 6)]), (.op .tup [(.op .ix [(.var 10), (.lit (.int 0))])])])])] [],
  .forr (.one 8) 1 [(.meth (.var 0) M.letters [])] fb,
  .aug 5 .add (.lit (.int 1))]
theorem zr_succ (a : Nat) : opAdd [zr a, .tup [iu 0]] = okT ((List.replicate (a + 1) 0).map iu) := by
  unfold zr opAdd
  rw [List.replicate_succ']
  simp
theorem rows_get {ws : List (List Int)} {a : Nat} {w : List Int} (nd : ws.Nodup) (h : ws[a]? = some w) : MP.dget (ws.map ztsF) ((List.range ws.length).map zr) (ztsF w) = some (zr a) := by
  obtain ⟨hl, rfl⟩ := List.getElem?_eq_some_iff.1 h
  rw [encZ.dget _ _ _ (by simp), if_pos (List.getElem_mem hl), idxOf_at nd hl, List.getElem?_map, List.getElem?_range hl]
  rfl
theorem rows_put {ws : List (List Int)} {w : List Int} (h : w ∉ ws) : dput (ws.map ztsF) ((List.range ws.length).map zr) (ztsF w) (zr ws.length) = ((ws ++ [w]).map ztsF, (List.range (ws ++ [w]).length).map zr) := by
  unfold dput
  rw [encZ.mem]
  simp [h, List.range_succ]
section
variable {p : Prg} (n : Nat) (m : List U) (H : HTab p) {k : Nat} {T W : List Nat} {L : Int → Nat} {d : Int}
include H
theorem t_still (hk : K24 k) : (stOf p (n + 3)).call F.turns_still_turn [.int k] m = .ok (nts (List.range k)) m := by
  rw [H.still.call, run_def _ _ _ rfl]
  have q1 := is_between_int n m H.toHTurns k 2 4
  have h1 := hk.lo
  have h2 := hk.hi
  have h3 : decide ((2 : Int) ≤ k) = true := by simp; omega
  have h4 : decide ((k : Int) ≤ 4) = true := by simp; omega
  rw [h3, h4] at q1
  have hR := tupR1_iu (g := stOf p (n + 2)) k (by omega)
  simp [LB.d_turns_still_turn, slots0, q1, hR]
/-- one letter -/
theorem t_letter (R : RingB k T W L d) (w0 : List Int) {ws : List (List Int)} {a : Nat} {w : List Int} {x : Nat} (hx : x < k) (nd : ws.Nodup) (hw : ws[a]? = some w) (hs : ∀ s ∈ w, IsStep s) (hl : w.length ≤ 200) (h0 : sums w % k = 0) (hc : ws.length < 100) (hn : pw d (sums w / k) ∉ ws → x = 0 ∧ ws.length = a + 1) (j7 j9 j10 j11 : Slt) :
    ∃ fl, (fl = .next ∨ fl = .cont) ∧ execs (stOf p (n + 5)) fb (stG k T W w0 m ws a (.val (zts w)) j7 (.val (.int x)) j9 j10 j11) = .ok fl (stG k T W w0 m (if pw d (sums w / k) ∈ ws then ws else ws ++ [pw d (sums w / k)]) a (.val (zts w)) j7 (.val (.int x)) j9 j10 (.val (zts (pw d (sums w / k))))) := by
  have q := w_behind n m H.toHWords R.gb hs hl hx
  rw [behind_L R hs hx h0] at q
  generalize hv : pw d (sums w / k) = v at *
  have s1 : execS (stOf p (n + 5)) (.set (.one 11) (.call F.rows_behind_one [(.var 0), (.var 6), (.var 8)])) (stG k T W w0 m ws a (.val (zts w)) j7 (.val (.int x)) j9 j10 j11) = .ok .next (stG k T W w0 m ws a (.val (zts w)) j7 (.val (.int x)) j9 j10 (.val (zts v))) := by
    unfold stG
    generalize rowsU ws = r at *
    generalize metU ws = mm at *
    simp [q]
  have hkey := encZ.key ws v
  have hmem := encZ.mem v ws
  rw [ztsF_eq] at hkey hmem
  by_cases hin : v ∈ ws
  · refine ⟨.cont, .inr rfl, ?_⟩
    rw [if_pos hin]
    unfold fb
    rw [x_seq s1]
    unfold stG rowsU
    simp only [hin, decide_true] at hmem
    simp [hkey, hmem]
  · refine ⟨.next, .inl rfl, ?_⟩
    rw [if_neg hin]
    obtain ⟨rfl, hlen⟩ := hn hin
    have s2 : execS (stOf p (n + 5)) (.ife (.op .inn [(.var 11), (.var 4)]) [.cont] []) (stG k T W w0 m ws a (.val (zts w)) j7 (.val (.int (0 : Nat))) j9 j10 (.val (zts v))) = .ok .next (stG k T W w0 m ws a (.val (zts w)) j7 (.val (.int (0 : Nat))) j9 j10 (.val (zts v))) := by
      unfold stG rowsU
      simp only [hin, decide_false] at hmem
      simp [hkey, hmem]
    have s3 : execS (stOf p (n + 5)) (.ife (.op .eq [(.op .len [(.var 3)]), (.glo G.MOST_WORDS (.int 100))]) [.raise C.TooMany []] []) (stG k T W w0 m ws a (.val (zts w)) j7 (.val (.int (0 : Nat))) j9 j10 (.val (zts v))) = .ok .next (stG k T W w0 m ws a (.val (zts w)) j7 (.val (.int (0 : Nat))) j9 j10 (.val (zts v))) := by
      have h1 : ¬ ((ws.length : Int) = 100) := by omega
      unfold stG metU
      generalize rowsU ws = r at *
      simp [h1]
    have hkw := encZ.key ws w
    have hget := rows_get nd hw
    have hput := rows_put hin
    have hzr := zr_succ a
    have hline : a + 1 ≤ line := by have := line_ge; omega
    have h1line : 1 ≤ line := by have := line_ge; omega
    have hlw : ws.length < line := by have := line_ge; omega
    rw [ztsF_eq] at hkw hget hput
    have hok : okT ((List.replicate (a + 1) 0).map iu) = some (zr ws.length) := by
      unfold okT zr
      rw [if_pos (by simpa using hline), hlen]
    rw [hok] at hzr
    have s4 : execS (stOf p (n + 5)) (.setIx (.var 4) (.var 11) (.op .add [(.op .ix [(.var 4), (.var 6)]), (.op .tup [(.var 8)])])) (stG k T W w0 m ws a (.val (zts w)) j7 (.val (.int (0 : Nat))) j9 j10 (.val (zts v))) = .ok .next ⟨[.val (bookU k T W), .val (zts w0), .val (nts (List.range k)), .own (metU ws), .own (rowsU (ws ++ [v])), .val (.int a), .val (zts w), j7, .val (.int (0 : Nat)), j9, j10, .val (zts v)], m⟩ := by
      have e1 : opSem (stOf p (n + 5)) .add [zr a, .tup [.int 0]] = some (zr ws.length) := (Eq.trans rfl rfl : opSem (stOf p (n + 5)) .add [zr a, .tup [.int 0]] = opAdd [zr a, .tup [iu 0]]).trans hzr
      have e2 : okT [.int 0] = some (.tup [.int 0]) := by unfold okT; rw [if_pos (by simpa using h1line)]
      have e3 : cont m (zr a) = zr a := Eq.trans rfl rfl
      unfold stG rowsU
      generalize metU ws = mm at *
      generalize zr ws.length = zz at *
      simp [hkw, hget, e1, e2, e3, mutSem, muSetIx, hkey, hlw, hput, setC]
    have s5 : execS (stOf p (n + 5)) (.expr (.mut .append (.var 3) [(.var 11)])) ⟨[.val (bookU k T W), .val (zts w0), .val (nts (List.range k)), .own (metU ws), .own (rowsU (ws ++ [v])), .val (.int a), .val (zts w), j7, .val (.int (0 : Nat)), j9, j10, .val (zts v)], m⟩ = .ok .next (stG k T W w0 m (ws ++ [v]) a (.val (zts w)) j7 (.val (.int (0 : Nat))) j9 j10 (.val (zts v))) := by
      unfold stG metU
      generalize rowsU (ws ++ [v]) = r at *
      simp [kindN, Mop.kind, mutF, mutSem, muAppend, hlw, setC, ztsF_eq]
    unfold fb
    exact (x_seq s1).trans ((x_seq s2).trans ((x_seq s3).trans ((x_seq s4).trans ((x_seq s5).trans x_nil))))
/-- one word whose turn is still -/
theorem t_word (R : RingB k T W L d) (w0 : List Int) {ws : List (List Int)} {a : Nat} {w : List Int} (nd : ws.Nodup) (hw : ws[a]? = some w) (hs : ∀ s ∈ w, IsStep s) (hl : w.length ≤ 200) (h0 : sums w % k = 0) (hc : ws.length < 99) (hn : pw d (sums w / k) ∉ ws → ws.length = a + 1) {j6 j7 j8 j9 j10 j11 : Slt} (h8 : notOwn j8 = true) (h9 : notOwn j9 = true) :
    ∃ i6 i7 i8 i9 i10 i11, notOwn i8 = true ∧ notOwn i9 = true ∧ execs (stOf p (n + 5)) wb (stG k T W w0 m ws a j6 j7 j8 j9 j10 j11) = .ok .next (stG k T W w0 m (if pw d (sums w / k) ∈ ws then ws else ws ++ [pw d (sums w / k)]) (a + 1) i6 i7 i8 i9 i10 i11) := by
  have hk := R.gb.kk
  have qt := w_turn_by n m H.toHWords R.gb hs (by omega)
  rw [turnL_still R hs h0] at qt
  have s1 : execS (stOf p (n + 5)) (.set (.one 6) (.op .ix [(.var 3), (.var 5)])) (stG k T W w0 m ws a j6 j7 j8 j9 j10 j11) = .ok .next (stG k T W w0 m ws a (.val (zts w)) j7 j8 j9 j10 j11) := by
    unfold stG metU
    generalize rowsU ws = r at *
    simp [hw, ztsF_eq]
  have s2 : execS (stOf p (n + 5)) (.set (.one 7) (.call F.rows_turn_by [(.var 0), (.var 6)])) (stG k T W w0 m ws a (.val (zts w)) j7 j8 j9 j10 j11) = .ok .next (stG k T W w0 m ws a (.val (zts w)) (.val (nts (List.range k))) j8 j9 j10 j11) := by
    unfold stG
    generalize rowsU ws = r at *
    generalize metU ws = mm at *
    simp [qt]
  have s3 : execS (stOf p (n + 5)) (.ife (.op .ne [(.var 7), (.var 2)]) [.set (.one 10) (.comp (.var 8) (.tup [(.one 8), (.one 9)]) 3 [(.var 7)] [8, 9] (some (.op .ne [(.var 8), (.var 9)]))),
      .ret (.op .tup [(.mv 3), (.op .add [(.op .ix [(.var 4), (.var 6)]), (.op .tup [(.op .ix [(.var 10), (.lit (.int 0))])])])])] []) (stG k T W w0 m ws a (.val (zts w)) (.val (nts (List.range k))) j8 j9 j10 j11) = .ok .next (stG k T W w0 m ws a (.val (zts w)) (.val (nts (List.range k))) j8 j9 j10 j11) := by
    refine (x_ifF ?_).trans x_nil
    unfold stG
    generalize rowsU ws = r at *
    generalize metU ws = mm at *
    simp
  generalize hws' : (if pw d (sums w / k) ∈ ws then ws else ws ++ [pw d (sums w / k)]) = ws' at *
  have hv' : pw d (sums w / k) ∈ ws' := by
    rw [← hws']; split
    · assumption
    · simp
  have nd' : ws'.Nodup := by
    rw [← hws']; split
    · exact nd
    · rename_i h; rw [List.nodup_append]; exact ⟨nd, by simp, fun x hx y hy => by simp at hy; subst hy; intro e; subst e; exact h hx⟩
  have hw' : ws'[a]? = some w := by
    rw [← hws']; split
    · exact hw
    · rw [List.getElem?_append_left (List.getElem?_eq_some_iff.1 hw).1]; exact hw
  have hc' : ws'.length < 100 := by
    rw [← hws']; split
    · omega
    · simp; omega
  obtain ⟨s', q1, ⟨i8, i9, i11, b8, b9, e⟩⟩ := turnsF_relI (R := fun i s => ∃ i8 i9 i11, notOwn i8 = true ∧ notOwn i9 = true ∧ s = stG k T W w0 m (if i = 0 then ws else ws') a (.val (zts w)) (.val (nts (List.range k))) i8 i9 j10 i11)
    (f := fun x s1 => match bindT (.one 8) x s1 with
      | some s2 => (execs (stOf p (n + 5)) fb s2).bind fun fl s3 => if stillIs (stG k T W w0 m ws a (.val (zts w)) (.val (nts (List.range k))) j8 j9 j10 j11) s3 [.v (.int k)] then .ok fl s3 else .stuck
      | none => .stuck) (enc := iu) (List.range k) (stG k T W w0 m ws a (.val (zts w)) (.val (nts (List.range k))) j8 j9 j10 j11) ⟨j8, j9, j11, h8, h9, by simp⟩ (by
    rintro i s x hx ⟨i8, i9, i11, b8, b9, rfl⟩
    have hi : i < k := by have := (List.getElem?_eq_some_iff.1 hx).1; simpa using this
    have hxi : x = i := by rw [List.getElem?_range hi] at hx; exact (Option.some.inj hx).symm
    subst hxi
    refine ⟨stG k T W w0 m ws' a (.val (zts w)) (.val (nts (List.range k))) (.val (.int x)) i9 j10 (.val (zts (pw d (sums w / k)))), ?_, .val (.int x), i9, .val (zts (pw d (sums w / k))), rfl, b9, by simp⟩
    have hb : bindT (.one 8) (iu x) (stG k T W w0 m (if x = 0 then ws else ws') a (.val (zts w)) (.val (nts (List.range k))) i8 i9 j10 i11) = some (stG k T W w0 m (if x = 0 then ws else ws') a (.val (zts w)) (.val (nts (List.range k))) (.val (.int x)) i9 j10 i11) := by
      unfold stG
      simp
    by_cases hx0 : x = 0
    · rw [if_pos hx0] at hb ⊢
      obtain ⟨fl, hfl, he⟩ := t_letter n m H R w0 hi nd hw hs hl h0 (by omega) (fun h => ⟨hx0, hn h⟩) (.val (nts (List.range k))) i9 j10 i11
      rw [hws'] at he
      rcases hfl with rfl | rfl
      · left; simp only [hb, he, bind_ok]; simp [stillIs]
      · right; simp only [hb, he, bind_ok]; simp [stillIs]
    · rw [if_neg hx0] at hb ⊢
      obtain ⟨fl, hfl, he⟩ := t_letter n m H R w0 hi nd' hw' hs hl h0 hc' (fun h => absurd hv' h) (.val (nts (List.range k))) i9 j10 i11
      rw [if_pos hv'] at he
      rcases hfl with rfl | rfl
      · left; simp only [hb, he, bind_ok]; simp [stillIs]
      · right; simp only [hb, he, bind_ok]; simp [stillIs])
  have hk0 : ¬ (k = 0) := by have := hk.lo; omega
  simp only [List.length_range, hk0, if_false] at e
  subst e
  have ql := b_letters (n + 4) m H.toHBook (k := k) (T := T) (W := W)
  have s4 := x_forr (g := stOf p (n + 5)) (s := stG k T W w0 m ws a (.val (zts w)) (.val (nts (List.range k))) j8 j9 j10 j11) (.one 8) 1 [(.meth (.var 0) M.letters [])] fb
  have hwalk : evalAs (stOf p (n + 5)) [(.meth (.var 0) M.letters [])] (stG k T W w0 m ws a (.val (zts w)) (.val (nts (List.range k))) j8 j9 j10 j11) = .ok [.v (.int k)] (stG k T W w0 m ws a (.val (zts w)) (.val (nts (List.range k))) j8 j9 j10 j11) := by
    unfold stG
    unfold bookU at ql ⊢
    simp [H.mletters, ql]
  have hsm : small (k : Int) = true := small_of (by omega) (by have := hk.hi; omega)
  have hw2 : walkA 1 [.v (.int k)] (stG k T W w0 m ws a (.val (zts w)) (.val (nts (List.range k))) j8 j9 j10 j11) = some ((List.range k).map iu) := by
    simp only [walkA, List.all_cons, ok_v, List.all_nil, Bool.and_self, if_true, List.map_cons, List.map_nil, get_v, cont_int, walk, hsm, rng_iu]
  rw [hwalk] at s4
  simp only [bind_ok, hw2] at s4
  refine ⟨.val (zts w), .val (nts (List.range k)), i8, i9, j10, i11, b8, b9, ?_⟩
  have s5 : execS (stOf p (n + 5)) (.aug 5 .add (.lit (.int 1))) (stG k T W w0 m ws' a (.val (zts w)) (.val (nts (List.range k))) i8 i9 j10 i11) = .ok .next (stG k T W w0 m ws' (a + 1) (.val (zts w)) (.val (nts (List.range k))) i8 i9 j10 i11) := by
    unfold stG
    generalize rowsU ws' = r at *
    generalize metU ws' = mm at *
    simp [opAug]
  unfold wb
  exact (x_seq s1).trans ((x_seq s2).trans ((x_seq s3).trans ((x_seq (s4.trans q1)).trans ((x_seq s5).trans x_nil))))
end
end MPE
set_option maxRecDepth 100000
set_option maxHeartbeats 4000000
/-! E15: tables of words: gone over, parted, alike. -/
namespace MPE
open MP
open MM
/-- how often k divides -/
def zk (k : Nat) : Nat → Nat → Nat
  | 0, _ => 0
  | f + 1, m => if m % k = 0 then zk k f (m / k) + 1 else 0
theorem filt_all {α : Type} (g : α → U) (h : U → Option U) (r : α → U) : ∀ l : List α, (∀ i ∈ l, h (g i) = some (r i)) → (l.map g).filterMap h = l.map r
  | [], _ => rfl
  | a :: l, hh => by
    rw [List.map_cons, List.filterMap_cons, hh a (by simp), List.map_cons, filt_all g h r l fun i hi => hh i (by simp [hi])]
theorem div_abs {k : Nat} (hk : K24 k) {S : Int} (h : S % k = 0) : S.natAbs % k = 0 ∧ (S / k).natAbs = S.natAbs / k := by
  rcases hk.cases with rfl | rfl | rfl <;> omega
theorem mod_abs {k : Nat} (hk : K24 k) {S : Int} (h : ¬ S % k = 0) : ¬ S.natAbs % k = 0 := by
  rcases hk.cases with rfl | rfl | rfl <;> omega
theorem div_lt {k : Nat} (hk : K24 k) {S : Int} (h : S ≠ 0) (h0 : S % k = 0) : S / k ≠ 0 ∧ 2 * (S / k).natAbs ≤ S.natAbs := by
  rcases hk.cases with rfl | rfl | rfl <;> omega
def gc : ME := .op .lt [(.var 5), (.op .len [(.var 3)])]
def cmpC : ME := .comp (.var 8) (.tup [(.one 8), (.one 9)]) 3 [(.var 7)] [8, 9] (some (.op .ne [(.var 8), (.var 9)]))
section
variable {p : Prg} (n : Nat) (m : List U) (H : HTab p) {k : Nat} {T W : List Nat} {L : Int → Nat} {d : Int}
include H
theorem t_end (R : RingB k T W L d) (w0 : List Int) {ws : List (List Int)} {a : Nat} {w : List Int} (nd : ws.Nodup) (hw : ws[a]? = some w) (hs : ∀ s ∈ w, IsStep s) (hl : w.length ≤ 200) (h0 : ¬ sums w % k = 0) (hc : a ≤ 1000) {j6 j7 j8 j9 j10 j11 : Slt} (h8 : notOwn j8 = true) (h9 : notOwn j9 = true) :
    ∃ u s', s'.m = m ∧ execs (stOf p (n + 5)) wb (stG k T W w0 m ws a j6 j7 j8 j9 j10 j11) = .ok (.ret (.tup [u, zr (a + 1)])) s' := by
  have hk := R.gb.kk
  have qt := w_turn_by n m H.toHWords R.gb hs (by omega)
  rw [turnL_eq] at qt
  have hmv : ∀ i ∈ List.range k, led T w i ≠ i := fun i hi => fun e => h0 ((led_same R hs (List.mem_range.1 hi)).1 e)
  generalize led T w = f at *
  have hne : ¬ (List.range k).map f = List.range k := by
    intro e
    have h00 : 0 < k := by have := hk.lo; omega
    have := congrArg (fun l => l[0]?) e
    simp [h00] at this
    exact hmv 0 (by simpa using h00) this
  have s1 : execS (stOf p (n + 5)) (.set (.one 6) (.op .ix [(.var 3), (.var 5)])) (stG k T W w0 m ws a j6 j7 j8 j9 j10 j11) = .ok .next (stG k T W w0 m ws a (.val (zts w)) j7 j8 j9 j10 j11) := by
    unfold stG metU
    generalize rowsU ws = r at *
    simp [hw, ztsF_eq]
  have s2 : execS (stOf p (n + 5)) (.set (.one 7) (.call F.rows_turn_by [(.var 0), (.var 6)])) (stG k T W w0 m ws a (.val (zts w)) j7 j8 j9 j10 j11) = .ok .next (stG k T W w0 m ws a (.val (zts w)) (.val (nts ((List.range k).map f))) j8 j9 j10 j11) := by
    unfold stG
    generalize rowsU ws = r at *
    generalize metU ws = mm at *
    generalize (List.range k).map f = t at *
    simp [qt]
  have hcomp : evalE (stOf p (n + 5)) cmpC (stG k T W w0 m ws a (.val (zts w)) (.val (nts ((List.range k).map f))) j8 j9 j10 j11) = .ok (nls (List.range k)) (stG k T W w0 m ws a (.val (zts w)) (.val (nts ((List.range k).map f))) j8 j9 j10 j11) := by
    have hxs : ((((List.range k).map f).map iu).mapIdx fun i x => U.prs [.int i, x]) = (List.range k).map fun i : Nat => U.prs [.int (i : Nat), .int (f i : Nat)] := by
      apply List.ext_getElem
      · simp
      · intro i h1 h2
        simp
    have z := ev_compIf (g := stOf p (n + 5)) (e := .var 8) (c := .op .ne [(.var 8), (.var 9)]) (t := .tup [(.one 8), (.one 9)]) (k := 3) (its := [.var 7]) (own := [8, 9]) (s := stG k T W w0 m ws a (.val (zts w)) (.val (nts ((List.range k).map f))) j8 j9 j10 j11) (avs := [.v (nts ((List.range k).map f))]) (xs := (List.range k).map fun i : Nat => U.prs [.int (i : Nat), .int (f i : Nat)]) (fun u => match u with | .prs [.int i, .int y] => if i ≠ y then some (.int i) else none | _ => none) (by unfold stG; simp) (by rw [← hxs]; simp only [walkA, List.all_cons, ok_v, List.all_nil, Bool.and_self, if_true, List.map_cons, List.map_nil, get_v, cont_tup, walk]) (by simp [stillIs]) (by unfold stG; simp; revert h8 h9; cases j8 <;> cases j9 <;> simp [notOwn]) (by have := line_ge; have := hk.hi; simp; omega) ?_
    · unfold cmpC
      rw [z, filt_all (fun i => U.prs [.int (i : Nat), .int (f i : Nat)]) _ iu]
      intro i hi
      have := hmv i hi
      have h2 : ¬ ((i : Int) = (f i : Int)) := by omega
      simp [h2]
    · intro u hu
      obtain ⟨i, hi, rfl⟩ := List.mem_map.1 hu
      have := hmv i hi
      have h2 : ¬ ((i : Int) = (f i : Int)) := by omega
      refine ⟨stG k T W w0 m ws a (.val (zts w)) (.val (nts ((List.range k).map f))) (.val (.int i)) (.val (.int (f i))) j10 j11, by unfold stG; simp, by simp [stillIs], by unfold stG; simp, true, ?_, .int i, ?_, by unfold stG; simp⟩
      · unfold stG
        simp [h2]
      · simp [h2]
  have hkw := encZ.key ws w
  have hget := rows_get nd hw
  rw [ztsF_eq] at hkw hget
  have hline : a + 1 ≤ line := by have := line_ge; omega
  have h2line : 2 ≤ line := by have := line_ge; omega
  have h1line : 1 ≤ line := by omega
  have hzr := zr_succ a
  have hok : okT ((List.replicate (a + 1) 0).map iu) = some (zr (a + 1)) := by
    unfold okT zr
    rw [if_pos (by simpa using hline)]
  rw [hok] at hzr
  have e1 : opSem (stOf p (n + 5)) .add [zr a, .tup [.int 0]] = some (zr (a + 1)) := (Eq.trans rfl rfl : opSem (stOf p (n + 5)) .add [zr a, .tup [.int 0]] = opAdd [zr a, .tup [iu 0]]).trans hzr
  have e2 : okT [.int 0] = some (.tup [.int 0]) := by unfold okT; rw [if_pos (by simpa using h1line)]
  have e3 : cont m (zr a) = zr a := Eq.trans rfl rfl
  have h00 : 0 < k := by have := hk.lo; omega
  have s3 : execS (stOf p (n + 5)) (.ife (.op .ne [(.var 7), (.var 2)]) [.set (.one 10) cmpC,
      .ret (.op .tup [(.mv 3), (.op .add [(.op .ix [(.var 4), (.var 6)]), (.op .tup [(.op .ix [(.var 10), (.lit (.int 0))])])])])] []) (stG k T W w0 m ws a (.val (zts w)) (.val (nts ((List.range k).map f))) j8 j9 j10 j11) = .ok (.ret (.tup [metU ws, zr (a + 1)])) ⟨[.val (bookU k T W), .val (zts w0), .val (nts (List.range k)), .val (metU ws), .own (rowsU ws), .val (.int a), .val (zts w), .val (nts ((List.range k).map f)), j8, j9, .val (nls (List.range k)), j11], m⟩ := by
    refine (x_ifT (s' := stG k T W w0 m ws a (.val (zts w)) (.val (nts ((List.range k).map f))) j8 j9 j10 j11) ?_).trans ?_
    · generalize hct : (List.range k).map f = t at *
      unfold stG
      generalize rowsU ws = r at *
      generalize metU ws = mm at *
      simp [hne]
    · have hmt : tabU (metU ws) = false := rfl
      have s31 : execS (stOf p (n + 5)) (.set (.one 10) cmpC) (stG k T W w0 m ws a (.val (zts w)) (.val (nts ((List.range k).map f))) j8 j9 j10 j11) = .ok .next (stG k T W w0 m ws a (.val (zts w)) (.val (nts ((List.range k).map f))) j8 j9 (.val (nls (List.range k))) j11) := by
        rw [x_set, hcomp]
        unfold stG
        generalize rowsU ws = r at *
        generalize metU ws = mm at *
        simp
      refine (x_seq s31).trans (x_last ?_)
      have h0i : ((List.range k).map iu)[0]? = some (.int 0) := by simp [h00]
      unfold stG rowsU
      generalize (List.range k).map f = t at *
      generalize metU ws = mm at *
      generalize zr (a + 1) = zz at *
      generalize hrk : List.range k = rk at *
      simp [hmt, hkw, hget, e1, e2, e3, h0i, okT, h2line, h1line]
  exact ⟨metU ws, _, rfl, (x_seq s1).trans ((x_seq s2).trans (x_last s3))⟩
theorem t_cond {w0 : List Int} {ws : List (List Int)} {a : Nat} {j6 j7 j8 j9 j10 j11 : Slt} : condOf (fun s => evalE (stOf p (n + 5)) gc s) gc (stG k T W w0 m ws a j6 j7 j8 j9 j10 j11) = .ok (decide (a < ws.length)) (stG k T W w0 m ws a j6 j7 j8 j9 j10 j11) := by
  unfold gc stG metU
  generalize rowsU ws = r at *
  simp
theorem t_loop (R : RingB k T W L d) (w0 : List Int) : ∀ (f N : Nat), f < N → ∀ (ws : List (List Int)) (a : Nat) (w : List Int) (j6 j7 j8 j9 j10 j11 : Slt), ws.Nodup → ws.length = a + 1 → ws[a]? = some w → (∀ s ∈ w, IsStep s) → w.length ≤ 200 → sums w ≠ 0 → (sums w).natAbs ≤ f → (∀ v ∈ ws, (sums w).natAbs ≤ (sums v).natAbs) → (a = 0 ∧ (sums w).natAbs ≤ 100 ∨ a + (sums w).natAbs ≤ 60) → notOwn j8 = true → notOwn j9 = true →
    ∃ u s', s'.m = m ∧ turnsW (fun s => condOf (fun s => evalE (stOf p (n + 5)) gc s) gc s) (fun s => execs (stOf p (n + 5)) wb s) N (stG k T W w0 m ws a j6 j7 j8 j9 j10 j11) = .ok (.ret (.tup [u, zr (a + 1 + zk k f (sums w).natAbs)])) s'
  | 0, N, hN, ws, a, w, j6, j7, j8, j9, j10, j11, nd, hl, hw, hs, hwl, h0, hf, hv, ha, h8, h9 => by omega
  | f + 1, 0, hN, ws, a, w, j6, j7, j8, j9, j10, j11, nd, hl, hw, hs, hwl, h0, hf, hv, ha, h8, h9 => by omega
  | f + 1, N + 1, hN, ws, a, w, j6, j7, j8, j9, j10, j11, nd, hl, hw, hs, hwl, h0, hf, hv, ha, h8, h9 => by
    have hk := R.gb.kk
    have hcd := t_cond n m H (k := k) (T := T) (W := W) (w0 := w0) (ws := ws) (a := a) (j6 := j6) (j7 := j7) (j8 := j8) (j9 := j9) (j10 := j10) (j11 := j11)
    rw [decide_eq_true (by omega)] at hcd
    rw [turnsW]
    simp only [hcd, bind_ok, if_true]
    by_cases hm : sums w % k = 0
    · obtain ⟨d1, d2⟩ := div_abs hk hm
      obtain ⟨d3, d4⟩ := div_lt hk h0 hm
      have hfr : pw d (sums w / k) ∉ ws := fun h => by
        have := hv _ h
        rw [pw_sums R] at this
        omega
      obtain ⟨i6, i7, i8, i9, i10, i11, b8, b9, q⟩ := t_word n m H R w0 nd hw hs hwl hm (by omega) (fun _ => hl) (j6 := j6) (j7 := j7) (j10 := j10) (j11 := j11) h8 h9
      rw [if_neg hfr] at q
      obtain ⟨u, s', e1, e2⟩ := t_loop R w0 f N (by omega) (ws ++ [pw d (sums w / k)]) (a + 1) (pw d (sums w / k)) i6 i7 i8 i9 i10 i11 (by rw [List.nodup_append]; exact ⟨nd, by simp, fun x hx y hy => by simp at hy; subst hy; intro e; subst e; exact hfr hx⟩) (by simp [hl]) (by rw [List.getElem?_append_right (by omega), hl]; simp) (pw_step R _) (by rw [pw_len]; omega) (by rw [pw_sums R]; exact d3) (by rw [pw_sums R]; omega) (by
        rw [pw_sums R]
        intro v hv'
        rcases List.mem_append.1 hv' with h | h
        · have := hv v h; omega
        · simp at h; subst h; rw [pw_sums R]; omega) (by rw [pw_sums R]; omega) b8 b9
      rw [pw_sums R] at e2
      refine ⟨u, s', e1, ?_⟩
      rw [q]
      simp only [bind_ok]
      have ez : zk k (f + 1) (sums w).natAbs = zk k f ((sums w).natAbs / k) + 1 := by rw [zk, if_pos d1]
      rw [ez, ← Nat.add_assoc, Nat.add_right_comm]
      rw [d2] at e2
      exact e2
    · obtain ⟨u, s', e1, e2⟩ := t_end n m H R w0 nd hw hs hwl hm (by omega) (j6 := j6) (j7 := j7) (j10 := j10) (j11 := j11) h8 h9
      refine ⟨u, s', e1, ?_⟩
      rw [e2]
      have ez : zk k (f + 1) (sums w).natAbs = 0 := by rw [zk, if_neg (mod_abs hk hm)]
      rw [ez]
      rfl
end
end MPE
set_option maxRecDepth 100000
set_option maxHeartbeats 4000000
/-! E16: gone over, parted, alike: walked. -/
namespace MPE
open MP
open MM
def backW (w : List Int) : List Int := w.reverse.map fun s => -s
/-- the row that parts two words whose turns differ by S -/
def rowOf (k : Nat) (S : Int) : U := if S = 0 then .non else zr (1 + zk k 100 S.natAbs)
section
variable {p : Prg} (n : Nat) (m : List U) (H : HTab p) {k : Nat} {T W : List Nat} {L : Int → Nat} {d : Int}
include H
theorem t_while (R : RingB k T W L d) {w0 : List Int} (hs : ∀ s ∈ w0, IsStep s) (hl : w0.length ≤ 200) (hS : (sums w0).natAbs ≤ 100) (ht : 1000 < p.turns) :
    ∃ u s', s'.m = m ∧ (execs (stOf p (n + 5)) [.whil gc wb, .ret (.op .tup [(.mv 3), (.lit .non)])] (stG k T W w0 m [w0] 0 .no .no .no .no .no .no) = .ok (.ret (.tup [u, rowOf k (sums w0)])) s') := by
  have hk := R.gb.kk
  by_cases h0 : sums w0 = 0
  · have hr : rowOf k (sums w0) = .non := if_pos h0
    rw [hr]
    have hmod : sums w0 % (k : Int) = 0 := by rw [h0]; simp
    have hp0 : pw d (sums w0 / k) = [] := by rw [h0]; simp [pw_zero]
    have h2line : 2 ≤ line := by have := line_ge; omega
    obtain ⟨N, hN⟩ : ∃ N, (stOf p (n + 5)).turns = N + 3 := ⟨p.turns - 3, by rw [stOf_turns]; omega⟩
    have fin : ∀ (ws : List (List Int)) (a : Nat) (i6 i7 i8 i9 i10 i11 : Slt), ∃ s', s'.m = m ∧ execs (stOf p (n + 5)) [.ret (.op .tup [(.mv 3), (.lit .non)])] (stG k T W w0 m ws a i6 i7 i8 i9 i10 i11) = .ok (.ret (.tup [metU ws, .non])) s' := fun ws a i6 i7 i8 i9 i10 i11 => by
      have hmt : tabU (metU ws) = false := rfl
      refine ⟨⟨[.val (bookU k T W), .val (zts w0), .val (nts (List.range k)), .val (metU ws), .own (rowsU ws), .val (.int a), i6, i7, i8, i9, i10, i11], m⟩, rfl, x_last ?_⟩
      unfold stG
      generalize rowsU ws = r at *
      generalize metU ws = mm at *
      simp [hmt, okT, h2line]
    obtain ⟨i6, i7, i8, i9, i10, i11, b8, b9, q⟩ := t_word n m H R w0 (ws := [w0]) (a := 0) (w := w0) (by simp) rfl hs hl hmod (by simp) (by simp) (j6 := .no) (j7 := .no) (j8 := .no) (j9 := .no) (j10 := .no) (j11 := .no) rfl rfl
    rw [hp0] at q
    by_cases he : w0 = []
    · rw [if_pos (by rw [he]; simp)] at q
      obtain ⟨s', e1, e2⟩ := fin [w0] (0 + 1) i6 i7 i8 i9 i10 i11
      refine ⟨metU [w0], s', e1, ?_⟩
      have hw : execS (stOf p (n + 5)) (.whil gc wb) (stG k T W w0 m [w0] 0 .no .no .no .no .no .no) = .ok .next (stG k T W w0 m [w0] (0 + 1) i6 i7 i8 i9 i10 i11) := by
        rw [x_whil, hN, turnsW, t_cond n m H]
        simp only [bind_ok, List.length_singleton, decide_true, if_true, Nat.lt_one_iff, q]
        rw [turnsW, t_cond n m H]
        simp
      exact (x_seq hw).trans e2
    · rw [if_neg (by intro h; simp at h; exact he h)] at q
      have hd0 : sums ([] : List Int) % (k : Int) = 0 := by simp [sums]
      have hp1 : pw d (sums ([] : List Int) / k) = [] := by simp [sums, pw_zero]
      obtain ⟨l6, l7, l8, l9, l10, l11, c8, c9, q'⟩ := t_word n m H R w0 (ws := [w0] ++ [[]]) (a := 0 + 1) (w := []) (by simp; exact he) rfl (by simp) (by simp) hd0 (by simp) (by rw [hp1]; simp) (j6 := i6) (j7 := i7) (j8 := i8) (j9 := i9) (j10 := i10) (j11 := i11) b8 b9
      rw [hp1, if_pos (by simp)] at q'
      obtain ⟨s', e1, e2⟩ := fin ([w0] ++ [[]]) (0 + 1 + 1) l6 l7 l8 l9 l10 l11
      refine ⟨metU ([w0] ++ [[]]), s', e1, ?_⟩
      have hw : execS (stOf p (n + 5)) (.whil gc wb) (stG k T W w0 m [w0] 0 .no .no .no .no .no .no) = .ok .next (stG k T W w0 m ([w0] ++ [[]]) (0 + 1 + 1) l6 l7 l8 l9 l10 l11) := by
        rw [x_whil, hN, turnsW, t_cond n m H]
        simp only [bind_ok, List.length_singleton, decide_true, if_true, Nat.lt_one_iff, q]
        rw [turnsW, t_cond n m H, decide_eq_true (by simp)]
        simp only [bind_ok, if_true, q']
        rw [turnsW, t_cond n m H, decide_eq_false (by simp)]
        simp
      exact (x_seq hw).trans e2
  · have hr : rowOf k (sums w0) = zr (1 + zk k 100 (sums w0).natAbs) := if_neg h0
    rw [hr]
    obtain ⟨u, s', e1, e2⟩ := t_loop n m H R w0 100 (stOf p (n + 5)).turns (by rw [stOf_turns]; omega) [w0] 0 w0 .no .no .no .no .no .no (by simp) rfl rfl hs hl h0 hS (by simp) (.inl ⟨rfl, hS⟩) rfl rfl
    refine ⟨u, s', e1, x_last ?_⟩
    rw [x_whil, e2, Nat.zero_add]
theorem t_over (R : RingB k T W L d) {w0 : List Int} (hs : ∀ s ∈ w0, IsStep s) (hl : w0.length ≤ 200) (hsh : shortL w0 = w0) (hS : (sums w0).natAbs ≤ 100) (ht : 1000 < p.turns) :
    ∃ u, (stOf p (n + 6)).call F.tables_gone_over [bookU k T W, zts w0] m = .ok (.tup [u, rowOf k (sums w0)]) m := by
  rw [H.gone_over.call]
  obtain ⟨u, s', e1, e2⟩ := t_while n m H R hs hl hS ht
  refine ⟨u, ?_⟩
  have ql := b_letters (n + 4) m H.toHBook (k := k) (T := T) (W := W)
  have qs := t_still (n + 2) m H R.gb.kk
  have qw := w_short (n + 4) m H.toHWords (w := w0) (.inl rfl) hl
  rw [hsh] at qw
  have h1line : 1 ≤ line := by have := line_ge; omega
  have hkey : kOk [] (zts w0) = true := encZ.key [] w0
  have s1 : execS (stOf p (n + 5)) (.set (.one 2) (.call F.turns_still_turn [(.meth (.var 0) M.letters [])])) ⟨[.val (bookU k T W), .val (zts w0), .no, .no, .no, .no, .no, .no, .no, .no, .no, .no], m⟩ = .ok .next ⟨[.val (bookU k T W), .val (zts w0), .val (nts (List.range k)), .no, .no, .no, .no, .no, .no, .no, .no, .no], m⟩ := by
    unfold bookU at ql ⊢
    simp [H.mletters, ql, qs]
  have s2 : execS (stOf p (n + 5)) (.own 3 (.op .lst [(.call F.words_shortened [(.var 1)])])) ⟨[.val (bookU k T W), .val (zts w0), .val (nts (List.range k)), .no, .no, .no, .no, .no, .no, .no, .no, .no], m⟩ = .ok .next ⟨[.val (bookU k T W), .val (zts w0), .val (nts (List.range k)), .own (.lst [zts w0]), .no, .no, .no, .no, .no, .no, .no, .no], m⟩ := by
    simp [qw, okL, h1line]
  have s3 : execS (stOf p (n + 5)) (.own 4 (.op (.dict 1) [(.op .ix [(.var 3), (.lit (.int 0))]), (.op .tup [])])) ⟨[.val (bookU k T W), .val (zts w0), .val (nts (List.range k)), .own (.lst [zts w0]), .no, .no, .no, .no, .no, .no, .no, .no], m⟩ = .ok .next ⟨[.val (bookU k T W), .val (zts w0), .val (nts (List.range k)), .own (.lst [zts w0]), .own (.dic [zts w0] [.tup []]), .no, .no, .no, .no, .no, .no, .no], m⟩ := by
    simp [okT, opDict, mkDic, hkey, dput, memU]
  have s4 : execS (stOf p (n + 5)) (.set (.one 5) (.lit (.int 0))) ⟨[.val (bookU k T W), .val (zts w0), .val (nts (List.range k)), .own (.lst [zts w0]), .own (.dic [zts w0] [.tup []]), .no, .no, .no, .no, .no, .no, .no], m⟩ = .ok .next (stG k T W w0 m [w0] 0 .no .no .no .no .no .no) := by
    have hz : zr 0 = .tup [] := rfl
    unfold stG metU rowsU
    simp [ztsF_eq, hz]
  have fin := (x_seq s1).trans ((x_seq s2).trans ((x_seq s3).trans ((x_seq s4).trans e2)))
  refine (run_ret (s := s') LB.d_tables_gone_over [bookU k T W, zts w0] m rfl fin).trans ?_
  rw [e1]
theorem t_parted (R : RingB k T W L d) {w1 w2 : List Int} (h1 : ∀ s ∈ w1, IsStep s) (h2 : ∀ s ∈ w2, IsStep s) (l1 : w1.length ≤ 100) (l2 : w2.length ≤ 100) (hsh : shortL (w1 ++ backW w2) = w1 ++ backW w2) (hS : (sums (w1 ++ backW w2)).natAbs ≤ 100) (ht : 1000 < p.turns) :
    (stOf p (n + 7)).call F.tables_parted [bookU k T W, zts w1, zts w2] m = .ok (rowOf k (sums (w1 ++ backW w2))) m := by
  rw [H.parted.call]
  have hb : ∀ s ∈ backW w2, IsStep s := fun s hs => by
    obtain ⟨r, hr, rfl⟩ := List.mem_map.1 hs
    have := h2 r (by simpa using hr)
    rcases this with rfl | rfl | rfl | rfl <;> simp [IsStep]
  have hbl : (backW w2).length ≤ 100 := by simpa [backW] using l2
  obtain ⟨u, qg⟩ := t_over n m H R (w0 := w1 ++ backW w2) (fun s hs => (List.mem_append.1 hs).elim (h1 s) (hb s)) (by simp; omega) hsh hS ht
  have q1 := w_sure (n + 1) m H.toHWords (k := k) (T := T) (W := W) h1 l1
  have q2 := w_sure (n + 1) m H.toHWords (k := k) (T := T) (W := W) h2 l2
  have s1 : execS (stOf p (n + 6)) (.set (.one 3) (.call F.words_sure_word [(.var 0), (.var 1)])) ⟨[.val (bookU k T W), .val (zts w1), .val (zts w2), .no, .no, .no], m⟩ = .ok .next ⟨[.val (bookU k T W), .val (zts w1), .val (zts w2), .val (zts w1), .no, .no], m⟩ := by
    simp [q1]
  have hc : evalE (stOf p (n + 6)) (.comp (.op .neg [(.var 4)]) (.one 4) 0 [(.op .rev [(.call F.words_sure_word [(.var 0), (.var 2)])])] [4] none) ⟨[.val (bookU k T W), .val (zts w1), .val (zts w2), .val (zts w1), .no, .no], m⟩ = .ok (.lst (w2.reverse.map fun s => .int (-s))) ⟨[.val (bookU k T W), .val (zts w1), .val (zts w2), .val (zts w1), .no, .no], m⟩ := by
    refine ev_compM (avs := [.v (zts w2.reverse)]) (xs := w2.reverse.map U.int) w2.reverse U.int (fun s => .int (-s)) (by simp [q2]) (by simp [walkA, walk]) rfl (by simp [stillIs]) (by simp) (by have := line_ge; simp; omega) ?_
    intro s hs
    exact ⟨⟨[.val (bookU k T W), .val (zts w1), .val (zts w2), .val (zts w1), .val (.int s), .no], m⟩, by simp, by simp [op_neg'], by simp [stillIs], by simp⟩
  have hcb : w2.reverse.map (fun s => U.int (-s)) = (backW w2).map U.int := by unfold backW; rw [List.map_map]; rfl
  rw [hcb] at hc
  have s2 : execS (stOf p (n + 6)) (.set (.one 5) (.op .tupOf [(.comp (.op .neg [(.var 4)]) (.one 4) 0 [(.op .rev [(.call F.words_sure_word [(.var 0), (.var 2)])])] [4] none)])) ⟨[.val (bookU k T W), .val (zts w1), .val (zts w2), .val (zts w1), .no, .no], m⟩ = .ok .next ⟨[.val (bookU k T W), .val (zts w1), .val (zts w2), .val (zts w1), .no, .val (zts (backW w2))], m⟩ := by
    rw [x_set, e_tupOf, as_cons, arg_comp, hc]
    simp
  refine run_ret (s := ⟨[.val (bookU k T W), .val (zts w1), .val (zts w2), .val (zts w1), .no, .val (zts (backW w2))], m⟩) LB.d_tables_parted [bookU k T W, zts w1, zts w2] m rfl ((x_seq s1).trans ((x_seq s2).trans (x_last (xs := []) (x := .ret (.op .ix [(.call F.tables_gone_over [(.var 0), (.op .add [(.var 3), (.var 5)])]), (.lit (.int 1))])) ?_)))
  have hadd : opSem (stOf p (n + 6)) .add [zts w1, zts (backW w2)] = some (zts (w1 ++ backW w2)) := by
    have e : opSem (stOf p (n + 6)) .add [zts w1, zts (backW w2)] = okT (w1.map U.int ++ (backW w2).map U.int) := Eq.trans rfl rfl
    have := line_ge
    rw [e]
    unfold okT
    rw [if_pos (by simp; omega)]
    simp
  generalize rowOf k (sums (w1 ++ backW w2)) = row at *
  generalize w1 ++ backW w2 = ww at *
  generalize backW w2 = bw at *
  simp [hadd, qg]
theorem t_parted_no1 {w1 w2 : List Int} (l1 : 100 < w1.length) : (stOf p (n + 3)).call F.tables_parted [bookU k T W, zts w1, zts w2] m = .exc (.exc C.NoWord []) m := by
  rw [H.parted.call, run_def _ _ _ rfl]
  have q1 := w_sure_no n m H.toHWords (k := k) (T := T) (W := W) l1
  simp [LB.d_tables_parted, slots0, q1]
theorem t_parted_no2 {w1 w2 : List Int} (h1 : ∀ s ∈ w1, IsStep s) (l1 : w1.length ≤ 100) (l2 : 100 < w2.length) : (stOf p (n + 6)).call F.tables_parted [bookU k T W, zts w1, zts w2] m = .exc (.exc C.NoWord []) m := by
  rw [H.parted.call, run_def _ _ _ rfl]
  have q1 := w_sure n m H.toHWords (k := k) (T := T) (W := W) h1 l1
  have q2 := w_sure_no (n + 3) m H.toHWords (k := k) (T := T) (W := W) l2
  have hc : ∀ s : Sta, slot s 0 = .val (bookU k T W) → slot s 2 = .val (zts w2) → s.m = m → evalE (stOf p (n + 5)) (.comp (.op .neg [(.var 4)]) (.one 4) 0 [(.op .rev [(.call F.words_sure_word [(.var 0), (.var 2)])])] [4] none) s = .exc (.exc C.NoWord []) ⟨s.r, m⟩ := fun s a1 a2 a3 => by
    conv => lhs; unfold evalE
    simp [a1, a2, a3, q2]
  simp [LB.d_tables_parted, slots0, q1, hc]
theorem t_alike (R : RingB k T W L d) {w1 w2 : List Int} (h1 : ∀ s ∈ w1, IsStep s) (h2 : ∀ s ∈ w2, IsStep s) (l1 : w1.length ≤ 100) (l2 : w2.length ≤ 100) (hsh : shortL (w1 ++ backW w2) = w1 ++ backW w2) (hS : (sums (w1 ++ backW w2)).natAbs ≤ 100) (ht : 1000 < p.turns) :
    (stOf p (n + 8)).call F.tables_alike [bookU k T W, zts w1, zts w2] m = .ok (.bl (decide (sums (w1 ++ backW w2) = 0))) m := by
  rw [H.alike.call, run_def _ _ _ rfl]
  have q := t_parted n m H R h1 h2 l1 l2 hsh hS ht
  have hn : ∀ S : Int, opSem (stOf p (n + 7)) .isN [cont m (rowOf k S)] = some (.bl (decide (S = 0))) := fun S => by
    unfold rowOf
    by_cases h : S = 0
    · simp only [h, if_true, decide_true]; rfl
    · simp only [h, if_false, decide_false]; rfl
  have hn' := hn (sums (w1 ++ backW w2))
  generalize sums (w1 ++ backW w2) = S at *
  generalize rowOf k S = row at *
  simp [LB.d_tables_alike, slots0, q, hn']
theorem t_alike_no2 {w1 w2 : List Int} (h1 : ∀ s ∈ w1, IsStep s) (l1 : w1.length ≤ 100) (l2 : 100 < w2.length) : (stOf p (n + 7)).call F.tables_alike [bookU k T W, zts w1, zts w2] m = .exc (.exc C.NoWord []) m := by
  rw [H.alike.call, run_def _ _ _ rfl]
  have q := t_parted_no2 n m H (k := k) (T := T) (W := W) h1 l1 l2
  simp [LB.d_tables_alike, slots0, q]
end
end MPE
set_option maxRecDepth 100000
namespace MPE
open MP
namespace K86
abbrev d_turns_is_whole : MDef := LB.d_turns_is_whole
abbrev d_turns_is_between : MDef := LB.d_turns_is_between
abbrev d_turns_is_turn : MDef := LB.d_turns_is_turn
abbrev d_turns_still_turn : MDef := LB.d_turns_still_turn
abbrev d_turns_undone : MDef := LB.d_turns_undone
abbrev d_words_is_word : MDef := LB.d_words_is_word
abbrev d_words_sure_word : MDef := LB.d_words_sure_word
abbrev d_words_shortened : MDef := LB.d_words_shortened
abbrev d_rows_turn_by : MDef := LB.d_rows_turn_by
abbrev d_rows_behind_one : MDef := LB.d_rows_behind_one
abbrev d_tables_gone_over : MDef := LB.d_tables_gone_over
abbrev d_tables_parted : MDef := LB.d_tables_parted
abbrev d_tables_alike : MDef := LB.d_tables_alike
abbrev d_book_is_hand : MDef := LB.d_book_is_hand
abbrev d_book_are_hands : MDef := LB.d_book_are_hands
def d_law__law_state : MDef := { params := 2, slots := 7, body := [.set (.one 2) (.ifx (.op .ne [(.var 0), (.op .lst [])]) (.op .abs [(.op .ix [(.var 0), (.op .mod [(.var 1), (.op .len [(.var 0)])])])]) (.lit (.int 0))),
  .ife (.op .ge [(.var 2), (.op .pow [(.lit (.int 10)), (.lit (.int 18))])]) [.ret (.share (.op .lst [(.op .sub [(.var 2), (.op .pow [(.lit (.int 10)), (.lit (.int 18))])])]))] [],
  .set (.one 3) (.lit (.int 0)),
  .set (.one 4) (.op .lst [(.lit (.int 2147483629)), (.lit (.int 2147483587)), (.lit (.int 2147483579)), (.lit (.int 2147483563)), (.lit (.int 2147483549)), (.lit (.int 2147483543)), (.lit (.int 2147483497)), (.lit (.int 2147483489))]),
  .forr (.one 5) 0 [(.op .add [(.var 4), (.op .lst [(.lit (.int 2147483477)), (.lit (.int 2147483423)), (.lit (.int 2147483399)), (.lit (.int 2147483353)), (.lit (.int 2147483323)), (.lit (.int 2147483269)), (.lit (.int 2147483249))])])] [.set (.one 6) (.op .mod [(.op .mul [(.op .pow [(.op .add [(.op .add [(.op .mod [(.var 2), (.var 5)]), (.op .mul [(.lit (.int 7919)), (.var 1)])]), (.lit (.int 48271))]), (.lit (.int 2))]), (.lit (.int 69621))]), (.var 5)]),
  .set (.one 3) (.op .add [(.op .mul [(.var 3), (.lit (.int 2147483647))]), (.op .mod [(.op .mul [(.var 6), (.op .add [(.var 6), (.op .fdiv [(.var 5), (.lit (.int 7))])])]), (.var 5)])])],
  .ret (.share (.op .lst [(.var 3)]))] }
def d_law__law_next : MDef := { params := 2, slots := 3, body := [.set (.one 2) (.op .mod [(.op .ix [(.var 0), (.lit (.int 0))]), (.var 1)]),
  .setIx (.var 0) (.lit (.int 0)) (.op .fdiv [(.op .ix [(.var 0), (.lit (.int 0))]), (.var 1)]),
  .ret (.var 2)] }
def d_law__law_counter : MDef := { params := 2, slots := 8, body := [.own 2 (.op .lstR1 [(.var 1)]),
  .set (.one 4) (.comp (.mut .popAt (.var 2) [(.call F.law__law_next [(.var 0), (.op .len [(.var 2)])])]) (.one 3) 1 [(.var 1)] [3] none),
  .own 5 (.op .mul [(.op .lst [(.lit (.int 0))]), (.var 1)]),
  .forr (.tup [(.one 3), (.one 6)]) 3 [(.var 4)] [.setIx (.var 5) (.var 6) (.op .ix [(.var 4), (.op .mod [(.op .add [(.var 3), (.lit (.int 1))]), (.var 1)])])],
  .own 7 (.op .mul [(.op .lst [(.lit (.int 0))]), (.var 1)]),
  .setIx (.var 7) (.op .ix [(.var 4), (.op .neg [(.lit (.int 1))])]) (.op .add [(.lit (.int 1)), (.call F.law__law_next [(.var 0), (.lit (.int 2))])]),
  .ret (.op .mul [(.op .lst [(.op .tup [(.op .tupOf [(.var 5)]), (.op .tupOf [(.var 7)])])]), (.lit (.int 2))])] }
def d_law__law_row : MDef := { params := 2, slots := 3, body := [.ife (.op .eq [(.var 1), (.lit (.int 0))]) [.ret (.lit .non)] [],
  .set (.one 2) (.op .tup [(.lit (.int 0))]),
  .whil (.op .eq [(.op .mod [(.var 1), (.var 0)]), (.lit (.int 0))]) [.set (.one 2) (.op .add [(.var 2), (.op .tup [(.lit (.int 0))])]),
  .set (.one 1) (.op .fdiv [(.var 1), (.var 0)])],
  .ret (.var 2)] }
def d_law__law_refused : MDef := { params := 1, slots := 2, body := [.set (.one 1) (.lit (.bl false)),
  .tri [.expr (.callv 0 [])] [(C.NoWord, none, [.set (.one 1) (.lit (.bl true))])],
  .ret (.var 1)] }
def d_law_law : MDef := { params := 1, slots := 12, body := [.forr (.one 1) 1 [(.op .max2 [(.lit (.int 1)), (.op .min2 [(.lit (.int 2)), (.op .len [(.var 0)])])])] [.set (.one 2) (.call F.law__law_state [(.var 0), (.var 1)]),
  .set (.one 3) (.op .ix [(.op .lst [(.lit (.int 100)), (.call F.law__law_next [(.var 2), (.lit (.int 101))])]), (.call F.law__law_next [(.var 2), (.lit (.int 2))])]),
  .set (.one 4) (.op .ix [(.op .lst [(.lit (.int 0)), (.call F.law__law_next [(.var 2), (.op .add [(.var 3), (.lit (.int 1))])]), (.op .min2 [(.var 3), (.op .ix [(.op .lst [(.lit (.int 16)), (.lit (.int 27)), (.lit (.int 64)), (.lit (.int 9)), (.lit (.int 32))]), (.call F.law__law_next [(.var 2), (.lit (.int 5))])])])]), (.call F.law__law_next [(.var 2), (.lit (.int 3))])]),
  .set (.one 5) (.op .ix [(.op .lst [(.lit (.int 1)), (.op .neg [(.lit (.int 1))])]), (.call F.law__law_next [(.var 2), (.lit (.int 2))])]),
  .set (.one 6) (.op .add [(.lit (.int 2)), (.call F.law__law_next [(.var 2), (.lit (.int 3))])]),
  .set (.one 7) (.call F.mk_Book [(.var 6), (.call F.law__law_counter [(.var 2), (.var 6)])]),
  .set (.tup [(.one 8), (.one 9)]) (.op .tup [(.op .mul [(.op .tup [(.var 5)]), (.var 3)]), (.op .mul [(.op .tup [(.op .mul [(.lit (.int 2)), (.var 5)])]), (.op .sub [(.var 3), (.var 4)])])]),
  .set (.one 10) (.call F.law__law_row [(.var 6), (.var 4)]),
  .ife (.or [(.op .ne [(.call F.tables_parted [(.var 7), (.var 8), (.var 9)]), (.var 10)]), (.op .ne [(.call F.tables_parted [(.var 7), (.var 9), (.var 8)]), (.var 10)])]) [.ret (.lit (.bl false))] [],
  .ife (.or [(.op .ne [(.call F.tables_alike [(.var 7), (.var 8), (.var 9)]), (.op .isN [(.var 10)])]), (.not (.op (.isi [1]) [(.call F.tables_alike [(.var 7), (.var 9), (.var 8)])]))]) [.ret (.lit (.bl false))] [],
  .set (.one 11) (.op .mul [(.op .tup [(.var 5)]), (.lit (.int 101))]),
  .ife (.not (.callL F.law__law_refused 0 (.call F.tables_parted [(.var 7), (.var 11), (.var 9)]) [7, 9, 11])) [.ret (.lit (.bl false))] [],
  .ife (.not (.callL F.law__law_refused 0 (.call F.tables_alike [(.var 7), (.var 8), (.var 11)]) [7, 8, 11])) [.ret (.lit (.bl false))] []],
  .ret (.lit (.bl true))] }
abbrev d_book_Book___init__ : MDef := LB.d_book_Book___init__
abbrev d_book_Book___eq__ : MDef := LB.d_book_Book___eq__
abbrev d_book_Book___len__ : MDef := LB.d_book_Book___len__
abbrev d_book_Book_letters : MDef := LB.d_book_Book_letters
abbrev d_book_Book_hands : MDef := LB.d_book_Book_hands
abbrev d_book_Book_steps : MDef := LB.d_book_Book_steps
abbrev d_book_Book_has_step : MDef := LB.d_book_Book_has_step
abbrev d_book_Book_has_letter : MDef := LB.d_book_Book_has_letter
abbrev d_book_Book_turn : MDef := LB.d_book_Book_turn
abbrev d_book_Book_onward : MDef := LB.d_book_Book_onward
abbrev mtT : List ((Nat × Nat) × Nat) := [((10, 3), 59), ((10, 7), 62), ((10, 8), 63), ((10, 9), 64), ((10, 10), 65)]
abbrev attT : List ((Nat × Nat) × Nat) := [((10, 0), 0), ((10, 1), 1)]
def prog : Prg where
  def_ := fun f => match f with
    | 0 => some d_turns_is_whole
    | 1 => some d_turns_is_between
    | 2 => some d_turns_is_turn
    | 42 => some d_turns_still_turn
    | 27 => some d_turns_undone
    | 43 => some d_words_is_word
    | 44 => some d_words_sure_word
    | 45 => some d_words_shortened
    | 46 => some d_rows_turn_by
    | 47 => some d_rows_behind_one
    | 48 => some d_tables_gone_over
    | 49 => some d_tables_parted
    | 50 => some d_tables_alike
    | 51 => some d_book_is_hand
    | 52 => some d_book_are_hands
    | 16 => some d_law__law_state
    | 17 => some d_law__law_next
    | 53 => some d_law__law_counter
    | 54 => some d_law__law_row
    | 55 => some d_law__law_refused
    | 26 => some d_law_law
    | 56 => some d_book_Book___init__
    | 57 => some d_book_Book___eq__
    | 58 => some d_book_Book___len__
    | 59 => some d_book_Book_letters
    | 60 => some d_book_Book_hands
    | 61 => some d_book_Book_steps
    | 62 => some d_book_Book_has_step
    | 63 => some d_book_Book_has_letter
    | 64 => some d_book_Book_turn
    | 65 => some d_book_Book_onward
    | _ => none
  ctor := fun f => match f with
    | 66 => some (10, 2, 56, 1)
    | _ => none
  meth := fun c m => mtT.lookup (c, m)
  sub := fun c d => match c, d with
    | 0, 0 => true
    | 0, 5 => true
    | 8, 8 => true
    | 8, 0 => true
    | 8, 5 => true
    | 9, 9 => true
    | 9, 0 => true
    | 9, 5 => true
    | 6, 6 => true
    | 6, 0 => true
    | 6, 5 => true
    | 7, 7 => true
    | 7, 0 => true
    | 7, 5 => true
    | 3, 3 => true
    | 3, 0 => true
    | 3, 5 => true
    | 10, 10 => true
    | _, _ => false
  attr := fun c a => attT.lookup (c, a)
  turns := 1000000000000
  objs := [10]
  excs := [0, 8, 9, 6, 7, 3]
end K86
end MPE
set_option maxRecDepth 100000
set_option maxHeartbeats 4000000
/-! E86a: law k86's own defs, walked: the draws. -/
namespace MPE
open MP
namespace K86
open MM
abbrev S (n : Nat) := stOf prog n
theorem has : HTab prog where
  is_whole := ⟨rfl, rfl⟩
  is_between := ⟨rfl, rfl⟩
  is_turn := ⟨rfl, rfl⟩
  undone := ⟨rfl, rfl⟩
  still := ⟨rfl, rfl⟩
  is_hand := ⟨rfl, rfl⟩
  are_hands := ⟨rfl, rfl⟩
  letters := ⟨rfl, rfl⟩
  has_step := ⟨rfl, rfl⟩
  has_letter := ⟨rfl, rfl⟩
  turn := ⟨rfl, rfl⟩
  onward := ⟨rfl, rfl⟩
  mletters := rfl
  mhas_step := rfl
  mhas_letter := rfl
  mturn := rfl
  monward := rfl
  amany := rfl
  apairs := rfl
  mkc := rfl
  mkd := rfl
  is_word := ⟨rfl, rfl⟩
  sure_word := ⟨rfl, rfl⟩
  shortened := ⟨rfl, rfl⟩
  turn_by := ⟨rfl, rfl⟩
  behind_one := ⟨rfl, rfl⟩
  gone_over := ⟨rfl, rfl⟩
  parted := ⟨rfl, rfl⟩
  alike := ⟨rfl, rfl⟩
theorem h_next : Has prog F.law__law_next d_law__law_next := ⟨rfl, rfl⟩
theorem h_state : Has prog F.law__law_state d_law__law_state := ⟨rfl, rfl⟩
theorem h_counter : Has prog F.law__law_counter d_law__law_counter := ⟨rfl, rfl⟩
theorem h_row : Has prog F.law__law_row d_law__law_row := ⟨rfl, rfl⟩
theorem h_law : Has prog F.law_law d_law_law := ⟨rfl, rfl⟩
abbrev dig (N : Nat) : U := .lst [.int N]
theorem fdiv_ok (g : Gst) (i j : Int) (h1 : 0 < j) (h2 : j ≤ 1000) : opSem g .fdiv [.int i, .int j] = some (.int (i / j)) := by
  obtain ⟨B, hB, e⟩ : ∃ B : Nat, 2000 ≤ B ∧ ∀ (i j : Int), opSem g .fdiv [.int i, .int j] = if decide (0 < j ∧ j.natAbs < B) then some (U.int (i / j)) else none := by
    refine ⟨2 ^ 9000, ?_, fun i j => rfl⟩
    exact Nat.le_trans (by decide : 2000 ≤ 2 ^ 11) (Nat.pow_le_pow_right (by decide) (by decide))
  rw [e, if_pos (decide_eq_true ⟨h1, by omega⟩)]
theorem next_ok (n : Nat) (r : Nat) (N : Nat) (m0 m1 : List U) (hr : m0.length = r) (k : Nat) (h1 : 1 ≤ k) (h2 : k ≤ 1000) : (S (n + 1)).call F.law__law_next [.ref r, .int k] (m0 ++ dig N :: m1) = .ok (.int (N % k : Nat)) (m0 ++ dig (N / k) :: m1) := by
  rw [h_next.call]
  have hpn : 0 < k := by omega
  have hg : (m0 ++ dig N :: m1)[r]? = some (dig N) := by
    rw [List.getElem?_append_right (by omega), hr]; simp
  have hs : (m0 ++ dig N :: m1).set r (dig (N / k)) = m0 ++ dig (N / k) :: m1 := by
    rw [List.set_append_right _ _ (by omega), hr]; simp
  have hp : (0 : Int) < k := by omega
  have hl : r < (m0 ++ dig N :: m1).length := by simp; omega
  have hfd := fdiv_ok (S n) N k hp (by omega)
  have e1 : ((N : Int) % (k : Int)) = ((N % k : Nat) : Int) := by simp
  have e2 : ((N : Int) / (k : Int)) = ((N / k : Nat) : Int) := by simp
  rw [e2] at hfd
  have hcont : cont (m0 ++ dig N :: m1) (.ref r) = dig N := by
    rw [cont_ref, List.getD_eq_getElem?_getD, hg]; rfl
  have s1 : execS (S n) (.set (.one 2) (.op .mod [(.op .ix [(.var 0), (.lit (.int 0))]), (.var 1)])) ⟨[.val (.ref r), .val (.int k), .no], m0 ++ dig N :: m1⟩ = .ok .next ⟨[.val (.ref r), .val (.int k), .val (.int (N % k : Nat))], m0 ++ dig N :: m1⟩ := by
    generalize hM : m0 ++ dig N :: m1 = M at *
    rw [← e1]
    simp [hg, hpn]
  have s2 : execS (S n) (.setIx (.var 0) (.lit (.int 0)) (.op .fdiv [(.op .ix [(.var 0), (.lit (.int 0))]), (.var 1)])) ⟨[.val (.ref r), .val (.int k), .val (.int (N % k : Nat))], m0 ++ dig N :: m1⟩ = .ok .next ⟨[.val (.ref r), .val (.int k), .val (.int (N % k : Nat))], m0 ++ dig (N / k) :: m1⟩ := by
    rw [← hs]
    generalize hM : m0 ++ dig N :: m1 = M at *
    generalize ((N % k : Nat) : Int) = z at *
    generalize hy : ((N / k : Nat) : Int) = y at *
    have hmg : M.getD r .non = dig N := hcont
    have hMl : M[r] = dig N := by
      have hg' := hg
      rw [List.getElem?_eq_getElem hl] at hg'
      exact Option.some.inj hg'
    simp [hMl, hfd, mutSem, muSetIx, setC, hl]
    rw [← hy]
  refine run_ret (s := ⟨[.val (.ref r), .val (.int k), .val (.int (N % k : Nat))], m0 ++ dig (N / k) :: m1⟩) d_law__law_next [.ref r, .int k] _ rfl ((x_seq s1).trans ((x_seq s2).trans (x_last (xs := []) (x := .ret (.var 2)) ?_)))
  simp
/-! the state -/
theorem pow_some : ∃ B : Int, 0 ≤ B ∧ B < 18446744073709551616 ∧ ∀ g, opSem g .pow [.int 10, .int 18] = some (.int B) := ⟨10 ^ 18, by decide, by decide, fun g => rfl⟩
theorem sq_some : ∀ (g : Gst) (i : Int), i.natAbs < 18446744073709551616 → opSem g .pow [.int i, .int 2] = some (.int (i * i)) := fun g i h => by
  show (if decide ((0 : Int) ≤ 2 ∧ (2 : Int) ≤ 64 ∧ i.natAbs < 2 ^ 64) then some (U.int (i ^ (2 : Int).toNat)) else none) = _
  rw [if_pos (decide_eq_true ⟨by decide, by decide, h⟩)]
  congr 2
  show i ^ 2 = i * i
  rw [Int.pow_succ, Int.pow_succ, Int.pow_zero, Int.one_mul]
theorem mul_some : ∃ T : Nat, 2 ^ (64 * 17) ≤ T ∧ ∀ (g : Gst) (i j : Int), i.natAbs < T → j.natAbs < T → opSem g .mul [.int i, .int j] = some (.int (i * j)) := by
  refine ⟨2 ^ 9000, Nat.pow_le_pow_right (by decide) (by decide), fun g i j h1 h2 => ?_⟩
  show (if decide (i.natAbs < 2 ^ 9000 ∧ j.natAbs < 2 ^ 9000) then some (U.int (i * j)) else none) = _
  rw [if_pos (decide_eq_true ⟨h1, h2⟩)]
def primesA : List Nat := [2147483629, 2147483587, 2147483579, 2147483563, 2147483549, 2147483543, 2147483497, 2147483489]
def primesB : List Nat := [2147483477, 2147483423, 2147483399, 2147483353, 2147483323, 2147483269, 2147483249]
def prsA : U := .lst (primesA.map iu)
def sBody : List MS := [.set (.one 6) (.op .mod [(.op .mul [(.op .pow [(.op .add [(.op .add [(.op .mod [(.var 2), (.var 5)]), (.op .mul [(.lit (.int 7919)), (.var 1)])]), (.lit (.int 48271))]), (.lit (.int 2))]), (.lit (.int 69621))]), (.var 5)]),
  .set (.one 3) (.op .add [(.op .mul [(.var 3), (.lit (.int 2147483647))]), (.op .mod [(.op .mul [(.var 6), (.op .add [(.var 6), (.op .fdiv [(.var 5), (.lit (.int 7))])])]), (.var 5)])])]
theorem state_turn (g : Gst) (m : List U) (sc : U) (kk c num q i : Nat) (hk : kk ≤ 100) (hq : 2 ≤ q) (hq2 : q < 2147483648) (hn : num < 2 ^ (64 * i)) (hi : i < 15) (j6 : Slt) :
    ∃ num' : Nat, num' < 2 ^ (64 * (i + 1)) ∧ ∃ k6, execs g sBody ⟨[.val sc, .val (.int kk), .val (.int c), .val (.int num), .val prsA, .val (.int q), j6], m⟩ = .ok .next ⟨[.val sc, .val (.int kk), .val (.int c), .val (.int num'), .val prsA, .val (.int q), k6], m⟩ := by
  obtain ⟨T, hT, hm⟩ := mul_some
  have hT2 : 2 ^ (64 * 2) ≤ T := Nat.le_trans (Nat.pow_le_pow_right (by decide) (by decide)) hT
  have hT3 : 2 ^ (64 * i) ≤ T := Nat.le_trans (Nat.pow_le_pow_right (by decide) (by omega)) hT
  have hT4 : 340282366920938463463374607431768211456 ≤ T := hT2
  clear hT2
  have hqp : (0 : Int) < q := by omega
  have lc : c % q < q := Nat.mod_lt _ (by omega)
  let b : Nat := c % q + 7919 * kk + 48271
  have hb : b < 4294967296 := by show c % q + 7919 * kk + 48271 < _; omega
  have hbb : b * b < 18446744073709551616 := by
    have := Nat.mul_lt_mul'' hb hb
    omega
  let o1 : Nat := (b * b * 69621) % q
  have l1 : o1 < q := Nat.mod_lt _ (by omega)
  have l3 : (o1 * (o1 + q / 7)) % q < q := Nat.mod_lt _ (by omega)
  refine ⟨num * 2147483647 + (o1 * (o1 + q / 7)) % q, ?_, .val (.int o1), ?_⟩
  · have e : 2 ^ (64 * (i + 1)) = 2 ^ (64 * i) * 18446744073709551616 := by rw [show 64 * (i + 1) = 64 * i + 64 by omega, Nat.pow_add]
    rw [e]
    omega
  · have m1 := hm g 7919 kk (by omega) (by omega)
    have m2 := hm g (b * b) 69621 (by show ((b : Int) * b).natAbs < T; rw [← Int.natCast_mul]; omega) (by omega)
    have m6 := hm g num 2147483647 (by omega) (by omega)
    have m7 := hm g o1 (o1 + q / 7) (by omega) (by omega)
    have m8 := fdiv_ok g q 7 (by omega) (by omega)
    have x0 : ((c : Int) % q + 7919 * kk + 48271) = (b : Int) := by simp [b]
    have msq := sq_some g b (by omega)
    have x1 : ((b : Int) * b * 69621 % q) = (o1 : Int) := by simp [o1]
    have s1 : execS g (.set (.one 6) (.op .mod [(.op .mul [(.op .pow [(.op .add [(.op .add [(.op .mod [(.var 2), (.var 5)]), (.op .mul [(.lit (.int 7919)), (.var 1)])]), (.lit (.int 48271))]), (.lit (.int 2))]), (.lit (.int 69621))]), (.var 5)])) ⟨[.val sc, .val (.int kk), .val (.int c), .val (.int num), .val prsA, .val (.int q), j6], m⟩ = .ok .next ⟨[.val sc, .val (.int kk), .val (.int c), .val (.int num), .val prsA, .val (.int q), .val (.int o1)], m⟩ := by
      rw [← x1]
      simp only [x_set, e_mod, as_cons, arg_op, e_add, e_mul, e_pow, arg_var, arg_lit, slot_mk, List.getD_cons_succ, List.getD_cons_zero, e_var, e_lit, bind_ok, as_nil, opA_2, ok_v, Bool.and_self, if_true, get_v, cont_int, m1, m2, x0, msq, op_add_i, op_mod, hqp, decide_true, b_one, put_mk, List.set_cons_succ, List.set_cons_zero]
    have x3 : ((num : Int) * 2147483647 + (o1 : Int) * (o1 + (q : Int) / 7) % q) = ((num * 2147483647 + (o1 * (o1 + q / 7)) % q : Nat) : Int) := by simp
    have s3 : execS g (.set (.one 3) (.op .add [(.op .mul [(.var 3), (.lit (.int 2147483647))]), (.op .mod [(.op .mul [(.var 6), (.op .add [(.var 6), (.op .fdiv [(.var 5), (.lit (.int 7))])])]), (.var 5)])])) ⟨[.val sc, .val (.int kk), .val (.int c), .val (.int num), .val prsA, .val (.int q), .val (.int o1)], m⟩ = .ok .next ⟨[.val sc, .val (.int kk), .val (.int c), .val (.int ((num * 2147483647 + (o1 * (o1 + q / 7)) % q : Nat) : Int)), .val prsA, .val (.int q), .val (.int o1)], m⟩ := by
      rw [← x3]
      simp only [x_set, e_mod, as_cons, arg_op, e_add, e_mul, e_fdiv, arg_var, arg_lit, slot_mk, List.getD_cons_succ, List.getD_cons_zero, e_var, e_lit, bind_ok, as_nil, opA_2, ok_v, Bool.and_self, if_true, get_v, cont_int, m6, m7, m8, op_add_i, op_mod, hqp, decide_true, b_one, put_mk, List.set_cons_succ, List.set_cons_zero]
    exact (x_seq s1).trans ((x_seq s3).trans x_nil)
def sIt : ME := .op .add [(.var 4), (.op .lst [(.lit (.int 2147483477)), (.lit (.int 2147483423)), (.lit (.int 2147483399)), (.lit (.int 2147483353)), (.lit (.int 2147483323)), (.lit (.int 2147483269)), (.lit (.int 2147483249))])]
theorem state_for (g : Gst) (m : List U) (sc : U) (kk c : Nat) (hk : kk ≤ 100) : ∃ num : Nat, ∃ j5 j6, execS g (.forr (.one 5) 0 [sIt] sBody) ⟨[.val sc, .val (.int kk), .val (.int c), .val (.int 0), .val prsA, .no, .no], m⟩ = .ok .next ⟨[.val sc, .val (.int kk), .val (.int c), .val (.int num), .val prsA, j5, j6], m⟩ := by
  have h7l : 7 ≤ line := by have := line_ge; omega
  have h15 : 15 ≤ line := by have := line_ge; omega
  have hadd : ∀ (g : Gst) (a b : List U), opSem g .add [.lst a, .lst b] = okL (a ++ b) := fun g a b => rfl
  have ev : evalAs g [sIt] ⟨[.val sc, .val (.int kk), .val (.int c), .val (.int 0), .val prsA, .no, .no], m⟩ = .ok [.v (.lst ((primesA ++ primesB).map iu))] ⟨[.val sc, .val (.int kk), .val (.int c), .val (.int 0), .val prsA, .no, .no], m⟩ := by
    simp [sIt, okL, hadd, h7l, h15, prsA, primesA, primesB]
  have hw : ∀ s : Sta, walkA 0 [.v (.lst ((primesA ++ primesB).map iu))] s = some ((primesA ++ primesB).map iu) := fun s => rfl
  obtain ⟨s', h1, num, h2⟩ := turnsF_relN (γ := Unit) (R := fun i _ s => ∃ num : Nat, num < 2 ^ (64 * i) ∧ ∃ j5 j6, s = ⟨[.val sc, .val (.int kk), .val (.int c), .val (.int num), .val prsA, j5, j6], m⟩) (enc := iu) (step := fun _ _ => ()) (f := fun x s1 => match bindT (.one 5) x s1 with
      | some s2 => (execs g sBody s2).bind fun fl s3 => if stillIs ⟨[.val sc, .val (.int kk), .val (.int c), .val (.int 0), .val prsA, .no, .no], m⟩ s3 [.v (.lst ((primesA ++ primesB).map iu))] then .ok fl s3 else .stuck
      | none => .stuck) (primesA ++ primesB) 0 () ⟨[.val sc, .val (.int kk), .val (.int c), .val (.int 0), .val prsA, .no, .no], m⟩ ⟨0, by decide, .no, .no, rfl⟩ (by
    rintro i _ s q hi hmem ⟨num, hn, j5, j6, rfl⟩
    have hi : i < 15 := by have : (primesA ++ primesB).length = 15 := rfl; omega
    have hfacts : ∀ z ∈ primesA ++ primesB, 2 ≤ z ∧ z < 2147483648 := by decide
    obtain ⟨f2, f3⟩ := hfacts _ hmem
    obtain ⟨num', q1, k6, q2⟩ := state_turn g m sc kk c num q i hk f2 f3 hn hi j6
    refine ⟨⟨[.val sc, .val (.int kk), .val (.int c), .val (.int num'), .val prsA, .val (.int q), k6], m⟩, .inl ?_, num', q1, .val (.int q), k6, rfl⟩
    simp only [b_one, iu_eq, put_mk, List.set_cons_succ, List.set_cons_zero, q2, bind_ok]
    rw [if_pos (by simp [stillIs])])
  obtain ⟨_, j5, j6, rfl⟩ := h2
  refine ⟨num, j5, j6, ?_⟩
  rw [x_forr, ev, bind_ok, hw]
  exact h1
theorem state_ok (n : Nat) (ns : List Int) (kk : Nat) (hk : kk ≤ 100) (m : List U) : ∃ N : Nat, (S (n + 1)).call F.law__law_state [.scr (ns.map .int), .int kk] m = .ok (.ref m.length) (m ++ [dig N]) := by
  rw [h_state.call]
  obtain ⟨B, hB, hB2, hp⟩ := pow_some
  let sc : U := .scr (ns.map .int)
  obtain ⟨c, s1⟩ : ∃ c : Nat, execS (S n) (.set (.one 2) (.ifx (.op .ne [(.var 0), (.op .lst [])]) (.op .abs [(.op .ix [(.var 0), (.op .mod [(.var 1), (.op .len [(.var 0)])])])]) (.lit (.int 0)))) ⟨[.val sc, .val (.int kk), .no, .no, .no, .no, .no], m⟩ = .ok .next ⟨[.val sc, .val (.int kk), .val (.int c), .no, .no, .no, .no], m⟩ := by
    cases ns with
    | nil => exact ⟨0, by simp [sc, okL]⟩
    | cons a l =>
      have hpos : (0 : Int) < (l.length : Int) + 1 := by omega
      have hlt : kk % (l.length + 1) < (a :: l).length := Nat.mod_lt _ (by simp)
      refine ⟨((a :: l)[kk % (l.length + 1)]).natAbs, ?_⟩
      have hat : MP.atI ((a :: l).map U.int) (((kk : Int) % ((l.length : Int) + 1))) = some (.int ((a :: l)[kk % (l.length + 1)])) := by
        have e : ((kk : Int) % ((l.length : Int) + 1)) = ((kk % (l.length + 1) : Nat) : Int) := by simp
        rw [e, atI_nat, List.getElem?_map, List.getElem?_eq_getElem hlt]
        rfl
      generalize (a :: l)[kk % (l.length + 1)] = z at *
      have habs : opSem (S n) .abs [.int z] = some (.int z.natAbs) := rfl
      have hd := deeps_z 6 l
      rw [List.map_cons] at hat
      simp [sc, okL, hd, hpos, hat, habs]
  have eB : evalE (S n) (.op .pow [(.lit (.int 10)), (.lit (.int 18))]) ⟨[.val sc, .val (.int kk), .val (.int c), .no, .no, .no, .no], m⟩ = .ok (.int B) ⟨[.val sc, .val (.int kk), .val (.int c), .no, .no, .no, .no], m⟩ := by
    simp only [e_pow, as_cons, arg_lit, e_lit, bind_ok, as_nil, opA_2, ok_v, Bool.and_self, if_true, get_v, cont_int, hp]
  have cond : condOf (fun s => evalE (S n) (.op .ge [(.var 2), (.op .pow [(.lit (.int 10)), (.lit (.int 18))])]) s) (.op .ge [(.var 2), (.op .pow [(.lit (.int 10)), (.lit (.int 18))])]) ⟨[.val sc, .val (.int kk), .val (.int c), .no, .no, .no, .no], m⟩ = .ok (decide (B ≤ c)) ⟨[.val sc, .val (.int kk), .val (.int c), .no, .no, .no, .no], m⟩ := by
    simp only [cond_of, arg_op, e_ge, as_cons, arg_var, slot_mk, List.getD_cons_succ, List.getD_cons_zero, e_var, bind_ok, eB, as_nil, opA_2, ok_v, Bool.and_self, if_true, get_v, cont_int, op_ge, cont_bl, truthy_bl]
  have h1l : 1 ≤ line := by have := line_ge; omega
  by_cases h : B ≤ (c : Int)
  · refine ⟨(c - B).toNat, run_ret (s := ⟨[.val sc, .val (.int kk), .val (.int c), .no, .no, .no, .no], m ++ [dig (c - B).toNat]⟩) d_law__law_state [sc, .int kk] m rfl ?_⟩
    rw [decide_eq_true h] at cond
    have e2 : (((c : Int) - B).toNat : Int) = c - B := by omega
    have e3 : dig ((c : Int) - B).toNat = U.lst [U.int ((c : Int) - B)] := by
      show U.lst [U.int _] = _
      rw [e2]
    rw [e3]
    refine (x_seq s1).trans (x_last ((x_ifT cond).trans ?_))
    simp only [x_cons, x_ret, e_share, e_lst, es_cons, e_sub, as_cons, arg_var, slot_mk, List.getD_cons_succ, List.getD_cons_zero, e_var, bind_ok, arg_op, eB, as_nil, opA_2, ok_v, Bool.and_self, if_true, get_v, cont_int, op_sub_i, es_nil, opH_ok, op_lst, okL, List.length_cons, List.length_nil, Nat.zero_add, h1l, newOf_ok, isLD_lst, e2]
  · rw [decide_eq_false h] at cond
    obtain ⟨num, j5, j6, s5⟩ := state_for (S n) m sc kk c hk
    refine ⟨num, run_ret (s := ⟨[.val sc, .val (.int kk), .val (.int c), .val (.int num), .val prsA, j5, j6], m ++ [dig num]⟩) d_law__law_state [sc, .int kk] m rfl ?_⟩
    have h8l : 8 ≤ line := by have := line_ge; omega
    have s3 : execS (S n) (.set (.one 3) (.lit (.int 0))) ⟨[.val sc, .val (.int kk), .val (.int c), .no, .no, .no, .no], m⟩ = .ok .next ⟨[.val sc, .val (.int kk), .val (.int c), .val (.int 0), .no, .no, .no], m⟩ := by simp
    have s4 : execS (S n) (.set (.one 4) (.op .lst [(.lit (.int 2147483629)), (.lit (.int 2147483587)), (.lit (.int 2147483579)), (.lit (.int 2147483563)), (.lit (.int 2147483549)), (.lit (.int 2147483543)), (.lit (.int 2147483497)), (.lit (.int 2147483489))])) ⟨[.val sc, .val (.int kk), .val (.int c), .val (.int 0), .no, .no, .no], m⟩ = .ok .next ⟨[.val sc, .val (.int kk), .val (.int c), .val (.int 0), .val prsA, .no, .no], m⟩ := by
      simp [okL, h8l, prsA, primesA]
    have s6 : execS (S n) (.ret (.share (.op .lst [(.var 3)]))) ⟨[.val sc, .val (.int kk), .val (.int c), .val (.int num), .val prsA, j5, j6], m⟩ = .ok (.ret (.ref m.length)) ⟨[.val sc, .val (.int kk), .val (.int c), .val (.int num), .val prsA, j5, j6], m ++ [dig num]⟩ := by
      simp [okL, h1l]
    exact (x_seq s1).trans ((x_seq ((x_ifF cond).trans x_nil)).trans ((x_seq s3).trans ((x_seq s4).trans ((x_seq s5).trans (x_last s6)))))
end K86
end MPE
set_option maxRecDepth 100000
set_option maxHeartbeats 4000000
/-! E86b: counters drawn. -/
namespace MPE
open MP
namespace K86
open MM
theorem turnsC_sn {α β : Type} {f : U → Sta → Rs (Option U)} {St : β → Sta} {enc : α → U} {out : β → α → U} {step : β → α → β} {I : Nat → β → Prop} : ∀ (l : List α) (i0 : Nat) (b : β), I i0 b → (∀ i b a, i < i0 + l.length → a ∈ l → I i b → f (enc a) (St b) = .ok (some (out b a)) (St (step b a)) ∧ I (i + 1) (step b a)) →
    turnsC f (l.map enc) (St b) = .ok (outs out step b l) (St (l.foldl step b)) ∧ I (i0 + l.length) (l.foldl step b)
  | [], i0, b, hi, _ => ⟨rfl, hi⟩
  | a :: l, i0, b, hi, h => by
    obtain ⟨h1, h2⟩ := h i0 b a (by simp) (by simp) hi
    obtain ⟨h3, h4⟩ := turnsC_sn l (i0 + 1) (step b a) h2 fun i b y hy hm => h i b y (by simp; omega) (by simp [hm])
    refine ⟨?_, by rw [List.length_cons, show i0 + (l.length + 1) = i0 + 1 + l.length by omega]; exact h4⟩
    simp only [List.map_cons, turnsC, h1, Rs.bind, h3, outs, List.foldl_cons]
theorem ev_compN {α β : Type} {g : Gst} {e : ME} {t : Tg} {k : Nat} {its : List ME} {own : List Nat} {s : Sta} {avs : List AV} {xs : List U} (l : List α) (enc : α → U) (St : β → Sta) (out : β → α → U) (step : β → α → β) (I : Nat → β → Prop) (b0 : β) (hs : s = St b0) (hi : I 0 b0) (h1 : evalAs g its s = .ok avs s) (h2 : walkA k avs s = some xs) (hx : xs = l.map enc) (h3 : stillIs s (wipeS s own) avs = true) (h4 : own.all (fun j => !(AV.own j).ok s) = true) (hl : l.length ≤ line)
    (hb : ∀ i b a, i < l.length → a ∈ l → I i b → ∃ sb, bindT t (enc a) (wipeS (St b) own) = some sb ∧ evalE g e sb = .ok (out b a) (St (step b a)) ∧ stillIs s (St (step b a)) avs = true ∧ I (i + 1) (step b a)) :
    evalE g (.comp e t k its own none) s = .ok (.lst (outs out step b0 l)) (backS s (St (l.foldl step b0)) own) ∧ I l.length (l.foldl step b0) := by
  subst hx
  subst hs
  obtain ⟨q1, q2⟩ := turnsC_sn (f := fun x s => match bindT t x (wipeS s own) with
    | some sb => (Rs.ok true sb).bind fun b sc => if b then (evalE g e sc).bind fun u se => (if stillIs (St b0) se avs then .ok (some u) se else .stuck) else (if stillIs (St b0) sc avs then .ok none sc else .stuck)
    | none => .stuck) (St := St) (enc := enc) (out := out) (step := step) (I := I) l 0 b0 hi (fun i b a hi ha hI => by
    obtain ⟨sb, b1, b2, b3, b4⟩ := hb i b a (by simpa using hi) ha hI
    refine ⟨?_, b4⟩
    simp only [b1, Rs.bind, if_true, b2, b3])
  rw [Nat.zero_add] at q2
  refine ⟨?_, q2⟩
  conv => lhs; unfold evalE
  simp only [h1, Rs.bind, h2, h3, h4, Bool.and_self, if_true]
  refine comp_endS (P := True) (by rw [outs_len]; exact hl) ⟨?_, trivial⟩
  exact q1
theorem erase_map {α β : Type} (f : α → β) : ∀ (l : List α) (i : Nat), (l.map f).eraseIdx i = (l.eraseIdx i).map f
  | [], i => by simp
  | a :: l, 0 => by simp
  | a :: l, i + 1 => by simp [erase_map f l i]
theorem erase_perm : ∀ (l : List Nat) (i : Nat) (h : i < l.length), (l[i] :: l.eraseIdx i).Perm l
  | a :: l, 0, h => by simp
  | a :: l, i + 1, h => by
    have := erase_perm l i (by simpa using h)
    simp only [List.getElem_cons_succ, List.eraseIdx_cons_succ]
    exact (List.Perm.swap _ _ _).trans (List.Perm.cons a this)
theorem getDlt {l : List Nat} {i : Nat} (h : i < l.length) : l.getD i 0 = l[i] := by
  rw [List.getD_eq_getElem?_getD, List.getElem?_eq_getElem h]; rfl
def rc0 : ME := .comp (.mut .popAt (.var 2) [(.call F.law__law_next [(.var 0), (.op .len [(.var 2)])])]) (.one 3) 1 [(.var 1)] [3] none
theorem ring_ok (n : Nat) (r : Nat) (N : Nat) (m0 m1 : List U) (hr : m0.length = r) (k : Nat) (hk : k ≤ 100) : ∃ ring N', IsTurn k ring ∧ evalE (S (n + 1)) rc0 ⟨[.val (.ref r), .val (.int k), .own (nls (List.range k)), .no, .no, .no, .no, .no], m0 ++ dig N :: m1⟩ = .ok (nls ring) ⟨[.val (.ref r), .val (.int k), .own (nls []), .no, .no, .no, .no, .no], m0 ++ dig N' :: m1⟩ := by
  let St : List Nat × List Nat × Nat × Slt → Sta := fun b => ⟨[.val (.ref r), .val (.int k), .own (nls b.1), b.2.2.2, .no, .no, .no, .no], m0 ++ dig b.2.2.1 :: m1⟩
  let out : List Nat × List Nat × Nat × Slt → Nat → U := fun b a => iu (b.1.getD (b.2.2.1 % b.1.length) 0)
  let step : List Nat × List Nat × Nat × Slt → Nat → List Nat × List Nat × Nat × Slt := fun b a => (b.1.eraseIdx (b.2.2.1 % b.1.length), b.2.1 ++ [b.1.getD (b.2.2.1 % b.1.length) 0], b.2.2.1 / b.1.length, .val (iu a))
  let I : Nat → List Nat × List Nat × Nat × Slt → Prop := fun i b => b.1.length + i = k ∧ (b.2.1 ++ b.1).Perm (List.range k)
  have hsm : small (k : Int) = true := small_of (by omega) (by omega)
  obtain ⟨q1, q2, q3⟩ := ev_compN (g := S (n + 1)) (e := .mut .popAt (.var 2) [(.call F.law__law_next [(.var 0), (.op .len [(.var 2)])])]) (t := .one 3) (k := 1) (its := [.var 1]) (own := [3]) (s := ⟨[.val (.ref r), .val (.int k), .own (nls (List.range k)), .no, .no, .no, .no, .no], m0 ++ dig N :: m1⟩) (avs := [.v (.int k)]) (xs := (List.range k).map iu) (List.range k) iu St out step I (List.range k, [], N, .no) rfl ⟨by simp, by simp⟩ (by simp) (by simp only [walkA, List.all_cons, ok_v, List.all_nil, Bool.and_self, if_true, List.map_cons, List.map_nil, get_v, cont_int, walk, hsm, rng_iu]) rfl (by simp [stillIs]) (by simp) (by have := line_ge; simp; omega) (by
    rintro i ⟨l, d, N, j⟩ a hi ha ⟨h1, h2⟩
    simp only at h1 h2
    have hi' : i < k := by simpa using hi
    have hpos : 0 < l.length := by omega
    have hlt : N % l.length < l.length := Nat.mod_lt _ hpos
    have nx := next_ok n r N m0 m1 hr l.length (by omega) (by omega)
    have hpop := mut_popAt (l.map iu) (N % l.length) (by simpa using hlt) (by simp; omega)
    simp only [List.getElem_map, erase_map] at hpop
    refine ⟨⟨[.val (.ref r), .val (.int k), .own (nls l), .val (iu a), .no, .no, .no, .no], m0 ++ dig N :: m1⟩, by simp [St], ?_, by simp [stillIs], ?_, ?_⟩
    · have e1 : l.getD (N % l.length) 0 = l[N % l.length] := getDlt hlt
      simp only [St, step, out, e1]
      generalize hM : m0 ++ dig (N / l.length) :: m1 = M2 at *
      generalize hM1 : m0 ++ dig N :: m1 = M1 at *
      generalize ((N % l.length : Nat) : Int) = z at *
      generalize l[N % l.length] = y at *
      generalize l.eraseIdx (N % l.length) = l' at *
      simp [nx, kindN, Mop.kind, mutF, hpop, setC]
    · simp only [step]
      rw [List.length_eraseIdx_of_lt hlt]
      omega
    · simp only [step]
      rw [getDlt hlt]
      refine List.Perm.trans ?_ h2
      rw [List.append_assoc]
      refine List.Perm.append_left d ?_
      rw [List.singleton_append]
      exact erase_perm l _ hlt)
  have ho : ∀ (xs : List Nat) (b : List Nat × List Nat × Nat × Slt), (xs.foldl step b).2.1.map iu = b.2.1.map iu ++ outs out step b xs := by
    intro xs
    induction xs with
    | nil => intro b; simp [outs]
    | cons x xs ih =>
      intro b
      rw [List.foldl_cons, ih, outs]
      simp [step, out]
  have ho0 := ho (List.range k) (List.range k, [], N, .no)
  generalize hb : List.foldl step (List.range k, [], N, .no) (List.range k) = b at *
  obtain ⟨l, d, N', j⟩ := b
  simp only [List.length_range] at q2
  have hl0 : l = [] := List.length_eq_zero_iff.1 (by omega)
  subst hl0
  simp only [List.append_nil] at q3
  refine ⟨d, N', q3, ?_⟩
  simp only [List.map_nil, List.nil_append] at ho0
  rw [← ho0] at q1
  unfold rc0
  rw [q1]
  simp [St, backS, slot, Sta.put]
/-! the ring's turn and what it hands on -/
def tl (k : Nat) (ring : List Nat) (i : Nat) : List Nat := (List.range i).foldl (fun t j => t.set (ring.getD j 0) (ring.getD ((j + 1) % k) 0)) (List.replicate k 0)
def wl (k : Nat) (ring : List Nat) (d : Nat) : List Nat := (List.replicate k 0).set (ring.getD (k - 1) 0) d
def ringB (k : Nat) (ring : List Nat) : Bool := (tl k ring k).isPerm (List.range k) && (List.range k).all fun i => decide ((tl k ring k).getD (ring.getD i 0) 0 = ring.getD ((i + 1) % k) 0) && (decide ((wl k ring 1).getD (ring.getD i 0) 0 = if i = k - 1 then 1 else 0) && decide ((wl k ring 2).getD (ring.getD i 0) 0 = if i = k - 1 then 2 else 0))
theorem rings2 : ((perms (List.range 2)).all (ringB 2)) = true := by decide +kernel
theorem rings3 : ((perms (List.range 3)).all (ringB 3)) = true := by decide +kernel
theorem rings4 : ((perms (List.range 4)).all (ringB 4)) = true := by decide +kernel
theorem ringB_ok {k : Nat} (hk : K24 k) {ring : List Nat} (h : IsTurn k ring) : ringB k ring = true := by
  have hm := turn_in h
  rcases hk.cases with rfl | rfl | rfl
  · exact List.all_eq_true.1 rings2 _ hm
  · exact List.all_eq_true.1 rings3 _ hm
  · exact List.all_eq_true.1 rings4 _ hm
theorem tl_len (k : Nat) (ring : List Nat) (i : Nat) : (tl k ring i).length = k := by
  unfold tl
  generalize List.range i = l
  have : ∀ t : List Nat, (l.foldl (fun t j => t.set (ring.getD j 0) (ring.getD ((j + 1) % k) 0)) t).length = t.length := by
    induction l with
    | nil => intro t; rfl
    | cons a l ih => intro t; rw [List.foldl_cons, ih]; simp
  rw [this]; simp
theorem ring_B {k : Nat} (hk : K24 k) {ring : List Nat} (h : IsTurn k ring) {d : Nat} (hd : d = 1 ∨ d = 2) : RingB k (tl k ring k) (wl k ring d) (fun z => ring.getD (z % k).toNat 0) d := by
  have hb := ringB_ok hk h
  unfold ringB at hb
  simp only [Bool.and_eq_true, List.all_eq_true, decide_eq_true_eq, List.mem_range] at hb
  obtain ⟨b1, b2⟩ := hb
  have hl := h.blen
  have nd : ring.Nodup := h.nodup_iff.2 List.nodup_range
  have hk2 := hk.lo
  have kp : (0 : Int) < k := by omega
  have hidx : ∀ z : Int, (z % k).toNat < k := fun z => by
    have h1 := Int.emod_nonneg z (show (k : Int) ≠ 0 by omega)
    have h2 := Int.emod_lt_of_pos z kp
    omega
  have hat : ∀ z : Int, ring.getD (z % k).toNat 0 = ring[(z % k).toNat]'(by rw [hl]; exact hidx z) := fun z => getDlt (by rw [hl]; exact hidx z)
  refine ⟨⟨hk, List.isPerm_iff.1 b1, by simp [wl], ?_⟩, ?_, ?_, ?_, ?_, ?_, ?_⟩
  · intro x hx
    unfold wl at hx
    rcases List.mem_or_eq_of_mem_set hx with h | h
    · have := List.eq_of_mem_replicate h; omega
    · omega
  · intro z
    show ring.getD _ 0 < k
    rw [hat]
    exact h.bmem.1 (List.getElem_mem _)
  · intro z
    show (tl k ring k).getD (ring.getD (z % k).toNat 0) 0 = ring.getD ((z + 1) % k).toNat 0
    rw [(b2 _ (hidx z)).1]
    congr 1
    rcases hk.cases with rfl | rfl | rfl <;> omega
  · intro z
    show (((wl k ring d).getD (ring.getD (z % k).toNat 0) 0 : Nat) : Int) = _
    have e : (wl k ring d).getD (ring.getD (z % k).toNat 0) 0 = if (z % k).toNat = k - 1 then d else 0 := by
      rcases hd with rfl | rfl
      · exact (b2 _ (hidx z)).2.1
      · exact (b2 _ (hidx z)).2.2
    rw [e]
    have h1 := Int.emod_nonneg z (show (k : Int) ≠ 0 by omega)
    by_cases hz : (z % k).toNat = k - 1
    · rw [if_pos hz, if_pos (by omega)]
    · rw [if_neg hz, if_neg (by omega)]; rfl
  · intro x hx
    have hm : x ∈ ring := h.bmem.2 hx
    obtain ⟨i, hi, rfl⟩ := List.mem_iff_getElem.1 hm
    refine ⟨i, by omega, by omega, ?_⟩
    show ring.getD ((i : Int) % k).toNat 0 = ring[i]
    have : ((i : Int) % k).toNat = i := by rw [Int.emod_eq_of_lt (by omega) (by omega)]; simp
    rw [this, getDlt hi]
  · intro z z'
    show ring.getD _ 0 = ring.getD _ 0 ↔ _
    rw [hat, hat]
    have h1 := Int.emod_nonneg z (show (k : Int) ≠ 0 by omega)
    have h2 := Int.emod_nonneg z' (show (k : Int) ≠ 0 by omega)
    constructor
    · intro e
      have e2 := congrArg ring.idxOf e
      rw [idxOf_at nd, idxOf_at nd] at e2
      omega
    · intro e
      have e2 : (z % k).toNat = (z' % k).toNat := by omega
      simp only [e2]
  · rcases hd with rfl | rfl <;> simp
end K86
end MPE
set_option maxRecDepth 100000
set_option maxHeartbeats 4000000
/-! E86c: a counter's two hands. -/
namespace MPE
open MP
namespace K86
open MM
theorem repN_eq (u : U) : ∀ n : Nat, repN [u] n = List.replicate n u
  | 0 => rfl
  | n + 1 => by rw [repN, repN_eq u n]; rfl
theorem mul_l (g : Gst) (u : U) (n : Nat) (h : n ≤ 1000) : opSem g .mul [.lst [u], .int n] = some (.lst (List.replicate n u)) := by
  have e : opSem g .mul [.lst [u], .int n] = if decide ((-1000 : Int) ≤ n ∧ (n : Int) ≤ 1000000 ∧ [u].length * (n : Int).toNat ≤ line) then some (.lst (repN [u] (n : Int).toNat)) else none := Eq.trans rfl rfl
  have := line_ge
  rw [e, if_pos (decide_eq_true ⟨by omega, by omega, by simp; omega⟩), repN_eq]
  rfl
theorem mul_t (g : Gst) (u : U) (n : Nat) (h : n ≤ 1000) : opSem g .mul [.tup [u], .int n] = some (.tup (List.replicate n u)) := by
  have e : opSem g .mul [.tup [u], .int n] = if decide ((-1000 : Int) ≤ n ∧ (n : Int) ≤ 1000 ∧ [u].length ≤ 1000 ∧ [u].length ≠ 0) then some (.tup (repN [u] (n : Int).toNat)) else none := Eq.trans rfl rfl
  rw [e, if_pos (decide_eq_true ⟨by omega, by omega, by simp, by simp⟩), repN_eq]
  rfl
theorem setIx_iu (l : List Nat) (i v : Nat) (h : i < l.length) : mutSem .setIx (nls l) [.int i, .int v] = some (nls (l.set i v), .non) := by
  have e : mutSem .setIx (nls l) [.int i, .int v] = muSetIx (nls l) [.int i, .int v] := Eq.trans rfl rfl
  rw [e]
  unfold muSetIx
  simp [h, List.map_set]
theorem tl_succ (k : Nat) (ring : List Nat) (i : Nat) : tl k ring (i + 1) = (tl k ring i).set (ring.getD i 0) (ring.getD ((i + 1) % k) 0) := by
  unfold tl
  rw [List.range_succ, List.foldl_append]
  rfl
def cBody : List MS := [.setIx (.var 5) (.var 6) (.op .ix [(.var 4), (.op .mod [(.op .add [(.var 3), (.lit (.int 1))]), (.var 1)])])]
theorem counter_for (g : Gst) (r : Nat) (m : List U) {k : Nat} (hk : K24 k) {ring : List Nat} (h : IsTurn k ring) : ∃ j3 j6, execS g (.forr (.tup [(.one 3), (.one 6)]) 3 [(.var 4)] cBody) ⟨[.val (.ref r), .val (.int k), .own (nls []), .no, .val (nls ring), .own (nls (List.replicate k 0)), .no, .no], m⟩ = .ok .next ⟨[.val (.ref r), .val (.int k), .own (nls []), j3, .val (nls ring), .own (nls (tl k ring k)), j6, .no], m⟩ := by
  have hl := h.blen
  have hk2 := hk.lo
  let s0 : Sta := ⟨[.val (.ref r), .val (.int k), .own (nls []), .no, .val (nls ring), .own (nls (List.replicate k 0)), .no, .no], m⟩
  have ev : evalAs g [(.var 4)] s0 = .ok [.v (nls ring)] s0 := by simp [s0]
  have hxs : (ring.map iu).mapIdx (fun i x => U.prs [.int i, x]) = (List.range k).map fun i : Nat => U.prs [.int (i : Nat), .int (ring.getD i 0 : Nat)] := by
    apply List.ext_getElem
    · simp [hl]
    · intro i h1 h2
      have hi : i < ring.length := by simpa using h1
      simp [hi]
  have hw : walkA 3 [.v (nls ring)] s0 = some ((List.range k).map fun i : Nat => U.prs [.int (i : Nat), .int (ring.getD i 0 : Nat)]) := by
    rw [← hxs]; simp only [walkA, List.all_cons, ok_v, List.all_nil, Bool.and_self, if_true, List.map_cons, List.map_nil, get_v, cont_lst, walk]
  obtain ⟨s', q1, j3, j6, q2⟩ := turnsF_relI (R := fun i s => ∃ j3 j6, s = ⟨[.val (.ref r), .val (.int k), .own (nls []), j3, .val (nls ring), .own (nls (tl k ring i)), j6, .no], m⟩) (enc := fun i : Nat => U.prs [.int (i : Nat), .int (ring.getD i 0 : Nat)]) (f := fun x s1 => match bindT (.tup [(.one 3), (.one 6)]) x s1 with
      | some s2 => (execs g cBody s2).bind fun fl s3 => if stillIs s0 s3 [.v (nls ring)] then .ok fl s3 else .stuck
      | none => .stuck) (List.range k) s0 ⟨.no, .no, rfl⟩ (by
    rintro i s x hx ⟨j3, j6, rfl⟩
    have hi : i < k := by have := (List.getElem?_eq_some_iff.1 hx).1; simpa using this
    have hxi : x = i := by rw [List.getElem?_range hi] at hx; exact (Option.some.inj hx).symm
    subst hxi
    have hp : (0 : Int) < k := by omega
    have hmod : ((x : Int) + 1) % (k : Int) = (((x + 1) % k : Nat) : Int) := by simp
    have hlt : (x + 1) % k < ring.length := by rw [hl]; exact Nat.mod_lt _ (by omega)
    have hget : MP.atI (ring.map iu) (((x : Int) + 1) % (k : Int)) = some (.int (ring.getD ((x + 1) % k) 0 : Nat)) := by
      rw [hmod, atI_nat, List.getElem?_map, List.getElem?_eq_getElem hlt, getDlt hlt]
      rfl
    have hx2 : x < ring.length := by omega
    have hrl : ring.getD x 0 < (tl k ring x).length := by
      rw [tl_len, getDlt hx2]
      exact h.bmem.1 (List.getElem_mem _)
    have hset := setIx_iu (tl k ring x) (ring.getD x 0) (ring.getD ((x + 1) % k) 0) hrl
    rw [← tl_succ] at hset
    have ex : execs g cBody ⟨[.val (.ref r), .val (.int k), .own (nls []), .val (.int x), .val (nls ring), .own (nls (tl k ring x)), .val (.int (ring.getD x 0 : Nat)), .no], m⟩ = .ok .next ⟨[.val (.ref r), .val (.int k), .own (nls []), .val (.int x), .val (nls ring), .own (nls (tl k ring (x + 1))), .val (.int (ring.getD x 0 : Nat)), .no], m⟩ := by
      generalize tl k ring x = t at *
      generalize tl k ring (x + 1) = t' at *
      generalize hA : ring.getD x 0 = a at *
      generalize hB : ring.getD ((x + 1) % k) 0 = b at *
      have h0 : decide ((0 : Int) < k) = true := decide_eq_true hp
      simp only [cBody, x_cons, x_nil, x_setIx, e_ix, e_mod, e_add, as_cons, as_nil, arg_var, arg_op, arg_lit, slot_mk, List.getD_cons_succ, List.getD_cons_zero, e_var, e_lit, bind_ok, opA_2, ok_v, Bool.and_self, if_true, get_v, get_own, cont_int, cont_lst, op_add_i, op_mod, h0, op_ix_l, hget, hset, setC, put_mk, List.set_cons_succ, List.set_cons_zero]
    refine ⟨_, .inl ?_, .val (.int x), .val (.int (ring.getD x 0 : Nat)), rfl⟩
    simp only [b_tup, b_prs, bs_cons, bs_nil, b_one, put_mk, List.set_cons_succ, List.set_cons_zero, ex, bind_ok]
    rw [if_pos (by simp [stillIs, s0])])
  subst q2
  refine ⟨j3, j6, ?_⟩
  have e : execS g (.forr (.tup [(.one 3), (.one 6)]) 3 [(.var 4)] cBody) s0 = _ := x_forr _ _ _ _
  rw [ev, bind_ok, hw] at e
  rw [List.length_range] at q1
  exact e.trans q1
theorem counter_ok (n : Nat) (r : Nat) (N : Nat) (m0 m1 : List U) (hr : m0.length = r) {k : Nat} (hk : K24 k) : ∃ T W L d N', RingB k T W L d ∧ (S (n + 2)).call F.law__law_counter [.ref r, .int k] (m0 ++ dig N :: m1) = .ok (.lst [handU T W, handU T W]) (m0 ++ dig N' :: m1) := by
  have hk2 := hk.lo
  have hk4 := hk.hi
  obtain ⟨ring, N1, hT, q1⟩ := ring_ok n r N m0 m1 hr k (by omega)
  have hl := hT.blen
  obtain ⟨j3, j6, q2⟩ := counter_for (S (n + 1)) r (m0 ++ dig N1 :: m1) hk hT
  have nx := next_ok n r N1 m0 m1 hr 2 (by omega) (by omega)
  have hd : N1 % 2 + 1 = 1 ∨ N1 % 2 + 1 = 2 := by omega
  refine ⟨tl k ring k, wl k ring (N1 % 2 + 1), _, ((N1 % 2 + 1 : Nat) : Int), N1 / 2, ring_B hk hT hd, ?_⟩
  rw [h_counter.call]
  have hR := lstR1_iu (g := S (n + 1)) k (by omega)
  have h1l : 1 ≤ line := by have := line_ge; omega
  have h2l : 2 ≤ line := by have := line_ge; omega
  have hmul := mul_l (S (n + 1)) (.int 0) k (by omega)
  have hrep : List.replicate k (U.int 0) = (List.replicate k 0).map iu := by simp
  rw [hrep] at hmul
  have s1 : execS (S (n + 1)) (.own 2 (.op .lstR1 [(.var 1)])) ⟨[.val (.ref r), .val (.int k), .no, .no, .no, .no, .no, .no], m0 ++ dig N :: m1⟩ = .ok .next ⟨[.val (.ref r), .val (.int k), .own (nls (List.range k)), .no, .no, .no, .no, .no], m0 ++ dig N :: m1⟩ := by simp [hR]
  have s2 : execS (S (n + 1)) (.set (.one 4) rc0) ⟨[.val (.ref r), .val (.int k), .own (nls (List.range k)), .no, .no, .no, .no, .no], m0 ++ dig N :: m1⟩ = .ok .next ⟨[.val (.ref r), .val (.int k), .own (nls []), .no, .val (nls ring), .no, .no, .no], m0 ++ dig N1 :: m1⟩ := by
    rw [x_set, q1]
    simp
  have s3 : execS (S (n + 1)) (.own 5 (.op .mul [(.op .lst [(.lit (.int 0))]), (.var 1)])) ⟨[.val (.ref r), .val (.int k), .own (nls []), .no, .val (nls ring), .no, .no, .no], m0 ++ dig N1 :: m1⟩ = .ok .next ⟨[.val (.ref r), .val (.int k), .own (nls []), .no, .val (nls ring), .own (nls (List.replicate k 0)), .no, .no], m0 ++ dig N1 :: m1⟩ := by
    generalize hz : nls (List.replicate k 0) = z at *
    have hz2 : opSem (S (n + 1)) .mul [.lst [.int 0], .int k] = some z := by rw [← hz]; exact hmul
    have hz3 : isLD z = true := by rw [← hz]; rfl
    simp [okL, h1l, hz2, hz3]
  have s5 : execS (S (n + 1)) (.own 7 (.op .mul [(.op .lst [(.lit (.int 0))]), (.var 1)])) ⟨[.val (.ref r), .val (.int k), .own (nls []), j3, .val (nls ring), .own (nls (tl k ring k)), j6, .no], m0 ++ dig N1 :: m1⟩ = .ok .next ⟨[.val (.ref r), .val (.int k), .own (nls []), j3, .val (nls ring), .own (nls (tl k ring k)), j6, .own (nls (List.replicate k 0))], m0 ++ dig N1 :: m1⟩ := by
    generalize hz : nls (List.replicate k 0) = z at *
    have hz2 : opSem (S (n + 1)) .mul [.lst [.int 0], .int k] = some z := by rw [← hz]; exact hmul
    have hz3 : isLD z = true := by rw [← hz]; rfl
    generalize nls (tl k ring k) = t at *
    simp [okL, h1l, hz2, hz3]
  have hlast : MP.atI (ring.map iu) (-1) = some (.int (ring.getD (k - 1) 0 : Nat)) := by
    unfold MP.atI
    rw [if_neg (by omega), if_pos (by simp; omega)]
    have : ((-1 : Int) + ((ring.map iu).length : Nat)).toNat = k - 1 := by simp; omega
    rw [this, List.getElem?_map, List.getElem?_eq_getElem (by omega), getDlt (by omega)]
    rfl
  have hset := setIx_iu (List.replicate k 0) (ring.getD (k - 1) 0) (N1 % 2 + 1) (by
    rw [List.length_replicate, getDlt (by omega)]
    exact hT.bmem.1 (List.getElem_mem _))
  have s6 : execS (S (n + 1)) (.setIx (.var 7) (.op .ix [(.var 4), (.op .neg [(.lit (.int 1))])]) (.op .add [(.lit (.int 1)), (.call F.law__law_next [(.var 0), (.lit (.int 2))])])) ⟨[.val (.ref r), .val (.int k), .own (nls []), j3, .val (nls ring), .own (nls (tl k ring k)), j6, .own (nls (List.replicate k 0))], m0 ++ dig N1 :: m1⟩ = .ok .next ⟨[.val (.ref r), .val (.int k), .own (nls []), j3, .val (nls ring), .own (nls (tl k ring k)), j6, .own (nls (wl k ring (N1 % 2 + 1)))], m0 ++ dig (N1 / 2) :: m1⟩ := by
    have hcast : (1 : Int) + ((N1 % 2 : Nat) : Int) = ((N1 % 2 + 1 : Nat) : Int) := by omega
    unfold wl
    generalize (List.replicate k 0).set (ring.getD (k - 1) 0) (N1 % 2 + 1) = w' at *
    generalize List.replicate k 0 = w at *
    generalize nls (tl k ring k) = t at *
    generalize hM1 : m0 ++ dig N1 :: m1 = M1 at *
    generalize hM2 : m0 ++ dig (N1 / 2) :: m1 = M2 at *
    have nx' : (S (n + 1)).call F.law__law_next [.ref r, .int 2] M1 = .ok (.int ((N1 % 2 : Nat) : Int)) M2 := nx
    generalize hy : ((N1 % 2 : Nat) : Int) = y at *
    rw [← hcast] at hset
    generalize ring.getD (k - 1) 0 = a at *
    simp only [x_setIx, e_add, e_ix, e_neg, e_call, es_cons, es_nil, as_cons, as_nil, arg_var, arg_op, arg_lit, arg_call, slot_mk, List.getD_cons_succ, List.getD_cons_zero, e_var, e_lit, bind_ok, nx', rc_ok, opA_2, opA_1, ok_v, Bool.and_self, if_true, get_v, get_own, cont_int, cont_lst, op_add_i, op_neg', op_ix_l, hlast, hset, setC, put_mk, List.set_cons_succ, List.set_cons_zero]
  have hfin : execS (S (n + 1)) (.ret (.op .mul [(.op .lst [(.op .tup [(.op .tupOf [(.var 5)]), (.op .tupOf [(.var 7)])])]), (.lit (.int 2))])) ⟨[.val (.ref r), .val (.int k), .own (nls []), j3, .val (nls ring), .own (nls (tl k ring k)), j6, .own (nls (wl k ring (N1 % 2 + 1)))], m0 ++ dig (N1 / 2) :: m1⟩ = .ok (.ret (.lst [handU (tl k ring k) (wl k ring (N1 % 2 + 1)), handU (tl k ring k) (wl k ring (N1 % 2 + 1))])) ⟨[.val (.ref r), .val (.int k), .own (nls []), j3, .val (nls ring), .own (nls (tl k ring k)), j6, .own (nls (wl k ring (N1 % 2 + 1)))], m0 ++ dig (N1 / 2) :: m1⟩ := by
    have hm2 := mul_l (S (n + 1)) (handU (tl k ring k) (wl k ring (N1 % 2 + 1))) 2 (by omega)
    have hm3 : opSem (S (n + 1)) .mul [.lst [handU (tl k ring k) (wl k ring (N1 % 2 + 1))], .int 2] = some (.lst [handU (tl k ring k) (wl k ring (N1 % 2 + 1)), handU (tl k ring k) (wl k ring (N1 % 2 + 1))]) := hm2
    unfold handU at hm3 ⊢
    generalize tl k ring k = t at *
    generalize wl k ring (N1 % 2 + 1) = w at *
    simp [okT, okL, h1l, h2l, hm3]
  exact run_ret (s := ⟨[.val (.ref r), .val (.int k), .own (nls []), j3, .val (nls ring), .own (nls (tl k ring k)), j6, .own (nls (wl k ring (N1 % 2 + 1)))], m0 ++ dig (N1 / 2) :: m1⟩) d_law__law_counter [.ref r, .int k] _ rfl ((x_seq s1).trans ((x_seq s2).trans ((x_seq s3).trans ((x_seq q2).trans ((x_seq s5).trans ((x_seq s6).trans (x_last hfin)))))))
end K86
end MPE
set_option maxRecDepth 100000
set_option maxHeartbeats 4000000
/-! E86d: rows due, words refused. -/
namespace MPE
open MP
namespace K86
open MM
def rc1 : ME := .op .eq [(.op .mod [(.var 1), (.var 0)]), (.lit (.int 0))]
def rb1 : List MS := [.set (.one 2) (.op .add [(.var 2), (.op .tup [(.lit (.int 0))])]),
  .set (.one 1) (.op .fdiv [(.var 1), (.var 0)])]
theorem row_loop (g : Gst) (m : List U) {k : Nat} (hk : K24 k) : ∀ (f N : Nat), f < N → ∀ (j more : Nat), more ≠ 0 → more ≤ f → j + more ≤ 1000 → ∃ more', turnsW (fun s => condOf (fun s => evalE g rc1 s) rc1 s) (fun s => execs g rb1 s) N ⟨[.val (.int k), .val (.int more), .val (zr j)], m⟩ = .ok .next ⟨[.val (.int k), .val more', .val (zr (j + zk k f more))], m⟩
  | 0, N, _, j, more, h0, h1, _ => by omega
  | f + 1, 0, h, _, _, _, _, _ => by omega
  | f + 1, N + 1, hN, j, more, h0, h1, h2 => by
    have hk2 := hk.lo
    have hk4 := hk.hi
    have hp : (0 : Int) < k := by omega
    have hpd : decide ((0 : Int) < k) = true := decide_eq_true hp
    have hcd : condOf (fun s => evalE g rc1 s) rc1 ⟨[.val (.int k), .val (.int more), .val (zr j)], m⟩ = .ok (decide (more % k = 0)) ⟨[.val (.int k), .val (.int more), .val (zr j)], m⟩ := by
      have e : ((more : Int) % (k : Int)) = ((more % k : Nat) : Int) := by simp
      generalize zr j = z at *
      simp only [rc1, cond_of, arg_op, e_eq, e_mod, as_cons, as_nil, arg_var, arg_lit, slot_mk, List.getD_cons_succ, List.getD_cons_zero, e_var, e_lit, bind_ok, opA_2, ok_v, Bool.and_self, if_true, get_v, cont_int, op_mod, hpd, e]
      generalize hy : more % k = y at *
      by_cases h : y = 0
      · subst h; simp
      · have : ¬ ((y : Int) = 0) := by omega
        simp [h]
    rw [turnsW]
    simp only [hcd, bind_ok]
    by_cases hm : more % k = 0
    · simp only [hm, decide_true, if_true]
      have hzr := zr_succ j
      have hline : j + 1 ≤ line := by have := line_ge; omega
      have h1line : 1 ≤ line := by omega
      have hok : okT ((List.replicate (j + 1) 0).map iu) = some (zr (j + 1)) := by
        unfold okT zr
        rw [if_pos (by simpa using hline)]
      rw [hok] at hzr
      have e1 : opSem g .add [zr j, .tup [.int 0]] = some (zr (j + 1)) := (Eq.trans rfl rfl : opSem g .add [zr j, .tup [.int 0]] = opAdd [zr j, .tup [iu 0]]).trans hzr
      have e2 : okT [.int 0] = some (.tup [.int 0]) := by unfold okT; rw [if_pos (by simpa using h1line)]
      have e3 : cont m (zr j) = zr j := Eq.trans rfl rfl
      have hfd := fdiv_ok g more k hp (by omega)
      have e4 : ((more : Int) / (k : Int)) = ((more / k : Nat) : Int) := by simp
      rw [e4] at hfd
      have hb : execs g rb1 ⟨[.val (.int k), .val (.int more), .val (zr j)], m⟩ = .ok .next ⟨[.val (.int k), .val (.int (more / k : Nat)), .val (zr (j + 1))], m⟩ := by
        generalize zr j = z at *
        generalize zr (j + 1) = z' at *
        generalize ((more / k : Nat) : Int) = y at *
        simp [rb1, e1, e2, e3, hfd]
      have hdm := Nat.div_add_mod more k
      have h5 : more / k ≠ 0 := by
        intro h; rw [h] at hdm; omega
      have h6 : 2 * (more / k) ≤ more := by
        have := Nat.mul_le_mul_right (more / k) hk2
        omega
      obtain ⟨more', q⟩ := row_loop g m hk f N (by omega) (j + 1) (more / k) h5 (by omega) (by omega)
      refine ⟨more', ?_⟩
      rw [hb]
      simp only [bind_ok]
      have ez : zk k (f + 1) more = zk k f (more / k) + 1 := by rw [zk, if_pos hm]
      rw [ez, q, show j + (zk k f (more / k) + 1) = j + 1 + zk k f (more / k) by omega]
    · simp only [hm, decide_false, Bool.false_eq_true, if_false]
      have ez : zk k (f + 1) more = 0 := by rw [zk, if_neg hm]
      rw [ez]
      exact ⟨_, rfl⟩
theorem row_ok (n : Nat) (m : List U) {k : Nat} (hk : K24 k) {less : Nat} (hl : less ≤ 100) : (S (n + 1)).call F.law__law_row [.int k, .int less] m = .ok (rowOf k less) m := by
  rw [h_row.call]
  by_cases h0 : less = 0
  · subst h0
    rw [run_def _ _ _ rfl]
    have e : rowOf k ((0 : Nat) : Int) = .non := rfl
    rw [e]
    simp [d_law__law_row, slots0]
  · obtain ⟨more', q⟩ := row_loop (S n) m hk 100 (S n).turns (by rw [stOf_turns]; decide) 1 less h0 hl (by omega)
    have e : rowOf k (less : Int) = zr (1 + zk k 100 less) := by
      unfold rowOf
      rw [if_neg (by omega), Int.natAbs_natCast]
    rw [e]
    have h1line : 1 ≤ line := by have := line_ge; omega
    have hn : ¬ ((less : Int) = 0) := by omega
    have s1 : execS (S n) (.ife (.op .eq [(.var 1), (.lit (.int 0))]) [.ret (.lit .non)] []) ⟨[.val (.int k), .val (.int less), .no], m⟩ = .ok .next ⟨[.val (.int k), .val (.int less), .no], m⟩ := by
      simp [h0]
    have s2 : execS (S n) (.set (.one 2) (.op .tup [(.lit (.int 0))])) ⟨[.val (.int k), .val (.int less), .no], m⟩ = .ok .next ⟨[.val (.int k), .val (.int less), .val (zr 1)], m⟩ := by
      have hz : zr 1 = .tup [.int 0] := rfl
      rw [hz]
      simp [okT, h1line]
    have s3 : execS (S n) (.whil rc1 rb1) ⟨[.val (.int k), .val (.int less), .val (zr 1)], m⟩ = .ok .next ⟨[.val (.int k), .val more', .val (zr (1 + zk k 100 less))], m⟩ := (x_whil _ _).trans q
    have s4 : execS (S n) (.ret (.var 2)) ⟨[.val (.int k), .val more', .val (zr (1 + zk k 100 less))], m⟩ = .ok (.ret (zr (1 + zk k 100 less))) ⟨[.val (.int k), .val more', .val (zr (1 + zk k 100 less))], m⟩ := by
      generalize zr (1 + zk k 100 less) = z at *
      simp
    exact run_ret (s := ⟨[.val (.int k), .val more', .val (zr (1 + zk k 100 less))], m⟩) d_law__law_row [.int k, .int less] m rfl ((x_seq s1).trans ((x_seq s2).trans ((x_seq s3).trans (x_last s4))))
/-- a lambda that is refused -/
theorem refused_ok (n : Nat) (us : List U) (φ : List U → List U → RC) (m : List U) (h : φ us m = .exc (.exc C.NoWord []) m) : (S (n + 1)).callL F.law__law_refused us φ m = .ok (.bl true) m := by
  have e : (S (n + 1)).callL F.law__law_refused us φ m = runL (S n) d_law__law_refused us φ m := rfl
  rw [e]
  unfold runL
  rw [if_pos (show (d_law__law_refused.params == 1) = true from rfl)]
  have hx : isX { S n with clo := φ } (.exc C.NoWord []) C.NoWord = some true := by
    show (if (S n).excs.contains C.NoWord && (S n).excs.contains C.NoWord then some ((S n).sub C.NoWord C.NoWord) else none) = _
    rw [stOf_excs, stOf_sub]
    rfl
  have s2 : execS { S n with clo := φ } (.tri [.expr (.callv 0 [])] [(C.NoWord, none, [.set (.one 1) (.lit (.bl true))])]) ⟨[.clo us, .val (.bl false)], m⟩ = .ok .next ⟨[.clo us, .val (.bl true)], m⟩ := by
    refine (x_triX (e := .exc C.NoWord []) (s' := ⟨[.clo us, .val (.bl false)], m⟩) (by simp [h])).trans ((hd_do hx).trans ?_)
    simp
  have s1 : execS { S n with clo := φ } (.set (.one 1) (.lit (.bl false))) ⟨[.clo us, .no], m⟩ = .ok .next ⟨[.clo us, .val (.bl false)], m⟩ := by simp
  have fin : execs { S n with clo := φ } d_law__law_refused.body ⟨.clo us :: slots0 [] (d_law__law_refused.slots - 1), m⟩ = .ok (.ret (.bl true)) ⟨[.clo us, .val (.bl true)], m⟩ := (x_seq s1).trans ((x_seq s2).trans (x_last (by simp)))
  rw [fin]
end K86
end MPE
set_option maxRecDepth 100000
set_option maxHeartbeats 4000000
/-! E86e: the law. -/
namespace MPE
open MP
namespace K86
open MM
theorem rowOf_abs (k : Nat) (S : Int) : rowOf k S = rowOf k (S.natAbs : Nat) := by
  unfold rowOf
  by_cases h : S = 0
  · subst h; rfl
  · rw [if_neg h, if_neg (by omega)]
    simp
theorem row_plain (k : Nat) (S : Int) : (rowOf k S).plain = true := by
  unfold rowOf
  split
  · rfl
  · unfold zr
    have h := deeps_iu 6 (List.replicate (1 + zk k 100 S.natAbs) 0)
    simpa using h
theorem row_eq (k : Nat) (S : Int) : eqU (rowOf k S) (rowOf k S) = true := by
  unfold rowOf
  split
  · rw [eqU]
  · unfold zr
    have h := eqUs_iu (List.replicate (1 + zk k 100 S.natAbs) 0) (List.replicate (1 + zk k 100 S.natAbs) 0)
    simpa using h
theorem row_cont (k : Nat) (S : Int) (m : List U) : cont m (rowOf k S) = rowOf k S := by
  unfold rowOf
  split <;> rfl
theorem row_isN (g : Gst) (k : Nat) (S : Int) : opSem g .isN [rowOf k S] = some (.bl (decide (S = 0))) := by
  unfold rowOf
  by_cases h : S = 0
  · simp only [h, if_true, decide_true]; rfl
  · simp only [h, if_false, decide_false]; rfl
def oneW (s : Int) (size : Nat) : List Int := List.replicate size s
def otherW (s : Int) (n : Nat) : List Int := List.replicate n (2 * s)
theorem back_rep (n : Nat) (x : Int) : backW (List.replicate n x) = List.replicate n (-x) := by
  unfold backW
  rw [List.reverse_replicate, List.map_replicate]
section
variable {s : Int} (hs : s = 1 ∨ s = -1)
include hs
theorem one_step (n : Nat) : ∀ x ∈ oneW s n, IsStep x := fun x hx => by
  have := List.eq_of_mem_replicate hx
  subst this
  rcases hs with rfl | rfl <;> simp [IsStep]
theorem other_step (n : Nat) : ∀ x ∈ otherW s n, IsStep x := fun x hx => by
  have := List.eq_of_mem_replicate hx
  subst this
  rcases hs with rfl | rfl <;> simp [IsStep]
theorem short1 (a b : Nat) : shortL (oneW s a ++ backW (otherW s b)) = oneW s a ++ backW (otherW s b) := by
  unfold shortL
  refine red_id _ [] fun x hx y hy => ?_
  unfold oneW otherW at hx hy
  rw [back_rep] at hx hy
  simp only [List.nil_append, List.mem_append, List.mem_replicate] at hx hy
  rcases hs with rfl | rfl <;> rcases hx with ⟨_, rfl⟩ | ⟨_, rfl⟩ <;> rcases hy with ⟨_, rfl⟩ | ⟨_, rfl⟩ <;> decide
theorem short2 (a b : Nat) : shortL (otherW s b ++ backW (oneW s a)) = otherW s b ++ backW (oneW s a) := by
  unfold shortL
  refine red_id _ [] fun x hx y hy => ?_
  unfold oneW otherW at hx hy
  rw [back_rep] at hx hy
  simp only [List.nil_append, List.mem_append, List.mem_replicate] at hx hy
  rcases hs with rfl | rfl <;> rcases hx with ⟨_, rfl⟩ | ⟨_, rfl⟩ <;> rcases hy with ⟨_, rfl⟩ | ⟨_, rfl⟩ <;> decide
theorem sum1 (a b : Nat) (h : b ≤ a) : (sums (oneW s a ++ backW (otherW s b))).natAbs = a - b := by
  unfold oneW otherW
  rw [back_rep, sums_app, sums_rep, sums_rep]
  rcases hs with rfl | rfl
  · have h1 : sg 1 = 1 := rfl
    have h2 : sg (-(2 * 1)) = -1 := rfl
    rw [h1, h2]; omega
  · have h1 : sg (-1) = -1 := rfl
    have h2 : sg (-(2 * -1)) = 1 := rfl
    rw [h1, h2]; omega
theorem sum2 (a b : Nat) (h : b ≤ a) : (sums (otherW s b ++ backW (oneW s a))).natAbs = a - b := by
  unfold oneW otherW
  rw [back_rep, sums_app, sums_rep, sums_rep]
  rcases hs with rfl | rfl
  · have h1 : sg (-1) = -1 := rfl
    have h2 : sg (2 * 1) = 1 := rfl
    rw [h1, h2]; omega
  · have h1 : sg (-(-1)) = 1 := rfl
    have h2 : sg (2 * -1) = -1 := rfl
    rw [h1, h2]; omega
end
def sz0 : ME := .op .ix [(.op .lst [(.lit (.int 100)), (.call F.law__law_next [(.var 2), (.lit (.int 101))])]), (.call F.law__law_next [(.var 2), (.lit (.int 2))])]
def ls0 : ME := .op .ix [(.op .lst [(.lit (.int 0)), (.call F.law__law_next [(.var 2), (.op .add [(.var 3), (.lit (.int 1))])]), (.op .min2 [(.var 3), (.op .ix [(.op .lst [(.lit (.int 16)), (.lit (.int 27)), (.lit (.int 64)), (.lit (.int 9)), (.lit (.int 32))]), (.call F.law__law_next [(.var 2), (.lit (.int 5))])])])]), (.call F.law__law_next [(.var 2), (.lit (.int 3))])]
def sg0 : ME := .op .ix [(.op .lst [(.lit (.int 1)), (.op .neg [(.lit (.int 1))])]), (.call F.law__law_next [(.var 2), (.lit (.int 2))])]
def mn0 : ME := .op .add [(.lit (.int 2)), (.call F.law__law_next [(.var 2), (.lit (.int 3))])]
abbrev L11 := S 11
theorem nx11 (N : Nat) (M : List U) (k : Nat) (h1 : 1 ≤ k) (h2 : k ≤ 1000) : L11.call F.law__law_next [.ref M.length, .int k] (M ++ [dig N]) = .ok (.int (N % k : Nat)) (M ++ [dig (N / k)]) := next_ok 10 M.length N M [] rfl k h1 h2
theorem size_ok (sc : U) (kk : Int) (M : List U) (N : Nat) (j3 j4 j5 j6 j7 j8 j9 j10 j11 : Slt) : ∃ sz N' : Nat, sz ≤ 100 ∧ evalE L11 sz0 ⟨[.val sc, .val (.int kk), .val (.ref M.length), j3, j4, j5, j6, j7, j8, j9, j10, j11], M ++ [dig N]⟩ = .ok (.int sz) ⟨[.val sc, .val (.int kk), .val (.ref M.length), j3, j4, j5, j6, j7, j8, j9, j10, j11], M ++ [dig N']⟩ := by
  have n1 := nx11 N M 101 (by omega) (by omega)
  have n2 := nx11 (N / 101) M 2 (by omega) (by omega)
  have h2l : 2 ≤ line := by have := line_ge; omega
  have n1' : L11.call F.law__law_next [.ref M.length, .int 101] (M ++ [dig N]) = .ok (.int (N % 101 : Nat)) (M ++ [dig (N / 101)]) := n1
  have n2' : L11.call F.law__law_next [.ref M.length, .int 2] (M ++ [dig (N / 101)]) = .ok (.int (N / 101 % 2 : Nat)) (M ++ [dig (N / 101 / 2)]) := n2
  have hx : N % 101 ≤ 100 := by omega
  generalize hxx : N % 101 = x at *
  clear n1 n2
  have hc : N / 101 % 2 = 0 ∨ N / 101 % 2 = 1 := by omega
  generalize M ++ [dig (N / 101)] = M1 at *
  generalize M ++ [dig N] = M0 at *
  rcases hc with h | h
  · rw [h] at n2'
    refine ⟨100, N / 101 / 2, by omega, ?_⟩
    generalize M ++ [dig (N / 101 / 2)] = M2 at *
    simp [sz0, n1', n2', okL, h2l]
  · rw [h] at n2'
    refine ⟨x, N / 101 / 2, hx, ?_⟩
    generalize M ++ [dig (N / 101 / 2)] = M2 at *
    simp [sz0, n1', n2', okL, h2l]
theorem sign_ok (sc : U) (kk : Int) (M : List U) (N : Nat) (j3 j4 j5 j6 j7 j8 j9 j10 j11 : Slt) : ∃ (s : Int) (N' : Nat), (s = 1 ∨ s = -1) ∧ evalE L11 sg0 ⟨[.val sc, .val (.int kk), .val (.ref M.length), j3, j4, j5, j6, j7, j8, j9, j10, j11], M ++ [dig N]⟩ = .ok (.int s) ⟨[.val sc, .val (.int kk), .val (.ref M.length), j3, j4, j5, j6, j7, j8, j9, j10, j11], M ++ [dig N']⟩ := by
  have n2 : L11.call F.law__law_next [.ref M.length, .int 2] (M ++ [dig N]) = .ok (.int (N % 2 : Nat)) (M ++ [dig (N / 2)]) := nx11 N M 2 (by omega) (by omega)
  have h2l : 2 ≤ line := by have := line_ge; omega
  have hc : N % 2 = 0 ∨ N % 2 = 1 := by omega
  generalize M ++ [dig N] = M0 at *
  rcases hc with h | h
  · rw [h] at n2
    refine ⟨1, N / 2, .inl rfl, ?_⟩
    generalize M ++ [dig (N / 2)] = M2 at *
    simp [sg0, n2, okL, h2l, op_neg']
  · rw [h] at n2
    refine ⟨-1, N / 2, .inr rfl, ?_⟩
    generalize M ++ [dig (N / 2)] = M2 at *
    simp [sg0, n2, okL, h2l, op_neg']
theorem many_ok (sc : U) (kk : Int) (M : List U) (N : Nat) (j3 j4 j5 j6 j7 j8 j9 j10 j11 : Slt) : ∃ (k : Nat) (N' : Nat), K24 k ∧ evalE L11 mn0 ⟨[.val sc, .val (.int kk), .val (.ref M.length), j3, j4, j5, j6, j7, j8, j9, j10, j11], M ++ [dig N]⟩ = .ok (.int k) ⟨[.val sc, .val (.int kk), .val (.ref M.length), j3, j4, j5, j6, j7, j8, j9, j10, j11], M ++ [dig N']⟩ := by
  have n2 : L11.call F.law__law_next [.ref M.length, .int 3] (M ++ [dig N]) = .ok (.int (N % 3 : Nat)) (M ++ [dig (N / 3)]) := nx11 N M 3 (by omega) (by omega)
  refine ⟨2 + N % 3, N / 3, ⟨by omega, by omega⟩, ?_⟩
  have e : (2 : Int) + ((N % 3 : Nat) : Int) = ((2 + N % 3 : Nat) : Int) := by omega
  rw [← e]
  generalize M ++ [dig N] = M0 at *
  generalize M ++ [dig (N / 3)] = M2 at *
  generalize ((N % 3 : Nat) : Int) = y at *
  simp [mn0, n2]
theorem min_ok (g : Gst) (a b : Nat) : opSem g .min2 [.int a, .int b] = some (.int (min a b : Nat)) := by
  have e : opSem g .min2 [.int a, .int b] = some (.int (min (a : Int) b)) := Eq.trans rfl rfl
  rw [e]
  congr 2
  omega
theorem less_ok (sc : U) (kk : Int) (M : List U) (N : Nat) {sz : Nat} (hz : sz ≤ 100) (j4 j5 j6 j7 j8 j9 j10 j11 : Slt) : ∃ ls N' : Nat, ls ≤ sz ∧ evalE L11 ls0 ⟨[.val sc, .val (.int kk), .val (.ref M.length), .val (.int sz), j4, j5, j6, j7, j8, j9, j10, j11], M ++ [dig N]⟩ = .ok (.int ls) ⟨[.val sc, .val (.int kk), .val (.ref M.length), .val (.int sz), j4, j5, j6, j7, j8, j9, j10, j11], M ++ [dig N']⟩ := by
  have n1 : L11.call F.law__law_next [.ref M.length, .int ((sz : Int) + 1)] (M ++ [dig N]) = .ok (.int (N % (sz + 1) : Nat)) (M ++ [dig (N / (sz + 1))]) := nx11 N M (sz + 1) (by omega) (by omega)
  generalize hN1 : N / (sz + 1) = N1 at *
  have n2 : L11.call F.law__law_next [.ref M.length, .int 5] (M ++ [dig N1]) = .ok (.int (N1 % 5 : Nat)) (M ++ [dig (N1 / 5)]) := nx11 N1 M 5 (by omega) (by omega)
  have n3 : L11.call F.law__law_next [.ref M.length, .int 3] (M ++ [dig (N1 / 5)]) = .ok (.int (N1 / 5 % 3 : Nat)) (M ++ [dig (N1 / 5 / 3)]) := nx11 (N1 / 5) M 3 (by omega) (by omega)
  have h5l : 5 ≤ line := by have := line_ge; omega
  have h3l : 3 ≤ line := by omega
  have hx : N % (sz + 1) ≤ sz := by have := Nat.mod_lt N (show 0 < sz + 1 by omega); omega
  generalize N % (sz + 1) = x at *
  obtain ⟨y, hy⟩ : ∃ y : Nat, MP.atI [U.int 16, U.int 27, U.int 64, U.int 9, U.int 32] ((N1 % 5 : Nat) : Int) = some (.int y) := by
    have hc : N1 % 5 = 0 ∨ N1 % 5 = 1 ∨ N1 % 5 = 2 ∨ N1 % 5 = 3 ∨ N1 % 5 = 4 := by omega
    rcases hc with h | h | h | h | h <;> rw [h]
    · exact ⟨16, rfl⟩
    · exact ⟨27, rfl⟩
    · exact ⟨64, rfl⟩
    · exact ⟨9, rfl⟩
    · exact ⟨32, rfl⟩
  have hmin := min_ok L11 sz y
  have hm : min sz y ≤ sz := Nat.min_le_left _ _
  generalize min sz y = w at *
  generalize ((N1 % 5 : Nat) : Int) = i5 at *
  have hc : N1 / 5 % 3 = 0 ∨ N1 / 5 % 3 = 1 ∨ N1 / 5 % 3 = 2 := by omega
  generalize M ++ [dig N] = M0 at *
  generalize M ++ [dig N1] = M1 at *
  generalize M ++ [dig (N1 / 5)] = M2 at *
  have key : ∀ ls : Nat, ls ≤ sz → MP.atI [U.int 0, U.int x, U.int w] ((N1 / 5 % 3 : Nat) : Int) = some (.int ls) → ∃ ls N' : Nat, ls ≤ sz ∧ evalE L11 ls0 ⟨[.val sc, .val (.int kk), .val (.ref M.length), .val (.int sz), j4, j5, j6, j7, j8, j9, j10, j11], M0⟩ = .ok (.int ls) ⟨[.val sc, .val (.int kk), .val (.ref M.length), .val (.int sz), j4, j5, j6, j7, j8, j9, j10, j11], M ++ [dig N']⟩ := fun ls h1 h2 => by
    refine ⟨ls, N1 / 5 / 3, h1, ?_⟩
    generalize M ++ [dig (N1 / 5 / 3)] = M3 at *
    generalize ((N1 / 5 % 3 : Nat) : Int) = i3 at *
    simp only [ls0, e_ix, e_lst, e_add, e_min2, e_call, as_cons, as_nil, es_cons, es_nil, arg_op, arg_call, arg_var, arg_lit, slot_mk, List.getD_cons_succ, List.getD_cons_zero, e_var, e_lit, bind_ok, opH_ok, op_lst, okL, List.length_cons, List.length_nil, Nat.zero_add, Nat.reduceAdd, h5l, h3l, if_true, opA_2, ok_v, Bool.and_self, get_v, cont_int, cont_lst, op_add_i, n1, n2, n3, rc_ok, op_ix_l, hy, hmin, h2]
  rcases hc with h | h | h
  · exact key 0 (by omega) (by rw [h]; rfl)
  · exact key x hx (by rw [h]; rfl)
  · exact key w hm (by rw [h]; rfl)
end K86
end MPE
set_option maxRecDepth 100000
set_option maxHeartbeats 4000000
/-! E86f: one turn of the law; the law. -/
namespace MPE
open MP
namespace K86
open MM
def y8 : MS := .set (.tup [(.one 8), (.one 9)]) (.op .tup [(.op .mul [(.op .tup [(.var 5)]), (.var 3)]), (.op .mul [(.op .tup [(.op .mul [(.lit (.int 2)), (.var 5)])]), (.op .sub [(.var 3), (.var 4)])])])
def y10 : MS := .ife (.or [(.op .ne [(.call F.tables_parted [(.var 7), (.var 8), (.var 9)]), (.var 10)]), (.op .ne [(.call F.tables_parted [(.var 7), (.var 9), (.var 8)]), (.var 10)])]) [.ret (.lit (.bl false))] []
def y11 : MS := .ife (.or [(.op .ne [(.call F.tables_alike [(.var 7), (.var 8), (.var 9)]), (.op .isN [(.var 10)])]), (.not (.op (.isi [1]) [(.call F.tables_alike [(.var 7), (.var 9), (.var 8)])]))]) [.ret (.lit (.bl false))] []
def y13 : MS := .ife (.not (.callL F.law__law_refused 0 (.call F.tables_parted [(.var 7), (.var 11), (.var 9)]) [7, 9, 11])) [.ret (.lit (.bl false))] []
def y14 : MS := .ife (.not (.callL F.law__law_refused 0 (.call F.tables_alike [(.var 7), (.var 8), (.var 11)]) [7, 8, 11])) [.ret (.lit (.bl false))] []
def lBody : List MS := [.set (.one 2) (.call F.law__law_state [(.var 0), (.var 1)]), .set (.one 3) sz0, .set (.one 4) ls0, .set (.one 5) sg0, .set (.one 6) mn0,
  .set (.one 7) (.call F.mk_Book [(.var 6), (.call F.law__law_counter [(.var 2), (.var 6)])]), y8,
  .set (.one 10) (.call F.law__law_row [(.var 6), (.var 4)]), y10, y11,
  .set (.one 11) (.op .mul [(.op .tup [(.var 5)]), (.lit (.int 101))]), y13, y14]
theorem set_one {g : Gst} {i : Nat} {e : ME} {s s' : Sta} {u : U} (h : evalE g e s = .ok u s') : execS g (.set (.one i) e) s = .ok .next (s'.put i (.val u)) := by
  rw [x_set, h]
  simp
theorem tail_ok (sc : U) (kk : Int) (u2 : U) (m : List U) (hm : m[0]? = some (.fn 0)) {k : Nat} {T W : List Nat} {L : Int → Nat} {d : Int} (R : RingB k T W L d) {sz ls : Nat} (hz : sz ≤ 100) (hl : ls ≤ sz) {s : Int} (hs : s = 1 ∨ s = -1) (j8 j9 j10 j11 : Slt) :
    ∃ r, execs L11 [y8, .set (.one 10) (.call F.law__law_row [(.var 6), (.var 4)]), y10, y11, .set (.one 11) (.op .mul [(.op .tup [(.var 5)]), (.lit (.int 101))]), y13, y14] ⟨[.val sc, .val (.int kk), .val u2, .val (.int sz), .val (.int ls), .val (.int s), .val (.int k), .val (bookU k T W), j8, j9, j10, j11], m⟩ = .ok .next ⟨.val sc :: r, m⟩ ∧ r.length = 11 := by
  have hk := R.gb.kk
  have h2l : 2 ≤ line := by have := line_ge; omega
  have h1l : 1 ≤ line := by omega
  have ht : 1000 < prog.turns := by decide
  have m1 := mul_t L11 (.int s) sz (by omega)
  have m2 := mul_t L11 (.int (2 * s)) (sz - ls) (by omega)
  have m3 := mul_t L11 (.int s) 101 (by omega)
  have mm : opSem L11 .mul [.int 2, .int s] = some (.int (2 * s)) := by
    obtain ⟨TT, hT, hmm⟩ := mul_some
    have hT2 : 2 ^ 2 ≤ TT := Nat.le_trans (Nat.pow_le_pow_right (by decide) (by decide)) hT
    exact hmm L11 2 s (by omega) (by omega)
  have e1 : ((sz : Int) - (ls : Int)) = ((sz - ls : Nat) : Int) := by omega
  have z1 : U.tup (List.replicate sz (U.int s)) = zts (oneW s sz) := by unfold oneW; rw [zts, List.map_replicate]
  have z2 : U.tup (List.replicate (sz - ls) (U.int (2 * s))) = zts (otherW s (sz - ls)) := by unfold otherW; rw [zts, List.map_replicate]
  have z3 : U.tup (List.replicate 101 (U.int s)) = zts (oneW s 101) := by unfold oneW; rw [zts, List.map_replicate]
  rw [z1] at m1
  rw [z2] at m2
  rw [z3] at m3
  have o1 := one_step hs sz
  have o2 := other_step hs (sz - ls)
  have l1 : (oneW s sz).length ≤ 100 := by simp [oneW]; omega
  have l2 : (otherW s (sz - ls)).length ≤ 100 := by simp [otherW]; omega
  have l3 : 100 < (oneW s 101).length := by simp [oneW]
  have a1 := sum1 hs sz (sz - ls) (by omega)
  have a2 := sum2 hs sz (sz - ls) (by omega)
  rw [show sz - (sz - ls) = ls by omega] at a1 a2
  have p1 : L11.call F.tables_parted [bookU k T W, zts (oneW s sz), zts (otherW s (sz - ls))] m = .ok (rowOf k ls) m := by
    have q := t_parted 4 m has R o1 o2 l1 l2 (short1 hs sz (sz - ls)) (by omega) ht
    rw [rowOf_abs, a1] at q
    exact q
  have p2 : L11.call F.tables_parted [bookU k T W, zts (otherW s (sz - ls)), zts (oneW s sz)] m = .ok (rowOf k ls) m := by
    have q := t_parted 4 m has R o2 o1 l2 l1 (short2 hs sz (sz - ls)) (by omega) ht
    rw [rowOf_abs, a2] at q
    exact q
  have p3 : L11.call F.tables_alike [bookU k T W, zts (oneW s sz), zts (otherW s (sz - ls))] m = .ok (.bl (decide (ls = 0))) m := by
    have q := t_alike 3 m has R o1 o2 l1 l2 (short1 hs sz (sz - ls)) (by omega) ht
    have e : decide (sums (oneW s sz ++ backW (otherW s (sz - ls))) = 0) = decide (ls = 0) := by
      by_cases h : ls = 0
      · rw [decide_eq_true h, decide_eq_true (by omega)]
      · rw [decide_eq_false h, decide_eq_false (by omega)]
    rw [e] at q
    exact q
  obtain ⟨b4, p4⟩ : ∃ b, L11.call F.tables_alike [bookU k T W, zts (otherW s (sz - ls)), zts (oneW s sz)] m = .ok (.bl b) m := ⟨_, t_alike 3 m has R o2 o1 l2 l1 (short2 hs sz (sz - ls)) (by omega) ht⟩
  have p5 : L11.call F.tables_parted [bookU k T W, zts (oneW s 101), zts (otherW s (sz - ls))] m = .exc (.exc C.NoWord []) m := t_parted_no1 8 m has l3
  have p6 : L11.call F.tables_alike [bookU k T W, zts (oneW s sz), zts (oneW s 101)] m = .exc (.exc C.NoWord []) m := t_alike_no2 4 m has o1 l1 l3
  have pr : L11.call F.law__law_row [.int k, .int ls] m = .ok (rowOf k ls) m := row_ok 10 m hk (by omega)
  have r1 := row_plain k ls
  have r2 := row_eq k ls
  have r3 := row_cont k ls m
  have r4 := row_isN L11 k ls
  have r5 : decide ((ls : Int) = 0) = decide (ls = 0) := by
    by_cases h : ls = 0
    · subst h; rfl
    · rw [decide_eq_false h, decide_eq_false (by omega)]
  rw [r5] at r4
  have r6 : ∀ b, opSem L11 .ne [.bl b, .bl b] = some (.bl false) := fun b => by cases b <;> rfl
  generalize bookU k T W = book at *
  generalize hone : zts (oneW s sz) = one at *
  generalize hoth : zts (otherW s (sz - ls)) = oth at *
  generalize hlon : zts (oneW s 101) = lon at *
  have r7 := r6 (decide (ls = 0))
  have r8 : opSem L11 .ne [rowOf k ls, rowOf k ls] = some (.bl false) := by rw [op_ne, r1, r2]; rfl
  generalize decide (ls = 0) = bb at *
  generalize rowOf k ls = row at *
  have s8 : execS L11 y8 ⟨[.val sc, .val (.int kk), .val u2, .val (.int sz), .val (.int ls), .val (.int s), .val (.int k), .val book, j8, j9, j10, j11], m⟩ = .ok .next ⟨[.val sc, .val (.int kk), .val u2, .val (.int sz), .val (.int ls), .val (.int s), .val (.int k), .val book, .val one, .val oth, j10, j11], m⟩ := by
    simp only [y8, x_set, e_tup, e_mul, e_sub, as_cons, as_nil, es_cons, es_nil, arg_op, arg_var, arg_lit, slot_mk, List.getD_cons_succ, List.getD_cons_zero, e_var, e_lit, bind_ok, opH_ok, op_tup, okT, List.length_cons, List.length_nil, Nat.zero_add, Nat.reduceAdd, h1l, h2l, if_true, opA_2, ok_v, Bool.and_self, get_v, cont_int, cont_tup, op_sub_i, e1, m1, mm, m2, b_tup, bs_cons, bs_nil, b_one, put_mk, List.set_cons_succ, List.set_cons_zero]
  have s9 : execS L11 (.set (.one 10) (.call F.law__law_row [(.var 6), (.var 4)])) ⟨[.val sc, .val (.int kk), .val u2, .val (.int sz), .val (.int ls), .val (.int s), .val (.int k), .val book, .val one, .val oth, j10, j11], m⟩ = .ok .next ⟨[.val sc, .val (.int kk), .val u2, .val (.int sz), .val (.int ls), .val (.int s), .val (.int k), .val book, .val one, .val oth, .val row, j11], m⟩ := by
    simp [pr]
  have s10 : execS L11 y10 ⟨[.val sc, .val (.int kk), .val u2, .val (.int sz), .val (.int ls), .val (.int s), .val (.int k), .val book, .val one, .val oth, .val row, j11], m⟩ = .ok .next ⟨[.val sc, .val (.int kk), .val u2, .val (.int sz), .val (.int ls), .val (.int s), .val (.int k), .val book, .val one, .val oth, .val row, j11], m⟩ := by
    refine (x_ifF (s' := ⟨[.val sc, .val (.int kk), .val u2, .val (.int sz), .val (.int ls), .val (.int s), .val (.int k), .val book, .val one, .val oth, .val row, j11], m⟩) ?_).trans x_nil
    simp only [cond_of, arg_or, e_or, or_cons, or_one, e_ne, e_call, as_cons, as_nil, es_cons, es_nil, arg_op, arg_call, arg_var, slot_mk, List.getD_cons_succ, List.getD_cons_zero, e_var, bind_ok, p1, p2, rc_ok, opA_2, ok_v, Bool.and_self, if_true, get_v, r3, r8, cont_bl, truthy_bl]
  have s11 : execS L11 y11 ⟨[.val sc, .val (.int kk), .val u2, .val (.int sz), .val (.int ls), .val (.int s), .val (.int k), .val book, .val one, .val oth, .val row, j11], m⟩ = .ok .next ⟨[.val sc, .val (.int kk), .val u2, .val (.int sz), .val (.int ls), .val (.int s), .val (.int k), .val book, .val one, .val oth, .val row, j11], m⟩ := by
    refine (x_ifF (s' := ⟨[.val sc, .val (.int kk), .val u2, .val (.int sz), .val (.int ls), .val (.int s), .val (.int k), .val book, .val one, .val oth, .val row, j11], m⟩) ?_).trans x_nil
    have hisi : opSem L11 (.isi [1]) [.bl b4] = some (.bl true) := by simp
    simp only [cond_of, arg_or, e_or, or_cons, or_one, e_ne, e_call, e_isN, e_not, e_isi, as_cons, as_nil, es_cons, es_nil, arg_op, arg_call, arg_not, arg_var, slot_mk, List.getD_cons_succ, List.getD_cons_zero, e_var, bind_ok, p3, p4, rc_ok, opA_1, opA_2, ok_v, Bool.and_self, if_true, get_v, r3, r4, r7, hisi, cont_bl, truthy_bl, Bool.not_true]
  have s12 : execS L11 (.set (.one 11) (.op .mul [(.op .tup [(.var 5)]), (.lit (.int 101))])) ⟨[.val sc, .val (.int kk), .val u2, .val (.int sz), .val (.int ls), .val (.int s), .val (.int k), .val book, .val one, .val oth, .val row, j11], m⟩ = .ok .next ⟨[.val sc, .val (.int kk), .val u2, .val (.int sz), .val (.int ls), .val (.int s), .val (.int k), .val book, .val one, .val oth, .val row, .val lon], m⟩ := by
    have m3' : opSem L11 .mul [.tup [.int s], .int 101] = some lon := m3
    simp [okT, h1l, m3']
  have s13 : execS L11 y13 ⟨[.val sc, .val (.int kk), .val u2, .val (.int sz), .val (.int ls), .val (.int s), .val (.int k), .val book, .val one, .val oth, .val row, .val lon], m⟩ = .ok .next ⟨[.val sc, .val (.int kk), .val u2, .val (.int sz), .val (.int ls), .val (.int s), .val (.int k), .val book, .val one, .val oth, .val row, .val lon], m⟩ := by
    have hcl : evalE L11 (.callL F.law__law_refused 0 (.call F.tables_parted [(.var 7), (.var 11), (.var 9)]) [7, 9, 11]) ⟨[.val sc, .val (.int kk), .val u2, .val (.int sz), .val (.int ls), .val (.int s), .val (.int k), .val book, .val one, .val oth, .val row, .val lon], m⟩ = .ok (.bl true) ⟨[.val sc, .val (.int kk), .val u2, .val (.int sz), .val (.int ls), .val (.int s), .val (.int k), .val book, .val one, .val oth, .val row, .val lon], m⟩ := by
      rw [e_callL]
      have hlook : lookS ⟨[.val sc, .val (.int kk), .val u2, .val (.int sz), .val (.int ls), .val (.int s), .val (.int k), .val book, .val one, .val oth, .val row, .val lon], m⟩ [7, 9, 11] = some [book, oth, lon] := rfl
      simp only [hlook, hm]
      have hr := refused_ok 10 [book, oth, lon] (fun us mem => resOf (evalE L11 (.call F.tables_parted [(.var 7), (.var 11), (.var 9)]) ⟨capR 12 [7, 9, 11] us, mem⟩)) m (by
        have hcap : capR 12 [7, 9, 11] [book, oth, lon] = [.no, .no, .no, .no, .no, .no, .no, .val book, .no, .val oth, .no, .val lon] := rfl
        simp only [hcap, e_call, es_cons, es_nil, e_var, slot_mk, List.getD_cons_succ, List.getD_cons_zero, bind_ok, p5, rc_exc]
        rfl)
      have hr' : L11.callL F.law__law_refused [book, oth, lon] (fun us mem => resOf (evalE L11 (.call F.tables_parted [(.var 7), (.var 11), (.var 9)]) ⟨capR 12 [7, 9, 11] us, mem⟩)) m = .ok (.bl true) m := hr
      show (if ((0 : Nat) == 0) = true then rc _ (L11.callL F.law__law_refused [book, oth, lon] (fun us mem => resOf (evalE L11 (.call F.tables_parted [(.var 7), (.var 11), (.var 9)]) ⟨capR 12 [7, 9, 11] us, mem⟩)) m) else .stuck) = _
      rw [if_pos (by rfl), hr', rc_ok]
    refine (x_ifF (s' := ⟨[.val sc, .val (.int kk), .val u2, .val (.int sz), .val (.int ls), .val (.int s), .val (.int k), .val book, .val one, .val oth, .val row, .val lon], m⟩) ?_).trans x_nil
    simp only [cond_of, arg_not, e_not, arg_callL, hcl, bind_ok, get_v, cont_bl, truthy_bl, Bool.not_true]
  have s14 : execS L11 y14 ⟨[.val sc, .val (.int kk), .val u2, .val (.int sz), .val (.int ls), .val (.int s), .val (.int k), .val book, .val one, .val oth, .val row, .val lon], m⟩ = .ok .next ⟨[.val sc, .val (.int kk), .val u2, .val (.int sz), .val (.int ls), .val (.int s), .val (.int k), .val book, .val one, .val oth, .val row, .val lon], m⟩ := by
    have hcl : evalE L11 (.callL F.law__law_refused 0 (.call F.tables_alike [(.var 7), (.var 8), (.var 11)]) [7, 8, 11]) ⟨[.val sc, .val (.int kk), .val u2, .val (.int sz), .val (.int ls), .val (.int s), .val (.int k), .val book, .val one, .val oth, .val row, .val lon], m⟩ = .ok (.bl true) ⟨[.val sc, .val (.int kk), .val u2, .val (.int sz), .val (.int ls), .val (.int s), .val (.int k), .val book, .val one, .val oth, .val row, .val lon], m⟩ := by
      rw [e_callL]
      have hlook : lookS ⟨[.val sc, .val (.int kk), .val u2, .val (.int sz), .val (.int ls), .val (.int s), .val (.int k), .val book, .val one, .val oth, .val row, .val lon], m⟩ [7, 8, 11] = some [book, one, lon] := rfl
      simp only [hlook, hm]
      have hr := refused_ok 10 [book, one, lon] (fun us mem => resOf (evalE L11 (.call F.tables_alike [(.var 7), (.var 8), (.var 11)]) ⟨capR 12 [7, 8, 11] us, mem⟩)) m (by
        have hcap : capR 12 [7, 8, 11] [book, one, lon] = [.no, .no, .no, .no, .no, .no, .no, .val book, .val one, .no, .no, .val lon] := rfl
        simp only [hcap, e_call, es_cons, es_nil, e_var, slot_mk, List.getD_cons_succ, List.getD_cons_zero, bind_ok, p6, rc_exc]
        rfl)
      have hr' : L11.callL F.law__law_refused [book, one, lon] (fun us mem => resOf (evalE L11 (.call F.tables_alike [(.var 7), (.var 8), (.var 11)]) ⟨capR 12 [7, 8, 11] us, mem⟩)) m = .ok (.bl true) m := hr
      show (if ((0 : Nat) == 0) = true then rc _ (L11.callL F.law__law_refused [book, one, lon] (fun us mem => resOf (evalE L11 (.call F.tables_alike [(.var 7), (.var 8), (.var 11)]) ⟨capR 12 [7, 8, 11] us, mem⟩)) m) else .stuck) = _
      rw [if_pos (by rfl), hr', rc_ok]
    refine (x_ifF (s' := ⟨[.val sc, .val (.int kk), .val u2, .val (.int sz), .val (.int ls), .val (.int s), .val (.int k), .val book, .val one, .val oth, .val row, .val lon], m⟩) ?_).trans x_nil
    simp only [cond_of, arg_not, e_not, arg_callL, hcl, bind_ok, get_v, cont_bl, truthy_bl, Bool.not_true]
  exact ⟨_, (x_seq s8).trans ((x_seq s9).trans ((x_seq s10).trans ((x_seq s11).trans ((x_seq s12).trans ((x_seq s13).trans ((x_seq s14).trans x_nil)))))), rfl⟩
theorem turn_ok (ns : List Int) (kk : Nat) (hk : kk ≤ 100) (M' : List U) (j2 j3 j4 j5 j6 j7 j8 j9 j10 j11 : Slt) :
    ∃ r M2, execs L11 lBody ⟨[.val (.scr (ns.map .int)), .val (.int kk), j2, j3, j4, j5, j6, j7, j8, j9, j10, j11], .fn 0 :: M'⟩ = .ok .next ⟨.val (.scr (ns.map .int)) :: r, .fn 0 :: M2⟩ ∧ r.length = 11 := by
  generalize hM : U.fn 0 :: M' = M
  obtain ⟨N, q2⟩ := state_ok 10 ns kk hk M
  have q2' : L11.call F.law__law_state [.scr (ns.map .int), .int kk] M = .ok (.ref M.length) (M ++ [dig N]) := q2
  generalize hsc : U.scr (ns.map .int) = sc at *
  have s2 : execS L11 (.set (.one 2) (.call F.law__law_state [(.var 0), (.var 1)])) ⟨[.val sc, .val (.int kk), j2, j3, j4, j5, j6, j7, j8, j9, j10, j11], M⟩ = .ok .next ⟨[.val sc, .val (.int kk), .val (.ref M.length), j3, j4, j5, j6, j7, j8, j9, j10, j11], M ++ [dig N]⟩ := by
    generalize M ++ [dig N] = M1 at *
    simp [q2']
  obtain ⟨sz, N1, hz, q3⟩ := size_ok sc kk M N j3 j4 j5 j6 j7 j8 j9 j10 j11
  have s3 := set_one (i := 3) q3
  obtain ⟨ls, N2, hl, q4⟩ := less_ok sc kk M N1 hz j4 j5 j6 j7 j8 j9 j10 j11
  have s4 := set_one (i := 4) q4
  obtain ⟨s, N3, hs, q5⟩ := sign_ok sc kk M N2 (.val (.int sz)) (.val (.int ls)) j5 j6 j7 j8 j9 j10 j11
  have s5 := set_one (i := 5) q5
  obtain ⟨k, N4, hkk, q6⟩ := many_ok sc kk M N3 (.val (.int sz)) (.val (.int ls)) (.val (.int s)) j6 j7 j8 j9 j10 j11
  have s6 := set_one (i := 6) q6
  obtain ⟨T, W, L, d, N5, R, q7⟩ := counter_ok 9 M.length N4 M [] rfl hkk
  have q7' : L11.call F.law__law_counter [.ref M.length, .int k] (M ++ [dig N4]) = .ok (.lst [handU T W, handU T W]) (M ++ [dig N5]) := q7
  have q8 : L11.call F.mk_Book [.int k, .lst [handU T W, handU T W]] (M ++ [dig N5]) = .ok (bookU k T W) (M ++ [dig N5]) := b_make 4 _ has.toHWords.toHBook R.gb
  have s7 : execS L11 (.set (.one 7) (.call F.mk_Book [(.var 6), (.call F.law__law_counter [(.var 2), (.var 6)])])) ⟨[.val sc, .val (.int kk), .val (.ref M.length), .val (.int sz), .val (.int ls), .val (.int s), .val (.int k), j7, j8, j9, j10, j11], M ++ [dig N4]⟩ = .ok .next ⟨[.val sc, .val (.int kk), .val (.ref M.length), .val (.int sz), .val (.int ls), .val (.int s), .val (.int k), .val (bookU k T W), j8, j9, j10, j11], M ++ [dig N5]⟩ := by
    generalize M ++ [dig N4] = M1 at *
    generalize M ++ [dig N5] = M2 at *
    generalize bookU k T W = book at *
    generalize U.lst [handU T W, handU T W] = hh at *
    simp [q7', q8]
  have hm0 : (M ++ [dig N5])[0]? = some (.fn 0) := by rw [← hM]; rfl
  obtain ⟨r, t, hr⟩ := tail_ok sc kk (.ref M.length) (M ++ [dig N5]) hm0 R hz hl hs j8 j9 j10 j11
  refine ⟨r, M' ++ [dig N5], ?_, hr⟩
  have e : U.fn 0 :: (M' ++ [dig N5]) = M ++ [dig N5] := by rw [← hM]; rfl
  rw [e]
  exact (x_seq s2).trans ((x_seq s3).trans ((x_seq s4).trans ((x_seq s5).trans ((x_seq s6).trans ((x_seq s7).trans t)))))
def lIt : ME := .op .max2 [(.lit (.int 1)), (.op .min2 [(.lit (.int 2)), (.op .len [(.var 0)])])]
theorem main : ∀ ns : List Int, ns.length ≤ 63 → ∃ m', (stOf K86.prog 12).call 26 [.scr (ns.map U.int)] [.fn 0] = .ok (.bl true) m' := by
  intro ns _
  have hmax : ∀ (g : Gst) (a b : Nat), opSem g .max2 [.int a, .int b] = some (.int (max a b : Nat)) := fun g a b => by
    have e : opSem g .max2 [.int a, .int b] = some (.int (max (a : Int) b)) := Eq.trans rfl rfl
    rw [e]
    congr 2
    omega
  let sc : U := .scr (ns.map .int)
  let s0 : Sta := ⟨[.val sc, .no, .no, .no, .no, .no, .no, .no, .no, .no, .no, .no], [.fn 0]⟩
  generalize hK : max 1 (min 2 ns.length) = K
  have hK2 : K ≤ 2 := by omega
  have ev : evalAs L11 [lIt] s0 = .ok [.v (.int K)] s0 := by
    have e1 := min_ok L11 2 ns.length
    have e2 := hmax L11 1 (min 2 ns.length)
    rw [hK] at e2
    generalize min 2 ns.length = mn at *
    have e1' : opSem L11 .min2 [.int 2, .int ns.length] = some (.int mn) := e1
    have e2' : opSem L11 .max2 [.int 1, .int mn] = some (.int K) := e2
    simp [s0, sc, lIt, e1', e2']
  have hsm : small (K : Int) = true := small_of (by omega) (by omega)
  have hw : walkA 1 [.v (.int K)] s0 = some ((List.range K).map iu) := by
    simp only [walkA, List.all_cons, ok_v, List.all_nil, Bool.and_self, if_true, List.map_cons, List.map_nil, get_v, cont_int, walk, hsm, rng_iu]
  obtain ⟨s', q1, r, M2, hr, q2⟩ := turnsF_relI (R := fun i s => ∃ r M2, r.length = 11 ∧ s = ⟨.val sc :: r, .fn 0 :: M2⟩) (enc := iu) (f := fun x s1 => match bindT (.one 1) x s1 with
      | some s2 => (execs L11 lBody s2).bind fun fl s3 => if stillIs s0 s3 [.v (.int K)] then .ok fl s3 else .stuck
      | none => .stuck) (List.range K) s0 ⟨_, [], rfl, rfl⟩ (by
    rintro i s x hx ⟨r, M2, hr, rfl⟩
    have hi : i < K := by have := (List.getElem?_eq_some_iff.1 hx).1; simpa using this
    have hxi : x = i := by rw [List.getElem?_range hi] at hx; exact (Option.some.inj hx).symm
    subst hxi
    obtain ⟨j1, j2, j3, j4, j5, j6, j7, j8, j9, j10, j11, rfl⟩ : ∃ j1 j2 j3 j4 j5 j6 j7 j8 j9 j10 j11 : Slt, r = [j1, j2, j3, j4, j5, j6, j7, j8, j9, j10, j11] := by
      match r, hr with
      | [j1, j2, j3, j4, j5, j6, j7, j8, j9, j10, j11], _ => exact ⟨_, _, _, _, _, _, _, _, _, _, _, rfl⟩
    obtain ⟨r', M3, t, hr'⟩ := turn_ok ns x (by omega) M2 j2 j3 j4 j5 j6 j7 j8 j9 j10 j11
    refine ⟨_, .inl ?_, r', M3, hr', rfl⟩
    simp only [b_one, iu_eq, put_mk, List.set_cons_succ, List.set_cons_zero, sc, t, bind_ok]
    rw [if_pos (by simp [stillIs])])
  subst q2
  refine ⟨.fn 0 :: M2, ?_⟩
  have e : execS L11 (.forr (.one 1) 1 [lIt] lBody) s0 = _ := x_forr _ _ _ _
  rw [ev, bind_ok, hw] at e
  have hc : (stOf K86.prog 12).call 26 [.scr (ns.map U.int)] [.fn 0] = runDef (S 11) d_law_law [.scr (ns.map U.int)] [.fn 0] := h_law.call 11 _ _
  rw [hc]
  exact run_ret (s := ⟨.val sc :: r, .fn 0 :: M2⟩) d_law_law [sc] [.fn 0] rfl ((x_seq (e.trans q1)).trans (x_last (by simp)))
end K86
end MPE
set_option maxRecDepth 100000
set_option maxHeartbeats 1000000
/-! R1a: how the small language's values stand in the model's heap. -/
namespace MP
open PySem PySem.Spec PyProof.Rows L2

/-- what is shared, by number; what is never changed any more -/
structure Wd where
  al : List Addr
  fz : Addr → Prop

/-- the program's names -/
structure Nms where
  P : Program
  w : World
  K : PySem.W.Frag
  fA : Nat → Addr
  cA : Nat → Addr
  /-- the attributes' names -/
  aL : List Str
  /-- class, attribute: its place -/
  at_ : Nat → Nat → Option Nat
  /-- tables of code objects: where they are, which lambda's name they tell -/
  tA : Nat → Addr
  tq : Nat → Str
  /-- the lambda that was handed in: the function, its code object and name, what it holds -/
  lf : Addr
  lc : Addr
  lq : Str
  lv : List V

/-- an instance's fields: each attribute of its class at its place -/
structure FldOk (G : Nms) (c : Nat) (fvs : List (Str × V)) (ws : List (Option V)) : Prop where
  at_ : ∀ n k, G.at_ c n = some k → ∃ x, G.aL[n]? = some x ∧ fvs.lookup x = (ws[k]?).getD none
  sub : ∀ x ∈ fvs.map (·.1), x ∈ G.aL
  nd : (fvs.map (·.1)).Nodup

def sOf (s : List Nat) : Str := ⟨s.toArray⟩

/-- a key of a dict of ints and texts -/
def keyU : U → Option Key
  | .int i => some (.inl i)
  | .str s => some (.inr (sOf s))
  | _ => none
mutual
/-- a key that is a tuple -/
def nkU : U → Option NestedKey
  | .int i => some (.num i)
  | .bl b => some (.num (if b then 1 else 0))
  | .str s => some (.text (sOf s))
  | .tup us => (nkUs us).map .tup
  | _ => none
def nkUs : List U → Option (List NestedKey)
  | [] => some []
  | u :: us => match nkU u, nkUs us with
    | some k, some ks => some (k :: ks)
    | _, _ => none
end

/-- the script: known to the object, or one of the module's own, or a list that is never changed -/
def Scr (K : PySem.W.Frag) (W : Wd) (H : Hp) (a : Addr) (xs : List V) : Prop := (∃ o, H a = some (.frz o (.lst xs))) ∨ (W.fz a ∧ H a = some (.lst xs)) ∨
    ∃ (o : Obj) (its : Array Value) (n : Nat), K.lookup a = some o ∧ o.cls = .type "list" ∧ o.dict = none ∧ o.data = .seq its n ∧ its.size ≤ sizeLine ∧ Vals xs its.toList
theorem Scr.sq {K : PySem.W.Frag} {W : Wd} {H : Hp} {a : Addr} {xs : List V} (h : Scr K W H a xs) : SqL K H a xs := by
  rcases h with ⟨o, h⟩ | ⟨_, h⟩ | h
  · exact .inl (.inr ⟨o, h⟩)
  · exact SqL.of h
  · exact .inr h

/-- an object that is a tuple's and has no dict -/
def Tx (o : Obj) : Prop := o.cls = .type "tuple" ∧ o.dict = none
/-- a tuple whose object is known -/
def TX (H : Hp) (a : Addr) (vs : List V) : Prop := ∃ o, H a = some (.frz o (.tup vs)) ∧ Tx o
theorem TX.sq {K : PySem.W.Frag} {H : Hp} {a : Addr} {xs : List V} (h : TX H a xs) : SqT K H a xs := .inl (.inr (let ⟨o, h, _⟩ := h; ⟨o, h⟩))
theorem TX.new {H : Hp} {a : Addr} {xs : List V} {o : Obj} (t : Tx o) : TX (L2.upd H a (.frz o (.tup xs))) a xs := ⟨o, upd_same, t⟩

/-- a dict whose keys are tuples: their keys, where they stand, the values -/
def NO (P : Program) (w : World) (a : Addr) (xs : List (NestedKey × Addr × V)) : HO := .ext fun h => xs.length ≤ sizeLine ∧ ∃ (o : Obj) (es : Array DictEntry) (ep : Nat) (ys : List (NestedKey × Addr × Value)),
  h.get? a = some o ∧ (a == sysModules) = false ∧ o.ExactDict ∧ o.data = .dict es ep ∧ es.toList = ys.map (entryOfKey (nestedKind P w)) ∧ (ys.map (·.1)).Nodup ∧ (∀ q ∈ ys, q.1.depth ≤ 8) ∧
    Paired (fun (p : NestedKey × Addr × V) (q : NestedKey × Addr × Value) => p.1 = q.1 ∧ p.2.1 = q.2.1 ∧ RelV p.2.2 q.2.2) xs ys

/-- an exception that is kept: its class; its own dict -/
def ExcO (cls : Value) (d : Option Addr) (a : Addr) : HO := .ext fun h => ∃ (oe : Obj) (vs : Array Value), h.get? a = some oe ∧ Zc cls d oe ∧ oe.data = .fields vs

section
variable (G : Nms) (W : Wd) (H : Hp)
mutual
/-- a value -/
def RepV : U → V → Prop
  | .non, v => v = .non
  | .bl b, v => v = .bl b
  | .int i, v => v = .int i
  | .str s, v => v = .str (sOf s)
  | .tup us, v => ∃ a vs, v = .ref a ∧ TX H a vs ∧ RepVs us vs
  | .prs us, v => ∃ a vs, v = .ref a ∧ H a = some (.tup vs) ∧ RepVs us vs
  | .lst us, v => ∃ a vs, v = .ref a ∧ W.fz a ∧ H a = some (.lst vs) ∧ RepVs us vs
  | .dic ks xs, v => ∃ a, v = .ref a ∧ W.fz a ∧
      ((∃ kvs : List (Key × V), H a = some (.dK kvs) ∧ ks.map keyU = kvs.map (fun p => some p.1) ∧ RepVs xs (kvs.map (·.2))) ∨
       (∃ ys : List (NestedKey × Addr × V), ys ≠ [] ∧ H a = some (NO G.P G.w a ys) ∧ ks.map nkU = ys.map (fun p => some p.1) ∧ ks.all isTupU = true ∧ RepVs ks (ys.map fun p => .ref p.2.1) ∧ RepVs xs (ys.map (·.2.2))))
  | .obj c fs, v => ∃ a dx fvs, v = .ref a ∧ W.fz a ∧ H a = some (.ins (G.cA c) dx fvs) ∧ ∃ ws, RepFs fs ws ∧ FldOk G c fvs ws
  | .exc c fs, v => ∃ a, v = .ref a ∧ W.fz a ∧ fs = [] ∧ H a = some (ExcO (.ref (G.cA c)) none a)
  | .ref n, v => ∃ a, W.al[n]? = some a ∧ v = .ref a
  | .fn f, v => v = .ref (G.fA f)
  | .clo _ _, _ => False
  | .hole, _ => False
  | .scr us, v => ∃ a vs, v = .ref a ∧ Scr G.K W H a vs ∧ RepVs us vs
def RepVs : List U → List V → Prop
  | [], vs => vs = []
  | u :: us, vs => ∃ v r, vs = v :: r ∧ RepV u v ∧ RepVs us r
/-- fields: a hole where none is set -/
def RepFs : List U → List (Option V) → Prop
  | [], vs => vs = []
  | .hole :: us, vs => ∃ r, vs = none :: r ∧ RepFs us r
  | u :: us, vs => ∃ v r, vs = some v :: r ∧ RepV u v ∧ RepFs us r
end

/-- a list's, a dict's, an instance's content at its address -/
def Cont (a : Addr) : U → Prop
  | .lst us => ∃ vs, H a = some (.lst vs) ∧ RepVs G W H us vs
  | .dic ks xs => ((∃ kvs : List (Key × V), H a = some (.dK kvs) ∧ ks.map keyU = kvs.map (fun p => some p.1) ∧ RepVs G W H xs (kvs.map (·.2))) ∨
       (∃ ys : List (NestedKey × Addr × V), ys ≠ [] ∧ H a = some (NO G.P G.w a ys) ∧ ks.map nkU = ys.map (fun p => some p.1) ∧ ks.all isTupU = true ∧ RepVs G W H ks (ys.map fun p => .ref p.2.1) ∧ RepVs G W H xs (ys.map (·.2.2))))
  | .obj c fs => ∃ dx fvs, H a = some (.ins (G.cA c) dx fvs) ∧ ∃ ws, RepFs G W H fs ws ∧ FldOk G c fvs ws
  | .fn q => a = G.tA q ∧ ∃ ps : Array Value, H a = some (.tbl ps) ∧ TriplesOk ps.toList ∧ ∀ (pos : Pos) (cv : Value), codeAmong pos ps.toList = some cv → ∃ c, cv = .ref c ∧ W.fz c ∧ H c = some (LamX.CodeO c (G.tq q))
  | _ => False
end

structure Wd.le (W W' : Wd) : Prop where
  al : ∃ r, W'.al = W.al ++ r
  fz : ∀ a, W.fz a → W'.fz a
structure Kp (W : Wd) (H H' : Hp) : Prop where
  fz : ∀ a o, W.fz a → H a = some o → H' a = some o
  tup : ∀ a xs, H a = some (.tup xs) → H' a = some (.tup xs)
  frz : ∀ a o u, H a = some (.frz o u) → H' a = some (.frz o u)
theorem Wd.le.refl (W : Wd) : W.le W := ⟨⟨[], by simp⟩, fun _ h => h⟩
theorem Wd.le.trans {W W1 W2 : Wd} (a : W.le W1) (b : W1.le W2) : W.le W2 := by
  obtain ⟨r, e⟩ := a.al
  obtain ⟨r', e'⟩ := b.al
  exact ⟨⟨r ++ r', by rw [e', e, List.append_assoc]⟩, fun x h => b.fz x (a.fz x h)⟩
theorem Kp.refl (W : Wd) (H : Hp) : Kp W H H := ⟨fun _ _ _ h => h, fun _ _ h => h, fun _ _ _ h => h⟩
theorem Kp.trans {W W1 : Wd} {H H1 H2 : Hp} (l : W.le W1) (a : Kp W H H1) (b : Kp W1 H1 H2) : Kp W H H2 :=
  ⟨fun x o f h => b.fz x o (l.fz x f) (a.fz x o f h), fun x xs h => b.tup x xs (a.tup x xs h), fun x o u h => b.frz x o u (a.frz x o u h)⟩
theorem Wd.le.at {W W' : Wd} (l : W.le W') {n : Nat} {a : Addr} (h : W.al[n]? = some a) : W'.al[n]? = some a := by
  obtain ⟨r, e⟩ := l.al
  rw [e, List.getElem?_append_left (List.getElem?_eq_some_iff.mp h).1]
  exact h
theorem TX.kp {W : Wd} {H H' : Hp} (k : Kp W H H') {a : Addr} {xs : List V} (r : TX H a xs) : TX H' a xs := let ⟨o, r, t⟩ := r; ⟨o, k.frz a _ _ r, t⟩
theorem Scr.kp {K : PySem.W.Frag} {W W' : Wd} {H H' : Hp} (l : W.le W') (k : Kp W H H') {a : Addr} {xs : List V} (r : Scr K W H a xs) : Scr K W' H' a xs := by
  rcases r with ⟨o, r⟩ | ⟨f, r⟩ | r
  · exact .inl ⟨o, k.frz a _ _ r⟩
  · exact .inr (.inl ⟨l.fz a f, k.fz a _ f r⟩)
  · exact .inr (.inr r)

section
variable {G : Nms} {W W' : Wd} {H H' : Hp} (l : W.le W') (k : Kp W H H')
include l k
mutual
theorem RepV.mono : ∀ (u : U) {v : V}, RepV G W H u v → RepV G W' H' u v
  | .non, _, h => by simpa only [RepV] using h
  | .bl _, _, h => by simpa only [RepV] using h
  | .int _, _, h => by simpa only [RepV] using h
  | .str _, _, h => by simpa only [RepV] using h
  | .tup us, v, h => by
    simp only [RepV] at h ⊢
    obtain ⟨a, vs, e, h1, h2⟩ := h
    exact ⟨a, vs, e, h1.kp k, RepVs.mono us h2⟩
  | .prs us, v, h => by
    simp only [RepV] at h ⊢
    obtain ⟨a, vs, e, h1, h2⟩ := h
    exact ⟨a, vs, e, k.tup a vs h1, RepVs.mono us h2⟩
  | .lst us, v, h => by
    simp only [RepV] at h ⊢
    obtain ⟨a, vs, e, f, h1, h2⟩ := h
    exact ⟨a, vs, e, l.fz a f, k.fz a _ f h1, RepVs.mono us h2⟩
  | .dic ks xs, v, h => by
    simp only [RepV] at h ⊢
    obtain ⟨a, e, f, h⟩ := h
    refine ⟨a, e, l.fz a f, ?_⟩
    rcases h with ⟨kvs, h1, h2, h3⟩ | ⟨ys, h0, h1, h2, h3, h4, h5⟩
    · exact .inl ⟨kvs, k.fz a _ f h1, h2, RepVs.mono xs h3⟩
    · exact .inr ⟨ys, h0, k.fz a _ f h1, h2, h3, RepVs.mono ks h4, RepVs.mono xs h5⟩
  | .obj c fs, v, h => by
    simp only [RepV] at h ⊢
    obtain ⟨a, dx, fvs, e, f, h1, ws, h2, h3⟩ := h
    exact ⟨a, dx, fvs, e, l.fz a f, k.fz a _ f h1, ws, RepFs.mono fs h2, h3⟩
  | .exc c fs, v, h => by
    simp only [RepV] at h ⊢
    obtain ⟨a, e, f, h1, h2⟩ := h
    exact ⟨a, e, l.fz a f, h1, k.fz a _ f h2⟩
  | .ref n, v, h => by
    simp only [RepV] at h ⊢
    obtain ⟨a, h1, e⟩ := h
    exact ⟨a, l.at h1, e⟩
  | .fn _, _, h => by simpa only [RepV] using h
  | .clo _ _, _, h => by simp only [RepV] at h
  | .hole, _, h => by simp only [RepV] at h
  | .scr us, v, h => by
    simp only [RepV] at h ⊢
    obtain ⟨a, vs, e, h1, h2⟩ := h
    exact ⟨a, vs, e, Scr.kp l k h1, RepVs.mono us h2⟩
theorem RepVs.mono : ∀ (us : List U) {vs : List V}, RepVs G W H us vs → RepVs G W' H' us vs
  | [], _, h => by simpa only [RepVs] using h
  | u :: us, _, h => by
    simp only [RepVs] at h ⊢
    obtain ⟨v, r, e, h1, h2⟩ := h
    exact ⟨v, r, e, RepV.mono u h1, RepVs.mono us h2⟩
theorem RepFs.mono : ∀ (us : List U) {vs : List (Option V)}, RepFs G W H us vs → RepFs G W' H' us vs
  | [], _, h => by simpa only [RepFs] using h
  | u :: us, _, h => by
    cases u <;> simp only [RepFs] at h ⊢ <;> first
      | (obtain ⟨r, e, h2⟩ := h; exact ⟨r, e, RepFs.mono us h2⟩)
      | (obtain ⟨v, r, e, h1, h2⟩ := h; exact ⟨v, r, e, RepV.mono _ h1, RepFs.mono us h2⟩)
end
end
end MP
set_option maxRecDepth 100000
set_option maxHeartbeats 4000000
/-! R1z: making tuples whose object is known (its dict is none): displays, tuple(..), +, *. -/
namespace MP
open PySem PySem.Spec PyProof.Rows L2

section
variable {X : Cx}
/-- what is wanted of a new tuple -/
abbrev NewT (xs : List V) (H : Hp) (Q : VK) : Prop := ∀ p ob, Tx ob → H p = none → Q (.ref p) (L2.upd H p (.frz ob (.tup xs)))
theorem laidX {pins : List (Addr × Obj)} {σ : L2.St} {H : Hp} {s : Shared} {xs : List V} {its : List Value} {Q : VK} (I : Inv X pins σ H s) (hz : xs.length ≤ sizeLine) (r : Vals xs its) (q : NewT xs H Q) :
    EP X pins σ Q (.ref s.heap.objs.size) { s with heap := s.heap.push { cls := .type "tuple", data := .seq its.toArray } } := by
  refine ⟨.ref s.heap.objs.size, _, I.laid (t' := s.toks) (o := .frz { cls := .type "tuple", data := .seq its.toArray } (.tup xs)) (fun b ob q => Heap.get?_push_of_some _ q) (Nat.le_refl _) ?_, rfl, q _ _ ⟨rfl, rfl⟩ (I.hok.fresh (Nat.le_refl _))⟩
  exact ⟨Heap.get?_push_size _ rfl, hz, _, r, IsTup.new _ _⟩
/-- a display -/
def tTupX (t : TA) : TE := fun σ H Q => t σ H fun xs H1 => xs.length ≤ sizeLine ∧ NewT xs H1 Q
theorem pe_tupX {es : List Expr} {t : TA} {pos : Pos} {x1 : Nat} (h : PA X es t) : PE X (.Tuple es x1 pos) (tTupX t) := by
  refine ⟨fun pins s σ H Q I hq => ?_⟩
  refine wpAny_Tuple_spliced (thn (h.run pos pins s σ H _ I hq) fun us s1 ⟨xs, H1, I1, r, z, q⟩ => ⟨by rw [← r.length]; exact z, ?_⟩)
  exact laidX I1 z r q
/-- tuple(x) of a list: a new tuple; of a tuple: itself -/
def kTupX (K : PySem.W.Frag) (x : V) (H : Hp) (Q : VK) : Prop :=
  (∃ p xs, x = .ref p ∧ SqL K H p xs ∧ NewT xs H Q) ∨ (∃ p xs, x = .ref p ∧ SqT K H p xs ∧ Q (.ref p) H)
theorem rl_tupleX (pins : List (Addr × Obj)) (s : Shared) (σ : L2.St) (H : Hp) (x : V) (v : Value) (Q : VK) (I : Inv X pins σ H s) (r : RelV x v) (h : kTupX X.K x H Q) :
    wpAny (model X.prog X.w) X.A (call (.type "tuple") [v]) (EP X pins σ Q) X.xe s := by
  rcases h with ⟨p, xs, rfl, hs, q⟩ | ⟨p, xs, rfl, hs, q⟩
  · obtain rfl : v = .ref p := r
    obtain ⟨its, rv, pl, hz⟩ := I.list hs
    refine call_tuple_list pl.isList (fun h' hk => ?_) (by rw [List.size_toArray, ← rv.length]; exact hz)
    have I1 : Inv X pins σ H { s with heap := h' } := I.kept (t' := s.toks) hk
    exact laidX I1 hz rv q
  · obtain rfl : v = .ref p := r
    obtain ⟨its, rv, pl, hz⟩ := I.tuple hs
    exact call_tuple_tup pl ⟨.ref p, H, I, rfl, q⟩
/-- tuple(range) -/
def tTupRgX (te : L2.St → Hp → (Int → Int → Hp → Prop) → Prop) : TE := fun σ H Q => te σ H fun a b H1 => RgOk a b ∧ NewT (rgV a b) H1 Q
theorem pe_tupRgX {e : Expr} {te : L2.St → Hp → (Int → Int → Hp → Prop) → Prop} {p pos : Pos} (hc : X.calm = true) (hg : Gl X "tuple") (hm : X.mg "tuple" = none) (he : PRg X e te) (na : starEach [e] X.env = (false, eval e X.env) :: starEach [] X.env := by rfl) : PE X (.Call (.Name "tuple" p) [e] [] pos) (tTupRgX te) := by
  refine ⟨fun pins s σ H Q I h => ?_⟩
  refine Call_ (ld_blt I hg hm boot_tuple (PyProof.Rows.callWith_type1 (args_cons (thn (he pins s σ H _ I h) fun x s1 ⟨r, a, b, t, u, v, H1, ex, hr, I1, ok, q⟩ => args_nil ?_) na) na))
  subst ex
  obtain ⟨b1, b2, b3, b4, b5⟩ := ok
  refine call_tuple_range (n := (b - a).toNat) (I1.ok.hd hc) hr (small_one b1 b2 b3 b4) (rangeSize_nat a b) b5 fun h' tk acc hk hi => ?_
  have I2 : Inv X pins σ H1 { s1 with heap := h', toks := tk } := I1.kept hk
  have := laidX (xs := rgV a b) (its := acc.toList) I2 (by rw [rgV_length, sizeLine_eq]; omega) (vals_rg hi) q
  rw [Array.toArray_toList] at this
  exact this
/-- t + u -/
def rCatX (K : PySem.W.Frag) : R2 := fun x y H Q => ∃ a b xs ys, x = .ref a ∧ y = .ref b ∧ SqT K H a xs ∧ SqT K H b ys ∧ xs.length + ys.length ≤ sizeLine ∧
  (xs = [] → Q (.ref b) H) ∧ (xs ≠ [] → ys = [] → Q (.ref a) H) ∧ (xs ≠ [] → ys ≠ [] → NewT (xs ++ ys) H Q)
theorem op_catX : OpR X (binaryOp .Add) (rCatX X.K) := by
  intro pins s σ H x y v u Q I rx ry h
  obtain ⟨a, b, xs, ys, rfl, rfl, ha, hb, hz, q0, q1, q2⟩ := h
  cases rx
  cases ry
  obtain ⟨its, r1, p1, _⟩ := I.tuple ha
  obtain ⟨its2, r2, p2, _⟩ := I.tuple hb
  by_cases hx : xs = []
  · subst hx
    cases r1
    exact cat_tup0 p1 p2 ⟨.ref b, H, I, rfl, q0 rfl⟩
  · refine HT.cat_tup p1 p2 (fun z => hx (r1.nil_iff.mp z)) (fun z => ⟨.ref a, H, I, rfl, q1 hx (r2.nil_iff.mp z)⟩) (fun z => ?_) (by rw [← r1.length, ← r2.length]; exact hz)
    have := laidX (xs := xs ++ ys) I (by rw [List.length_append]; exact hz) (r1.append r2) (q2 hx fun w => z (r2.nil_iff.mpr w))
    exact this
/-- t * n -/
theorem tuple_mul0 (l : Addr) (items : Array Value) (n : Nat) (dd : Option Addr) (sl : Array (Option Value)) (x : Int) (u : Tok) (c0 : (decide (x < -(2 ^ 63)) || decide (x ≥ 2 ^ 63)) = false) (c1 : (items.isEmpty || x == 1) = false) (c2 : (decide (x ≤ 0) || items.isEmpty) = true) :
    Meets (Builtin.«tuple.__mul__» ⟨[.ref l, .int x u], []⟩) (fun _ R s => s.heap.get? l = some { cls := .type "tuple", dict := dd, data := .seq items n, slots := sl } ∧
      R (.ok (.ret (Value.ref s.heap.objs.size))) { s with heap := s.heap.push { cls := Value.type "tuple", data := Data.seq #[] }, toks := s.toks }) :=
  .of_wp fun prog w A R s h => by
    obtain ⟨hp, g, d, tk, os⟩ := s
    obtain ⟨hl, h⟩ := h
    have f1 := AutoSeq1.idx_int
    have hsz : (#[] : Array Value).size ≤ sizeLine := Nat.zero_le _
    wp_walk using AutoSeq1.wpAny_loadPart' hl
    repeat (first
      | (refine wpAny_ite_false (decide_eq_false (by rw [c0]; exact Bool.false_ne_true)) ?_; wp_walk using AutoSeq1.wpAny_loadPart' hl)
      | (refine wpAny_ite_false (decide_eq_false (by rw [c1]; exact Bool.false_ne_true)) ?_; wp_walk using AutoSeq1.wpAny_loadPart' hl)
      | (refine wpAny_ite_true (decide_eq_true (by rw [c2])) ?_; wp_walk using AutoSeq1.wpAny_loadPart' hl)
      | (refine wpAny_ite_false (decide_eq_false (Nat.not_lt.mpr hsz)) ?_; wp_walk using AutoSeq1.wpAny_loadPart' hl))
    exact ⟨_, rfl, h⟩
theorem tuple_mul1 (l : Addr) (items : Array Value) (n : Nat) (dd : Option Addr) (sl : Array (Option Value)) (u : Tok) :
    Meets (Builtin.«tuple.__mul__» ⟨[.ref l, .int 1 u], []⟩) (fun _ R s => s.heap.get? l = some { cls := .type "tuple", dict := dd, data := .seq items n, slots := sl } ∧
      R (.ok (.ret (Value.ref l))) s) :=
  .of_wp fun prog w A R s h => by
    obtain ⟨hp, g, d, tk, os⟩ := s
    obtain ⟨hl, h⟩ := h
    have f1 := AutoSeq1.idx_int
    have c0 : (decide ((1 : Int) < -(2 ^ 63)) || decide ((1 : Int) ≥ 2 ^ 63)) = false := by decide
    have c1 : (items.isEmpty || (1 : Int) == 1) = true := by simp
    wp_walk using AutoSeq1.wpAny_loadPart' hl
    repeat (first
      | (refine wpAny_ite_false (decide_eq_false (by rw [c0]; exact Bool.false_ne_true)) ?_; wp_walk using AutoSeq1.wpAny_loadPart' hl)
      | (refine wpAny_ite_true (decide_eq_true (by rw [c1])) ?_; wp_walk using AutoSeq1.wpAny_loadPart' hl))
    exact ⟨_, rfl, h⟩
def rRepX2 (K : PySem.W.Frag) : R2 := fun x y H Q => ∃ l k xs, x = .ref l ∧ y = .int k ∧ SqT K H l xs ∧ xs ≠ [] ∧ 2 ≤ k ∧ k ≤ 1000 ∧ xs.length ≤ 1000 ∧ NewT (List.replicate k.toNat xs).flatten H Q
theorem op_repX2 : OpR X (binaryOp .Mult) (rRepX2 X.K) := by
  intro pins s σ H x y v u Q I rx ry h
  obtain ⟨l, k, xs, rfl, rfl, hT, hne, h1, h2, hz, q⟩ := h
  cases rx
  obtain ⟨t, rfl⟩ := ry
  obtain ⟨its, r, ⟨⟨cls, dd, data, sl⟩, ho, hc, n, hd⟩, hs⟩ := I.tuple hT
  simp only at hc hd
  subst hc hd
  have hle : its.length = xs.length := r.length.symm
  have hn : its ≠ [] := fun e => hne (List.eq_nil_of_length_eq_zero (by rw [← hle, e]; rfl))
  have hi : its.toArray.isEmpty = false := by cases its with | nil => exact absurd rfl hn | cons a b => rfl
  have hsz0 : its.toArray.size = xs.length := by rw [List.size_toArray, hle]
  have hm : ((its.toArray.size : Nat) : Int) * k ≤ 1000000 := by
    have a1 : ((xs.length : Nat) : Int) * k ≤ 1000 * k := Int.mul_le_mul_of_nonneg_right (by omega) (by omega)
    rw [hsz0]; omega
  have a2 : k.toNat * xs.length ≤ 1000 * 1000 := Nat.mul_le_mul (by omega) hz
  have flen : (List.replicate k.toNat its).flatten.length ≤ sizeLine := by
    rw [PyProof.Rows.lm_len_rep_flat, hle, sizeLine_eq]; omega
  have c0 : (decide (k < -(2 ^ 63)) || decide (k ≥ 2 ^ 63)) = false := by
    rw [decide_eq_false (by omega), decide_eq_false (by omega)] <;> rfl
  have c1 : (its.toArray.isEmpty || k == 1) = false := by rw [hi, Bool.false_or]; exact beq_eq_false_iff_ne.mpr (by omega)
  have c2 : (decide (k ≤ 0) || its.toArray.isEmpty) = false := by rw [hi, Bool.or_false]; exact decide_eq_false (by omega)
  have c4 : Builtin.Tuple.tupleTooMany (((its.toArray.size : Nat) : Int) * k) = false := by
    unfold Builtin.Tuple.tupleTooMany
    rw [sizeLine_eq]; exact decide_eq_false (by omega)
  refine wpAny_binaryOp_repeat_ref (T := "tuple") (U := "int") (by decide) ⟨_, ho, rfl⟩ (fun s' => typeIs_int s' k t) noFill_tuple_mul F.fills_int_mul F.slot_int_rmul repeat_tuple F.slot_int_index.lookup
    (call_meets F.slot_int_rmul (typeIs_int s k t) F.entry_int_rmul (F.args_int_rmul_2 _ _) (int_rmul_tuple k t l its.toArray n dd sl)
      ⟨ho, rfl, ⟨_, ho, rfl⟩, call_meets F.slot_tuple_mul ⟨_, ho, rfl⟩ F.entry_tuple_mul (F.args_tuple_mul_2 _ _) (tuple_mulW l its.toArray n dd sl k t c0 c1 c2 (by omega) c4 (by rw [size_rep, List.size_toArray]; exact flen)) ⟨ho, ?_⟩⟩)
  rw [size_rep]
  exact laidX I (by rw [PyProof.Rows.lm_len_rep_flat, sizeLine_eq]; omega) (r.rep k.toNat) q
/-- t * n, n of any sign -/
def rRepX (K : PySem.W.Frag) : R2 := fun x y H Q => ∃ l k xs, x = .ref l ∧ y = .int k ∧ SqT K H l xs ∧ xs ≠ [] ∧ -1000 ≤ k ∧ k ≤ 1000 ∧ xs.length ≤ 1000 ∧ (k ≤ 0 → NewT [] H Q) ∧ (k = 1 → Q (.ref l) H) ∧ (2 ≤ k → NewT (List.replicate k.toNat xs).flatten H Q)
theorem op_repX : OpR X (binaryOp .Mult) (rRepX X.K) := by
  intro pins s σ H x y v u Q I rx ry h
  obtain ⟨l, k, xs, rfl, rfl, hT, hne, h1, h2, hz, q0, q1, q2⟩ := h
  by_cases hk : 2 ≤ k
  · exact op_repX2 pins s σ H _ _ v u Q I rx ry ⟨l, k, xs, rfl, rfl, hT, hne, hk, h2, hz, q2 hk⟩
  cases rx
  obtain ⟨t, rfl⟩ := ry
  obtain ⟨its, r, ⟨⟨cls, dd, data, sl⟩, ho, hc, n, hd⟩, hs⟩ := I.tuple hT
  simp only at hc hd
  subst hc hd
  have hle : its.length = xs.length := r.length.symm
  have hn : its ≠ [] := fun e => hne (List.eq_nil_of_length_eq_zero (by rw [← hle, e]; rfl))
  have hi : its.toArray.isEmpty = false := by cases its with | nil => exact absurd rfl hn | cons a b => rfl
  by_cases hk1 : k = 1
  · subst hk1
    refine wpAny_binaryOp_repeat_ref (T := "tuple") (U := "int") (by decide) ⟨_, ho, rfl⟩ (fun s' => typeIs_int s' 1 t) noFill_tuple_mul F.fills_int_mul F.slot_int_rmul repeat_tuple F.slot_int_index.lookup
      (call_meets F.slot_int_rmul (typeIs_int s 1 t) F.entry_int_rmul (F.args_int_rmul_2 _ _) (int_rmul_tuple 1 t l its.toArray n dd sl)
        ⟨ho, rfl, ⟨_, ho, rfl⟩, call_meets F.slot_tuple_mul ⟨_, ho, rfl⟩ F.entry_tuple_mul (F.args_tuple_mul_2 _ _) (tuple_mul1 l its.toArray n dd sl t) ⟨ho, ⟨.ref l, H, I, rfl, q1 rfl⟩⟩⟩)
  · have c0 : (decide (k < -(2 ^ 63)) || decide (k ≥ 2 ^ 63)) = false := by
      rw [decide_eq_false (by omega), decide_eq_false (by omega)] <;> rfl
    have c1 : (its.toArray.isEmpty || k == 1) = false := by rw [hi, Bool.false_or]; exact beq_eq_false_iff_ne.mpr hk1
    have c2 : (decide (k ≤ 0) || its.toArray.isEmpty) = true := by rw [decide_eq_true (by omega), Bool.true_or]
    refine wpAny_binaryOp_repeat_ref (T := "tuple") (U := "int") (by decide) ⟨_, ho, rfl⟩ (fun s' => typeIs_int s' k t) noFill_tuple_mul F.fills_int_mul F.slot_int_rmul repeat_tuple F.slot_int_index.lookup
      (call_meets F.slot_int_rmul (typeIs_int s k t) F.entry_int_rmul (F.args_int_rmul_2 _ _) (int_rmul_tuple k t l its.toArray n dd sl)
        ⟨ho, rfl, ⟨_, ho, rfl⟩, call_meets F.slot_tuple_mul ⟨_, ho, rfl⟩ F.entry_tuple_mul (F.args_tuple_mul_2 _ _) (tuple_mul0 l its.toArray n dd sl k t c0 c1 c2) ⟨ho, ?_⟩⟩)
    exact laidX (its := []) I (Nat.zero_le _) .nil (q0 (by omega))
end
end MP
set_option maxRecDepth 100000
set_option maxHeartbeats 1000000
/-! R1b: a frame's state, what an evaluation may change, readings of semantic results. -/
namespace MP
open PySem PySem.Spec PyProof.Rows L2

section
variable (G : Nms)
/-- the shared objects -/
structure RelSh (W : Wd) (m : List U) (H : Hp) : Prop where
  len : m.length = W.al.length
  nod : W.al.Nodup
  mem : ∀ (n : Nat) (a : Addr), W.al[n]? = some a → ¬ W.fz a ∧ ∃ u : U, m[n]? = some u ∧ Cont G W H a u
  sm : ∀ a, W.fz a → ∃ o, H a = some o
def SltOk (W : Wd) (H : Hp) (a : Option V) : Slt → Prop
  | .no => True
  | .val u => ∃ v, a = some v ∧ RepV G W H u v
  | .own u => ∃ p, a = some (.ref p) ∧ ¬ W.fz p ∧ p ∉ W.al ∧ Cont G W H p u
  | .clo us => a = some (.ref G.lf) ∧ W.fz G.lc ∧ H G.lc = some (LamX.CodeO G.lc G.lq) ∧ RepVs G W H us G.lv
/-- a's object is the name's own -/
def Ownd (s : Sta) (σ : L2.St) (a : Addr) : Prop := ∃ (i : Nat) (u : U), s.r[i]? = some (Slt.own u) ∧ σ[i]? = some (some (V.ref a))
structure RelFr (W : Wd) (s : Sta) (σ : L2.St) (H : Hp) : Prop where
  len : s.r.length = σ.length
  slt : ∀ (i : Nat) (x : Slt), s.r[i]? = some x → ∃ y, σ[i]? = some y ∧ SltOk G W H y x
  apart : ∀ (i j : Nat) (u u' : U) (a : Addr), i ≠ j → s.r[i]? = some (Slt.own u) → s.r[j]? = some (Slt.own u') → σ[i]? = some (some (V.ref a)) → σ[j]? = some (some (V.ref a)) → False
  m : RelSh G W s.m H
end

/-- what a call may change -/
structure ExtM (W W' : Wd) (H H' : Hp) : Prop where
  le : W.le W'
  kp : Kp W H H'
  fr : ∀ a o, H a = some o → a ∉ W.al → H' a = some o
  new : ∀ a, ((W'.fz a ∧ ¬ W.fz a) ∨ (a ∈ W'.al ∧ a ∉ W.al)) → H a = none ∨ a ∈ W.al
/-- what an expression may change -/
structure Ext (s s' : Sta) (σ : L2.St) (W W' : Wd) (H H' : Hp) : Prop where
  le : W.le W'
  kp : Kp W H H'
  fr : ∀ a o, H a = some o → a ∉ W.al → ¬ Ownd s σ a → H' a = some o
  new : ∀ a, ((W'.fz a ∧ ¬ W.fz a) ∨ (a ∈ W'.al ∧ a ∉ W.al)) → H a = none ∨ Ownd s σ a ∨ a ∈ W.al
  own : ∀ (i : Nat) (u' : U), s'.r[i]? = some (Slt.own u') → ∃ u : U, s.r[i]? = some (Slt.own u)
  len : s'.r.length = s.r.length

theorem Ownd.mono {s s' : Sta} {σ : L2.St} (h : ∀ (i : Nat) (u' : U), s'.r[i]? = some (Slt.own u') → ∃ u : U, s.r[i]? = some (Slt.own u)) {a : Addr} (o : Ownd s' σ a) : Ownd s σ a := by
  obtain ⟨i, u', h1, h2⟩ := o
  obtain ⟨u, h3⟩ := h i u' h1
  exact ⟨i, u, h3, h2⟩
theorem Ext.refl (s : Sta) (σ : L2.St) (W : Wd) (H : Hp) : Ext s s σ W W H H :=
  ⟨.refl W, .refl W H, fun _ _ h _ _ => h, fun a h => by rcases h with ⟨h1, h2⟩ | ⟨h1, h2⟩ <;> exact absurd h1 h2, fun i u h => ⟨u, h⟩, rfl⟩
theorem Wd.le.mem {W W' : Wd} (l : W.le W') {a : Addr} (h : a ∈ W.al) : a ∈ W'.al := by
  obtain ⟨r, e⟩ := l.al
  rw [e]; exact List.mem_append_left _ h
theorem Ext.trans {s s1 s2 : Sta} {σ : L2.St} {W W1 W2 : Wd} {H H1 H2 : Hp} (a : Ext s s1 σ W W1 H H1) (b : Ext s1 s2 σ W1 W2 H1 H2) : Ext s s2 σ W W2 H H2 := by
  have key : ∀ x, H1 x = none → H x = none ∨ Ownd s σ x ∨ x ∈ W.al := fun x h1 => by
    cases e : H x with
    | none => exact .inl rfl
    | some o =>
      by_cases h2 : x ∈ W.al
      · exact .inr (.inr h2)
      · by_cases h3 : Ownd s σ x
        · exact .inr (.inl h3)
        · have z := a.fr x o e h2 h3
          rw [h1] at z; cases z
  refine ⟨a.le.trans b.le, a.kp.trans a.le b.kp, fun x o h h1 h2 => ?_, fun x h => ?_, fun i u h => ?_, b.len.trans a.len⟩
  · refine b.fr x o (a.fr x o h h1 h2) (fun h3 => ?_) fun h3 => h2 (h3.mono a.own)
    rcases a.new x (.inr ⟨h3, h1⟩) with z | z | z
    · rw [h] at z; cases z
    · exact h2 z
    · exact h1 z
  · have lift : (H1 x = none ∨ Ownd s1 σ x ∨ x ∈ W1.al) → H x = none ∨ Ownd s σ x ∨ x ∈ W.al := fun z => by
      rcases z with z | z | z
      · exact key x z
      · exact .inr (.inl (z.mono a.own))
      · by_cases h3 : x ∈ W.al
        · exact .inr (.inr h3)
        · exact a.new x (.inr ⟨z, h3⟩)
    rcases h with ⟨h1, h2⟩ | ⟨h1, h2⟩
    · by_cases h3 : W1.fz x
      · exact a.new x (.inl ⟨h3, h2⟩)
      · exact lift (b.new x (.inl ⟨h1, h3⟩))
    · by_cases h3 : x ∈ W1.al
      · exact a.new x (.inr ⟨h3, h2⟩)
      · exact lift (b.new x (.inr ⟨h1, h3⟩))
  · obtain ⟨u', h'⟩ := b.own i u h
    exact a.own i u' h'

section
variable {G : Nms}
theorem Cont.mono {W W' : Wd} {H H' : Hp} (l : W.le W') (k : Kp W H H') {a : Addr} (h : ∀ o, H a = some o → H' a = some o) : ∀ {u : U}, Cont G W H a u → Cont G W' H' a u := by
  intro u c
  cases u <;> simp only [Cont] at c ⊢
  · obtain ⟨vs, h1, h2⟩ := c
    exact ⟨vs, h _ h1, RepVs.mono l k _ h2⟩
  · rcases c with ⟨kvs, h1, h2, h3⟩ | ⟨ys, h0, h1, h2, h3, h4, h5⟩
    · exact .inl ⟨kvs, h _ h1, h2, RepVs.mono l k _ h3⟩
    · exact .inr ⟨ys, h0, h _ h1, h2, h3, RepVs.mono l k _ h4, RepVs.mono l k _ h5⟩
  · obtain ⟨dx, fvs, h1, ws, h2, h3⟩ := c
    exact ⟨dx, fvs, h _ h1, ws, RepFs.mono l k _ h2, h3⟩
  · obtain ⟨e, ps, h1, h2, h3⟩ := c
    refine ⟨e, ps, h _ h1, h2, fun pos cv hc => ?_⟩
    obtain ⟨cc, e1, e2, e3⟩ := h3 pos cv hc
    exact ⟨cc, e1, l.fz cc e2, k.fz cc _ e2 e3⟩

/-- the lambda's slot -/
theorem CloOk.mono {W W' : Wd} {H H' : Hp} (l : W.le W') (k : Kp W H H') {a : Option V} {us : List U} (h : a = some (.ref G.lf) ∧ W.fz G.lc ∧ H G.lc = some (LamX.CodeO G.lc G.lq) ∧ RepVs G W H us G.lv) :
    a = some (.ref G.lf) ∧ W'.fz G.lc ∧ H' G.lc = some (LamX.CodeO G.lc G.lq) ∧ RepVs G W' H' us G.lv :=
  ⟨h.1, l.fz _ h.2.1, k.fz _ _ h.2.1 h.2.2.1, RepVs.mono l k _ h.2.2.2⟩
/-- an exception as it is raised -/
def ExcOk (G : Nms) (W : Wd) (H : Hp) (e : U) (cls : Value) (d : Option Addr) : Prop := ∃ c, e = .exc c [] ∧ cls = .ref (G.cA c) ∧ d = none

/-- what is wanted behind a semantic result -/
def tAt {α β : Type} (G : Nms) (Wx : WX) (r : Rs α) (W : Wd) (s : Sta) (σ : L2.St) (H : Hp) (R : Wd → Sta → Hp → α → β → Prop) (Q : β → Hp → Prop) : Prop :=
  match r with
  | .ok a s' => ∀ W' H' b, Ext s s' σ W W' H H' → RelFr G W' s' σ H' → R W' s' H' a b → Q b H'
  | .exc e s' => ∀ W' H' cls d, Ext s s' σ W W' H H' → RelFr G W' s' σ H' → ExcOk G W' H' e cls d → Wx cls d σ H'
  | .stuck => False
theorem tAt.shift {α β : Type} {Wx : WX} {r : Rs α} {W W1 : Wd} {s s1 : Sta} {σ : L2.St} {H H1 : Hp} {R : Wd → Sta → Hp → α → β → Prop} {Q : β → Hp → Prop}
    (e : Ext s s1 σ W W1 H H1) (h : tAt G Wx r W s σ H R Q) : tAt G Wx r W1 s1 σ H1 R Q := by
  cases r with
  | ok a s' => exact fun W' H' b e' => h W' H' b (e.trans e')
  | exc x s' => exact fun W' H' cls d e' => h W' H' cls d (e.trans e')
  | stuck => exact h
theorem tAt.bind {α β γ δ : Type} {Wx : WX} {f : Rs α} {k : α → Sta → Rs γ} {W : Wd} {s : Sta} {σ : L2.St} {H : Hp} {R' : Wd → Sta → Hp → γ → δ → Prop} {Q : δ → Hp → Prop} (R : Wd → Sta → Hp → α → β → Prop)
    (h : tAt G Wx (f.bind k) W s σ H R' Q) :
    tAt G Wx f W s σ H R fun b H1 => ∃ a W1 s1, f = .ok a s1 ∧ Ext s s1 σ W W1 H H1 ∧ RelFr G W1 s1 σ H1 ∧ R W1 s1 H1 a b ∧ tAt G Wx (k a s1) W1 s1 σ H1 R' Q := by
  cases f with
  | ok a s' => exact fun W' H' b e r q => ⟨a, W', s', rfl, e, r, q, h.shift e⟩
  | exc x s' => exact h
  | stuck => exact h
theorem tAt.imp {α β β' : Type} {Wx : WX} {r : Rs α} {W : Wd} {s : Sta} {σ : L2.St} {H : Hp} {R : Wd → Sta → Hp → α → β → Prop} {R' : Wd → Sta → Hp → α → β' → Prop} {Q : β → Hp → Prop} {Q' : β' → Hp → Prop}
    (h : tAt G Wx r W s σ H R Q) (hq : ∀ a s' W' H' b, r = .ok a s' → Ext s s' σ W W' H H' → RelFr G W' s' σ H' → R' W' s' H' a b → (∀ b', R W' s' H' a b' → Q b' H') → Q' b H') : tAt G Wx r W s σ H R' Q' := by
  cases r with
  | ok a s' => exact fun W' H' b e rl rr => hq a s' W' H' b rfl e rl rr fun b' r' => h W' H' b' e rl r'
  | exc x s' => exact h
  | stuck => exact h

/-! ### readings -/
def RV (G : Nms) : Wd → Sta → Hp → U → V → Prop := fun W _ H u v => RepV G W H u v
def RVs (G : Nms) : Wd → Sta → Hp → List U → List V → Prop := fun W _ H u v => RepVs G W H u v
/-- an argument: a value, or the name's own object -/
def RA (G : Nms) (σ : L2.St) : Wd → Sta → Hp → AV → V → Prop := fun W s H a v => match a with
  | .v u => RepV G W H u v
  | .own i => σ[i]? = some (some v)
def RAs (G : Nms) (σ : L2.St) : Wd → Sta → Hp → List AV → List V → Prop := fun W s H as vs => Paired (fun a v => RA G σ W s H a v) as vs
def RB : Wd → Sta → Hp → Bool → Bool → Prop := fun _ _ _ a b => a = b

def tR {α β : Type} (G : Nms) (Wx : WX) (f : Sta → Rs α) (R : L2.St → Wd → Sta → Hp → α → β → Prop) : L2.St → Hp → (β → Hp → Prop) → Prop := fun σ H Q => ∃ W s, RelFr G W s σ H ∧ tAt G Wx (f s) W s σ H (R σ) Q
def tE (G : Nms) (Wx : WX) (g : Gst) (m : ME) : TE := tR G Wx (evalE g m) fun _ => RV G
def tEs (G : Nms) (Wx : WX) (g : Gst) (ms : List ME) : TA := tR G Wx (evalEs g ms) fun _ => RVs G
def tArg (G : Nms) (Wx : WX) (g : Gst) (m : ME) : TE := tR G Wx (argOf (fun s => evalE g m s) m) fun σ => RA G σ
def tArgs (G : Nms) (Wx : WX) (g : Gst) (ms : List ME) : TA := tR G Wx (evalAs g ms) fun σ => RAs G σ
def tCond (G : Nms) (Wx : WX) (g : Gst) (m : ME) : TT := tR G Wx (condOf (fun s => evalE g m s) m) fun _ => RB

/-! ### from a state to a later one -/
theorem RelFr.valAt {W : Wd} {s : Sta} {σ : L2.St} {H : Hp} (r : RelFr G W s σ H) {i : Nat} {u : U} (h : slot s i = .val u) : ∃ v, σ[i]? = some (some v) ∧ RepV G W H u v := by
  unfold slot at h
  cases e : s.r[i]? with
  | none => rw [List.getD_eq_getElem?_getD, e] at h; cases h
  | some x =>
    rw [List.getD_eq_getElem?_getD, e] at h
    have h' : x = .val u := h
    subst h'
    obtain ⟨y, h1, v, rfl, h2⟩ := r.slt i _ e
    exact ⟨v, h1, h2⟩
theorem RelFr.ownAt {W : Wd} {s : Sta} {σ : L2.St} {H : Hp} (r : RelFr G W s σ H) {i : Nat} {u : U} (h : slot s i = .own u) : s.r[i]? = some (Slt.own u) ∧ ∃ p, σ[i]? = some (some (V.ref p)) ∧ ¬ W.fz p ∧ p ∉ W.al ∧ Cont G W H p u := by
  unfold slot at h
  cases e : s.r[i]? with
  | none => rw [List.getD_eq_getElem?_getD, e] at h; cases h
  | some x =>
    rw [List.getD_eq_getElem?_getD, e] at h
    have h' : x = .own u := h
    subst h'
    obtain ⟨y, h1, p, rfl, h2, h3, h4⟩ := r.slt i _ e
    exact ⟨rfl, p, h1, h2, h3, h4⟩
theorem RepV.ext {W W1 : Wd} {s s1 : Sta} {σ : L2.St} {H H1 : Hp} (e : Ext s s1 σ W W1 H H1) {u : U} {v : V} (h : RepV G W H u v) : RepV G W1 H1 u v := RepV.mono e.le e.kp u h
theorem RepVs.ext {W W1 : Wd} {s s1 : Sta} {σ : L2.St} {H H1 : Hp} (e : Ext s s1 σ W W1 H H1) {u : List U} {v : List V} (h : RepVs G W H u v) : RepVs G W1 H1 u v := RepVs.mono e.le e.kp u h
theorem Cont.not_tup {W : Wd} {H : Hp} {a : Addr} {u : U} (c : Cont G W H a u) {xs : List V} (h : H a = some (.tup xs)) : False := by
  cases u <;> simp only [Cont] at c
  · obtain ⟨vs, h1, _⟩ := c; rw [h] at h1; cases h1
  · rcases c with ⟨kvs, h1, _⟩ | ⟨ys, _, h1, _⟩ <;> (rw [h] at h1; cases h1)
  · obtain ⟨dx, fvs, h1, _⟩ := c; rw [h] at h1; cases h1
  · obtain ⟨_, ps, h1, _⟩ := c; rw [h] at h1; cases h1
theorem RepVs.length {W : Wd} {H : Hp} : ∀ {us : List U} {vs : List V}, RepVs G W H us vs → us.length = vs.length
  | [], _, h => by simp only [RepVs] at h; subst h; rfl
  | u :: us, _, h => by
    simp only [RepVs] at h
    obtain ⟨v, r, rfl, _, h2⟩ := h
    rw [List.length_cons, List.length_cons, RepVs.length h2]
theorem RepVs.get {W : Wd} {H : Hp} : ∀ {us : List U} {vs : List V} {i : Nat} {u : U}, RepVs G W H us vs → us[i]? = some u → ∃ v, vs[i]? = some v ∧ RepV G W H u v
  | [], _, _, _, _, e => by simp at e
  | u :: us, _, 0, _, h, e => by
    simp only [RepVs] at h
    obtain ⟨v, r, rfl, h1, _⟩ := h
    simp at e; subst e
    exact ⟨v, rfl, h1⟩
  | u :: us, _, i + 1, _, h, e => by
    simp only [RepVs] at h
    obtain ⟨v, r, rfl, _, h2⟩ := h
    obtain ⟨w, e1, e2⟩ := RepVs.get h2 (show us[i]? = _ by simpa using e)
    exact ⟨w, by simpa using e1, e2⟩
theorem RepVs.append {W : Wd} {H : Hp} : ∀ {us us' : List U} {vs vs' : List V}, RepVs G W H us vs → RepVs G W H us' vs' → RepVs G W H (us ++ us') (vs ++ vs')
  | [], _, _, _, h, h' => by simp only [RepVs] at h; subst h; exact h'
  | u :: us, _, _, _, h, h' => by
    simp only [RepVs] at h
    obtain ⟨v, r, rfl, h1, h2⟩ := h
    simp only [List.cons_append, RepVs]
    exact ⟨v, _, rfl, h1, RepVs.append h2 h'⟩

/-! ### ends: nothing new, a new tuple, list, dict -/
/-- a result without a new object -/
theorem tAt.fin {α β : Type} {Wx : WX} {a : α} {W : Wd} {s : Sta} {σ : L2.St} {H : Hp} {R : Wd → Sta → Hp → α → β → Prop} {Q : β → Hp → Prop} {b : β} (h : tAt G Wx (.ok a s) W s σ H R Q) (r : RelFr G W s σ H) (q : R W s H a b) : Q b H :=
  h W H b (.refl s σ W H) r q
theorem kp_upd {W : Wd} {H : Hp} {p : Addr} {o : HO} (hp : H p = none) : Kp W H (upd H p o) :=
  ⟨fun a x _ h => by rw [upd_ne (ne_of_none h hp)]; exact h, fun a xs h => by rw [upd_ne (ne_of_none h hp)]; exact h, fun a o u h => by rw [upd_ne (ne_of_none h hp)]; exact h⟩
theorem RelSh.upd {W : Wd} {m : List U} {H : Hp} {p : Addr} {o : HO} (hp : H p = none) (r : RelSh G W m H) : RelSh G W m (upd H p o) :=
  ⟨r.len, r.nod, fun n a h => by
    obtain ⟨h1, u, h2, h3⟩ := r.mem n a h
    exact ⟨h1, u, h2, h3.mono (.refl W) (kp_upd hp) fun o' e => by rw [upd_ne (ne_of_none e hp)]; exact e⟩, fun a h => by
    obtain ⟨x, e⟩ := r.sm a h
    exact ⟨x, by rw [upd_ne (ne_of_none e hp)]; exact e⟩⟩
theorem Cont.some {W : Wd} {H : Hp} {a : Addr} {u : U} (c : Cont G W H a u) : ∃ o, H a = Option.some o := by
  cases u <;> simp only [Cont] at c
  · obtain ⟨vs, h1, _⟩ := c; exact ⟨_, h1⟩
  · rcases c with ⟨kvs, h1, _⟩ | ⟨ys, _, h1, _⟩ <;> exact ⟨_, h1⟩
  · obtain ⟨dx, fvs, h1, _⟩ := c; exact ⟨_, h1⟩
  · obtain ⟨_, ps, h1, _⟩ := c; exact ⟨_, h1⟩
theorem RelFr.upd {W : Wd} {s : Sta} {σ : L2.St} {H : Hp} {p : Addr} {o : HO} (hp : H p = none) (r : RelFr G W s σ H) : RelFr G W s σ (upd H p o) :=
  ⟨r.len, fun i x h => by
    obtain ⟨y, h1, h2⟩ := r.slt i x h
    refine ⟨y, h1, ?_⟩
    cases x with
    | no => trivial
    | val u => obtain ⟨v, e, q⟩ := h2; exact ⟨v, e, RepV.mono (.refl W) (kp_upd hp) _ q⟩
    | own u => obtain ⟨q, e, f, n, c⟩ := h2; exact ⟨q, e, f, n, c.mono (.refl W) (kp_upd hp) fun o' e => by rw [upd_ne (ne_of_none e hp)]; exact e⟩
    | clo us => exact CloOk.mono (.refl W) (kp_upd hp) h2, r.apart, r.m.upd hp⟩
theorem Ext.upd {s : Sta} {σ : L2.St} {W : Wd} {H : Hp} {p : Addr} {o : HO} (hp : H p = none) : Ext s s σ W W H (upd H p o) :=
  ⟨.refl W, kp_upd hp, fun a x h _ _ => by rw [upd_ne (ne_of_none h hp)]; exact h, fun a h => by rcases h with ⟨h1, h2⟩ | ⟨h1, h2⟩ <;> exact absurd h1 h2, fun i u h => ⟨u, h⟩, rfl⟩
theorem tAt.finT {α : Type} {Wx : WX} {a : α} {W : Wd} {s : Sta} {σ : L2.St} {H : Hp} {R : Wd → Sta → Hp → α → V → Prop} {Q : VK} {vs : List V} (h : tAt G Wx (.ok a s) W s σ H R Q) (r : RelFr G W s σ H)
    (q : ∀ p, H p = none → R W s (upd H p (.tup vs)) a (.ref p)) (p : Addr) (hp : H p = none) : Q (.ref p) (upd H p (.tup vs)) :=
  h W _ _ (.upd hp) (r.upd hp) (q p hp)
/-- a world with one more frozen object -/
def Wd.ice (W : Wd) (p : Addr) : Wd := ⟨W.al, fun a => W.fz a ∨ a = p⟩
theorem Wd.le_ice {W : Wd} {p : Addr} : W.le (W.ice p) := ⟨⟨[], by simp [Wd.ice]⟩, fun _ h => .inl h⟩
theorem RelSh.ice {W : Wd} {m : List U} {H : Hp} {p : Addr} {o : HO} (hp : p ∉ W.al) (ho : H p = Option.some o) (r : RelSh G W m H) : RelSh G (W.ice p) m H :=
  ⟨r.len, r.nod, fun n a h => by
    obtain ⟨h1, u, h2, h3⟩ := r.mem n a h
    refine ⟨fun z => ?_, u, h2, h3.mono Wd.le_ice (.refl W H) fun _ e => e⟩
    rcases z with z | z
    · exact h1 z
    · subst z; exact hp (List.mem_of_getElem? h), fun a h => by
    rcases h with h | h
    · exact r.sm a h
    · subst h; exact ⟨o, ho⟩⟩
theorem RelFr.ice {W : Wd} {s : Sta} {σ : L2.St} {H : Hp} {p : Addr} {o : HO} (hp : p ∉ W.al) (hsm : H p = Option.some o) (ho : ¬ Ownd s σ p) (r : RelFr G W s σ H) : RelFr G (W.ice p) s σ H :=
  ⟨r.len, fun i x h => by
    obtain ⟨y, h1, h2⟩ := r.slt i x h
    refine ⟨y, h1, ?_⟩
    cases x with
    | no => trivial
    | val u => obtain ⟨v, e, q⟩ := h2; exact ⟨v, e, RepV.mono Wd.le_ice (.refl W H) _ q⟩
    | own u =>
      obtain ⟨q, e, f, n, c⟩ := h2
      refine ⟨q, e, fun z => ?_, n, c.mono Wd.le_ice (.refl W H) fun _ e => e⟩
      rcases z with z | z
      · exact f z
      · subst z
        rw [e] at h1
        exact ho ⟨i, u, h, h1⟩
    | clo us => exact CloOk.mono Wd.le_ice (.refl W H) h2, r.apart, r.m.ice hp hsm⟩
theorem RelSh.al_some {W : Wd} {m : List U} {H : Hp} (r : RelSh G W m H) {a : Addr} (h : a ∈ W.al) : ∃ o, H a = Option.some o := by
  obtain ⟨n, hn⟩ := List.getElem?_of_mem h
  obtain ⟨_, u, _, c⟩ := r.mem n a hn
  exact c.some
theorem RelFr.own_some {W : Wd} {s : Sta} {σ : L2.St} {H : Hp} (r : RelFr G W s σ H) {a : Addr} (h : Ownd s σ a) : ∃ o, H a = Option.some o := by
  obtain ⟨i, u, h1, h2⟩ := h
  obtain ⟨y, h3, p, e, _, _, c⟩ := r.slt i _ h1
  rw [e] at h3
  rw [h2] at h3
  cases h3
  exact c.some
/-- a new list, dict, frozen at once -/
theorem tAt.finO {α : Type} {Wx : WX} {a : α} {W : Wd} {s : Sta} {σ : L2.St} {H : Hp} {R : Wd → Sta → Hp → α → V → Prop} {Q : VK} {o : HO} (h : tAt G Wx (.ok a s) W s σ H R Q) (r : RelFr G W s σ H)
    (p : Addr) (hp : H p = none) (q : R (W.ice p) s (L2.upd H p o) a (.ref p)) : Q (.ref p) (L2.upd H p o) := by
  have n1 : p ∉ W.al := fun z => by
    obtain ⟨x, e⟩ := r.m.al_some z
    rw [hp] at e; cases e
  have n2 : ¬ Ownd s σ p := fun z => by
    obtain ⟨x, e⟩ := r.own_some z
    rw [hp] at e; cases e
  refine h (W.ice p) _ _ ⟨Wd.le_ice, kp_upd hp, fun a x h _ _ => by rw [upd_ne (ne_of_none h hp)]; exact h, fun a h => ?_, fun i u h => ⟨u, h⟩, rfl⟩ ((r.upd hp).ice n1 upd_same n2) q
  rcases h with ⟨h1, h2⟩ | ⟨h1, h2⟩
  · rcases h1 with h1 | h1
    · exact absurd h1 h2
    · subst h1; exact .inl hp
  · exact absurd h1 h2
end
end MP
set_option maxRecDepth 100000
set_option maxHeartbeats 1000000
/-! R1c: what each reading operation comes to, by the hand layer's rules of values. -/
namespace MP
open PySem PySem.Spec PyProof.Rows L2

section
variable {G : Nms} {W : Wd} {H : Hp}
/-- a content: a value, or what stands at an address that may be changed -/
def CRep (G : Nms) (W : Wd) (H : Hp) (u : U) (v : V) : Prop := RepV G W H u v ∨ ∃ p, v = .ref p ∧ Cont G W H p u

theorem CRep.non {v : V} (h : CRep G W H .non v) : v = .non := by
  rcases h with h | ⟨p, _, c⟩
  · simpa only [RepV] using h
  · simp only [Cont] at c
theorem CRep.bl {b : Bool} {v : V} (h : CRep G W H (.bl b) v) : v = .bl b := by
  rcases h with h | ⟨p, _, c⟩
  · simpa only [RepV] using h
  · simp only [Cont] at c
theorem CRep.int {i : Int} {v : V} (h : CRep G W H (.int i) v) : v = .int i := by
  rcases h with h | ⟨p, _, c⟩
  · simpa only [RepV] using h
  · simp only [Cont] at c
theorem CRep.str {x : List Nat} {v : V} (h : CRep G W H (.str x) v) : v = .str (sOf x) := by
  rcases h with h | ⟨p, _, c⟩
  · simpa only [RepV] using h
  · simp only [Cont] at c
theorem CRep.tup {us : List U} {v : V} (h : CRep G W H (.tup us) v) : ∃ p vs, v = .ref p ∧ TX H p vs ∧ RepVs G W H us vs := by
  rcases h with h | ⟨p, _, c⟩
  · simpa only [RepV] using h
  · simp only [Cont] at c
theorem CRep.prs {us : List U} {v : V} (h : CRep G W H (.prs us) v) : ∃ p vs, v = .ref p ∧ H p = some (.tup vs) ∧ RepVs G W H us vs := by
  rcases h with h | ⟨p, _, c⟩
  · simpa only [RepV] using h
  · simp only [Cont] at c
theorem CRep.lst {us : List U} {v : V} (h : CRep G W H (.lst us) v) : ∃ p vs, v = .ref p ∧ H p = some (.lst vs) ∧ RepVs G W H us vs := by
  rcases h with h | ⟨p, e, c⟩
  · simp only [RepV] at h
    obtain ⟨p, vs, e, _, h1, h2⟩ := h
    exact ⟨p, vs, e, h1, h2⟩
  · simp only [Cont] at c
    obtain ⟨vs, h1, h2⟩ := c
    exact ⟨p, vs, e, h1, h2⟩
theorem CRep.scr {us : List U} {v : V} (h : CRep G W H (.scr us) v) : ∃ p vs, v = .ref p ∧ SqL G.K H p vs ∧ RepVs G W H us vs := by
  rcases h with h | ⟨p, e, c⟩
  · simp only [RepV] at h
    obtain ⟨p, vs, e, h1, h2⟩ := h
    exact ⟨p, vs, e, h1.sq, h2⟩
  · simp only [Cont] at c

/-! ### data as a whole -/
mutual
def pyU : U → PyData
  | .non => .none
  | .bl b => .bool b
  | .int i => .int i
  | .str s => .str (sOf s)
  | .tup us => .tuple (pyUs us)
  | .lst us => .list (pyUs us)
  | .scr us => .list (pyUs us)
  | _ => .none
def pyUs : List U → List PyData
  | [] => []
  | u :: us => pyU u :: pyUs us
end
mutual
theorem RepV.dp : ∀ (n : Nat) (u : U) {v : V}, deepU n u = true → RepV G W H u v → Dp G.K H v (pyU u)
  | _, .non, v, _, h => by simp only [RepV] at h; subst h; exact .non
  | _, .bl b, v, _, h => by simp only [RepV] at h; subst h; exact .bl b
  | _, .int i, v, _, h => by simp only [RepV] at h; subst h; exact .int i
  | _, .str s, v, _, h => by simp only [RepV] at h; subst h; exact .str _
  | n + 1, .tup us, v, d, h => by
    simp only [RepV] at h
    obtain ⟨a, vs, rfl, h1, h2⟩ := h
    simp only [deepU] at d
    exact .tup (TX.sq h1) (RepVs.dp n us d h2)
  | n + 1, .lst us, v, d, h => by
    simp only [RepV] at h
    obtain ⟨a, vs, rfl, _, h1, h2⟩ := h
    simp only [deepU] at d
    exact .lst (SqL.of h1) (RepVs.dp n us d h2)
  | 0, .tup us, _, d, _ => by simp [deepU] at d
  | n + 1, .scr us, v, d, h => by
    simp only [RepV] at h
    obtain ⟨a, vs, rfl, h1, h2⟩ := h
    simp only [deepU] at d
    exact .lst h1.sq (RepVs.dp n us d h2)
  | 0, .lst us, _, d, _ => by simp [deepU] at d
  | 0, .scr us, _, d, _ => by simp [deepU] at d
  | n, .dic _ _, _, d, _ => by cases n <;> simp [deepU] at d
  | n, .obj _ _, _, d, _ => by cases n <;> simp [deepU] at d
  | n, .exc _ _, _, d, _ => by cases n <;> simp [deepU] at d
  | n, .ref _, _, d, _ => by cases n <;> simp [deepU] at d
  | n, .fn _, _, d, _ => by cases n <;> simp [deepU] at d
  | n, .clo _ _, _, d, _ => by cases n <;> simp [deepU] at d
  | n, .hole, _, d, _ => by cases n <;> simp [deepU] at d
theorem RepVs.dp : ∀ (n : Nat) (us : List U) {vs : List V}, deepUs n us = true → RepVs G W H us vs → DpAll G.K H vs (pyUs us)
  | _, [], vs, _, h => by simp only [RepVs] at h; subst h; exact .nil
  | n, u :: us, vs, d, h => by
    simp only [RepVs] at h
    obtain ⟨v, r, rfl, h1, h2⟩ := h
    simp only [deepUs, Bool.and_eq_true] at d
    exact .cons (RepV.dp n u d.1 h1) (RepVs.dp n us d.2 h2)
end
theorem CRep.dp {n : Nat} {u : U} {v : V} (d : deepU n u = true) (h : CRep G W H u v) : Dp G.K H v (pyU u) := by
  rcases h with h | ⟨p, e, c⟩
  · exact RepV.dp n u d h
  · cases u <;> simp only [Cont] at c
    · obtain ⟨vs, h1, h2⟩ := c
      subst e
      cases n with
      | zero => simp [deepU] at d
      | succ n => simp only [deepU] at d; exact .lst (SqL.of h1) (RepVs.dp n _ d h2)
    · cases n <;> simp [deepU] at d
    · cases n <;> simp [deepU] at d
    · cases n <;> simp [deepU] at d

theorem sOf_inj {a b : List Nat} (h : sOf a = sOf b) : a = b := by
  have e : (sOf a).cps.toList = (sOf b).cps.toList := by rw [h]
  simpa [sOf] using e
theorem sOf_beq (a b : List Nat) : (sOf a == sOf b) = (a == b) := by
  rw [Bool.eq_iff_iff, beq_iff_eq, beq_iff_eq]
  exact ⟨sOf_inj, fun h => by rw [h]⟩
mutual
theorem eqv_py : ∀ (n m : Nat) (a b : U), deepU n a = true → deepU m b = true → PyData.eqv (pyU a) (pyU b) = eqU a b
  | n, m, a, b, ha, hb => by
    cases a <;> cases b <;> first
      | (simp only [pyU, PyData.eqv, eqU]; done)
      | (simp only [pyU, PyData.eqv, eqU]; exact sOf_beq _ _)
      | (cases n <;> simp [deepU] at ha; done)
      | (cases m <;> simp [deepU] at hb; done)
      | (simp only [pyU, PyData.eqv, eqU]
         cases n with
         | zero => simp [deepU] at ha
         | succ n =>
           cases m with
           | zero => simp [deepU] at hb
           | succ m =>
             simp only [deepU] at ha hb
             exact eqv_pys n m _ _ ha hb)
theorem eqv_pys : ∀ (n m : Nat) (a b : List U), deepUs n a = true → deepUs m b = true → PyData.eqvAll (pyUs a) (pyUs b) = eqUs a b
  | n, m, [], [], _, _ => by simp only [pyUs, PyData.eqvAll, eqUs]
  | n, m, [], b :: bs, _, _ => by simp only [pyUs, PyData.eqvAll, eqUs]
  | n, m, a :: as, [], _, _ => by simp only [pyUs, PyData.eqvAll, eqUs]
  | n, m, a :: as, b :: bs, ha, hb => by
    simp only [deepUs, Bool.and_eq_true] at ha hb
    simp only [pyUs, PyData.eqvAll, eqUs]
    rw [eqv_py n m a b ha.1 hb.1, eqv_pys n m as bs ha.2 hb.2]
end
end
end MP
set_option maxRecDepth 100000
set_option maxHeartbeats 1000000
/-! R1d: the reading operations, one by one. -/
namespace MP
open PySem PySem.Spec PyProof.Rows L2

theorem strOk_of {s : List Nat} (h : strU s = true) : PyData.strOk (sOf s) = true := by
  unfold strU at h
  simp only [Bool.and_eq_true, List.all_eq_true, decide_eq_true_eq] at h
  unfold PyData.strOk sOf
  simp only [Array.all_eq_true']
  intro x hx
  have := h.2 x (by simpa using hx)
  exact decide_eq_true (by omega)
mutual
theorem lay_py : ∀ (n : Nat) (u : U), deepU n u = true → (pyU u).canLay0 = true ∧ (pyU u).depth ≤ n
  | _, .non, _ => by simp [pyU, PyData.canLay0, PyData.depth]
  | _, .bl _, _ => by simp [pyU, PyData.canLay0, PyData.depth]
  | _, .int _, _ => by simp [pyU, PyData.canLay0, PyData.depth]
  | n, .str s, d => by
    have : strU s = true := by cases n <;> simpa [deepU] using d
    simp [pyU, PyData.canLay0, PyData.depth, strOk_of this]
  | n + 1, .tup us, d => by
    simp only [deepU] at d
    have := lay_pys n us d
    simp only [pyU, PyData.canLay0, PyData.depth]
    exact ⟨this.1, by omega⟩
  | n + 1, .lst us, d => by
    simp only [deepU] at d
    have := lay_pys n us d
    simp only [pyU, PyData.canLay0, PyData.depth]
    exact ⟨this.1, by omega⟩
  | n + 1, .scr us, d => by
    simp only [deepU] at d
    have := lay_pys n us d
    simp only [pyU, PyData.canLay0, PyData.depth]
    exact ⟨this.1, by omega⟩
  | 0, .scr us, d => by simp [deepU] at d
  | 0, .tup us, d => by simp [deepU] at d
  | 0, .lst us, d => by simp [deepU] at d
  | n, .dic _ _, d => by cases n <;> simp [deepU] at d
  | n, .obj _ _, d => by cases n <;> simp [deepU] at d
  | n, .exc _ _, d => by cases n <;> simp [deepU] at d
  | n, .ref _, d => by cases n <;> simp [deepU] at d
  | n, .fn _, d => by cases n <;> simp [deepU] at d
  | n, .clo _ _, d => by cases n <;> simp [deepU] at d
  | n, .hole, d => by cases n <;> simp [deepU] at d
theorem lay_pys : ∀ (n : Nat) (us : List U), deepUs n us = true → PyData.canLayAll0 (pyUs us) = true ∧ PyData.depthAll (pyUs us) ≤ n
  | n, [], _ => by simp [pyUs, PyData.canLayAll0, PyData.depthAll]
  | n, u :: us, d => by
    simp only [deepUs, Bool.and_eq_true] at d
    have h1 := lay_py n u d.1
    have h2 := lay_pys n us d.2
    simp only [pyUs, PyData.canLayAll0, PyData.depthAll]
    exact ⟨by rw [h1.1, h2.1]; rfl, by omega⟩
end
theorem shaped_py {n : Nat} {u : U} (d : deepU n u = true) (hn : n ≤ 64) : SeqAt.shaped (pyU u) = true := by
  have h := lay_py n u d
  unfold SeqAt.shaped
  rw [h.1]
  simp only [Bool.true_and, decide_eq_true_eq]
  omega

theorem sOf_append (a b : List Nat) : sOf (a ++ b) = sOf a ++ sOf b := by
  show (⟨(a ++ b).toArray⟩ : Str) = ⟨a.toArray ++ b.toArray⟩
  simp
theorem sOf_length (a : List Nat) : (sOf a).length = a.length := by simp [sOf, Str.length]
theorem le_line {n : Nat} (h : n ≤ line) : n ≤ sizeLine := by rw [sizeLine_eq]; unfold line at h; exact h

section
variable {G : Nms} {g : Gst} {Wx : WX} {W : Wd} {s : Sta} {σ : L2.St} {H : Hp} {Q : VK} {a b u : U} {x y : V}
/-- what is wanted of a result -/
abbrev Wants (G : Nms) (Wx : WX) (u : U) (W : Wd) (s : Sta) (σ : L2.St) (H : Hp) (Q : VK) : Prop := tAt G Wx (.ok u s) W s σ H (RV G) Q
theorem Wants.val (k : Wants G Wx u W s σ H Q) (r : RelFr G W s σ H) {v : V} (h : RepV G W H u v) : Q v H := tAt.fin k r h
theorem Wants.int {i : Int} (k : Wants G Wx (.int i) W s σ H Q) (r : RelFr G W s σ H) : Q (.int i) H := k.val r (by simp only [RepV])
theorem Wants.bl {i : Bool} (k : Wants G Wx (.bl i) W s σ H Q) (r : RelFr G W s σ H) : Q (.bl i) H := k.val r (by simp only [RepV])
theorem Wants.tup {us : List U} (k : Wants G Wx (.tup us) W s σ H Q) (r : RelFr G W s σ H) {vs : List V} (h : RepVs G W H us vs) : NewT vs H Q := fun p ob ht hp =>
  k W _ _ (.upd hp) (r.upd hp) (by unfold RV; simp only [RepV]; exact ⟨p, vs, rfl, .new ht, RepVs.mono (.refl W) (kp_upd hp) us h⟩)
theorem Wants.lst {us : List U} (k : Wants G Wx (.lst us) W s σ H Q) (r : RelFr G W s σ H) {vs : List V} (h : RepVs G W H us vs) (p : Addr) (hp : H p = none) : Q (.ref p) (L2.upd H p (.lst vs)) :=
  tAt.finO k r p hp (by unfold RV; simp only [RepV]; exact ⟨p, vs, rfl, .inr rfl, upd_same, RepVs.mono Wd.le_ice (kp_upd hp) us h⟩)

/-! arithmetic -/
theorem ol_addI (e : opAdd [a, b] = some u) (ha : CRep G W H a x) (hb : CRep G W H b y) (r : RelFr G W s σ H) (k : Wants G Wx u W s σ H Q) :
    (rI0 (fun i j => V.int (i + j)) x y H Q) ∨ (rCatX G.K x y H Q) ∨ (∃ p q xs ys, x = .ref p ∧ y = .ref q ∧ H p = some (.lst xs) ∧ H q = some (.lst ys) ∧ xs.length + ys.length ≤ sizeLine ∧ ∀ z, H z = none → Q (.ref z) (L2.upd H z (.lst (xs ++ ys)))) ∨
      (∃ i j, x = .str i ∧ y = .str j ∧ i.length + j.length ≤ sizeLine ∧ Q (.str (i ++ j)) H) := by
  unfold opAdd at e
  split at e
  · rename_i us i j eq
    simp only [List.cons.injEq, and_true] at eq
    obtain ⟨rfl, rfl⟩ := eq
    cases e
    exact .inl ⟨i, j, ha.int, hb.int, k.int r⟩
  · rename_i us i j eq
    simp only [List.cons.injEq, and_true] at eq
    obtain ⟨rfl, rfl⟩ := eq
    obtain ⟨p, vs, rfl, h1, h2⟩ := ha.tup
    obtain ⟨q, ws, rfl, h3, h4⟩ := hb.tup
    unfold okT at e
    split at e
    · rename_i hl
      cases e
      have l1 := RepVs.length h2
      have l2 := RepVs.length h4
      refine .inr (.inl ⟨p, q, vs, ws, rfl, rfl, TX.sq h1, TX.sq h3, ?_, fun z => ?_, fun z1 z2 => ?_, fun _ _ => ?_⟩)
      · rw [List.length_append] at hl
        rw [← l1, ← l2]; rw [sizeLine_eq]; unfold line at hl; omega
      · have : i = [] := by rw [z] at l1; simpa using l1
        subst this
        exact k.val r (by simp only [List.nil_append, RepV]; exact ⟨q, ws, rfl, h3, h4⟩)
      · have : j = [] := by rw [z2] at l2; simpa using l2
        subst this
        exact k.val r (by simp only [List.append_nil, RepV]; exact ⟨p, vs, rfl, h1, h2⟩)
      · exact k.tup r (RepVs.append h2 h4)
    · cases e
  · rename_i us i j eq
    simp only [List.cons.injEq, and_true] at eq
    obtain ⟨rfl, rfl⟩ := eq
    obtain ⟨p, vs, rfl, h1, h2⟩ := ha.lst
    obtain ⟨q, ws, rfl, h3, h4⟩ := hb.lst
    unfold okL at e
    split at e
    · rename_i hl
      cases e
      have l1 := RepVs.length h2
      have l2 := RepVs.length h4
      refine .inr (.inr (.inl ⟨p, q, vs, ws, rfl, rfl, h1, h3, ?_, fun z hz => ?_⟩))
      · rw [List.length_append] at hl
        rw [← l1, ← l2]; rw [sizeLine_eq]; unfold line at hl; omega
      · exact k.lst r (RepVs.append h2 h4) z hz
    · cases e
  · rename_i us i j eq
    simp only [List.cons.injEq, and_true] at eq
    obtain ⟨rfl, rfl⟩ := eq
    split at e
    · rename_i hl
      cases e
      refine .inr (.inr (.inr ⟨sOf i, sOf j, ha.str, hb.str, ?_, ?_⟩))
      · have e1 : (sOf i).length = i.length := by simp [sOf, Str.length]
        have e2 : (sOf j).length = j.length := by simp [sOf, Str.length]
        rw [e1, e2, sizeLine_eq]; unfold line at hl; omega
      · refine k.val r ?_
        simp only [RepV]
        rw [sOf_append]
    · cases e
  · cases e

/-! numbers -/
theorem ol_sub (e : opSub [a, b] = some u) (ha : CRep G W H a x) (hb : CRep G W H b y) (r : RelFr G W s σ H) (k : Wants G Wx u W s σ H Q) : rI0 (fun i j => V.int (i - j)) x y H Q := by
  unfold opSub at e
  split at e
  · rename_i us i j eq
    simp only [List.cons.injEq, and_true] at eq
    obtain ⟨rfl, rfl⟩ := eq
    cases e
    exact ⟨i, j, ha.int, hb.int, k.int r⟩
  · cases e
theorem repN_flat (us : List U) : ∀ n, repN us n = (List.replicate n us).flatten
  | 0 => rfl
  | n + 1 => by rw [repN, List.replicate_succ, List.flatten_cons, repN_flat us n]
theorem RepVs.rep {us : List U} {vs : List V} (h : RepVs G W H us vs) : ∀ n, RepVs G W H (repN us n) (List.replicate n vs).flatten
  | 0 => by simp [repN, RepVs]
  | n + 1 => by rw [repN, List.replicate_succ, List.flatten_cons]; exact RepVs.append h (RepVs.rep h n)
theorem ol_mul (e : opMul [a, b] = some u) (ha : CRep G W H a x) (hb : CRep G W H b y) (r : RelFr G W s σ H) (k : Wants G Wx u W s σ H Q) :
    (rI CMulW (fun i j => V.int (i * j)) x y H Q) ∨ (rRepX G.K x y H Q) ∨ (rRep x y H Q) := by
  unfold opMul at e
  split at e
  · rename_i us i j eq
    simp only [List.cons.injEq, and_true] at eq
    obtain ⟨rfl, rfl⟩ := eq
    split at e
    · rename_i h
      cases e
      have h := of_decide_eq_true h
      exact .inl ⟨i, j, ha.int, hb.int, wide_mul h.1 h.2 (by decide) (by decide) (by decide), k.int r⟩
    · cases e
  · rename_i us xs n eq
    simp only [List.cons.injEq, and_true] at eq
    obtain ⟨rfl, rfl⟩ := eq
    obtain ⟨p, vs, rfl, h1, h2⟩ := ha.tup
    split at e
    · rename_i h
      cases e
      have h := of_decide_eq_true h
      have l := RepVs.length h2
      refine .inr (.inl ⟨p, n, vs, rfl, hb.int, TX.sq h1, fun z => ?_, h.1, by omega, by omega, fun hn => ?_, fun hn => ?_, fun _ => k.tup r (RepVs.rep h2 _)⟩)
      · rw [z, List.length_nil] at l
        omega
      · rw [show n.toNat = 0 by omega] at k
        exact k.tup r (by simp [repN, RepVs])
      · subst hn
        rw [show (1 : Int).toNat = 1 by rfl, repN, repN, List.append_nil] at k
        exact k.val r (by simp only [RepV]; exact ⟨p, vs, rfl, h1, h2⟩)
    · cases e
  · rename_i us xs n eq
    simp only [List.cons.injEq, and_true] at eq
    obtain ⟨rfl, rfl⟩ := eq
    obtain ⟨p, vs, rfl, h1, h2⟩ := ha.lst
    split at e
    · rename_i h
      cases e
      have h := of_decide_eq_true h
      have l := RepVs.length h2
      exact .inr (.inr ⟨p, n, vs, rfl, hb.int, h1, by omega, by omega, le_line (by rw [← l]; exact h.2.2), fun q hq => k.lst r (RepVs.rep h2 _) q hq⟩)
    · cases e
  · cases e
theorem ol_fdiv (e : opFdiv [a, b] = some u) (ha : CRep G W H a x) (hb : CRep G W H b y) (r : RelFr G W s σ H) (k : Wants G Wx u W s σ H Q) : rI CDivW (fun i j => V.int (i / j)) x y H Q := by
  unfold opFdiv at e
  split at e
  · rename_i us i j eq
    simp only [List.cons.injEq, and_true] at eq
    obtain ⟨rfl, rfl⟩ := eq
    split at e
    · rename_i h
      cases e
      have h := of_decide_eq_true h
      exact ⟨i, j, ha.int, hb.int, wide_div h.1 h.2 (by decide) (by decide), k.int r⟩
    · cases e
  · cases e
theorem ol_mod (e : opMod [a, b] = some u) (ha : CRep G W H a x) (hb : CRep G W H b y) (r : RelFr G W s σ H) (k : Wants G Wx u W s σ H Q) : rI (fun _ j => 0 < j) (fun i j => V.int (i % j)) x y H Q := by
  unfold opMod at e
  split at e
  · rename_i us i j eq
    simp only [List.cons.injEq, and_true] at eq
    obtain ⟨rfl, rfl⟩ := eq
    split at e
    · rename_i h
      cases e
      exact ⟨i, j, ha.int, hb.int, of_decide_eq_true h, k.int r⟩
    · cases e
  · cases e
theorem ol_pow (e : opPow [a, b] = some u) (ha : CRep G W H a x) (hb : CRep G W H b y) (r : RelFr G W s σ H) (k : Wants G Wx u W s σ H Q) : rI CPow (fun i j => V.int (i ^ j.toNat)) x y H Q := by
  unfold opPow at e
  split at e
  · rename_i us i j eq
    simp only [List.cons.injEq, and_true] at eq
    obtain ⟨rfl, rfl⟩ := eq
    split at e
    · rename_i h
      cases e
      have h := of_decide_eq_true h
      exact ⟨i, j, ha.int, hb.int, ⟨h.1, by omega, h.2.2⟩, k.int r⟩
    · cases e
  · cases e
theorem ol_neg (e : opNeg [a] = some u) (ha : CRep G W H a x) (r : RelFr G W s σ H) (k : Wants G Wx u W s σ H Q) : rU (fun i => V.int (-i)) x H Q := by
  unfold opNeg at e
  split at e
  · rename_i us i eq
    simp only [List.cons.injEq, and_true] at eq
    subst eq
    cases e
    exact ⟨i, ha.int, k.int r⟩
  · cases e
theorem ol_abs (e : opAbs [a] = some u) (ha : CRep G W H a x) (r : RelFr G W s σ H) (k : Wants G Wx u W s σ H Q) : ∃ i, [x] = [.int i] ∧ Q (.int (if i < 0 then -i else i)) H := by
  unfold opAbs at e
  split at e
  · rename_i us i eq
    simp only [List.cons.injEq, and_true] at eq
    subst eq
    cases e
    refine ⟨i, by rw [ha.int], ?_⟩
    have : (if i < 0 then -i else i) = (i.natAbs : Int) := by split <;> omega
    rw [this]
    exact k.int r
  · cases e
theorem ol_max2 (e : opMax2 [a, b] = some u) (ha : CRep G W H a x) (hb : CRep G W H b y) (r : RelFr G W s σ H) (k : Wants G Wx u W s σ H Q) : ∃ i j, [x, y] = [.int i, .int j] ∧ Q (.int (if j > i then j else i)) H := by
  unfold opMax2 at e
  split at e
  · rename_i us i j eq
    simp only [List.cons.injEq, and_true] at eq
    obtain ⟨rfl, rfl⟩ := eq
    cases e
    refine ⟨i, j, by rw [ha.int, hb.int], ?_⟩
    have : (if j > i then j else i) = Max.max i j := by split <;> omega
    rw [this]
    exact k.int r
  · cases e
theorem ol_min2 (e : opMin2 [a, b] = some u) (ha : CRep G W H a x) (hb : CRep G W H b y) (r : RelFr G W s σ H) (k : Wants G Wx u W s σ H Q) : ∃ i j, [x, y] = [.int i, .int j] ∧ Q (.int (if j < i then j else i)) H := by
  unfold opMin2 at e
  split at e
  · rename_i us i j eq
    simp only [List.cons.injEq, and_true] at eq
    obtain ⟨rfl, rfl⟩ := eq
    cases e
    refine ⟨i, j, by rw [ha.int, hb.int], ?_⟩
    have : (if j < i then j else i) = Min.min i j := by split <;> omega
    rw [this]
    exact k.int r
  · cases e
/-! comparisons -/
theorem ol_lt (e : opLt [a, b] = some u) (ha : CRep G W H a x) (hb : CRep G W H b y) (r : RelFr G W s σ H) (k : Wants G Wx u W s σ H Q) : rI0 (fun i j => V.bl (decide (i < j))) x y H Q := by
  unfold opLt at e
  split at e
  · rename_i us i j eq
    simp only [List.cons.injEq, and_true] at eq
    obtain ⟨rfl, rfl⟩ := eq
    cases e
    exact ⟨i, j, ha.int, hb.int, k.bl r⟩
  · cases e
theorem ol_le (e : opLe [a, b] = some u) (ha : CRep G W H a x) (hb : CRep G W H b y) (r : RelFr G W s σ H) (k : Wants G Wx u W s σ H Q) : rI0 (fun i j => V.bl (decide (i ≤ j))) x y H Q := by
  unfold opLe at e
  split at e
  · rename_i us i j eq
    simp only [List.cons.injEq, and_true] at eq
    obtain ⟨rfl, rfl⟩ := eq
    cases e
    exact ⟨i, j, ha.int, hb.int, k.bl r⟩
  · cases e
theorem ol_gt (e : opGt [a, b] = some u) (ha : CRep G W H a x) (hb : CRep G W H b y) (r : RelFr G W s σ H) (k : Wants G Wx u W s σ H Q) : rI0 (fun i j => V.bl (decide (j < i))) x y H Q := by
  unfold opGt at e
  split at e
  · rename_i us i j eq
    simp only [List.cons.injEq, and_true] at eq
    obtain ⟨rfl, rfl⟩ := eq
    cases e
    exact ⟨i, j, ha.int, hb.int, k.bl r⟩
  · cases e
theorem ol_ge (e : opGe [a, b] = some u) (ha : CRep G W H a x) (hb : CRep G W H b y) (r : RelFr G W s σ H) (k : Wants G Wx u W s σ H Q) : rI0 (fun i j => V.bl (decide (j ≤ i))) x y H Q := by
  unfold opGe at e
  split at e
  · rename_i us i j eq
    simp only [List.cons.injEq, and_true] at eq
    obtain ⟨rfl, rfl⟩ := eq
    cases e
    exact ⟨i, j, ha.int, hb.int, k.bl r⟩
  · cases e
theorem ol_eq (e : opEq [a, b] = some u) (ha : CRep G W H a x) (hb : CRep G W H b y) (r : RelFr G W s σ H) (k : Wants G Wx u W s σ H Q) : rEqD G.K x y H Q := by
  have e : (if a.plain && b.plain then some (U.bl (eqU a b)) else none) = some u := e
  split at e
  · rename_i h
    cases e
    simp only [Bool.and_eq_true] at h
    refine ⟨_, _, ha.dp h.1, hb.dp h.2, shaped_py h.1 (by decide), shaped_py h.2 (by decide), ?_⟩
    rw [eqv_py _ _ _ _ h.1 h.2]
    exact k.bl r
  · cases e
theorem ol_ne (e : opNe [a, b] = some u) (ha : CRep G W H a x) (hb : CRep G W H b y) (r : RelFr G W s σ H) (k : Wants G Wx u W s σ H Q) : rNeD G.K x y H Q := by
  have e : (if a.plain && b.plain then some (U.bl (!eqU a b)) else none) = some u := e
  split at e
  · rename_i h
    cases e
    simp only [Bool.and_eq_true] at h
    refine ⟨_, _, ha.dp h.1, hb.dp h.2, shaped_py h.1 (by decide), shaped_py h.2 (by decide), ?_⟩
    rw [eqv_py _ _ _ _ h.1 h.2]
    exact k.bl r
  · cases e
end
end MP
set_option maxRecDepth 100000
set_option maxHeartbeats 1000000
/-! R1e: the reading operations on lists, tuples, dicts. -/
namespace MP
open PySem PySem.Spec PyProof.Rows L2
section
variable {G : Nms} {g : Gst} {Wx : WX} {W : Wd} {s : Sta} {σ : L2.St} {H : Hp} {Q : VK} {a b u : U} {x y : V}

theorem atI_rep {us : List U} {vs : List V} {i : Int} {u : U} (h : RepVs G W H us vs) (e : MP.atI us i = some u) : ∃ v, L2.atI vs i = some v ∧ RepV G W H u v := by
  have l := RepVs.length h
  unfold MP.atI at e
  split at e
  · rename_i h0
    have hlt := (List.getElem?_eq_some_iff.mp e).1
    obtain ⟨v, h1, h2⟩ := RepVs.get h e
    refine ⟨v, ?_, h2⟩
    unfold L2.atI ixN
    rw [if_pos h0, if_pos (by omega)]
    exact h1
  · rename_i h0
    split at e
    · rename_i h1
      obtain ⟨v, h2, h3⟩ := RepVs.get h e
      refine ⟨v, ?_, h3⟩
      unfold L2.atI ixN
      rw [if_neg h0, if_pos (by omega), ← l]
      exact h2
    · cases e
theorem ol_ixT {us : List U} {i : Int} (e : MP.atI us i = some u) (ha : CRep G W H (.tup us) x) (hb : CRep G W H (.int i) y) (r : RelFr G W s σ H) (k : Wants G Wx u W s σ H Q) : rIxT G.K x y H Q := by
  obtain ⟨p, vs, rfl, h1, h2⟩ := ha.tup
  obtain ⟨v, h3, h4⟩ := atI_rep h2 e
  exact ⟨p, vs, i, v, rfl, hb.int, TX.sq h1, h3, k.val r h4⟩
theorem ol_ixL {us : List U} {i : Int} (e : MP.atI us i = some u) (ha : CRep G W H (.lst us) x) (hb : CRep G W H (.int i) y) (r : RelFr G W s σ H) (k : Wants G Wx u W s σ H Q) : rIxL G.K x y H Q := by
  obtain ⟨p, vs, rfl, h1, h2⟩ := ha.lst
  obtain ⟨v, h3, h4⟩ := atI_rep h2 e
  exact ⟨p, vs, i, v, rfl, hb.int, SqL.of h1, h3, k.val r h4⟩
theorem ol_ixS {us : List U} {i : Int} (e : MP.atI us i = some u) (ha : CRep G W H (.scr us) x) (hb : CRep G W H (.int i) y) (r : RelFr G W s σ H) (k : Wants G Wx u W s σ H Q) : rIxL G.K x y H Q := by
  obtain ⟨p, vs, rfl, h1, h2⟩ := ha.scr
  obtain ⟨v, h3, h4⟩ := atI_rep h2 e
  exact ⟨p, vs, i, v, rfl, hb.int, h1, h3, k.val r h4⟩

/-- a sequence -/
def isSq : U → Option (List U)
  | .tup us | .lst us | .scr us => some us
  | _ => none
theorem CRep.sq {us : List U} (e : isSq a = some us) (h : CRep G W H a x) : ∃ p vs, x = .ref p ∧ (SqL G.K H p vs ∨ SqT G.K H p vs) ∧ RepVs G W H us vs := by
  cases a <;> simp only [isSq] at e <;> cases e
  · obtain ⟨p, vs, e, h1, h2⟩ := h.tup
    exact ⟨p, vs, e, .inr (TX.sq h1), h2⟩
  · obtain ⟨p, vs, e, h1, h2⟩ := h.lst
    exact ⟨p, vs, e, .inl (SqL.of h1), h2⟩
  · obtain ⟨p, vs, e, h1, h2⟩ := h.scr
    exact ⟨p, vs, e, .inl h1, h2⟩

theorem ol_lenS {us : List U} (e : isSq a = some us) (ha : CRep G W H a x) (r : RelFr G W s σ H) (k : Wants G Wx (.int us.length) W s σ H Q) : ∃ p ys, [x] = [.ref p] ∧ (SqL G.K H p ys ∨ SqT G.K H p ys) ∧ Q (.int ys.length) H := by
  obtain ⟨p, vs, rfl, h1, h2⟩ := ha.sq e
  refine ⟨p, vs, rfl, h1, ?_⟩
  rw [← RepVs.length h2]
  exact k.int r

/-! displays -/
theorem ol_tup {us : List U} {vs : List V} (e : opTup us = some u) (h : RepVs G W H us vs) (r : RelFr G W s σ H) (k : Wants G Wx u W s σ H Q) : vs.length ≤ sizeLine ∧ NewT vs H Q := by
  have e : okT us = some u := e
  unfold okT at e
  split at e
  · rename_i hl
    cases e
    exact ⟨by rw [← RepVs.length h]; exact le_line hl, k.tup r h⟩
  · cases e
theorem ol_lst {us : List U} {vs : List V} (e : opLst us = some u) (h : RepVs G W H us vs) (r : RelFr G W s σ H) (k : Wants G Wx u W s σ H Q) : vs.length ≤ sizeLine ∧ ∀ p, H p = none → Q (.ref p) (L2.upd H p (.lst vs)) := by
  have e : okL us = some u := e
  unfold okL at e
  split at e
  · rename_i hl
    cases e
    exact ⟨by rw [← RepVs.length h]; exact le_line hl, fun p hp => k.lst r h p hp⟩
  · cases e
theorem ol_tupOf (e : opTupOf [a] = some u) (ha : CRep G W H a x) (r : RelFr G W s σ H) (k : Wants G Wx u W s σ H Q) : kTupX G.K x H Q := by
  unfold opTupOf at e
  split at e
  · rename_i us eq
    simp only [List.cons.injEq, and_true] at eq
    subst eq
    cases e
    obtain ⟨p, vs, rfl, h1, h2⟩ := ha.tup
    exact .inr ⟨p, vs, rfl, TX.sq h1, k.val r (by simp only [RepV]; exact ⟨p, vs, rfl, h1, h2⟩)⟩
  · rename_i us eq
    simp only [List.cons.injEq, and_true] at eq
    subst eq
    cases e
    obtain ⟨p, vs, rfl, h1, h2⟩ := ha.lst
    exact .inl ⟨p, vs, rfl, SqL.of h1, k.tup r h2⟩
  · cases e
theorem ol_lstOf {us : List U} (e : isSq a = some us) (ha : CRep G W H a x) (r : RelFr G W s σ H) (k : Wants G Wx (.lst us) W s σ H Q) : ∃ p ys, [x] = [.ref p] ∧ (SqL G.K H p ys ∨ SqT G.K H p ys) ∧ ∀ l, H l = none → Q (.ref l) (L2.upd H l (.lst ys)) := by
  obtain ⟨p, vs, rfl, h1, h2⟩ := ha.sq e
  exact ⟨p, vs, rfl, h1, fun q hq => k.lst r h2 q hq⟩
theorem rng_rep (a b : Int) : RepVs G W H (rng a b) (rgV a b) := by
  unfold rng rgV
  generalize List.range (b - a).toNat = l
  induction l with
  | nil => simp [RepVs]
  | cons n l ih =>
    simp only [List.map_cons, RepVs]
    exact ⟨_, _, rfl, by simp only [RepV], ih⟩
theorem small_of {i : Int} (h : small i = true) : -(2 ^ 62) ≤ i ∧ i < 2 ^ 62 := by
  unfold small bound at h
  have := of_decide_eq_true h
  omega

/-! truth, sums -/
theorem allT_bls : ∀ {us : List U} {b : Bool}, allT us = some b → ∃ bs : List Bool, us = bs.map U.bl ∧ b = bs.all id
  | [], b, e => by simp only [allT, Option.some.injEq] at e; exact ⟨[], rfl, by simp [← e]⟩
  | u :: us, b, e => by
    cases u <;> simp only [allT] at e <;> first | cases e | skip
    rename_i c
    cases h : allT us with
    | none => rw [h] at e; cases e
    | some d =>
      rw [h] at e
      simp only [Option.map_some, Option.some.injEq] at e
      obtain ⟨bs, rfl, rfl⟩ := allT_bls h
      exact ⟨c :: bs, rfl, by rw [← e]; simp⟩
theorem anyT_bls : ∀ {us : List U} {b : Bool}, anyT us = some b → ∃ bs : List Bool, us = bs.map U.bl ∧ b = bs.any id
  | [], b, e => by simp only [anyT, Option.some.injEq] at e; exact ⟨[], rfl, by simp [← e]⟩
  | u :: us, b, e => by
    cases u <;> simp only [anyT] at e <;> first | cases e | skip
    rename_i c
    cases h : anyT us with
    | none => rw [h] at e; cases e
    | some d =>
      rw [h] at e
      simp only [Option.map_some, Option.some.injEq] at e
      obtain ⟨bs, rfl, rfl⟩ := anyT_bls h
      exact ⟨c :: bs, rfl, by rw [← e]; simp⟩
theorem bls_rep : ∀ {bs : List Bool} {vs : List V}, RepVs G W H (bs.map U.bl) vs → vs = bs.map V.bl
  | [], vs, h => by simpa only [List.map_nil, RepVs] using h
  | b :: bs, vs, h => by
    simp only [List.map_cons, RepVs] at h
    obtain ⟨v, r, rfl, h1, h2⟩ := h
    simp only [RepV] at h1
    rw [h1, bls_rep h2, List.map_cons]
theorem ints_of {us : List U} : ∀ {is : List Int}, ints? us = some is → us = is.map U.int := by
  induction us with
  | nil => intro is e; simp only [ints?, Option.some.injEq] at e; subst e; rfl
  | cons u us ih =>
    intro is e
    cases u <;> simp only [ints?] at e <;> first | cases e | skip
    cases h : ints? us with
    | none => rw [h] at e; cases e
    | some js =>
      rw [h] at e
      simp only [Option.map_some, Option.some.injEq] at e
      subst e
      rw [ih h, List.map_cons]
theorem ints_rep : ∀ {is : List Int} {vs : List V}, RepVs G W H (is.map U.int) vs → vs = is.map V.int
  | [], vs, h => by simpa only [List.map_nil, RepVs] using h
  | b :: bs, vs, h => by
    simp only [List.map_cons, RepVs] at h
    obtain ⟨v, r, rfl, h1, h2⟩ := h
    simp only [RepV] at h1
    rw [h1, ints_rep h2, List.map_cons]
theorem rep_ints : ∀ (is : List Int), RepVs G W H (is.map U.int) (is.map V.int)
  | [] => by simp only [List.map_nil, RepVs]
  | i :: is => by
    simp only [List.map_cons, RepVs]
    exact ⟨_, _, rfl, by simp only [RepV], rep_ints is⟩
theorem ol_all (e : opAll [a] = some u) (ha : CRep G W H a x) (r : RelFr G W s σ H) (k : Wants G Wx u W s σ H Q) : rAll G.K [x] H Q := by
  unfold opAll at e
  split at e
  · rename_i us eq
    simp only [List.cons.injEq, and_true] at eq
    subst eq
    cases h : allT us with
    | none => rw [h] at e; cases e
    | some b =>
      rw [h] at e
      cases e
      obtain ⟨bs, rfl, rfl⟩ := allT_bls h
      obtain ⟨p, vs, rfl, h1, h2⟩ := ha.lst
      have := bls_rep h2
      subst this
      exact ⟨p, bs, rfl, SqL.of h1, k.bl r⟩
  · cases e
theorem ol_any (e : opAny [a] = some u) (ha : CRep G W H a x) (r : RelFr G W s σ H) (k : Wants G Wx u W s σ H Q) : rAny G.K [x] H Q := by
  unfold opAny at e
  split at e
  · rename_i us eq
    simp only [List.cons.injEq, and_true] at eq
    subst eq
    cases h : anyT us with
    | none => rw [h] at e; cases e
    | some b =>
      rw [h] at e
      cases e
      obtain ⟨bs, rfl, rfl⟩ := anyT_bls h
      obtain ⟨p, vs, rfl, h1, h2⟩ := ha.lst
      have := bls_rep h2
      subst this
      exact ⟨p, bs, rfl, SqL.of h1, k.bl r⟩
  · cases e
theorem maxI_is : ∀ {is : List Int} {m : Int}, maxI is = some m → m ∈ is ∧ ∀ y ∈ is, y ≤ m
  | [], m, e => by simp [maxI] at e
  | a :: as, m, e => by
    unfold maxI at e
    cases h : maxI as with
    | none =>
      rw [h] at e
      cases e
      cases as with
      | nil => simp
      | cons c cs =>
        unfold maxI at h
        split at h <;> cases h
    | some n =>
      rw [h] at e
      simp only [Option.some.injEq] at e
      obtain ⟨h1, h2⟩ := maxI_is h
      refine ⟨?_, fun y hy => ?_⟩
      · rcases Int.le_total a n with q | q
        · have : m = n := by omega
          subst this
          exact List.mem_cons_of_mem _ h1
        · have : m = a := by omega
          subst this
          exact List.mem_cons_self
      · rcases List.mem_cons.mp hy with q | q
        · omega
        · have := h2 y q
          omega
theorem ol_max1 (e : opMax1 [a] = some u) (ha : CRep G W H a x) (r : RelFr G W s σ H) (k : Wants G Wx u W s σ H Q) : rMax G.K [x] H Q := by
  unfold opMax1 at e
  split at e
  · rename_i us eq
    simp only [List.cons.injEq, and_true] at eq
    subst eq
    cases h : ints? us with
    | none => rw [h] at e; cases e
    | some is =>
      rw [h, Option.bind_some] at e
      cases h' : maxI is with
      | none => rw [h'] at e; cases e
      | some m =>
        rw [h'] at e
        cases e
        have := ints_of h
        subst this
        obtain ⟨p, vs, rfl, h1, h2⟩ := ha.lst
        have := ints_rep h2
        subst this
        obtain ⟨q1, q2⟩ := maxI_is h'
        refine ⟨p, is, rfl, SqL.of h1, List.length_pos_of_mem q1, fun n hn hm => ?_⟩
        have : n = m := Int.le_antisymm (q2 n hn) (hm m q1)
        subst this
        exact k.int r
  · cases e
end
end MP
set_option maxRecDepth 100000
set_option maxHeartbeats 1000000
/-! R1f: dicts: keys of ints and texts (the layer's own), keys that are tuples. -/
namespace MP
open PySem PySem.Spec PyProof.Rows L2

mutual
theorem nk_eq : ∀ (n m : Nat) (a b : U) (k l : NestedKey), nkU a = some k → nkU b = some l → eqU a b = decide (k = l)
  | n, m, .int i, b, k, l, ha, hb => by
    simp only [nkU, Option.some.injEq] at ha; subst ha
    cases b <;> simp only [nkU] at hb <;> first
      | (cases hb; done)
      | (simp only [Option.some.injEq] at hb; subst hb; simp only [eqU, NestedKey.num.injEq, Bool.beq_eq_decide_eq]; done)
      | (simp only [Option.some.injEq] at hb; subst hb; simp [eqU]; done)
      | (obtain ⟨ks, _, rfl⟩ := Option.map_eq_some_iff.mp hb; simp [eqU]; done)
  | n, m, .bl i, b, k, l, ha, hb => by
    simp only [nkU, Option.some.injEq] at ha; subst ha
    cases b <;> simp only [nkU] at hb <;> first
      | (cases hb; done)
      | (rename_i j; simp only [Option.some.injEq] at hb; subst hb; cases i <;> cases j <;> simp [eqU]; done)
      | (simp only [Option.some.injEq] at hb; subst hb; simp only [eqU, NestedKey.num.injEq, Bool.beq_eq_decide_eq]; done)
      | (simp only [Option.some.injEq] at hb; subst hb; simp [eqU]; done)
      | (obtain ⟨ks, _, rfl⟩ := Option.map_eq_some_iff.mp hb; simp [eqU]; done)
  | n, m, .str i, b, k, l, ha, hb => by
    simp only [nkU, Option.some.injEq] at ha; subst ha
    cases b <;> simp only [nkU] at hb <;> first
      | (cases hb; done)
      | (simp only [Option.some.injEq] at hb; subst hb; simp only [eqU, NestedKey.text.injEq]; rw [← sOf_beq, Bool.beq_eq_decide_eq]; done)
      | (simp only [Option.some.injEq] at hb; subst hb; simp [eqU]; done)
      | (obtain ⟨ks, _, rfl⟩ := Option.map_eq_some_iff.mp hb; simp [eqU]; done)
  | n, m, .tup as, b, k, l, ha, hb => by
    simp only [nkU] at ha
    obtain ⟨ks, h1, rfl⟩ := Option.map_eq_some_iff.mp ha
    cases b <;> simp only [nkU] at hb <;> first
      | (cases hb; done)
      | (simp only [Option.some.injEq] at hb; subst hb; simp [eqU]; done)
      | (obtain ⟨ls, h2, rfl⟩ := Option.map_eq_some_iff.mp hb
         simp only [eqU, NestedKey.tup.injEq]
         exact nk_eqs n m as _ ks ls h1 h2)
  | n, m, .non, _, _, _, ha, _ => by simp [nkU] at ha
  | n, m, .lst _, _, _, _, ha, _ => by simp [nkU] at ha
  | n, m, .dic _ _, _, _, _, ha, _ => by simp [nkU] at ha
  | n, m, .obj _ _, _, _, _, ha, _ => by simp [nkU] at ha
  | n, m, .exc _ _, _, _, _, ha, _ => by simp [nkU] at ha
  | n, m, .ref _, _, _, _, ha, _ => by simp [nkU] at ha
  | n, m, .fn _, _, _, _, ha, _ => by simp [nkU] at ha
  | n, m, .clo _ _, _, _, _, ha, _ => by simp [nkU] at ha
  | n, m, .hole, _, _, _, ha, _ => by simp [nkU] at ha
  | n, m, .scr _, _, _, _, ha, _ => by simp [nkU] at ha
theorem nk_eqs : ∀ (n m : Nat) (a b : List U) (k l : List NestedKey), nkUs a = some k → nkUs b = some l → eqUs a b = decide (k = l)
  | n, m, [], [], k, l, ha, hb => by simp only [nkUs, Option.some.injEq] at ha hb; subst ha hb; simp [eqUs]
  | n, m, [], b :: bs, k, l, ha, hb => by
    simp only [nkUs, Option.some.injEq] at ha; subst ha
    simp only [nkUs] at hb
    split at hb <;> cases hb
    simp [eqUs]
  | n, m, a :: as, [], k, l, ha, hb => by
    simp only [nkUs, Option.some.injEq] at hb; subst hb
    simp only [nkUs] at ha
    split at ha <;> cases ha
    simp [eqUs]
  | n, m, a :: as, b :: bs, k, l, ha, hb => by
    simp only [nkUs] at ha hb
    split at ha <;> cases ha
    split at hb <;> cases hb
    rename_i k1 k2 h1 h2 _ _ l1 l2 h3 h4
    simp only [eqUs, List.cons.injEq]
    rw [nk_eq n m a b k1 l1 h1 h3, nk_eqs n m as bs k2 l2 h2 h4, Bool.decide_and]
end
mutual
theorem nk_some : ∀ (n : Nat) (a : U), keyT n a = true → ∃ k, nkU a = some k ∧ k.depth ≤ n
  | n, .int i, _ => ⟨_, rfl, by simp [NestedKey.depth]⟩
  | n, .bl i, _ => ⟨_, rfl, by simp [NestedKey.depth]⟩
  | n, .str i, _ => ⟨_, rfl, by simp [NestedKey.depth]⟩
  | n + 1, .tup us, h => by
    simp only [keyT] at h
    obtain ⟨ks, h1, h2⟩ := nks_some n us h
    exact ⟨.tup ks, by simp [nkU, h1], by simp only [NestedKey.depth]; omega⟩
  | 0, .tup us, h => by simp [keyT] at h
  | n, .non, h => by cases n <;> simp [keyT] at h
  | n, .lst _, h => by cases n <;> simp [keyT] at h
  | n, .dic _ _, h => by cases n <;> simp [keyT] at h
  | n, .obj _ _, h => by cases n <;> simp [keyT] at h
  | n, .exc _ _, h => by cases n <;> simp [keyT] at h
  | n, .ref _, h => by cases n <;> simp [keyT] at h
  | n, .fn _, h => by cases n <;> simp [keyT] at h
  | n, .clo _ _, h => by cases n <;> simp [keyT] at h
  | n, .hole, h => by cases n <;> simp [keyT] at h
  | n, .scr _, h => by cases n <;> simp [keyT] at h
theorem nks_some : ∀ (n : Nat) (a : List U), keyTs n a = true → ∃ k, nkUs a = some k ∧ NestedKey.depthAll k ≤ n
  | n, [], _ => ⟨[], rfl, by simp [NestedKey.depthAll]⟩
  | n, u :: us, h => by
    simp only [keyTs, Bool.and_eq_true] at h
    obtain ⟨k, h1, h2⟩ := nk_some n u h.1
    obtain ⟨ks, h3, h4⟩ := nks_some n us h.2
    exact ⟨k :: ks, by simp [nkUs, h1, h3], by simp only [NestedKey.depthAll]; omega⟩
end
end MP
set_option maxRecDepth 100000
set_option maxHeartbeats 1000000
/-! R1g: dicts read, by values. -/
namespace MP
open PySem PySem.Spec PyProof.Rows L2

/-- the context is the program's -/
structure Of (G : Nms) (X : Cx) : Prop where
  P : X.prog = G.P
  w : X.w = G.w
  K : X.K = G.K
  un : X.A.units + 150 < cLine

section
variable {G : Nms} {X : Cx} {pins : List (Addr × Obj)} {W : Wd} {σ : L2.St} {H : Hp} {s : Shared}
mutual
theorem key_is (I : Inv X pins σ H s) : ∀ (u : U) (k : NestedKey) (v : V) (w : Value), nkU u = some k → RepV G W H u v → RelV v w → NestedIs s.heap k w
  | .int i, k, v, w, e, h, r => by
    simp only [nkU, Option.some.injEq] at e; subst e
    simp only [RepV] at h; subst h
    obtain ⟨t, rfl⟩ := r
    exact .int i t
  | .bl b, k, v, w, e, h, r => by
    simp only [nkU, Option.some.injEq] at e; subst e
    simp only [RepV] at h; subst h
    have r' : w = Value.bool b := r
    subst r'
    exact .bool rfl
  | .str x, k, v, w, e, h, r => by
    simp only [nkU, Option.some.injEq] at e; subst e
    simp only [RepV] at h; subst h
    obtain ⟨t, rfl⟩ := r
    exact .text _ t
  | .tup us, k, v, w, e, h, r => by
    simp only [nkU] at e
    obtain ⟨ks, h1, rfl⟩ := Option.map_eq_some_iff.mp e
    simp only [RepV] at h
    obtain ⟨a, vs, rfl, h2, h3⟩ := h
    have r' : w = Value.ref a := r
    subst r'
    obtain ⟨its, rv, p, _⟩ := I.tuple (TX.sq h2)
    obtain ⟨o, h4, h5, n, h6⟩ := p
    exact .tup h4 h5 h6 (by simpa using key_iss I us ks vs its h1 h3 rv)
  | .non, _, _, _, e, _, _ => by simp [nkU] at e
  | .lst _, _, _, _, e, _, _ => by simp [nkU] at e
  | .dic _ _, _, _, _, e, _, _ => by simp [nkU] at e
  | .obj _ _, _, _, _, e, _, _ => by simp [nkU] at e
  | .exc _ _, _, _, _, e, _, _ => by simp [nkU] at e
  | .ref _, _, _, _, e, _, _ => by simp [nkU] at e
  | .fn _, _, _, _, e, _, _ => by simp [nkU] at e
  | .clo _ _, _, _, _, e, _, _ => by simp [nkU] at e
  | .hole, _, _, _, e, _, _ => by simp [nkU] at e
  | .scr _, _, _, _, e, _, _ => by simp [nkU] at e
theorem key_iss (I : Inv X pins σ H s) : ∀ (us : List U) (ks : List NestedKey) (vs : List V) (ws : List Value), nkUs us = some ks → RepVs G W H us vs → Vals vs ws → NestedAll s.heap ks ws
  | [], ks, vs, ws, e, h, r => by
    simp only [nkUs, Option.some.injEq] at e; subst e
    simp only [RepVs] at h; subst h
    cases r
    exact .nil
  | u :: us, ks, vs, ws, e, h, r => by
    simp only [nkUs] at e
    split at e <;> cases e
    rename_i k1 k2 h1 h2
    simp only [RepVs] at h
    obtain ⟨v, rr, rfl, h3, h4⟩ := h
    cases r with
    | cons r1 r2 => exact .cons (key_is I u k1 v _ h1 h3 r1) (key_iss I us k2 rr _ h2 h4 r2)
end

theorem CRep.dic {ks xs : List U} {v : V} (h : CRep G W H (.dic ks xs) v) : ∃ p, v = .ref p ∧ Cont G W H p (.dic ks xs) := by
  rcases h with h | h
  · simp only [RepV] at h
    obtain ⟨p, e, _, c⟩ := h
    exact ⟨p, e, by simpa only [Cont] using c⟩
  · exact h

theorem Paired.map_l {α β γ : Type} {F : γ → β → Prop} {f : α → γ} : ∀ {l : List α} {m : List β}, Paired (fun a b => F (f a) b) l m → Paired F (l.map f) m
  | _, _, .nil => .nil
  | _, _, .cons r t => .cons r (Paired.map_l t)
theorem Paired.map_r {α β γ : Type} {F : α → γ → Prop} {f : β → γ} : ∀ {l : List α} {m : List β}, Paired (fun a b => F a (f b)) l m → Paired F l (m.map f)
  | _, _, .nil => .nil
  | _, _, .cons r t => .cons r (Paired.map_r t)

/-- a dict whose keys are tuples (or that is empty), as the library has it -/
theorem dict_tup (O : Of G X) (I : Inv X pins σ H s) {p : Addr} {ks xs : List U} (c : Cont G W H p (.dic ks xs)) (ht : ks.all isTupU = true) :
    ∃ (zs : List (NestedKey × Addr × Value)) (ws : List V), s.heap.DictOfH (nestedKind G.P G.w) p zs ∧ (p == sysModules) = false ∧ ks.map nkU = zs.map (fun z => some z.1) ∧ RepVs G W H ks (zs.map fun z => .ref z.2.1) ∧ RepVs G W H xs ws ∧ Vals ws (zs.map (·.2.2)) := by
  simp only [Cont] at c
  rcases c with ⟨kvs, h1, h2, h3⟩ | ⟨ys, h0, h1, h2, h3, h4, h5⟩
  · have e : ks = [] := by
      cases ks with
      | nil => rfl
      | cons k r =>
        cases kvs with
        | nil => simp at h2
        | cons q kvs =>
          simp only [List.map_cons, List.cons.injEq] at h2
          simp only [List.all_cons, Bool.and_eq_true] at ht
          cases k <;> simp [isTupU] at ht
          simp [keyU] at h2
    subst e
    have e2 : kvs = [] := by
      cases kvs with
      | nil => rfl
      | cons q kvs => simp at h2
    subst e2
    obtain ⟨_, hs, vs, rel, o, es, ep, g1, g2, g3, _, g5, _⟩ := I.hok p _ h1
    cases rel
    have es0 : es.toList = [] := by
      generalize es.toList = l at g5
      cases g5
      rfl
    refine ⟨[], [], ⟨o, es, ep, g1, g2, g3, by rw [es0]; rfl, fun x hx => absurd hx (by simp), List.nodup_nil⟩, hs, rfl, by simp only [List.map_nil, RepVs], by simpa using h3, .nil⟩
  · obtain ⟨gz, o, es, ep, zs, g1, gs, g2, g3, g4, g5, g7, g6⟩ := (I.hok p _ h1).1
    have e1 : ys.map (fun y => y.1) = zs.map (fun z => z.1) := by
      clear gz h0 h1 h2 h3 h4 h5 g4 g5 g7
      induction g6 with
      | nil => rfl
      | cons r t ih => simp only [List.map_cons]; rw [r.1, ih]
    have e2 : ys.map (fun y => V.ref y.2.1) = zs.map (fun z => V.ref z.2.1) := by
      clear gz h0 h1 h2 h3 h4 h5 g4 g5 g7 e1
      induction g6 with
      | nil => rfl
      | cons r t ih => simp only [List.map_cons]; rw [r.2.1, ih]
    have e3 : ks.map nkU = zs.map (fun z => some z.1) := by
      rw [h2]
      have : ys.map (fun p => some p.1) = (ys.map fun y => y.1).map some := by rw [List.map_map]; rfl
      rw [this, e1, List.map_map]; rfl
    have rk : RepVs G W H ks (zs.map fun z => .ref z.2.1) := by rw [← e2]; exact h4
    refine ⟨zs, ys.map (·.2.2), ⟨o, es, ep, g1, g2, g3, g4, fun z hz => ?_, g5⟩, gs, e3, rk, h5, ?_⟩
    · obtain ⟨j, hj⟩ := List.getElem?_of_mem hz
      have l : ks.length = zs.length := by have := congrArg List.length e3; simpa using this
      have hlt : j < ks.length := by rw [l]; exact (List.getElem?_eq_some_iff.mp hj).1
      have hu : ks[j]? = some ks[j] := List.getElem?_eq_getElem hlt
      obtain ⟨v, hv1, hv2⟩ := RepVs.get rk hu
      rw [List.getElem?_map, hj] at hv1
      simp only [Option.map_some, Option.some.injEq] at hv1
      have hn : nkU ks[j] = some z.1 := by
        have q : (ks.map nkU)[j]? = (zs.map (fun z => some z.1))[j]? := by rw [e3]
        rw [List.getElem?_map, List.getElem?_map, hu, hj] at q
        simpa using q
      exact ⟨key_is I _ _ v _ hn hv2 (by rw [← hv1]; rfl), g7 z hz⟩
    · clear gz h0 h1 h2 h3 h4 h5 g4 g5 g7 e1 e2 e3 rk
      induction g6 with
      | nil => exact .nil
      | cons r t ih => exact .cons r.2.2 ih
end
end MP
set_option maxRecDepth 100000
set_option maxHeartbeats 1000000
/-! R1h: dicts: in, not in, [], get, len, by values. -/
namespace MP
open PySem PySem.Spec PyProof.Rows L2

theorem atKey_mem {a : U} {ka : NestedKey} (ha : nkU a = some ka) : ∀ {ks : List U} {zs : List (NestedKey × Addr × Value)}, ks.map nkU = zs.map (fun z => some z.1) → (atKey zs ka).isSome = memU a ks
  | [], [], _ => rfl
  | [], _ :: _, e => by simp at e
  | _ :: _, [], e => by simp at e
  | k :: ks, z :: zs, e => by
    simp only [List.map_cons, List.cons.injEq] at e
    have ih := atKey_mem ha e.2
    unfold atKey at ih ⊢
    unfold memU at ih ⊢
    rw [List.any_cons, nk_eq 0 0 k a z.1 ka e.1 ha, List.find?_cons]
    by_cases h : z.1 = ka
    · simp [h]
    · simp only [h, decide_false, Bool.false_or]
      exact ih
theorem atKey_get {G : Nms} {W : Wd} {H : Hp} {a : U} {ka : NestedKey} (ha : nkU a = some ka) : ∀ {ks xs : List U} {zs : List (NestedKey × Addr × Value)} {ws : List V}, ks.map nkU = zs.map (fun z => some z.1) → RepVs G W H xs ws → Vals ws (zs.map (·.2.2)) →
    (∀ u, dget ks xs a = some u → ∃ v w b, atKey zs ka = some (b, w) ∧ RepV G W H u v ∧ RelV v w) ∧ (dget ks xs a = none → atKey zs ka = none)
  | [], xs, [], ws, _, _, _ => by
    refine ⟨fun u h => ?_, fun _ => rfl⟩
    unfold dget at h
    cases h
  | [], _, _ :: _, _, e, _, _ => by simp at e
  | _ :: _, _, [], _, e, _, _ => by simp at e
  | k :: ks, [], z :: zs, ws, e, hx, hv => by
    simp only [RepVs] at hx
    subst hx
    cases hv
  | k :: ks, x :: xs, z :: zs, ws, e, hx, hv => by
    simp only [List.map_cons, List.cons.injEq] at e
    simp only [RepVs] at hx
    obtain ⟨v, r, rfl, h1, h2⟩ := hx
    cases hv with
    | cons r1 r2 =>
      have ih := atKey_get ha e.2 h2 r2
      have q := nk_eq 0 0 k a z.1 ka e.1 ha
      unfold atKey at ih ⊢
      simp only [dget]
      rw [List.find?_cons]
      by_cases h : z.1 = ka
      · rw [q, decide_eq_true h]
        simp only [if_true, Option.map_some, Option.some.injEq]
        exact ⟨fun u hu => ⟨v, z.2.2, z.2.1, rfl, by rw [← hu]; exact h1, r1⟩, fun hu => by cases hu⟩
      · rw [q, decide_eq_false h]
        simp only [Bool.false_eq_true, if_false]
        exact ih

theorem keyU_eq {a b : U} {k l : Key} (ha : keyU a = some k) (hb : keyU b = some l) : eqU a b = decide (k = l) := by
  cases a <;> simp only [keyU] at ha <;> cases ha <;> cases b <;> simp only [keyU] at hb <;> cases hb
  · rename_i i j; rw [key_ll]; simp only [eqU]
  · rename_i i j; rw [key_lr]; simp only [eqU]
  · rename_i i j; rw [key_rl]; simp only [eqU]
  · rename_i i j; rw [key_rr]; simp only [eqU]; rw [← sOf_beq, Bool.beq_eq_decide_eq]
theorem valV_mem {a : U} {ka : Key} (ha : keyU a = some ka) : ∀ {ks : List U} {kvs : List (Key × V)}, ks.map keyU = kvs.map (fun p => some p.1) → (valV kvs ka).isSome = memU a ks
  | [], [], _ => rfl
  | [], _ :: _, e => by simp at e
  | _ :: _, [], e => by simp at e
  | k :: ks, z :: zs, e => by
    simp only [List.map_cons, List.cons.injEq] at e
    have ih := valV_mem ha e.2
    unfold memU at ih ⊢
    rw [List.any_cons, keyU_eq e.1 ha]
    by_cases h : z.1 = ka
    · rw [valV_pos h]; simp [h]
    · rw [valV_neg h, ih]; simp [h]
theorem valV_get {G : Nms} {W : Wd} {H : Hp} {a : U} {ka : Key} (ha : keyU a = some ka) : ∀ {ks xs : List U} {kvs : List (Key × V)}, ks.map keyU = kvs.map (fun p => some p.1) → RepVs G W H xs (kvs.map (·.2)) →
    (∀ u, dget ks xs a = some u → ∃ v, valV kvs ka = some v ∧ RepV G W H u v) ∧ (dget ks xs a = none → valV kvs ka = none)
  | [], xs, [], _, _ => by
    refine ⟨fun u h => ?_, fun _ => rfl⟩
    unfold dget at h
    cases h
  | [], _, _ :: _, e, _ => by simp at e
  | _ :: _, _, [], e, _ => by simp at e
  | k :: ks, [], z :: zs, e, hx => by simp only [RepVs] at hx; simp at hx
  | k :: ks, x :: xs, z :: zs, e, hx => by
    simp only [List.map_cons, List.cons.injEq] at e
    simp only [List.map_cons, RepVs, List.cons.injEq] at hx
    obtain ⟨v, r, ⟨rfl, rfl⟩, h1, h2⟩ := hx
    have ih := valV_get ha e.2 h2
    have q := keyU_eq e.1 ha
    simp only [dget]
    by_cases h : z.1 = ka
    · rw [q, decide_eq_true h, valV_pos h]
      simp only [if_true, Option.some.injEq]
      exact ⟨fun u hu => ⟨_, rfl, by rw [← hu]; exact h1⟩, fun hu => by cases hu⟩
    · rw [q, decide_eq_false h, valV_neg h]
      simp only [Bool.false_eq_true, if_false]
      exact ih

section
variable {G : Nms} {X : Cx} {pins : List (Addr × Obj)} {W : Wd} {σ : L2.St} {H : Hp} {s : Shared}
theorem kOk_cases {ks : List U} {a : U} (h : kOk ks a = true) : (∃ k, keyU a = some k ∧ ks.all isIS = true) ∨ (∃ us, a = .tup us ∧ keyT 7 a = true ∧ ks.all isTupU = true) := by
  unfold kOk at h
  simp only [Bool.or_eq_true, Bool.and_eq_true] at h
  rcases h with ⟨h1, h2⟩ | ⟨⟨h1, h2⟩, h3⟩
  · cases a <;> simp [isIS] at h1
    · exact .inl ⟨_, rfl, h2⟩
    · exact .inl ⟨_, rfl, h2⟩
  · cases a <;> simp [isTupU] at h1
    exact .inr ⟨_, rfl, h2, h3⟩
/-- keys of ints and texts: the layer's own dict -/
theorem dict_is {p : Addr} {ks xs : List U} (c : Cont G W H p (.dic ks xs)) (h : ks.all isIS = true) : ∃ kvs : List (Key × V), H p = some (.dK kvs) ∧ ks.map keyU = kvs.map (fun p => some p.1) ∧ RepVs G W H xs (kvs.map (·.2)) := by
  simp only [Cont] at c
  rcases c with c | ⟨ys, h0, h1, h2, h3, h4, h5⟩
  · exact c
  · exfalso
    cases ks with
    | nil => cases ys with
      | nil => exact h0 rfl
      | cons y ys => simp at h2
    | cons k ks =>
      simp only [List.all_cons, Bool.and_eq_true] at h h3
      cases k <;> simp [isIS, isTupU] at h h3
theorem RepV.key {a : U} {k : Key} {v : V} (e : keyU a = some k) (h : RepV G W H a v) : v = kV k := by
  cases a <;> simp only [keyU] at e <;> cases e <;> (simp only [RepV] at h; exact h)
theorem room_n (O : Of G X) : (nestedKind G.P G.w).room X.A.in1 := by
  show X.A.units + 1 + 8 < cLine
  have := O.un
  omega
theorem nk_key {us : List U} (h : keyT 7 (.tup us) = true) : ∃ k, nkU (.tup us) = some k ∧ k.depth ≤ 8 := by
  obtain ⟨k, h1, h2⟩ := nk_some 7 _ h
  exact ⟨k, h1, by omega⟩

/-- x in d -/
def rDicIn (G : Nms) (neg : Bool) : R2 := fun x y H Q => ∃ W a ks xs, kOk ks a = true ∧ RepV G W H a x ∧ (∃ p, y = .ref p ∧ Cont G W H p (.dic ks xs)) ∧ Q (.bl (if neg then !memU a ks else memU a ks)) H
theorem or_in (O : Of G X) : OpR X (compareOp .In) (rDicIn G false) := by
  intro pins s σ H x y v u Q I rx ry h
  obtain ⟨W, a, ks, xs, hk, ha, ⟨p, rfl, c⟩, q⟩ := h
  have hp := O.P; have hw := O.w
  obtain rfl : u = Value.ref p := ry
  have hu := O.un
  rcases kOk_cases hk with ⟨k, h1, h2⟩ | ⟨us, rfl, h1, h2⟩
  · obtain ⟨kvs, g1, g2, g3⟩ := dict_is c h2
    refine d_in (by omega) I (DGet.k (k := k) g1) (by rw [← RepV.key h1 ha]; exact rx) fun s' I' => ⟨.bl _, H, I', rfl, ?_⟩
    rw [valV_mem h1 g2]
    exact q
  · obtain ⟨zs, ws, g1, g2, g3, g4, g5, g6⟩ := dict_tup O I c h2
    obtain ⟨k, e1, e2⟩ := nk_key h1
    have hn := key_is I _ k x v e1 ha rx
    simp only [RepV] at ha
    obtain ⟨b, vs, rfl, _, _⟩ := ha
    obtain rfl : v = Value.ref b := rx
    rw [hp, hw]
    refine wpAny_in_heap (knd := nestedKind G.P G.w) (room_n O) ⟨hn, e2⟩ g2 g1 ?_
    rw [atKey_mem e1 g3]
    exact ⟨.bl _, H, I.tok _, rfl, q⟩
theorem or_notin (O : Of G X) : OpR X (compareOp .NotIn) (rDicIn G true) := by
  intro pins s σ H x y v u Q I rx ry h
  obtain ⟨W, a, ks, xs, hk, ha, ⟨p, rfl, c⟩, q⟩ := h
  have hp := O.P; have hw := O.w
  obtain rfl : u = Value.ref p := ry
  have hu := O.un
  rcases kOk_cases hk with ⟨k, h1, h2⟩ | ⟨us, rfl, h1, h2⟩
  · obtain ⟨kvs, g1, g2, g3⟩ := dict_is c h2
    refine d_notIn (by omega) I (DGet.k (k := k) g1) (by rw [← RepV.key h1 ha]; exact rx) fun s' I' => ⟨.bl _, H, I', rfl, ?_⟩
    rw [valV_mem h1 g2]
    exact q
  · obtain ⟨zs, ws, g1, g2, g3, g4, g5, g6⟩ := dict_tup O I c h2
    obtain ⟨k, e1, e2⟩ := nk_key h1
    have hn := key_is I _ k x v e1 ha rx
    simp only [RepV] at ha
    obtain ⟨b, vs, rfl, _, _⟩ := ha
    obtain rfl : v = Value.ref b := rx
    rw [hp, hw]
    refine notIn_keyed (knd := nestedKind G.P G.w) (room_n O) ⟨hn, e2⟩ g2 ⟨_, g1, rfl⟩ ?_
    rw [valueAt_pairsH, Option.isSome_map, atKey_mem e1 g3]
    exact ⟨.bl _, H, I.tok _, rfl, q⟩
/-- d[x] -/
def rDicIx (G : Nms) : R2 := fun y x H Q => ∃ W a ks xs u, kOk ks a = true ∧ RepV G W H a x ∧ (∃ p, y = .ref p ∧ Cont G W H p (.dic ks xs)) ∧ dget ks xs a = some u ∧ ∀ v, RepV G W H u v → Q v H
theorem getItem_dic (O : Of G X) {x : V} {v : Value} {Q : VK} {W : Wd} {a u : U} {ks xs : List U} {p : Addr} (I : Inv X pins σ H s) (rx : RelV x v) (hk : kOk ks a = true) (ha : RepV G W H a x) (c : Cont G W H p (.dic ks xs)) (hd : dget ks xs a = some u) (q : ∀ v, RepV G W H u v → Q v H) :
    wpAny (model X.prog X.w) X.A (getItem (.ref p) v) (EP X pins σ Q) X.xe s := by
  have hp := O.P; have hw := O.w
  have hu := O.un
  rcases kOk_cases hk with ⟨k, h1, h2⟩ | ⟨us, rfl, h1, h2⟩
  · obtain ⟨kvs, g1, g2, g3⟩ := dict_is c h2
    obtain ⟨v', e, r⟩ := (valV_get h1 g2 g3).1 u hd
    exact d_getItem (by omega) I (by rw [← e]; exact DGet.k (k := k) g1) (by rw [← RepV.key h1 ha]; exact rx) fun w' s' I' rw' => ⟨v', H, I', rw', q v' r⟩
  · obtain ⟨zs, ws, g1, g2, g3, g4, g5, g6⟩ := dict_tup O I c h2
    obtain ⟨k, e1, e2⟩ := nk_key h1
    have hn := key_is I _ k x v e1 ha rx
    simp only [RepV] at ha
    obtain ⟨b, vs, rfl, _, _⟩ := ha
    obtain rfl : v = Value.ref b := rx
    obtain ⟨v', w', b', e, r, rr⟩ := (atKey_get e1 g3 g5 g6).1 u hd
    rw [hp, hw]
    exact wpAny_getItem_heap (knd := nestedKind G.P G.w) (room_n O) ⟨hn, e2⟩ g1 e ⟨v', H, I.tok _, rr, q v' r⟩

theorem subTail_of {prog : Program} {w : World} {A : Around} {E : Value → Shared → Prop} {s : Shared} {value slice : Expr} {T id : String} {o i : Value} {Q : Value → Shared → Prop}
    (hl : typeLookup (.type T) "__getitem__" = pure (some (.builtin id))) (hT : s.TypeIs o T) (hs : subscripted slice false o i = operate [o, i] (getItem o i))
    (h : wpAny (model prog w) A (getItem o i) Q E s) : wpAny (model prog w) A (subscriptTail value slice o i) Q E s := by
  unfold subscriptTail
  refine wpAny_bind ?_
  rw [getitemInPython_of_ne hT.not_modules]
  refine wpAny_bind (wpAny_specialOf hT hl ?_)
  have fin : wpAny (model prog w) A (subscripted slice false o i) (fun r s₃ => wpAny (model prog w) A (letTemporaryGo value o r >>= fun _ => pure r) Q E s₃) E s := by
    rw [hs]
    exact wpAny_operating (wpAny_mono h (fun r s₃ h₃ => wpAny_bind (wpAny_letTemporaryGo (wpAny_pure h₃))) fun _ _ x => x)
  first
    | exact wpAny_pure (wpAny_bind fin)
    | exact wpAny_pure fin
    | exact wpAny_bind (wpAny_pure (wpAny_bind fin))
    | exact wpAny_bind (wpAny_pure fin)
theorem cont_dict_type (I : Inv X pins σ H s) {p : Addr} {ks xs : List U} (c : Cont G W H p (.dic ks xs)) : s.TypeIs (.ref p) "dict" := by
  simp only [Cont] at c
  rcases c with ⟨kvs, h1, _⟩ | ⟨ys, _, h1, _⟩
  · exact dict_typeIs I (DGet.k (k := .inl 0) h1)
  · obtain ⟨_, o, es, ep, zs, g1, gs, g2, _⟩ := (I.hok p _ h1).1
    exact ⟨o, g1, g2.1⟩
theorem ix_dic (O : Of G X) : IxR X (rDicIx G) := by
  intro value slice pins s σ H y x u v Q I ry rx h hs
  obtain ⟨W, a, ks, xs, r, hk, ha, ⟨p, rfl, c⟩, hd, q⟩ := h
  obtain rfl : u = Value.ref p := ry
  exact subTail_of PySem.F.slot_dict_getitem.lookup (cont_dict_type I c) hs (getItem_dic O I rx hk ha c hd q)
/-- len(d) -/
theorem call_lenDic (O : Of G X) : CallR X (.builtin "len") (fun xs H Q => ∃ W p ks vs, xs = [.ref p] ∧ Cont G W H p (.dic ks vs) ∧ Q (.int ks.length) H) := by
  intro pins s σ H xs us Q I r h
  obtain ⟨W, p, ks, vs, rfl, c, q⟩ := h
  have c0 := c
  simp only [Cont] at c
  rcases c with ⟨kvs, h1, h2, _⟩ | ⟨ys, h0, h1, h2, h3, h4, h5⟩
  · have l : ks.length = kvs.length := by have := congrArg List.length h2; simpa using this
    rw [l] at q
    exact call_lenD pins s σ H _ us Q I r ⟨p, kvs, rfl, h1, q⟩
  · obtain ⟨zs, ws, g1, g2, g3, _⟩ := dict_tup O I c0 h3
    obtain ⟨u, rfl, ru⟩ := vals1 r
    obtain rfl : u = Value.ref p := ru
    have l : ks.length = zs.length := by have := congrArg List.length g3; simpa using this
    have l2 : ks.length = ys.length := by have := congrArg List.length h2; simpa using this
    have sz : ys.length ≤ sizeLine := (I.hok p _ h1).1.1
    rw [sizeLine_eq] at sz
    have hp := O.P; have hw := O.w
    rw [hp, hw]
    have dk : s.heap.DictKeyed (nestedKind G.P G.w) p (pairsH zs) := ⟨_, g1, rfl⟩
    have lz : (pairsH zs).length = ks.length := by rw [pairsH_length, l]
    refine PyProof.Rows.call_len_slot (n := ks.length) dk.typeIs F.slot_dict_len (fun Q' hq => len_keyed g2 dk (by rw [lz]; exact hq)) (by omega) (by omega) ?_
    exact ⟨.int ks.length, H, I.tok _, ⟨_, rfl⟩, q⟩
end
end MP
set_option maxRecDepth 100000
set_option maxHeartbeats 1000000
/-! R1i: dicts written, by values. -/
namespace MP
open PySem PySem.Spec PyProof.Rows L2
section
variable {G : Nms} {X : Cx} {pins : List (Addr × Obj)} {W : Wd} {σ : L2.St} {H : Hp} {s : Shared}
theorem kp_own {p : Addr} {o o' : HO} (hf : ¬ W.fz p) (h : H p = some o) (ht : ∀ xs, o ≠ .tup xs) (hz : ∀ x u, o ≠ .frz x u) : Kp W H (L2.upd H p o') := by
  refine ⟨fun a x f e => ?_, fun a xs e => ?_, fun a x u e => ?_⟩
  · rw [upd_ne (fun z => hf (by subst z; exact f))]; exact e
  · rw [upd_ne (fun z => ht xs (by subst z; rw [h] at e; exact Option.some.inj e))]; exact e
  · rw [upd_ne (fun z => hz x u (by subst z; rw [h] at e; exact Option.some.inj e))]; exact e
theorem cont_kp {p : Addr} {u : U} {o' : HO} (hf : ¬ W.fz p) (c : Cont G W H p u) : Kp W H (L2.upd H p o') := by
  cases u <;> simp only [Cont] at c
  · obtain ⟨vs, h, _⟩ := c
    exact kp_own hf h (fun _ z => by cases z) (fun _ _ z => by cases z)
  · rcases c with ⟨kvs, h, _⟩ | ⟨ys, _, h, _⟩
    · exact kp_own hf h (fun _ z => by cases z) (fun _ _ z => by cases z)
    · exact kp_own hf h (fun _ z => by cases z) (fun _ _ z => by cases z)
  · obtain ⟨dx, fvs, h, _⟩ := c
    exact kp_own hf h (fun _ z => by cases z) (fun _ _ z => by cases z)
  · obtain ⟨_, ps, h, _⟩ := c
    exact kp_own hf h (fun _ z => by cases z) (fun _ _ z => by cases z)

theorem put_keys {a u : U} {ka : Key} {v : V} (ha : keyU a = some ka) (hu : RepV G W H u v) : ∀ {ks xs : List U} {kvs : List (Key × V)}, ks.map keyU = kvs.map (fun p => some p.1) → RepVs G W H xs (kvs.map (·.2)) →
    RepVs G W H (List.zipWith (fun k' w => if eqU k' a then u else w) ks xs) ((kvs.map fun kv => if kv.1 = ka then (kv.1, v) else kv).map (·.2))
  | [], xs, [], _, h => by simp only [List.map_nil, List.zipWith_nil_left, RepVs]
  | [], _, _ :: _, e, _ => by simp at e
  | _ :: _, _, [], e, _ => by simp at e
  | k :: ks, [], z :: zs, e, hx => by simp only [RepVs] at hx; simp at hx
  | k :: ks, x :: xs, z :: zs, e, hx => by
    simp only [List.map_cons, List.cons.injEq] at e
    simp only [List.map_cons, RepVs, List.cons.injEq] at hx
    obtain ⟨w, r, ⟨rfl, rfl⟩, h1, h2⟩ := hx
    simp only [List.zipWith_cons_cons, List.map_cons, RepVs]
    refine ⟨_, _, rfl, ?_, put_keys ha hu e.2 h2⟩
    rw [keyU_eq e.1 ha]
    by_cases h : z.1 = ka
    · simp only [h, decide_true, if_true]; exact hu
    · simp only [h, decide_false, Bool.false_eq_true, if_false]; exact h1
theorem put_nks {a u : U} {ka : NestedKey} {v : V} (ha : nkU a = some ka) (hu : RepV G W H u v) : ∀ {ks xs : List U} {ys : List (NestedKey × Addr × V)}, ks.map nkU = ys.map (fun p => some p.1) → RepVs G W H xs (ys.map (·.2.2)) →
    RepVs G W H (List.zipWith (fun k' w => if eqU k' a then u else w) ks xs) ((ys.map fun q => if q.1 = ka then (q.1, q.2.1, v) else q).map (·.2.2))
  | [], xs, [], _, h => by simp only [List.map_nil, List.zipWith_nil_left, RepVs]
  | [], _, _ :: _, e, _ => by simp at e
  | _ :: _, _, [], e, _ => by simp at e
  | k :: ks, [], z :: zs, e, hx => by simp only [RepVs] at hx; simp at hx
  | k :: ks, x :: xs, z :: zs, e, hx => by
    simp only [List.map_cons, List.cons.injEq] at e
    simp only [List.map_cons, RepVs, List.cons.injEq] at hx
    obtain ⟨w, r, ⟨rfl, rfl⟩, h1, h2⟩ := hx
    simp only [List.zipWith_cons_cons, List.map_cons, RepVs]
    refine ⟨_, _, rfl, ?_, put_nks ha hu e.2 h2⟩
    rw [nk_eq 0 0 _ _ _ _ e.1 ha]
    by_cases h : z.1 = ka
    · simp only [h, decide_true, if_true]; exact hu
    · simp only [h, decide_false, Bool.false_eq_true, if_false]; exact h1

/-- the values' list beside the entries -/
def besides : List (NestedKey × Addr × Value) → List V → List (NestedKey × Addr × V)
  | z :: zs, w :: ws => (z.1, z.2.1, w) :: besides zs ws
  | _, _ => []
theorem besides_paired : ∀ {zs : List (NestedKey × Addr × Value)} {ws : List V}, Vals ws (zs.map (·.2.2)) → Paired (fun (p : NestedKey × Addr × V) (q : NestedKey × Addr × Value) => p.1 = q.1 ∧ p.2.1 = q.2.1 ∧ RelV p.2.2 q.2.2) (besides zs ws) zs
  | [], [], _ => .nil
  | z :: zs, w :: ws, h => by
    cases h with
    | cons r t => exact .cons ⟨rfl, rfl, r⟩ (besides_paired t)
  | [], w :: ws, h => by cases h
  | z :: zs, [], h => by cases h
theorem besides_vals : ∀ {zs : List (NestedKey × Addr × Value)} {ws : List V}, Vals ws (zs.map (·.2.2)) → (besides zs ws).map (·.2.2) = ws ∧ (besides zs ws).map (·.1) = zs.map (·.1) ∧ (besides zs ws).map (fun q => V.ref q.2.1) = zs.map (fun q => V.ref q.2.1)
  | [], [], _ => ⟨rfl, rfl, rfl⟩
  | z :: zs, w :: ws, h => by
    cases h with
    | cons r t =>
      obtain ⟨h1, h2, h3⟩ := besides_vals t
      refine ⟨?_, ?_, ?_⟩ <;> simp only [besides, List.map_cons, h1, h2, h3]
  | [], w :: ws, h => by cases h
  | z :: zs, [], h => by cases h

/-- behind a store under a tuple -/
theorem stored_dic (O : Of G X) {y : V} {r : Value} {u : U} {us ks xs : List U} {p b : Addr} {zs : List (NestedKey × Addr × Value)} {ws : List V} {k : NestedKey} {h' : Heap} {tk : Nat} (I : Inv X pins σ H s) (hf : ¬ W.fz p) (ry : RelV y r) (hl : ks.length < line)
    (ha0 : RepV G W H (.tup us) (.ref b)) (hu : RepV G W H u y) (c : Cont G W H p (.dic ks xs)) (h2 : ks.all isTupU = true) (e1 : nkU (.tup us) = some k) (g2 : (p == sysModules) = false) (g3 : ks.map nkU = zs.map (fun z => some z.1)) (g4 : RepVs G W H ks (zs.map fun z => .ref z.2.1)) (g5 : RepVs G W H xs ws) (g6 : Vals ws (zs.map (·.2.2)))
    (hm' : h'.DictOfH (nestedKind G.P G.w) p (storedH zs k b r)) (hs : Heap.SameBut p s.heap h') :
    ∃ o', Inv X pins σ (L2.upd H p o') { s with heap := h', toks := tk } ∧ Cont G W (L2.upd H p o') p (.dic (dput ks xs (.tup us) u).1 (dput ks xs (.tup us) u).2) := by
    have hp := O.P; have hw := O.w
    have hkp : ∀ o', Kp W H (L2.upd H p o') := fun o' => cont_kp hf c
    have l : ks.length = zs.length := by have := congrArg List.length g3; simpa using this
    obtain ⟨b1, b2, b3⟩ := besides_vals g6
    have b0 := besides_paired g6
    have e3 : ks.map nkU = (besides zs ws).map (fun p => some p.1) := by
      rw [g3]
      have : (besides zs ws).map (fun p => some p.1) = ((besides zs ws).map (·.1)).map some := by rw [List.map_map]; rfl
      rw [this, b2, List.map_map]; rfl
    have bl : (besides zs ws).length = ks.length := by have := congrArg List.length e3; simpa using this.symm
    obtain ⟨o, es, ep, m1, m2, m3, m4, m5, m6⟩ := hm'
    -- the new description
    obtain ⟨yv, hy1, hy2, hy3, hy4, hy5⟩ : ∃ yv : List (NestedKey × Addr × V), yv ≠ [] ∧ Paired (fun (p : NestedKey × Addr × V) (q : NestedKey × Addr × Value) => p.1 = q.1 ∧ p.2.1 = q.2.1 ∧ RelV p.2.2 q.2.2) yv (storedH zs k b r) ∧
        (dput ks xs (.tup us) u).1.map nkU = yv.map (fun p => some p.1) ∧ RepVs G W H (dput ks xs (.tup us) u).1 (yv.map fun q => .ref q.2.1) ∧ RepVs G W H (dput ks xs (.tup us) u).2 (yv.map (·.2.2)) := by
      unfold storedH dput
      rw [atKey_mem e1 g3]
      by_cases hm : memU (.tup us) ks = true
      · rw [if_pos hm, if_pos hm]
        refine ⟨(besides zs ws).map fun q => if q.1 = k then (q.1, q.2.1, y) else q, ?_, ?_, ?_, ?_, ?_⟩
        · intro z
          rw [List.map_eq_nil_iff] at z
          rw [z] at bl
          have : ks = [] := List.length_eq_zero_iff.mp bl.symm
          rw [this] at hm
          simp [memU] at hm
        · clear b1 b2 b3 e3 bl m4 m5 m6 g3 g4 g5 g6 l
          generalize besides zs ws = bz at b0
          induction b0 with
          | nil => exact .nil
          | cons rr t ih =>
            simp only [List.map_cons]
            refine .cons ?_ ih
            unfold putAt
            rw [rr.1]
            split
            · exact ⟨rfl, rr.2.1, ry⟩
            · exact rr
        · rw [e3, List.map_map]
          apply List.map_congr_left
          intro q _
          simp only [Function.comp]
          split <;> rfl
        · have : (((besides zs ws).map fun q => if q.1 = k then (q.1, q.2.1, y) else q).map fun q => V.ref q.2.1) = (besides zs ws).map fun q => V.ref q.2.1 := by
            rw [List.map_map]
            apply List.map_congr_left
            intro q _
            simp only [Function.comp]
            split <;> rfl
          rw [this, b3]
          exact g4
        · exact put_nks e1 hu e3 (by rw [b1]; exact g5)
      · rw [if_neg hm, if_neg hm]
        refine ⟨besides zs ws ++ [(k, b, y)], by simp, ?_, ?_, ?_, ?_⟩
        · clear b1 b2 b3 e3 bl m4 m5 m6 g3 g4 g5 g6 l
          generalize besides zs ws = bz at b0
          induction b0 with
          | nil => exact .cons ⟨rfl, rfl, ry⟩ .nil
          | cons rr t ih => exact .cons rr ih
        · rw [List.map_append, List.map_append, e3]
          simp [e1]
        · rw [List.map_append, b3]
          exact RepVs.append g4 (by simp only [List.map_cons, List.map_nil, RepVs]; exact ⟨_, _, rfl, ha0, rfl⟩)
        · rw [List.map_append, b1]
          exact RepVs.append g5 (by simp only [List.map_cons, List.map_nil, RepVs]; exact ⟨_, _, rfl, hu, rfl⟩)
    have hyl : yv.length ≤ sizeLine := by
      have e5 : yv.length = (dput ks xs (.tup us) u).1.length := by have := congrArg List.length hy3; simpa using this.symm
      have e6 : (dput ks xs (.tup us) u).1.length ≤ ks.length + 1 := by unfold dput; split <;> simp
      rw [sizeLine_eq]; unfold line at hl; omega
    have hall : (dput ks xs (.tup us) u).1.all isTupU = true := by
      unfold dput
      split
      · exact h2
      · rw [List.all_append, h2]; rfl
    have mu : Mut (H p) := by
      simp only [Cont] at c
      rcases c with ⟨kvs, h, _⟩ | ⟨ys, _, h, _⟩ <;> (rw [h]; trivial)
    have hNO : ObjOk X.prog X.w (L2.upd H p (NO G.P G.w p yv)) h' p (NO G.P G.w p yv) := by
      refine ⟨⟨hyl, o, es, ep, _, m1, g2, m2, m3, m4, m6, fun z hz => (m5 z hz).2, hy2⟩, ⟨o, m1⟩, ?_⟩
      rintro h1' h2' ⟨l1, o1, es1, ep1, ys1, k1, kr⟩ st
      exact ⟨l1, o1, es1, ep1, ys1, st _ k1, kr⟩
    have I' : Inv X pins σ (L2.upd H p (NO G.P G.w p yv)) { s with heap := h', toks := tk } :=
      I.write mu (.inl rfl) (fun b' u' hb' e => (hs.2 b' hb').trans e) ⟨o, m1⟩ hNO
    refine ⟨_, I', ?_⟩
    simp only [Cont]
    exact .inr ⟨yv, hy1, upd_same, hy3, hall, RepVs.mono (.refl W) (hkp _) _ hy4, RepVs.mono (.refl W) (hkp _) _ hy5⟩

theorem stored_dicK {y : V} {a u : U} {ks xs : List U} {p : Addr} {kvs : List (Key × V)} {k : Key} (hf : ¬ W.fz p) (hu : RepV G W H u y) (c : Cont G W H p (.dic ks xs)) (h1 : keyU a = some k) (g2 : ks.map keyU = kvs.map (fun p => some p.1)) (g3 : RepVs G W H xs (kvs.map (·.2))) :
    Cont G W (L2.upd H p (.dK (putK kvs k y))) p (.dic (dput ks xs a u).1 (dput ks xs a u).2) := by
    have hkp : ∀ o', Kp W H (L2.upd H p o') := fun o' => cont_kp hf c
    simp only [Cont]
    refine .inl ⟨_, upd_same, ?_, ?_⟩
    · unfold dput putK
      rw [valV_any, valV_mem h1 g2]
      by_cases hm : memU a ks = true
      · rw [if_pos hm, if_pos hm, List.map_map]
        rw [g2]
        apply List.map_congr_left
        intro kv _
        simp only [Function.comp]
        split <;> rfl
      · rw [if_neg hm, if_neg hm, List.map_append, List.map_append, g2]
        simp [h1]
    · unfold dput putK
      rw [valV_any, valV_mem h1 g2]
      by_cases hm : memU a ks = true
      · rw [if_pos hm, if_pos hm]
        exact RepVs.mono (.refl W) (hkp _) _ (put_keys h1 hu g2 g3)
      · rw [if_neg hm, if_neg hm, List.map_append]
        exact RepVs.mono (.refl W) (hkp _) _ (RepVs.append g3 (by simp only [List.map_cons, List.map_nil, RepVs]; exact ⟨_, _, rfl, hu, rfl⟩))

/-- the store of an entry -/
theorem set_dic (O : Of G X) {Q : Unit → Shared → Prop} {E : Value → Shared → Prop} {x y : V} {v r : Value} {a u : U} {ks xs : List U} {p : Addr} (I : Inv X pins σ H s) (hf : ¬ W.fz p) (rx : RelV x v) (ry : RelV y r) (hk : kOk ks a = true) (hl : ks.length < line) (ha : RepV G W H a x) (hu : RepV G W H u y) (c : Cont G W H p (.dic ks xs))
    (q : ∀ o' s', Inv X pins σ (L2.upd H p o') s' → Cont G W (L2.upd H p o') p (.dic (dput ks xs a u).1 (dput ks xs a u).2) → Q () s') :
    wpAny (model X.prog X.w) X.A (setItem (.ref p) v r) Q E s := by
  have hp := O.P; have hw := O.w
  have hun := O.un
  have hkp : ∀ o', Kp W H (L2.upd H p o') := fun o' => cont_kp hf c
  rcases kOk_cases hk with ⟨k, h1, h2⟩ | ⟨us, rfl, h1, h2⟩
  · obtain ⟨kvs, g1, g2, g3⟩ := dict_is c h2
    have l : ks.length = kvs.length := by have := congrArg List.length g2; simpa using this
    have ek := RepV.key h1 ha
    subst ek
    refine d_setItem (by omega) I (DPut.k (k := k) (v := y) g1 (by rw [← l, sizeLine_eq]; exact hl)) rx ry fun s' I' => q _ s' I' (stored_dicK hf hu c h1 g2 g3)
  · obtain ⟨zs, ws, g1, g2, g3, g4, g5, g6⟩ := dict_tup O I c h2
    obtain ⟨k, e1, e2⟩ := nk_key h1
    have hn := key_is I _ k x v e1 ha rx
    have ha0 := ha
    simp only [RepV] at ha
    obtain ⟨b, vs, rfl, hb, _⟩ := ha
    obtain rfl : v = Value.ref b := rx
    have l : ks.length = zs.length := by have := congrArg List.length g3; simpa using this
    rw [hp, hw]
    refine wpAny_setItem_heap (knd := nestedKind G.P G.w) (room_n O) ⟨hn, e2⟩ g1 (fun h' hm' hs => ?_) (by rw [← l, sizeLine_eq]; unfold line at hl; omega)
    obtain ⟨o', I', c'⟩ := stored_dic (tk := s.toks + (nestedKind G.P G.w).draws k) O I hf ry hl ha0 hu c h2 e1 g2 g3 g4 g5 g6 hm' hs
    exact q _ _ I' c'
/-- setdefault -/
theorem setd_dic (O : Of G X) {Q : Value → Shared → Prop} {E : Value → Shared → Prop} {x y : V} {v r : Value} {a u : U} {ks xs : List U} {p : Addr} (I : Inv X pins σ H s) (hf : ¬ W.fz p) (rx : RelV x v) (ry : RelV y r) (hk : kOk ks a = true) (hl : ks.length < line) (ha : RepV G W H a x) (hu : RepV G W H u y) (c : Cont G W H p (.dic ks xs))
    (q1 : ∀ w, dget ks xs a = some w → ∀ z zv s', Inv X pins σ H s' → RelV z zv → RepV G W H w z → Q zv s')
    (q2 : dget ks xs a = none → ∀ o' s', Inv X pins σ (L2.upd H p o') s' → Cont G W (L2.upd H p o') p (.dic (ks ++ [a]) (xs ++ [u])) → ∀ rv, RelV y rv → Q rv s') :
    wpAny (model X.prog X.w) X.A (call (.builtin "dict.setdefault") [.ref p, v, r]) Q E s := by
  rcases kOk_cases hk with ⟨k, h1, h2⟩ | ⟨us, rfl, h1, h2⟩
  · obtain ⟨kvs, g1, g2, g3⟩ := dict_is c h2
    have l : ks.length = kvs.length := by have := congrArg List.length g2; simpa using this
    have ek := RepV.key h1 ha
    subst ek
    have gg := valV_get h1 g2 g3
    refine d_setd (k := k) (d := y) I g1 rx ry (by rw [← l, sizeLine_eq]; exact hl) (fun v0 hv w' s' I' rw' => ?_) fun hn w' s' I' rw' => ?_
    · cases e : dget ks xs a with
      | none => rw [gg.2 e] at hv; cases hv
      | some w =>
        obtain ⟨v1, e1, e2⟩ := gg.1 w e
        rw [hv] at e1; cases e1
        exact q1 w e _ _ s' I' rw' e2
    · have hm : memU a ks = false := by
        rw [← valV_mem h1 g2, hn]; rfl
      cases e : dget ks xs a with
      | some w =>
        obtain ⟨v1, e1, e2⟩ := gg.1 w e
        rw [hn] at e1; cases e1
      | none =>
        have c' := stored_dicK hf hu c h1 g2 g3
        unfold dput at c'
        rw [hm] at c'
        exact q2 e _ s' I' c' _ rw'
  · obtain ⟨zs, ws, g1, g2, g3, g4, g5, g6⟩ := dict_tup O I c h2
    obtain ⟨k, e1, e2⟩ := nk_key h1
    have hn := key_is I _ k x v e1 ha rx
    have ha0 := ha
    simp only [RepV] at ha
    obtain ⟨b, vs, rfl, hb, _⟩ := ha
    obtain rfl : v = Value.ref b := rx
    have l : ks.length = zs.length := by have := congrArg List.length g3; simpa using this
    rw [O.P, O.w]
    have gg := atKey_get e1 g3 g5 g6
    refine call_setdefault_heap (knd := nestedKind G.P G.w) (room_n O) ⟨hn, e2⟩ g2 g1 (fun pp hp => ?_) (fun hnn h' hm' hs => ?_) (by rw [← l, sizeLine_eq]; unfold line at hl; omega)
    · cases e : dget ks xs (.tup us) with
      | none => rw [gg.2 e] at hp; cases hp
      | some w =>
        obtain ⟨v1, w1, b1, e3, e4, e5⟩ := gg.1 w e
        rw [hp] at e3; cases e3
        exact q1 w e _ _ _ (I.tok _) e5 e4
    · have hm : memU (.tup us) ks = false := by
        rw [← atKey_mem e1 g3, hnn]; rfl
      cases e : dget ks xs (.tup us) with
      | some w =>
        obtain ⟨v1, w1, b1, e3, e4, e5⟩ := gg.1 w e
        rw [hnn] at e3; cases e3
      | none =>
        obtain ⟨o', I', c'⟩ := stored_dic (tk := s.toks + (nestedKind G.P G.w).draws k) O I hf ry hl ha0 hu c h2 e1 g2 g3 g4 g5 g6 hm' hs
        unfold dput at c'
        rw [hm] at c'
        exact q2 e _ _ I' c' _ ry
end
end MP
set_option maxRecDepth 100000
set_option maxHeartbeats 1000000
/-! R1j: from expressions to their arguments. -/
namespace MP
open PySem PySem.Spec PyProof.Rows L2

theorem PEi {X : Cx} {e : Expr} {t t' : TE} (h : PE X e t) (hi : ∀ σ H Q, t' σ H Q → t σ H Q) : PE X e t' := ⟨fun pins s σ H Q I q => h.run pins s σ H Q I (hi σ H Q q)⟩
theorem PAi {X : Cx} {e : List Expr} {t t' : TA} (h : PA X e t) (hi : ∀ σ H Q, t' σ H Q → t σ H Q) : PA X e t' := ⟨fun pos pins s σ H Q I q => h.run pos pins s σ H Q I (hi σ H Q q)⟩
theorem PTi {X : Cx} {e : Expr} {t t' : TT} (h : PT X e t) (hi : ∀ σ H Q, t' σ H Q → t σ H Q) : PT X e t' := ⟨fun pins s σ H Q I q => h.run pins s σ H Q I (hi _ _ _ q)⟩

section
variable {G : Nms} {Wx : WX} {g : Gst} {W W1 : Wd} {s s1 : Sta} {σ : L2.St} {H H1 : Hp}
theorem RA.ext (e : Ext s s1 σ W W1 H H1) {a : AV} {v : V} (h : RA G σ W s H a v) : RA G σ W1 s1 H1 a v := by
  cases a with
  | v u => exact RepV.ext e h
  | own i => exact h
theorem RAs.ext (e : Ext s s1 σ W W1 H H1) : ∀ {as : List AV} {vs : List V}, RAs G σ W s H as vs → RAs G σ W1 s1 H1 as vs
  | [], [], _ => .nil
  | a :: as, v :: vs, h => by cases h with | cons h t => exact .cons (h.ext e) (RAs.ext e t)
  | [], _ :: _, h => by cases h
  | _ :: _, [], h => by cases h
theorem crep_cont (r : RelSh G W s.m H) {u : U} {v : V} (h : RepV G W H u v) : CRep G W H (MP.cont s.m u) v := by
  cases u <;> first
    | exact .inl h
    | (rename_i n
       simp only [RepV] at h
       obtain ⟨a, e, rfl⟩ := h
       obtain ⟨_, u, h2, h3⟩ := r.mem n a e
       refine .inr ⟨a, rfl, ?_⟩
       show Cont G W H a (s.m.getD n .non)
       rw [List.getD_eq_getElem?_getD, h2]
       exact h3)
theorem crep_of (r : RelFr G W s σ H) {a : AV} {v : V} (h : RA G σ W s H a v) (ho : a.ok s = true) : CRep G W H (a.get s) v := by
  cases a with
  | v u => exact crep_cont r.m h
  | own i =>
    have ho : (match slot s i with | .own _ => true | _ => false) = true := ho
    split at ho
    · rename_i u e
      obtain ⟨_, p, h1, _, _, c⟩ := r.ownAt e
      have : σ[i]? = some (some v) := h
      rw [h1] at this
      obtain rfl : V.ref p = v := Option.some.inj (Option.some.inj this)
      refine .inr ⟨p, rfl, ?_⟩
      unfold AV.get
      simp only [e]
      exact c
    · cases ho
theorem creps_of (r : RelFr G W s σ H) : ∀ {as : List AV} {vs : List V}, RAs G σ W s H as vs → as.all (AV.ok s) = true → Paired (fun u v => CRep G W H u v) (as.map (AV.get s)) vs
  | [], [], _, _ => .nil
  | a :: as, v :: vs, h, ho => by
    simp only [List.all_cons, Bool.and_eq_true] at ho
    cases h with | cons h t => exact .cons (crep_of r h ho.1) (creps_of r t ho.2)
  | [], _ :: _, h, _ => by cases h
  | _ :: _, [], h, _ => by cases h

/-! lists of arguments -/
theorem tArgs_nil {Q : List V → Hp → Prop} (h : tArgs G Wx g [] σ H Q) : tNil σ H Q := by
  obtain ⟨W, s, r, h⟩ := h
  unfold evalAs at h
  exact tAt.fin h r .nil
theorem tArgs_cons {m : ME} {ms : List ME} {Q : List V → Hp → Prop} (h : tArgs G Wx g (m :: ms) σ H Q) : tCons (tArg G Wx g m) (tArgs G Wx g ms) σ H Q := by
  obtain ⟨W, s, r, h⟩ := h
  unfold evalAs at h
  refine ⟨W, s, r, ?_⟩
  refine tAt.imp (tAt.bind (RA G σ) h) ?_
  intro a s' W' H' b _ e1 r1 ra k
  obtain ⟨a1, W1, s1, _, e2, r2, ra2, h2⟩ := k b ra
  refine ⟨W1, s1, r2, ?_⟩
  refine tAt.imp (tAt.bind (RAs G σ) h2) ?_
  intro as s'' W'' H'' bs _ e3 r3 ras k'
  obtain ⟨as1, W2, s2, _, e4, r4, ra4, h4⟩ := k' bs ras
  exact tAt.fin h4 r4 (.cons (ra2.ext e4) ra4)
theorem tEs_nil {Q : List V → Hp → Prop} (h : tEs G Wx g [] σ H Q) : tNil σ H Q := by
  obtain ⟨W, s, r, h⟩ := h
  unfold evalEs at h
  exact tAt.fin h r (by show RepVs G W H [] []; simp only [RepVs])
theorem tEs_cons {m : ME} {ms : List ME} {Q : List V → Hp → Prop} (h : tEs G Wx g (m :: ms) σ H Q) : tCons (tE G Wx g m) (tEs G Wx g ms) σ H Q := by
  obtain ⟨W, s, r, h⟩ := h
  unfold evalEs at h
  refine ⟨W, s, r, ?_⟩
  refine tAt.imp (tAt.bind (RV G) h) ?_
  intro a s' W' H' b _ e1 r1 ra k
  obtain ⟨a1, W1, s1, _, e2, r2, ra2, h2⟩ := k b ra
  refine ⟨W1, s1, r2, ?_⟩
  refine tAt.imp (tAt.bind (RVs G) h2) ?_
  intro as s'' W'' H'' bs _ e3 r3 ras k'
  obtain ⟨as1, W2, s2, _, e4, r4, ra4, h4⟩ := k' bs ras
  refine tAt.fin h4 r4 ?_
  show RepVs G W2 H'' (a1 :: as1) (b :: bs)
  simp only [RepVs]
  exact ⟨b, bs, rfl, RepV.ext e4 ra2, ra4⟩

/-! an operation on what is read, an operation that holds -/
def rA (G : Nms) (g : Gst) (o : Opr) (xs : List V) (H : Hp) (Q : VK) : Prop := ∃ Wx W s σ us u, RelFr G W s σ H ∧ Paired (fun u v => CRep G W H u v) us xs ∧ opSem g o us = some u ∧ Wants G Wx u W s σ H Q
def rH (G : Nms) (g : Gst) (o : Opr) (xs : List V) (H : Hp) (Q : VK) : Prop := ∃ Wx W s σ us u, RelFr G W s σ H ∧ RepVs G W H us xs ∧ opSem g o us = some u ∧ Wants G Wx u W s σ H Q
theorem tE_op {o : Opr} {ms : List ME} {Q : VK} (ho : o.holds = false) (hm : o.meth = false) (h : tE G Wx g (.op o ms) σ H Q) : tArgs G Wx g ms σ H fun xs H' => rA G g o xs H' Q := by
  obtain ⟨W, s, r, h⟩ := h
  unfold evalE at h
  rw [ho, hm] at h
  simp only [Bool.false_eq_true, if_false] at h
  refine ⟨W, s, r, ?_⟩
  refine tAt.imp (tAt.bind (RAs G σ) h) ?_
  intro as s' W' H' b _ e1 r1 ra k
  obtain ⟨as1, W1, s1, _, e2, r2, ra2, h2⟩ := k b ra
  by_cases hk : as1.all (AV.ok s1) = true
  · rw [if_pos hk] at h2
    cases eo : opSem g o (as1.map (AV.get s1)) with
    | none => rw [eo] at h2; exact h2.elim
    | some u =>
      rw [eo] at h2
      exact ⟨Wx, W1, s1, σ, _, u, r2, creps_of r2 ra2 hk, eo, h2⟩
  · rw [if_neg hk] at h2; exact h2.elim
theorem tE_opH {o : Opr} {ms : List ME} {Q : VK} (ho : o.holds = true) (h : tE G Wx g (.op o ms) σ H Q) : tEs G Wx g ms σ H fun xs H' => rH G g o xs H' Q := by
  obtain ⟨W, s, r, h⟩ := h
  unfold evalE at h
  rw [ho] at h
  simp only [if_true] at h
  refine ⟨W, s, r, ?_⟩
  refine tAt.imp (tAt.bind (RVs G) h) ?_
  intro as s' W' H' b _ e1 r1 ra k
  obtain ⟨as1, W1, s1, _, e2, r2, ra2, h2⟩ := k b ra
  cases eo : opSem g o as1 with
  | none => rw [eo] at h2; exact h2.elim
  | some u =>
    rw [eo] at h2
    exact ⟨Wx, W1, s1, σ, _, u, r2, ra2, eo, h2⟩

/-! an argument: a name, any other expression -/
theorem arg_var {X : Cx} {i : Nat} {x : Str} {pos : Pos} (hN : X.N[i]? = some x) (hv : Vis X.env.scope x) (hd : (x == ("__debug__" : Str)) = false) (hcd : (x == ("__classdict__" : Str)) = false) : PE X (.Name x pos) (tArg G Wx g (.var i)) :=
  PEi (pe_var hN hv hd hcd) fun σ H Q h => by
    obtain ⟨W, s, r, h⟩ := h
    unfold argOf isOwn at h
    cases e : slot s i with
    | no =>
      simp only [e] at h
      unfold evalE at h
      simp only [e] at h
      exact h.elim
    | clo us =>
      simp only [e] at h
      unfold evalE at h
      simp only [e] at h
      exact h.elim
    | val u =>
      simp only [e] at h
      unfold evalE at h
      simp only [e] at h
      obtain ⟨v, h1, h2⟩ := r.valAt e
      exact ⟨v, h1, tAt.fin h r h2⟩
    | own u =>
      simp only [e] at h
      obtain ⟨_, p, h1, _⟩ := r.ownAt e
      exact ⟨_, h1, tAt.fin h r h1⟩
theorem ex_var {X : Cx} {i : Nat} {x : Str} {pos : Pos} (hN : X.N[i]? = some x) (hv : Vis X.env.scope x) (hd : (x == ("__debug__" : Str)) = false) (hcd : (x == ("__classdict__" : Str)) = false) : PE X (.Name x pos) (tE G Wx g (.var i)) :=
  PEi (pe_var hN hv hd hcd) fun σ H Q h => by
    obtain ⟨W, s, r, h⟩ := h
    unfold evalE at h
    cases e : slot s i with
    | val u =>
      simp only [e] at h
      obtain ⟨v, h1, h2⟩ := r.valAt e
      exact ⟨v, h1, tAt.fin h r h2⟩
    | no => simp only [e] at h; exact h.elim
    | own u => simp only [e] at h; exact h.elim
    | clo us => simp only [e] at h; exact h.elim
def isVar : ME → Bool
  | .var _ => true
  | _ => false
theorem tArg_tE {m : ME} {Q : VK} (hm : isVar m = false) (h : tArg G Wx g m σ H Q) : tE G Wx g m σ H Q := by
  obtain ⟨W, s, r, h⟩ := h
  have e : isOwn s m = none := by cases m <;> first | rfl | cases hm
  unfold argOf at h
  rw [e] at h
  refine ⟨W, s, r, ?_⟩
  refine tAt.imp (tAt.bind (RV G) h) ?_
  intro a s' W' H' b _ e1 r1 ra k
  obtain ⟨a1, W1, s1, _, e2, r2, ra2, h2⟩ := k b ra
  exact tAt.fin h2 r2 ra2
end
end MP
set_option maxRecDepth 100000
set_option maxHeartbeats 1000000
/-! R1k: operations on values, each by its rule. -/
namespace MP
open PySem PySem.Spec PyProof.Rows L2

theorem OpRi {X : Cx} {f : Value → Value → Sem Value} {r r' : R2} (h : OpR X f r) (hi : ∀ x y H Q, r' x y H Q → r x y H Q) : OpR X f r' := fun pins s σ H x y v u Q I rx ry q => h pins s σ H x y v u Q I rx ry (hi _ _ _ _ q)
theorem UnRi {X : Cx} {f : Value → Sem Value} {r r' : V → Hp → VK → Prop} (h : UnR X f r) (hi : ∀ x H Q, r' x H Q → r x H Q) : UnR X f r' := fun pins s σ H x v Q I rx q => h pins s σ H x v Q I rx (hi _ _ _ q)
theorem CallRi {X : Cx} {f : Value} {r r' : List V → Hp → VK → Prop} (h : CallR X f r) (hi : ∀ xs H Q, r' xs H Q → r xs H Q) : CallR X f r' := fun pins s σ H xs us Q I rx q => h pins s σ H xs us Q I rx (hi _ _ _ q)
theorem IxRi {X : Cx} {r r' : R2} (h : IxR X r) (hi : ∀ x y H Q, r' x y H Q → r x y H Q) : IxR X r' := fun va sl pins s σ H x y v u Q I rx ry q => h va sl pins s σ H x y v u Q I rx ry (hi _ _ _ _ q)

section
variable {G : Nms} {X : Cx} {g : Gst} {o : Opr} {x y z : V} {H : Hp} {Q : VK}
theorem rA.one (h : rA G g o [x] H Q) : ∃ Wx W s σ a u, RelFr G W s σ H ∧ CRep G W H a x ∧ opSem g o [a] = some u ∧ Wants G Wx u W s σ H Q := by
  obtain ⟨Wx, W, s, σ, us, u, r, c, e, k⟩ := h
  cases c with | cons c t => cases t with | nil => exact ⟨Wx, W, s, σ, _, u, r, c, e, k⟩
theorem rA.two (h : rA G g o [x, y] H Q) : ∃ Wx W s σ a b u, RelFr G W s σ H ∧ CRep G W H a x ∧ CRep G W H b y ∧ opSem g o [a, b] = some u ∧ Wants G Wx u W s σ H Q := by
  obtain ⟨Wx, W, s, σ, us, u, r, c, e, k⟩ := h
  cases c with | cons c t => cases t with | cons d t => cases t with | nil => exact ⟨Wx, W, s, σ, _, _, u, r, c, d, e, k⟩
theorem rA.three (h : rA G g o [x, y, z] H Q) : ∃ Wx W s σ a b c u, RelFr G W s σ H ∧ CRep G W H a x ∧ CRep G W H b y ∧ CRep G W H c z ∧ opSem g o [a, b, c] = some u ∧ Wants G Wx u W s σ H Q := by
  obtain ⟨Wx, W, s, σ, us, u, r, c, e, k⟩ := h
  cases c with | cons c t => cases t with | cons d t => cases t with | cons f t => cases t with | nil => exact ⟨Wx, W, s, σ, _, _, _, u, r, c, d, f, e, k⟩

abbrev r2 (G : Nms) (g : Gst) (o : Opr) : R2 := fun x y H Q => rA G g o [x, y] H Q
abbrev r1 (G : Nms) (g : Gst) (o : Opr) : V → Hp → VK → Prop := fun x H Q => rA G g o [x] H Q
abbrev rX (G : Nms) (g : Gst) (o : Opr) (n : Nat) : List V → Hp → VK → Prop := fun xs H Q => xs.length = n ∧ rA G g o xs H Q

variable (O : Of G X)
include O
theorem so_add : OpR X (binaryOp .Add) (r2 G g .add) := OpRi (op_add.or (op_catX.or (op_cat.or op_add_str))) fun x y H Q h => by
  obtain ⟨Wx, W, s, σ, a, b, u, r, ha, hb, e, k⟩ := h.two
  rw [O.K]
  exact ol_addI e ha hb r k
theorem so_sub : OpR X (binaryOp .Sub) (r2 G g .sub) := OpRi op_sub fun x y H Q h => by
  obtain ⟨Wx, W, s, σ, a, b, u, r, ha, hb, e, k⟩ := h.two
  exact ol_sub e ha hb r k
theorem so_mul : OpR X (binaryOp .Mult) (r2 G g .mul) := OpRi (op_mulW.or (op_repX.or op_rep)) fun x y H Q h => by
  obtain ⟨Wx, W, s, σ, a, b, u, r, ha, hb, e, k⟩ := h.two
  rw [O.K]
  exact ol_mul e ha hb r k
theorem so_fdiv : OpR X (binaryOp .FloorDiv) (r2 G g .fdiv) := OpRi op_fdivW fun x y H Q h => by
  obtain ⟨Wx, W, s, σ, a, b, u, r, ha, hb, e, k⟩ := h.two
  exact ol_fdiv e ha hb r k
theorem so_mod : OpR X (binaryOp .Mod) (r2 G g .mod) := OpRi op_mod fun x y H Q h => by
  obtain ⟨Wx, W, s, σ, a, b, u, r, ha, hb, e, k⟩ := h.two
  exact ol_mod e ha hb r k
theorem so_pow : OpR X (binaryOp .Pow) (r2 G g .pow) := OpRi op_pow fun x y H Q h => by
  obtain ⟨Wx, W, s, σ, a, b, u, r, ha, hb, e, k⟩ := h.two
  exact ol_pow e ha hb r k
theorem so_neg : UnR X (unaryOp .USub) (r1 G g .neg) := UnRi un_neg fun x H Q h => by
  obtain ⟨Wx, W, s, σ, a, u, r, ha, e, k⟩ := h.one
  exact ol_neg e ha r k
theorem so_eq : OpR X (compareOp .Eq) (r2 G g .eq) := OpRi (op_eqD (Nat.lt_of_le_of_lt (by omega) O.un)) fun x y H Q h => by
  obtain ⟨Wx, W, s, σ, a, b, u, r, ha, hb, e, k⟩ := h.two
  rw [O.K]
  exact ol_eq e ha hb r k
theorem so_ne : OpR X (compareOp .NotEq) (r2 G g .ne) := OpRi (op_neD (Nat.lt_of_le_of_lt (by omega) O.un)) fun x y H Q h => by
  obtain ⟨Wx, W, s, σ, a, b, u, r, ha, hb, e, k⟩ := h.two
  rw [O.K]
  exact ol_ne e ha hb r k
theorem so_lt : OpR X (compareOp .Lt) (r2 G g .lt) := OpRi op_lt fun x y H Q h => by
  obtain ⟨Wx, W, s, σ, a, b, u, r, ha, hb, e, k⟩ := h.two
  exact ol_lt e ha hb r k
theorem so_le : OpR X (compareOp .LtE) (r2 G g .le) := OpRi op_le fun x y H Q h => by
  obtain ⟨Wx, W, s, σ, a, b, u, r, ha, hb, e, k⟩ := h.two
  exact ol_le e ha hb r k
theorem so_gt : OpR X (compareOp .Gt) (r2 G g .gt) := OpRi op_gt fun x y H Q h => by
  obtain ⟨Wx, W, s, σ, a, b, u, r, ha, hb, e, k⟩ := h.two
  exact ol_gt e ha hb r k
theorem so_ge : OpR X (compareOp .GtE) (r2 G g .ge) := OpRi op_ge fun x y H Q h => by
  obtain ⟨Wx, W, s, σ, a, b, u, r, ha, hb, e, k⟩ := h.two
  exact ol_ge e ha hb r k
theorem so_ix : IxR X (r2 G g .ix) := IxRi (ix_tup.or (ix_list.or (ix_dic O))) fun x y H Q h => by
  obtain ⟨Wx, W, s, σ, a, b, u, r, ha, hb, e, k⟩ := h.two
  have e : opIx [a, b] = some u := e
  rw [O.K]
  unfold opIx at e
  split at e
  · rename_i us i eq
    simp only [List.cons.injEq, and_true] at eq
    obtain ⟨rfl, rfl⟩ := eq
    exact .inl (ol_ixT e ha hb r k)
  · rename_i us i eq
    simp only [List.cons.injEq, and_true] at eq
    obtain ⟨rfl, rfl⟩ := eq
    exact .inr (.inl (ol_ixL e ha hb r k))
  · rename_i us i eq
    simp only [List.cons.injEq, and_true] at eq
    obtain ⟨rfl, rfl⟩ := eq
    exact .inr (.inl (ol_ixS e ha hb r k))
  · rename_i ks vs kk eq
    simp only [List.cons.injEq, and_true] at eq
    obtain ⟨rfl, rfl⟩ := eq
    split at e
    · rename_i hk
      obtain ⟨p, rfl, c⟩ := ha.dic
      refine .inr (.inr ⟨W, b, ks, vs, u, hk, ?_, ⟨p, rfl, c⟩, e, fun v hv => k.val r hv⟩)
      rcases hb with hb | ⟨q, rfl, cq⟩
      · exact hb
      · exfalso
        rcases kOk_cases hk with ⟨kk, h1, _⟩ | ⟨us, rfl, _, _⟩
        · cases b <;> simp only [Cont] at cq <;> cases h1
        · simp only [Cont] at cq
    · cases e
  · cases e
theorem so_len : CallR X (.builtin "len") (rX G g .len 1) := CallRi (call_len_seq.or ((call_lenDic O).or call_len_str)) fun xs H Q h => by
  obtain ⟨hl, h⟩ := h
  match xs, hl with
  | [x], _ =>
  obtain ⟨Wx, W, s, σ, a, u, r, ha, e, k⟩ := h.one
  have e : opLen [a] = some u := e
  rw [O.K]
  unfold opLen at e
  split at e
  · rename_i us eq
    simp only [List.cons.injEq, and_true] at eq
    subst eq; cases e
    exact .inl (ol_lenS (a := .tup us) rfl ha r k)
  · rename_i us eq
    simp only [List.cons.injEq, and_true] at eq
    subst eq; cases e
    exact .inl (ol_lenS (a := .lst us) rfl ha r k)
  · rename_i us eq
    simp only [List.cons.injEq, and_true] at eq
    subst eq; cases e
    exact .inl (ol_lenS (a := .scr us) rfl ha r k)
  · rename_i ks vs eq
    simp only [List.cons.injEq, and_true] at eq
    subst eq; cases e
    obtain ⟨p, rfl, c⟩ := ha.dic
    exact .inr (.inl ⟨W, p, ks, vs, rfl, c, k.int r⟩)
  · rename_i cs eq
    simp only [List.cons.injEq, and_true] at eq
    subst eq
    rename_i e0
    split at e0
    · rename_i hl
      cases e0
      obtain rfl := ha.str
      refine .inr (.inr ⟨_, rfl, ?_, ?_⟩)
      · rw [sOf_length]; exact le_line hl
      · rw [sOf_length]; exact k.int r
    · cases e0
  · cases e
theorem so_abs : CallR X (.builtin "abs") (rX G g .abs 1) := CallRi call_abs fun xs H Q h => by
  obtain ⟨hl, h⟩ := h
  match xs, hl with
  | [x], _ =>
  obtain ⟨Wx, W, s, σ, a, u, r, ha, e, k⟩ := h.one
  exact ol_abs e ha r k
theorem so_max2 (hc : X.calm = true) : CallR X (.builtin "max") (rX G g .max2 2) := CallRi (call_max2 hc) fun xs H Q h => by
  obtain ⟨hl, h⟩ := h
  match xs, hl with
  | [x, y], _ =>
  obtain ⟨Wx, W, s, σ, a, b, u, r, ha, hb, e, k⟩ := h.two
  exact ol_max2 e ha hb r k
theorem so_min2 (hc : X.calm = true) : CallR X (.builtin "min") (rX G g .min2 2) := CallRi (call_min2 hc) fun xs H Q h => by
  obtain ⟨hl, h⟩ := h
  match xs, hl with
  | [x, y], _ =>
  obtain ⟨Wx, W, s, σ, a, b, u, r, ha, hb, e, k⟩ := h.two
  exact ol_min2 e ha hb r k
theorem so_max1 (hc : X.calm = true) : CallR X (.builtin "max") (rX G g .max1 1) := CallRi (cr_max hc) fun xs H Q h => by
  obtain ⟨hl, h⟩ := h
  match xs, hl with
  | [x], _ =>
  obtain ⟨Wx, W, s, σ, a, u, r, ha, e, k⟩ := h.one
  rw [O.K]
  exact ol_max1 e ha r k
theorem so_all (hc : X.calm = true) : CallR X (.builtin "all") (rX G g .all 1) := CallRi (cr_all hc) fun xs H Q h => by
  obtain ⟨hl, h⟩ := h
  match xs, hl with
  | [x], _ =>
  obtain ⟨Wx, W, s, σ, a, u, r, ha, e, k⟩ := h.one
  rw [O.K]
  exact ol_all e ha r k
theorem so_any (hc : X.calm = true) : CallR X (.builtin "any") (rX G g .any 1) := CallRi (cr_any hc) fun xs H Q h => by
  obtain ⟨hl, h⟩ := h
  match xs, hl with
  | [x], _ =>
  obtain ⟨Wx, W, s, σ, a, u, r, ha, e, k⟩ := h.one
  rw [O.K]
  exact ol_any e ha r k
theorem rl1 {f : Value} {r : V → Hp → VK → Prop} (h : ∀ (pins : List (Addr × Obj)) (s : Shared) (σ : L2.St) (H : Hp) (x : V) (v : Value) (Q : VK), Inv X pins σ H s → RelV x v → r x H Q → wpAny (model X.prog X.w) X.A (call f [v]) (EP X pins σ Q) X.xe s) :
    CallR X f (fun xs H Q => ∃ x, xs = [x] ∧ r x H Q) := by
  intro pins s σ H xs us Q I rx ⟨x, e, q⟩
  subst e
  cases rx with | cons r1 t => cases t with | nil => exact h pins s σ H x _ Q I r1 q
theorem so_tupOf : CallR X (.type "tuple") (rX G g .tupOf 1) := CallRi (rl1 O fun pins s σ H x v Q I r h => rl_tupleX pins s σ H x v Q I r h) fun xs H Q h => by
  obtain ⟨hl, h⟩ := h
  match xs, hl with
  | [x], _ =>
  obtain ⟨Wx, W, s, σ, a, u, r, ha, e, k⟩ := h.one
  rw [O.K]
  exact ⟨x, rfl, ol_tupOf e ha r k⟩
end
end MP
set_option maxRecDepth 100000
set_option maxHeartbeats 1000000
/-! R1l: containers changed. -/
namespace MP
open PySem PySem.Spec PyProof.Rows L2
section
variable {G : Nms} {Wx : WX} {g : Gst} {W W1 : Wd} {s s1 : Sta} {σ : L2.St} {H H1 : Hp}
theorem slot_put (s : Sta) (i j : Nat) (x : Slt) (h : i < s.r.length) : (s.put i x).r[j]? = if i = j then some x else s.r[j]? := by
  unfold Sta.put
  rw [List.getElem?_set]
  split
  · simp [h]
  · rfl
/-- what is changed: where it is -/
theorem mut_at (r : RelFr G W s σ H) {av : AV} {v : V} (ra : RA G σ W s H av v) {c' : U} {s' : Sta} (hs : setC s av c' = some s') (hn : av.get s ≠ .non) :
    ∃ p, v = .ref p ∧ ¬ W.fz p ∧ Cont G W H p (av.get s) ∧
      ∀ o', Kp W H (L2.upd H p o') → Cont G W (L2.upd H p o') p c' → RelFr G W s' σ (L2.upd H p o') ∧ Ext s s' σ W W H (L2.upd H p o') := by
  cases av with
  | own i =>
    have hs : some (s.put i (.own c')) = some s' := hs
    cases hs
    have hn : (match slot s i with | .own u => u | _ => U.non) ≠ .non := hn
    cases e : slot s i with
    | no => rw [e] at hn; exact absurd rfl hn
    | val u => rw [e] at hn; exact absurd rfl hn
    | clo us => rw [e] at hn; exact absurd rfl hn
    | own u =>
      obtain ⟨e1, p, h1, f1, n1, c⟩ := r.ownAt e
      have e2 : σ[i]? = some (some v) := ra
      rw [h1] at e2
      obtain rfl : V.ref p = v := Option.some.inj (Option.some.inj e2)
      have hg : (AV.own i).get s = u := by unfold AV.get; simp only [e]
      have hi : i < s.r.length := (List.getElem?_eq_some_iff.mp e1).1
      refine ⟨p, rfl, f1, by rw [hg]; exact c, fun o' hk hc => ⟨⟨?_, ?_, ?_, ?_⟩, ?_⟩⟩
      · show (s.r.set i _).length = _
        rw [List.length_set]; exact r.len
      · intro j x hj
        rw [slot_put _ _ _ _ hi] at hj
        split at hj
        · rename_i ij
          subst ij
          cases hj
          exact ⟨_, h1, p, rfl, f1, n1, hc⟩
        · rename_i ij
          obtain ⟨y, q1, q2⟩ := r.slt j x hj
          refine ⟨y, q1, ?_⟩
          cases x with
          | no => trivial
          | val u' => obtain ⟨v', z1, z2⟩ := q2; exact ⟨v', z1, RepV.mono (.refl W) hk _ z2⟩
          | clo us => exact CloOk.mono (.refl W) hk q2
          | own u' =>
            obtain ⟨q, z1, z2, z3, z4⟩ := q2
            refine ⟨q, z1, z2, z3, z4.mono (.refl W) hk fun o ho => ?_⟩
            rw [upd_ne (fun z => ?_)]
            · exact ho
            · subst z
              rw [z1] at q1
              exact r.apart i j _ _ q ij e1 hj h1 q1
      · intro j k u1 u2 a jk hj hk2 a1 a2
        have key : ∀ m um, (s.put i (.own c')).r[m]? = some (Slt.own um) → ∃ um', s.r[m]? = some (Slt.own um') := fun m um hm => by
          rw [slot_put _ _ _ _ hi] at hm
          split at hm
          · rename_i im; subst im; exact ⟨_, e1⟩
          · exact ⟨_, hm⟩
        obtain ⟨w1, hw1⟩ := key j u1 hj
        obtain ⟨w2, hw2⟩ := key k u2 hk2
        exact r.apart j k _ _ a jk hw1 hw2 a1 a2
      · refine ⟨r.m.len, r.m.nod, fun n a hn => ?_, ?_⟩
        rotate_left
        · intro a ha
          by_cases z : a = p
          · subst z; exact absurd ha f1
          · rw [upd_ne z]; exact r.m.sm a ha
        obtain ⟨z1, u', z2, z3⟩ := r.m.mem n a hn
        refine ⟨z1, u', z2, z3.mono (.refl W) hk fun o ho => ?_⟩
        rw [upd_ne (fun z => ?_)]
        · exact ho
        · subst z; exact n1 (List.mem_of_getElem? hn)
      · refine ⟨.refl W, hk, fun a o ho ha hw => ?_, fun a h => ?_, fun j u' hj => ?_, ?_⟩
        · rw [upd_ne (fun z => ?_)]
          · exact ho
          · subst z; exact hw ⟨i, u, e1, h1⟩
        · rcases h with ⟨q1, q2⟩ | ⟨q1, q2⟩ <;> exact absurd q1 q2
        · rw [slot_put _ _ _ _ hi] at hj
          split at hj
          · rename_i im; subst im; exact ⟨_, e1⟩
          · exact ⟨_, hj⟩
        · show (s.r.set i _).length = _
          rw [List.length_set]
  | v u =>
    cases u with
    | ref n =>
      have hs : (if n < s.m.length then some { s with m := s.m.set n c' } else none) = some s' := hs
      split at hs
      · rename_i hl
        cases hs
        have ra : RepV G W H (.ref n) v := ra
        simp only [RepV] at ra
        obtain ⟨p, e, rfl⟩ := ra
        obtain ⟨f1, u, h2, c⟩ := r.m.mem n p e
        have hg : (AV.v (.ref n)).get s = u := by
          show s.m.getD n .non = u
          rw [List.getD_eq_getElem?_getD, h2]; rfl
        have pm : p ∈ W.al := List.mem_of_getElem? e
        have inj : ∀ m, W.al[m]? = some p → m = n := fun m hm => by
          have hm' : m < W.al.length := (List.getElem?_eq_some_iff.mp hm).1
          exact (List.getElem?_inj hm' r.m.nod).mp (hm.trans e.symm)
        refine ⟨p, rfl, f1, by rw [hg]; exact c, fun o' hk hc => ⟨⟨r.len, ?_, r.apart, ?_⟩, ?_⟩⟩
        · intro j x hj
          obtain ⟨y, q1, q2⟩ := r.slt j x hj
          refine ⟨y, q1, ?_⟩
          cases x with
          | no => trivial
          | val u' => obtain ⟨v', z1, z2⟩ := q2; exact ⟨v', z1, RepV.mono (.refl W) hk _ z2⟩
          | clo us => exact CloOk.mono (.refl W) hk q2
          | own u' =>
            obtain ⟨q, z1, z2, z3, z4⟩ := q2
            refine ⟨q, z1, z2, z3, z4.mono (.refl W) hk fun o ho => ?_⟩
            rw [upd_ne (fun z => ?_)]
            · exact ho
            · subst z; exact z3 pm
        · refine ⟨?_, r.m.nod, fun m a hm => ?_, fun a ha => ?_⟩
          rotate_left 2
          · by_cases z : a = p
            · subst z; exact absurd ha f1
            · rw [upd_ne z]; exact r.m.sm a ha
          · show (s.m.set n c').length = _
            rw [List.length_set]; exact r.m.len
          · obtain ⟨z1, u', z2, z3⟩ := r.m.mem m a hm
            by_cases hmn : m = n
            · subst hmn
              rw [e] at hm; cases hm
              refine ⟨f1, c', ?_, hc⟩
              show (s.m.set m c')[m]? = _
              rw [List.getElem?_set_self hl]
            · refine ⟨z1, u', ?_, z3.mono (.refl W) hk fun o ho => ?_⟩
              · show (s.m.set n c')[m]? = _
                rw [List.getElem?_set_ne (fun z => hmn z.symm)]; exact z2
              · rw [upd_ne (fun z => ?_)]
                · exact ho
                · subst z; exact hmn (inj m hm)
        · refine ⟨.refl W, hk, fun a o ho ha hw => ?_, fun a h => ?_, fun j u' hj => ⟨u', hj⟩, rfl⟩
          · rw [upd_ne (fun z => ?_)]
            · exact ho
            · subst z; exact ha pm
          · rcases h with ⟨q1, q2⟩ | ⟨q1, q2⟩ <;> exact absurd q1 q2
      · cases hs
    | _ => cases hs

/-- a container's method: what it is given, what is wanted behind it -/
def rM (G : Nms) (o : Mop) : V → List V → Hp → VK → Prop := fun x xs H Q => ∃ Wx W s σ av us u c' s', RelFr G W s σ H ∧ RA G σ W s H av x ∧ RepVs G W H us xs ∧ mutSem o (av.get s) us = some (c', u) ∧ setC s av c' = some s' ∧ tAt G Wx (.ok u s') W s σ H (RV G) Q
theorem mut_some {o : Mop} {c : U} {us : List U} {z : U × U} (h : mutSem o c us = some z) : c ≠ .non := by
  rintro rfl
  have : mutSem o .non us = none := by
    cases o <;> (unfold mutSem; first | rfl | (unfold muAppend; cases us <;> rfl))
  rw [this] at h
  cases h
variable {x y z : V} {xs : List V} {Q : VK} {o : Mop}
theorem RepVs.nil_of (h : RepVs G W H [] xs) : xs = [] := by simpa only [RepVs] using h
theorem RepVs.one_of {a : U} (h : RepVs G W H [a] xs) : ∃ v, xs = [v] ∧ RepV G W H a v := by
  simp only [RepVs] at h
  obtain ⟨v, r, rfl, h1, rfl⟩ := h
  exact ⟨v, rfl, h1⟩
theorem RepVs.two_of {a b : U} (h : RepVs G W H [a, b] xs) : ∃ v w, xs = [v, w] ∧ RepV G W H a v ∧ RepV G W H b w := by
  simp only [RepVs] at h
  obtain ⟨v, r, rfl, h1, w, r', rfl, h2, rfl⟩ := h
  exact ⟨v, w, rfl, h1, h2⟩
theorem cont_lst {p : Addr} {us : List U} (c : Cont G W H p (.lst us)) : ∃ vs, H p = some (HO.lst vs) ∧ RepVs G W H us vs := by simpa only [Cont] using c
theorem cont_lst_of {p : Addr} {us : List U} {vs : List V} (h : H p = some (HO.lst vs)) (r : RepVs G W H us vs) : Cont G W H p (.lst us) := by simp only [Cont]; exact ⟨vs, h, r⟩
/-- a list changed, by values -/
theorem lst_put {p : Addr} {us us' : List U} {vs' : List V} (hf : ¬ W.fz p) (c : Cont G W H p (.lst us)) (r : RepVs G W H us' vs') : Kp W H (L2.upd H p (HO.lst vs')) ∧ Cont G W (L2.upd H p (HO.lst vs')) p (.lst us') := by
  have k := cont_kp (o' := HO.lst vs') hf c
  exact ⟨k, cont_lst_of upd_same (RepVs.mono (.refl W) k _ r)⟩

theorem RepVs.take : ∀ {us : List U} {vs : List V} (_ : RepVs G W H us vs) (n : Nat), RepVs G W H (us.take n) (vs.take n)
  | [], _, h, n => by obtain rfl := h.nil_of; simp only [List.take_nil, RepVs]
  | u :: us, _, h, 0 => by simp only [List.take_zero, RepVs]
  | u :: us, _, h, n + 1 => by
    simp only [RepVs] at h
    obtain ⟨v, r, rfl, h1, h2⟩ := h
    simp only [List.take_succ_cons, RepVs]
    exact ⟨v, _, rfl, h1, RepVs.take h2 n⟩
theorem RepVs.drop : ∀ {us : List U} {vs : List V} (_ : RepVs G W H us vs) (n : Nat), RepVs G W H (us.drop n) (vs.drop n)
  | [], _, h, n => by obtain rfl := h.nil_of; simp only [List.drop_nil, RepVs]
  | u :: us, _, h, 0 => h
  | u :: us, _, h, n + 1 => by
    simp only [RepVs] at h
    obtain ⟨v, r, rfl, h1, h2⟩ := h
    simp only [List.drop_succ_cons]
    exact RepVs.drop h2 n
theorem RepVs.set {a : U} {b : V} (hb : RepV G W H a b) : ∀ {us : List U} {vs : List V} (_ : RepVs G W H us vs) (n : Nat), RepVs G W H (us.set n a) (vs.set n b)
  | [], _, h, n => by obtain rfl := h.nil_of; simp only [List.set_nil, RepVs]
  | u :: us, _, h, 0 => by
    simp only [RepVs] at h
    obtain ⟨v, r, rfl, h1, h2⟩ := h
    simp only [List.set_cons_zero, RepVs]
    exact ⟨b, _, rfl, hb, h2⟩
  | u :: us, _, h, n + 1 => by
    simp only [RepVs] at h
    obtain ⟨v, r, rfl, h1, h2⟩ := h
    simp only [List.set_cons_succ, RepVs]
    exact ⟨v, _, rfl, h1, RepVs.set hb h2 n⟩
theorem RepVs.erase : ∀ {us : List U} {vs : List V} (_ : RepVs G W H us vs) (n : Nat), RepVs G W H (us.eraseIdx n) (vs.eraseIdx n)
  | [], _, h, n => by obtain rfl := h.nil_of; simp only [List.eraseIdx_nil, RepVs]
  | u :: us, _, h, 0 => by
    simp only [RepVs] at h
    obtain ⟨v, r, rfl, h1, h2⟩ := h
    simpa only [List.eraseIdx_cons_zero] using h2
  | u :: us, _, h, n + 1 => by
    simp only [RepVs] at h
    obtain ⟨v, r, rfl, h1, h2⟩ := h
    simp only [List.eraseIdx_cons_succ, RepVs]
    exact ⟨v, _, rfl, h1, RepVs.erase h2 n⟩

theorem om_append (h : rM G .append x xs H Q) : rAppend x xs H Q := by
  obtain ⟨Wx, W, s, σ, av, us, u, c', s', r, ra, rs, e, hs, k⟩ := h
  obtain ⟨p, rfl, hf, c, done⟩ := mut_at r ra hs (mut_some e)
  change muAppend (av.get s) us = some (c', u) at e
  unfold muAppend at e
  split at e
  · rename_i ys a eq1
    rw [eq1] at c
    obtain ⟨vs, h1, h2⟩ := (cont_lst c)
    obtain ⟨v, rfl, h3⟩ := rs.one_of
    split at e
    · rename_i hl
      cases e
      have hr : RepVs G W H (ys ++ [a]) (vs ++ [v]) := h2.append rs
      obtain ⟨k1, k2⟩ := lst_put hf c hr
      obtain ⟨d1, d2⟩ := done _ k1 k2
      refine ⟨p, vs, v, rfl, rfl, h1, ?_, k W _ _ d2 d1 (by show RepV G W _ .non .non; simp only [RepV])⟩
      rw [← RepVs.length h2, sizeLine_eq]; exact hl
    · cases e
  · cases e
theorem om_pop (h : rM G .pop x xs H Q) : rPop x xs H Q := by
  obtain ⟨Wx, W, s, σ, av, us, u, c', s', r, ra, rs, e, hs, k⟩ := h
  obtain ⟨p, rfl, hf, c, done⟩ := mut_at r ra hs (mut_some e)
  change muPop (av.get s) us = some (c', u) at e
  unfold muPop at e
  split at e
  · rename_i ys eq1
    rw [eq1] at c
    obtain ⟨vs, h1, h2⟩ := (cont_lst c)
    obtain rfl := rs.nil_of
    split at e
    · rename_i a hl
      cases e
      rw [List.getLast?_eq_getElem?] at hl
      obtain ⟨v, h3, h4⟩ := RepVs.get h2 hl
      rw [RepVs.length h2] at h3
      have hr : RepVs G W H ys.dropLast vs.dropLast := by
        rw [List.dropLast_eq_take, List.dropLast_eq_take, ← RepVs.length h2]
        exact RepVs.take h2 _
      obtain ⟨k1, k2⟩ := lst_put hf c hr
      obtain ⟨d1, d2⟩ := done _ k1 k2
      exact ⟨p, vs, v, rfl, rfl, h1, h3, k W _ _ d2 d1 (RepV.mono (.refl W) k1 _ h4)⟩
    · cases e
  · cases e
theorem om_popAt (h : rM G .popAt x xs H Q) : rPopAt x xs H Q := by
  obtain ⟨Wx, W, s, σ, av, us, u, c', s', r, ra, rs, e, hs, k⟩ := h
  obtain ⟨p, rfl, hf, c, done⟩ := mut_at r ra hs (mut_some e)
  change muPopAt (av.get s) us = some (c', u) at e
  unfold muPopAt at e
  split at e
  · rename_i ys i eq1
    rw [eq1] at c
    obtain ⟨vs, h1, h2⟩ := (cont_lst c)
    obtain ⟨v, rfl, h3⟩ := rs.one_of
    split at e
    · rename_i h0
      split at e
      · rename_i a hl
        cases e
        obtain ⟨w, h4, h5⟩ := RepVs.get h2 hl
        have hr := RepVs.erase h2 i.toNat
        obtain ⟨k1, k2⟩ := lst_put hf c hr
        obtain ⟨d1, d2⟩ := done _ k1 k2
        simp only [RepV] at h3
        subst h3
        have hlt := (List.getElem?_eq_some_iff.mp h4).1
        refine ⟨p, vs, i, i.toNat, w, rfl, rfl, h1, by have := h0.1; omega, ?_, ?_, h4, k W _ _ d2 d1 (RepV.mono (.refl W) k1 _ h5)⟩
        · have := h0.2; unfold bound at this; omega
        · have h00 := h0.1
          have e1 : (i.toNat : Int) = i := Int.toNat_of_nonneg h00
          unfold seqIndex?
          have e2 : ¬ i < 0 := by omega
          simp only [e2, if_false]
          rw [if_pos]
          simp only [Bool.and_eq_true, decide_eq_true_eq]
          omega
      · cases e
    · cases e
  · cases e
end
end MP
set_option maxRecDepth 100000
set_option maxHeartbeats 1000000
/-! R1m: an item set, read, set anew. -/
namespace MP
open PySem PySem.Spec PyProof.Rows L2
section
variable {G : Nms} {g : Gst} {X : Cx}
def tSetU (G : Nms) : TSet := fun o i v H Q => ∃ W s σ av a u c' u0 s', RelFr G W s σ H ∧ RA G σ W s H av o ∧ RepV G W H a i ∧ RepV G W H u v ∧ mutSem .setIx (av.get s) [a, u] = some (c', u0) ∧ setC s av c' = some s' ∧ ∀ H', RelFr G W s' σ H' → Ext s s' σ W W H H' → Q H'
theorem pset_U (O : Of G X) : PSet X (tSetU G) := by
  intro pins s0 σ0 H o i v ov iv uv Q I ro ri rv ⟨W, s, σ, av, a, u, c', u0, s', r, ra, ha, hu, e, hs, k⟩
  obtain ⟨p, rfl, hf, c, done⟩ := mut_at r ra hs (mut_some e)
  change muSetIx (av.get s) [a, u] = some (c', u0) at e
  unfold muSetIx at e
  split at e
  · rename_i xs kk b eq1 eq2
    rw [eq1] at c
    simp only [List.cons.injEq, and_true] at eq2
    obtain ⟨rfl, rfl⟩ := eq2
    obtain ⟨vs, h1, h2⟩ := cont_lst c
    simp only [RepV] at ha
    subst ha
    have hl := RepVs.length h2
    have fin : ∀ j, ixN vs.length kk = some j → c' = .lst (xs.set j u) → wpAny (model X.prog X.w) X.A (setItem ov iv uv) (fun _ s' => ∃ H', Inv X pins σ0 H' s' ∧ Q H') X.xe s0 := fun j hj hc => by
      subst hc
      obtain ⟨k1, k2⟩ := lst_put hf c (RepVs.set hu h2 j)
      obtain ⟨d1, d2⟩ := done _ k1 k2
      exact set_list pins s0 σ0 H _ _ v ov iv uv Q I ro ri rv ⟨p, vs, kk, j, rfl, rfl, h1, hj, k _ d1 d2⟩
    split at e
    · rename_i h0
      split at e
      · rename_i h3
        cases e
        refine fin kk.toNat ?_ rfl
        unfold ixN
        rw [if_pos h0, if_pos (by omega)]
      · cases e
    · rename_i h0
      split at e
      · rename_i h3
        cases e
        refine fin (kk + xs.length).toNat ?_ rfl
        unfold ixN
        rw [if_neg h0, if_pos (by omega), hl]
      · cases e
  · rename_i ks ws kk b eq1 eq2
    rw [eq1] at c
    simp only [List.cons.injEq, and_true] at eq2
    obtain ⟨rfl, rfl⟩ := eq2
    split at e
    · rename_i hk
      simp only [Bool.and_eq_true, decide_eq_true_eq] at hk
      cases e
      cases ro
      refine wpAny_mono (set_dic (Q := fun _ s' => ∃ H', Inv X pins σ0 H' s' ∧ Q H') (E := X.xe) O I hf ri rv hk.1 hk.2 ha hu c fun o' s1 I1 c1 => ?_) (fun _ _ h => h) (fun _ _ h => h)
      obtain ⟨d1, d2⟩ := done o' (cont_kp hf c) c1
      exact ⟨_, I1, k _ d1 d2⟩
    · cases e
  · cases e
def tGetU (G : Nms) (g : Gst) : V → V → Hp → VK → Prop := r2 G g .ix
theorem pget_U (O : Of G X) : PGet X (tGetU G g) := by
  intro pins s0 σ0 H o i ov iv Q I ro ri h
  obtain ⟨Wx, W, s, σ, a, b, u, r, ha, hb, e, k⟩ := rA.two h
  change opIx [a, b] = some u at e
  have hn := line63
  have hlist : ∀ (p : Addr) (vs : List V) (z : V) (j : Int), o = .ref p → i = .int j → SqL X.K H p vs → L2.atI vs j = some z → Q z H → wpAny (model X.prog X.w) X.A (getItem ov iv) (EP X pins σ0 Q) X.xe s0 := by
    rintro p vs z j rfl rfl hq he q
    cases ro
    obtain ⟨t, rfl⟩ := ri
    obtain ⟨its, r, pl, hz⟩ := I.list hq
    obtain ⟨jj, h1, h2, h3, h4, h5⟩ := atI_get he
    obtain ⟨w, ew, rw'⟩ := r.get h2
    have hl := r.length
    have fin : EP X pins σ0 Q w s0 := ⟨z, H, I, rw', q⟩
    by_cases h0 : 0 ≤ j
    · have hj : j.toNat = jj := by
        rw [seqIndex_of h0 h5] at h1
        exact Option.some.inj h1
      exact wpAny_getItem_list pl.isList h0 (by omega) (by rw [hj]; simpa using ew) fin
    · have hj : (j + (its.toArray.size : Int)).toNat = jj := by
        rw [seqIndex_neg (by omega) h4] at h1
        rw [List.size_toArray, ← hl]
        exact Option.some.inj h1
      exact wpAny_getItem_list_neg pl.isList (by omega) (by rw [List.size_toArray] <;> omega) (by omega) (by rw [hj]; simpa using ew) fin
  unfold opIx at e
  split at e
  · rename_i us j eq
    simp only [List.cons.injEq, and_true] at eq
    obtain ⟨rfl, rfl⟩ := eq
    obtain ⟨p, vs, rfl, h1, h2⟩ := ha.tup
    obtain ⟨z, h3, h4⟩ := atI_rep h2 e
    obtain rfl := hb.int
    cases ro
    obtain ⟨t, rfl⟩ := ri
    obtain ⟨its, r', pl, hz⟩ := I.tuple (TX.sq (K := X.K) h1)
    obtain ⟨jj, q1, q2, q3, q4, q5⟩ := atI_get h3
    obtain ⟨w, ew, rw'⟩ := r'.get q2
    have hl := r'.length
    exact getItem_tuple (j := jj) (Q := fun r s' => EP X pins σ0 Q r s') pl (by omega) (by omega) (by rw [List.size_toArray, ← hl]; exact q1) (by simpa using ew) ⟨z, H, I, rw', k.val r h4⟩
  · rename_i us j eq
    simp only [List.cons.injEq, and_true] at eq
    obtain ⟨rfl, rfl⟩ := eq
    have := ol_ixL e ha hb r k
    obtain ⟨p, vs, jj, z, rfl, rfl, hq, he, q⟩ := this
    rw [← O.K] at hq
    exact hlist p vs z jj rfl rfl hq he q
  · rename_i us j eq
    simp only [List.cons.injEq, and_true] at eq
    obtain ⟨rfl, rfl⟩ := eq
    have := ol_ixS e ha hb r k
    obtain ⟨p, vs, jj, z, rfl, rfl, hq, he, q⟩ := this
    rw [← O.K] at hq
    exact hlist p vs z jj rfl rfl hq he q
  · rename_i ks vs kk eq
    simp only [List.cons.injEq, and_true] at eq
    obtain ⟨rfl, rfl⟩ := eq
    split at e
    · rename_i hk
      obtain ⟨p, rfl, c⟩ := ha.dic
      cases ro
      refine getItem_dic O I ri hk ?_ c e fun v hv => k.val r hv
      rcases hb with hb | ⟨q, rfl, cq⟩
      · exact hb
      · exfalso
        rcases kOk_cases hk with ⟨kk, h1, _⟩ | ⟨us, rfl, _, _⟩
        · cases b <;> simp only [Cont] at cq <;> cases h1
        · simp only [Cont] at cq
    · cases e
  · cases e

/-! x op= y -/
def rAug (G : Nms) (o : Opr) : R2 := fun x y H Q => ∃ Wx W s σ a b, RelFr G W s σ H ∧ CRep G W H a x ∧ CRep G W H b y ∧ tAt G Wx (opAug o a b s) W s σ H (RV G) Q
def augOp : Opr → Option Operator
  | .add => some .Add
  | .sub => some .Sub
  | .mul => some .Mult
  | .fdiv => some .FloorDiv
  | .mod => some .Mod
  | _ => none
theorem pip_U {o : Opr} {op : Operator} (ho : augOp o = some op) : OpR X (inplaceOp op) (rAug G o) := by
  intro pins s0 σ0 H x y v u Q I rx ry ⟨Wx, W, s, σ, a, b, r, ha, hb, k⟩
  unfold opAug at k
  split at k
  · cases ho
    obtain rfl := ha.int
    obtain rfl := hb.int
    exact iop_add pins s0 σ0 H _ _ v u Q I rx ry ⟨_, _, rfl, rfl, tAt.fin k r (by show RepV G W H _ _; simp only [RepV])⟩
  · cases ho
    obtain rfl := ha.int
    obtain rfl := hb.int
    exact iop_sub pins s0 σ0 H _ _ v u Q I rx ry ⟨_, _, rfl, rfl, tAt.fin k r (by show RepV G W H _ _; simp only [RepV])⟩
  · split at k
    · rename_i hc
      cases ho
      obtain rfl := ha.int
      obtain rfl := hb.int
      refine iop_mul pins s0 σ0 H _ _ v u Q I rx ry ⟨_, _, rfl, rfl, .inl ?_, tAt.fin k r (by show RepV G W H _ _; simp only [RepV])⟩
      unfold two64 at hc
      omega
    · exact k.elim
  · split at k
    · rename_i hc
      cases ho
      obtain rfl := ha.int
      obtain rfl := hb.int
      exact iop_fdiv pins s0 σ0 H _ _ v u Q I rx ry ⟨_, _, rfl, rfl, hc, tAt.fin k r (by show RepV G W H _ _; simp only [RepV])⟩
    · exact k.elim
  · split at k
    · rename_i hc
      cases ho
      obtain rfl := ha.int
      obtain rfl := hb.int
      exact iop_mod pins s0 σ0 H _ _ v u Q I rx ry ⟨_, _, rfl, rfl, hc, tAt.fin k r (by show RepV G W H _ _; simp only [RepV])⟩
    · exact k.elim
  · split at k
    · rename_i hc
      cases ho
      obtain rfl := ha.str
      obtain rfl := hb.str
      refine iop_add_str pins s0 σ0 H _ _ v u Q I rx ry ⟨_, _, rfl, rfl, by rw [sOf_length, sOf_length]; exact le_line hc, ?_⟩
      rw [← sOf_append]
      exact tAt.fin k r (by show RepV G W H _ _; simp only [RepV])
    · exact k.elim
  · exact k.elim
end
end MP
set_option maxRecDepth 100000
set_option maxHeartbeats 1000000
/-! R1n: new objects. -/
namespace MP
open PySem PySem.Spec PyProof.Rows L2
section
variable {G : Nms} {Wx : WX} {g : Gst} {W W0 W1 : Wd} {s s0 s1 : Sta} {σ : L2.St} {H H0 H1 : Hp} {Q : VK} {u : U}
theorem Ext.none (a : Ext s s1 σ W W1 H H1) {x : Addr} (h1 : H1 x = Option.none) : H x = Option.none ∨ Ownd s σ x ∨ x ∈ W.al := by
  cases e : H x with
  | none => exact .inl rfl
  | some o =>
    by_cases h2 : x ∈ W.al
    · exact .inr (.inr h2)
    · by_cases h3 : Ownd s σ x
      · exact .inr (.inl h3)
      · have z := a.fr x o e h2 h3
        rw [h1] at z; cases z
/-- a new object, still one's own -/
def RN (G : Nms) (σ : L2.St) (W0 : Wd) (s0 : Sta) (H0 : Hp) : Wd → Sta → Hp → U → V → Prop := fun W s H u v => ∃ p, v = .ref p ∧ ¬ W.fz p ∧ p ∉ W.al ∧ ¬ Ownd s σ p ∧ (H0 p = none ∨ Ownd s0 σ p ∨ p ∈ W0.al) ∧ Cont G W H p u
def tN (G : Nms) (Wx : WX) (g : Gst) (m : ME) : TE := fun σ H Q => ∃ W s, RelFr G W s σ H ∧ tAt G Wx (newOf (evalE g m s)) W s σ H (RN G σ W s H) Q
def WantsN (G : Nms) (u : U) (W : Wd) (H : Hp) (Q : VK) : Prop := ∀ p o, H p = none → Cont G W (L2.upd H p o) p u → Q (.ref p) (L2.upd H p o)
theorem new_RV (r : RelFr G W s σ H) (k : tAt G Wx (.ok u s) W s σ H (RV G) Q) (hu : isLD u = true) : WantsN G u W H Q := fun p o hp c => by
  refine tAt.finO k r p hp ?_
  show RepV G (W.ice p) (L2.upd H p o) u (.ref p)
  have c' : Cont G (W.ice p) (L2.upd H p o) p u := c.mono Wd.le_ice (.refl W _) fun _ h => h
  cases u <;> first | cases hu | skip
  · simp only [Cont] at c'
    obtain ⟨vs, h1, h2⟩ := c'
    simp only [RepV]
    exact ⟨p, vs, rfl, .inr rfl, h1, h2⟩
  · simp only [RepV]
    refine ⟨p, rfl, .inr rfl, ?_⟩
    simpa only [Cont] using c'
theorem new_RN (e : Ext s0 s1 σ W0 W1 H0 H1) (r : RelFr G W1 s1 σ H1) (k : tAt G Wx (.ok u s1) W1 s1 σ H1 (RN G σ W0 s0 H0) Q) : WantsN G u W1 H1 Q := fun p o hp c => by
  refine k W1 _ _ (.upd hp) (r.upd hp) ⟨p, rfl, fun z => ?_, fun z => ?_, fun z => ?_, e.none hp, c⟩
  · obtain ⟨x, h⟩ := r.m.sm p z
    rw [hp] at h; cases h
  · obtain ⟨x, h⟩ := r.m.al_some z
    rw [hp] at h; cases h
  · obtain ⟨x, h⟩ := r.own_some z
    rw [hp] at h; cases h
def rN (G : Nms) (g : Gst) (o : Opr) (xs : List V) (H : Hp) (Q : VK) : Prop := ∃ W us u, Paired (fun u v => CRep G W H u v) us xs ∧ opSem g o us = some u ∧ isLD u = true ∧ WantsN G u W H Q
def rNH (G : Nms) (g : Gst) (o : Opr) (xs : List V) (H : Hp) (Q : VK) : Prop := ∃ W us u, RepVs G W H us xs ∧ opSem g o us = some u ∧ isLD u = true ∧ WantsN G u W H Q
theorem rA_N {o : Opr} (hn : ∀ us u, opSem g o us = some u → isLD u = true) {xs : List V} (h : rA G g o xs H Q) : rN G g o xs H Q := by
  obtain ⟨Wx, W, s, σ, us, u, r, c, e, k⟩ := h
  exact ⟨W, us, u, c, e, hn _ _ e, new_RV r k (hn _ _ e)⟩
theorem rH_N {o : Opr} (hn : ∀ us u, opSem g o us = some u → isLD u = true) {xs : List V} (h : rH G g o xs H Q) : rNH G g o xs H Q := by
  obtain ⟨Wx, W, s, σ, us, u, r, c, e, k⟩ := h
  exact ⟨W, us, u, c, e, hn _ _ e, new_RV r k (hn _ _ e)⟩
theorem tN_op {o : Opr} {ms : List ME} (ho : o.holds = false) (hm : o.meth = false) (h : tN G Wx g (.op o ms) σ H Q) : tArgs G Wx g ms σ H fun xs H' => rN G g o xs H' Q := by
  obtain ⟨W, s, r, h⟩ := h
  unfold evalE newOf at h
  rw [ho, hm] at h
  simp only [Bool.false_eq_true, if_false] at h
  refine ⟨W, s, r, ?_⟩
  cases ea : evalAs g ms s with
  | stuck => rw [ea] at h; exact h
  | exc x s' => rw [ea] at h; exact h
  | ok as s' =>
    rw [ea] at h
    intro W' H' b e1 r1 ra
    simp only [Rs.bind] at h
    by_cases hk : as.all (AV.ok s') = true
    · rw [if_pos hk] at h
      cases eo : opSem g o (as.map (AV.get s')) with
      | none => rw [eo] at h; exact h.elim
      | some u =>
        rw [eo] at h
        simp only at h
        by_cases hu : isLD u = true
        · rw [if_pos hu] at h
          exact ⟨W', _, u, creps_of r1 ra hk, eo, hu, new_RN e1 r1 (h.shift e1)⟩
        · rw [if_neg hu] at h; exact h.elim
    · rw [if_neg hk] at h; exact h.elim
theorem tN_opH {o : Opr} {ms : List ME} (ho : o.holds = true) (h : tN G Wx g (.op o ms) σ H Q) : tEs G Wx g ms σ H fun xs H' => rNH G g o xs H' Q := by
  obtain ⟨W, s, r, h⟩ := h
  unfold evalE newOf at h
  rw [ho] at h
  simp only [if_true] at h
  refine ⟨W, s, r, ?_⟩
  cases ea : evalEs g ms s with
  | stuck => rw [ea] at h; exact h
  | exc x s' => rw [ea] at h; exact h
  | ok as s' =>
    rw [ea] at h
    intro W' H' b e1 r1 ra
    simp only [Rs.bind] at h
    cases eo : opSem g o as with
    | none => rw [eo] at h; exact h.elim
    | some u =>
      rw [eo] at h
      simp only at h
      by_cases hu : isLD u = true
      · rw [if_pos hu] at h
        exact ⟨W', _, u, ra, eo, hu, new_RN e1 r1 (h.shift e1)⟩
      · rw [if_neg hu] at h; exact h.elim
end
end MP
set_option maxRecDepth 100000
set_option maxHeartbeats 1000000
/-! R1o: lists, tuples laid; ranges; sorted; once. -/
namespace MP
open PySem PySem.Spec PyProof.Rows L2
section
variable {G : Nms} {g : Gst} {X : Cx} {x y : V} {xs : List V} {H : Hp} {Q : VK}
theorem rN.one {o : Opr} (h : rN G g o [x] H Q) : ∃ W a u, CRep G W H a x ∧ opSem g o [a] = some u ∧ isLD u = true ∧ WantsN G u W H Q := by
  obtain ⟨W, us, u, c, e, hl, k⟩ := h
  cases c with | cons c t => cases t with | nil => exact ⟨W, _, u, c, e, hl, k⟩
theorem rN.two {o : Opr} (h : rN G g o [x, y] H Q) : ∃ W a b u, CRep G W H a x ∧ CRep G W H b y ∧ opSem g o [a, b] = some u ∧ isLD u = true ∧ WantsN G u W H Q := by
  obtain ⟨W, us, u, c, e, hl, k⟩ := h
  cases c with | cons c t => cases t with | cons d t => cases t with | nil => exact ⟨W, _, _, u, c, d, e, hl, k⟩
theorem WantsN.lst {W : Wd} {us : List U} {vs : List V} (k : WantsN G (.lst us) W H Q) (h : RepVs G W H us vs) (p : Addr) (hp : H p = none) : Q (.ref p) (L2.upd H p (HO.lst vs)) :=
  k p _ hp (cont_lst_of upd_same (RepVs.mono (.refl W) (kp_upd hp) _ h))

theorem tR_mono {α β : Type} {Wx : WX} {f : Sta → Rs α} {R : L2.St → Wd → Sta → Hp → α → β → Prop} {σ : L2.St} {H : Hp} {Q Q' : β → Hp → Prop} (h : tR G Wx f R σ H Q) (hq : ∀ b H', Q b H' → Q' b H') : tR G Wx f R σ H Q' := by
  obtain ⟨W, s, r, h⟩ := h
  exact ⟨W, s, r, h.imp fun a s' W' H' b _ _ _ _ k => hq b H' (k b (by assumption))⟩

/-! displays -/
variable {Wx : WX} {es : List Expr} {ms : List ME} {pos : Pos}
theorem okL_is {us : List U} {u : U} (e : okL us = some u) : u = .lst us ∧ us.length ≤ line := by
  unfold okL at e
  split at e
  · cases e; exact ⟨rfl, by assumption⟩
  · cases e
theorem okT_is {us : List U} {u : U} (e : okT us = some u) : u = .tup us ∧ us.length ≤ line := by
  unfold okT at e
  split at e
  · cases e; exact ⟨rfl, by assumption⟩
  · cases e
theorem lst_N (h : rNH G g .lst xs H Q) : xs.length ≤ sizeLine ∧ ∀ p, H p = none → Q (.ref p) (L2.upd H p (HO.lst xs)) := by
  obtain ⟨W, us, u, c, e, hl, k⟩ := h
  obtain ⟨rfl, hz⟩ := okL_is (show okL us = some u from e)
  exact ⟨by rw [← RepVs.length c]; exact le_line hz, fun p hp => k.lst c p hp⟩
theorem opLst_LD (us : List U) (u : U) (e : opSem g .lst us = some u) : isLD u = true := by
  obtain ⟨rfl, _⟩ := okL_is (show okL us = some u from e)
  rfl
theorem se_lst (h : PA X es (tEs G Wx g ms)) : PE X (.List es pos) (tE G Wx g (.op .lst ms)) :=
  PEi (pe_lst h) fun σ H Q q => tR_mono (tE_opH rfl q) fun xs H' h' => lst_N (rH_N opLst_LD h')
theorem sn_lst (h : PA X es (tEs G Wx g ms)) : PE X (.List es pos) (tN G Wx g (.op .lst ms)) :=
  PEi (pe_lst h) fun σ H Q q => tR_mono (tN_opH rfl q) fun xs H' h' => lst_N h'
theorem se_tup {z : Nat} (h : PA X es (tEs G Wx g ms)) : PE X (.Tuple es z pos) (tE G Wx g (.op .tup ms)) :=
  PEi (pe_tupX h) fun σ H Q q => tR_mono (tE_opH rfl q) fun xs H' h' => by
    obtain ⟨Wx, W, s, σ, us, u, r, c, e, k⟩ := h'
    exact ol_tup e c r k

/-! list(..), ranges -/
variable (O : Of G X)
include O
theorem sn_lstOf : CallR X (.type "list") (fun xs H Q => xs.length = 1 ∧ rN G g .lstOf xs H Q) := CallRi call_list_of fun xs H Q h => by
  obtain ⟨hl, h⟩ := h
  match xs, hl with
  | [x], _ =>
  obtain ⟨W, a, u, ha, e, _, k⟩ := h.one
  change opLstOf [a] = some u at e
  rw [O.K]
  unfold opLstOf at e
  split at e
  · rename_i us eq
    simp only [List.cons.injEq, and_true] at eq
    subst eq
    cases e
    obtain ⟨p, vs, rfl, h1, h2⟩ := ha.sq (us := us) rfl
    exact ⟨p, vs, rfl, h1, fun l hl => k.lst h2 l hl⟩
  · rename_i us eq
    simp only [List.cons.injEq, and_true] at eq
    subst eq
    cases e
    obtain ⟨p, vs, rfl, h1, h2⟩ := ha.sq (us := us) rfl
    exact ⟨p, vs, rfl, h1, fun l hl => k.lst h2 l hl⟩
  · cases e
omit O in
theorem opLstOf_LD (us : List U) (u : U) (e : opSem g .lstOf us = some u) : isLD u = true := by
  change opLstOf us = some u at e
  unfold opLstOf at e
  split at e <;> first | (cases e; rfl) | cases e
omit O in
theorem opLstR1_LD (us : List U) (u : U) (e : opSem g .lstR1 us = some u) : isLD u = true := by
  change opLstR1 us = some u at e
  unfold opLstR1 at e
  split at e
  · split at e <;> first | (cases e; rfl) | cases e
  · cases e
omit O in
theorem opLstR2_LD (us : List U) (u : U) (e : opSem g .lstR2 us = some u) : isLD u = true := by
  change opLstR2 us = some u at e
  unfold opLstR2 at e
  split at e
  · split at e <;> first | (cases e; rfl) | cases e
  · cases e
omit O in
theorem rg_ok {a b : Int} (ha : small a = true) (hb : small b = true) (h : (b - a).toNat ≤ line) : RgOk a b := by
  obtain ⟨a1, a2⟩ := small_of ha
  obtain ⟨b1, b2⟩ := small_of hb
  refine ⟨a1, a2, b1, b2, ?_⟩
  unfold line at h
  omega
omit O in
theorem sn_lstR1 (h : rN G g .lstR1 [x] H Q) : ∃ n, x = .int n ∧ RgOk 0 n ∧ ∀ q, H q = none → Q (.ref q) (L2.upd H q (HO.lst (rgV 0 n))) := by
  obtain ⟨W, a, u, ha, e, _, k⟩ := h.one
  change opLstR1 [a] = some u at e
  unfold opLstR1 at e
  split at e
  · rename_i n eq
    simp only [List.cons.injEq, and_true] at eq
    subst eq
    split at e
    · rename_i hh
      simp only [Bool.and_eq_true, decide_eq_true_eq] at hh
      cases e
      exact ⟨n, ha.int, rg_ok rfl hh.1 (by rw [Int.sub_zero]; exact hh.2), fun q hq => k.lst (rng_rep 0 n) q hq⟩
    · cases e
  · cases e
omit O in
theorem sn_lstR2 (h : rN G g .lstR2 [x, y] H Q) : ∃ i j, x = .int i ∧ y = .int j ∧ RgOk i j ∧ ∀ q, H q = none → Q (.ref q) (L2.upd H q (HO.lst (rgV i j))) := by
  obtain ⟨W, a, b, u, ha, hb, e, _, k⟩ := h.two
  change opLstR2 [a, b] = some u at e
  unfold opLstR2 at e
  split at e
  · rename_i i j eq
    simp only [List.cons.injEq, and_true] at eq
    obtain ⟨rfl, rfl⟩ := eq
    split at e
    · rename_i hh
      simp only [Bool.and_eq_true, decide_eq_true_eq] at hh
      cases e
      exact ⟨i, j, ha.int, hb.int, rg_ok hh.1.1 hh.1.2 hh.2, fun q hq => k.lst (rng_rep i j) q hq⟩
    · cases e
  · cases e
omit O in
theorem sa_tupR1 (h : rA G g .tupR1 [x] H Q) : ∃ n, x = .int n ∧ RgOk 0 n ∧ NewT (rgV 0 n) H Q := by
  obtain ⟨Wx, W, s, σ, a, u, r, ha, e, k⟩ := h.one
  change opTupR1 [a] = some u at e
  unfold opTupR1 at e
  split at e
  · rename_i n eq
    simp only [List.cons.injEq, and_true] at eq
    subst eq
    split at e
    · rename_i hh
      simp only [Bool.and_eq_true, decide_eq_true_eq] at hh
      cases e
      exact ⟨n, ha.int, rg_ok rfl hh.1 (by rw [Int.sub_zero]; exact hh.2), k.tup r (rng_rep 0 n)⟩
    · cases e
  · cases e
omit O in
theorem sa_tupR2 (h : rA G g .tupR2 [x, y] H Q) : ∃ i j, x = .int i ∧ y = .int j ∧ RgOk i j ∧ NewT (rgV i j) H Q := by
  obtain ⟨Wx, W, s, σ, a, b, u, r, ha, hb, e, k⟩ := h.two
  change opTupR2 [a, b] = some u at e
  unfold opTupR2 at e
  split at e
  · rename_i i j eq
    simp only [List.cons.injEq, and_true] at eq
    obtain ⟨rfl, rfl⟩ := eq
    split at e
    · rename_i hh
      simp only [Bool.and_eq_true, decide_eq_true_eq] at hh
      cases e
      exact ⟨i, j, ha.int, hb.int, rg_ok hh.1.1 hh.1.2 hh.2, k.tup r (rng_rep i j)⟩
    · cases e
  · cases e
/-- list * int, anew -/
theorem sn_mul : OpR X (binaryOp .Mult) (fun x y H Q => rN G g .mul [x, y] H Q) := OpRi op_rep fun x y H Q h => by
  obtain ⟨W, a, b, u, ha, hb, e, hu, k⟩ := h.two
  change opMul [a, b] = some u at e
  unfold opMul at e
  split at e
  · split at e
    · cases e; cases hu
    · cases e
  · split at e
    · cases e; cases hu
    · cases e
  · rename_i xs n eq
    simp only [List.cons.injEq, and_true] at eq
    obtain ⟨rfl, rfl⟩ := eq
    obtain ⟨p, vs, rfl, h1, h2⟩ := ha.lst
    split at e
    · rename_i h
      cases e
      have h := of_decide_eq_true h
      have l := RepVs.length h2
      exact ⟨p, n, vs, rfl, hb.int, h1, by omega, by omega, le_line (by rw [← l]; exact h.2.2), fun q hq => k.lst (RepVs.rep h2 _) q hq⟩
    · cases e
  · cases e

/-! sorted, once -/
omit O in
theorem insI_perm (x : Int) : ∀ ys, (insI x ys).Perm (x :: ys)
  | [] => by unfold insI; exact .refl _
  | y :: ys => by
    unfold insI
    split
    · exact .refl _
    · exact ((insI_perm x ys).cons y).trans (.swap x y ys)
omit O in
theorem sortI_perm : ∀ xs, (sortI xs).Perm xs
  | [] => by unfold sortI; exact .refl _
  | x :: xs => by unfold sortI; exact (insI_perm x _).trans ((sortI_perm xs).cons x)
omit O in
theorem insI_pw (x : Int) : ∀ {ys : List Int}, ys.Pairwise (· ≤ ·) → (insI x ys).Pairwise (· ≤ ·)
  | [], _ => by unfold insI; simp
  | y :: ys, h => by
    unfold insI
    rw [List.pairwise_cons] at h
    split
    · rename_i hxy
      rw [List.pairwise_cons, List.pairwise_cons]
      refine ⟨fun z hz => ?_, h⟩
      rcases List.mem_cons.mp hz with rfl | hz
      · exact hxy
      · exact Int.le_trans hxy (h.1 z hz)
    · rename_i hxy
      rw [List.pairwise_cons]
      refine ⟨fun z hz => ?_, insI_pw x h.2⟩
      rcases List.mem_cons.mp ((insI_perm x ys).mem_iff.mp hz) with rfl | hz
      · omega
      · exact h.1 z hz
omit O in
theorem sortI_pw : ∀ xs : List Int, (sortI xs).Pairwise (· ≤ ·)
  | [] => by unfold sortI; exact .nil
  | x :: xs => by unfold sortI; exact insI_pw x (sortI_pw xs)
omit O in
theorem sortI_only {xs ys : List Int} (hp : ys.Perm xs) (hs : ys.Pairwise (· ≤ ·)) : ys = sortI xs :=
  List.Perm.eq_of_pairwise (fun a b _ _ h1 h2 => by omega) hs (sortI_pw xs) (hp.trans (sortI_perm xs).symm)
end
end MP
set_option maxRecDepth 100000
set_option maxHeartbeats 1000000
/-! R1p: sorted over ints, in a list or a tuple. -/
namespace MP
open PySem PySem.Spec PyProof.Rows
section
variable {prog : Program} {w : World} {A : Around} {E : Value → Shared → Prop} {s : Shared}
/-- a tuple collected -/
theorem collect_tup {l : Addr} {vs : List Value} {Q : List Value → Shared → Prop} (hl : s.heap.IsTuple l vs.toArray)
    (h : Q vs { s with heap := (s.heap.push (seqObj "list" #[] 0)).update s.heap.objs.size (Obj.mapSeq (· ++ vs.toArray)) }) (hsz : vs.length ≤ sizeLine) :
    wpAny (model prog w) A (collect (.ref l)) Q E s := by
  obtain ⟨o, ho, hc, n, hd⟩ := id hl
  have ho' : (s.heap.push (seqObj "list" #[] 0)).get? l = some o := Heap.get?_push_of_some _ ho
  have hnew := Heap.get?_push_size s.heap (o := seqObj "list" #[] 0) rfl
  unfold collect
  refine wpAny_bind (wpAny_runValue (codeAny_builtin entry_proto_collect' ?_))
  show wpAny _ _ (do again (.builtin "list.__iadd__" ⟨[← newList [], .ref l], []⟩)) _ _ s
  refine wpAny_bind (wpAny_newList (wpAny_pure ⟨Code.quiet_builtin _ (by decide +kernel), codeAny_builtin entry_list_iadd' ?_⟩))
  show wpAny _ _ (Builtin.List.listExtendWith (.ref s.heap.objs.size) (.ref l) (.ref s.heap.objs.size)) _ _ { s with heap := s.heap.push (seqObj "list" #[] 0) }
  unfold Builtin.List.listExtendWith
  refine wpAny_bind (wpAny_typeOf (T := "tuple") ⟨o, ho', hc⟩ ?_)
  have ht : (Value.type "tuple" == Value.type "tuple") = true := by rfl
  rw [if_pos (by rw [ht]; simp)]
  refine wpAny_bind (listItems_at ho' hd ?_)
  refine wpAny_bind (listItems_at (xs := #[]) (n := 0) hnew rfl ?_)
  rw [if_neg (by simp)]
  refine wpAny_bind (listUpdate_at (xs := #[]) (n := 0) hnew rfl ?_ (Nat.zero_le _) (by show (#[] ++ vs.toArray).size ≤ sizeLine + 1; simp only [Array.size_append, List.size_toArray, List.length_nil]; omega))
  refine wpAny_pure ?_
  show wpAny (model prog w) A (do
      let o ← load s.heap.objs.size
      match o.data with
      | .seq xs _ => pure xs.toList
      | _ => unsupported "internal:collect") Q E { s with heap := (s.heap.push (seqObj "list" #[] 0)).update s.heap.objs.size (Obj.mapSeq (· ++ vs.toArray)) }
  refine wpAny_bind (wpAny_load (get?_update_seq hnew _) ?_)
  show wpAny _ _ (pure ((#[] : Array Value) ++ vs.toArray).toList) Q E _
  rw [show ((#[] : Array Value) ++ vs.toArray).toList = vs by simp]
  exact wpAny_pure h
open SrtO in
theorem sorted_tup {l : Addr} {vs : List Value} {ltv : Value → Value → Bool} {Q : Value → Shared → Prop} (O : Swo ltv) (hl : s.heap.IsTuple l vs.toArray) (hz : vs.length ≤ sizeLine)
    (hS : 2 ≤ vs.length → ∀ (h₁ : Heap) (a : Addr), h₁.get? a = some (seqObj "list" vs.toArray 0) → (∀ b o, s.heap.get? b = some o → b ≠ a ∧ h₁.get? b = some o) → SortableO prog w A.in1.in1 { s with heap := h₁ } a vs ltv)
    (h : ∀ out : List Value, Srtd ltv out → Stb ltv out vs → Q (.ref (s.heap.objs.size + 1)) { s with heap := sortedAll s.heap vs out.toArray }) :
    wpAny (model prog w) A (call (.builtin "sorted") [.ref l]) Q E s := by
  refine Calls.call_function_entry kind_sorted plain_sorted entry_sorted (args_sorted1 _) ?_
  unfold Builtin.«sorted»
  refine wpAny_bind (m := checkCount "sorted" 1 1 _) (wpAny_pure ?_)
  refine wpAny_bind (collect_tup hl ?_ hz)
  refine wpAny_bind (wpAny_newList ?_ hz)
  have hsz : ((s.heap.push (seqObj "list" #[] 0)).update s.heap.objs.size (Obj.mapSeq (· ++ vs.toArray))).objs.size = s.heap.objs.size + 1 := by
    rw [Heap.size_update, size_push']
  have hoL : (((s.heap.push (seqObj "list" #[] 0)).update s.heap.objs.size (Obj.mapSeq (· ++ vs.toArray))).push (seqObj "list" vs.toArray 0)).get? (s.heap.objs.size + 1) = some (seqObj "list" vs.toArray 0) := by
    rw [← hsz]; exact Heap.get?_push_size _ rfl
  have keep : ∀ b o, s.heap.get? b = some o → b ≠ s.heap.objs.size + 1 ∧ (((s.heap.push (seqObj "list" #[] 0)).update s.heap.objs.size (Obj.mapSeq (· ++ vs.toArray))).push (seqObj "list" vs.toArray 0)).get? b = some o := fun b o q => by
    have hlt : b < s.heap.objs.size := Heap.lt_size q
    refine ⟨Nat.ne_of_lt (Nat.lt_succ_of_lt hlt), Heap.get?_push_of_some _ ?_⟩
    rw [Heap.get?_update_ne _ _ _ _ (Nat.ne_of_lt hlt)]
    exact Heap.get?_push_of_some _ q
  show wpAny _ _ _ _ _ { s with heap := ((s.heap.push (seqObj "list" #[] 0)).update s.heap.objs.size (Obj.mapSeq (· ++ vs.toArray))).push (seqObj "list" vs.toArray 0) }
  rw [hsz]
  refine wpAny_bind (wpAny_holding (wpAny_call_entry slot_list_sort ⟨_, hoL, rfl⟩ entry_list_sort (list_sort_ord O hoL hz (fun h2 => hS h2 _ _ hoL keep) fun out hs hb => ⟨_, rfl, ?_⟩) (args_list_sort _)))
  exact wpAny_pure ⟨_, rfl, h out hs hb⟩
end
open L2
section
variable {G : Nms} {g : Gst} {X : Cx}
def rSortedTI (K : PySem.W.Frag) : List V → Hp → VK → Prop := fun vs H Q => ∃ (a : Addr) (ns : List Int), vs = [V.ref a] ∧ SqT K H a (ns.map V.int) ∧
  ∀ (ns' : List Int) (p : Addr), ns'.Perm ns → ns'.Pairwise (· ≤ ·) → H p = none → Q (.ref p) (L2.upd H p (HO.lst (ns'.map V.int)))
theorem cr_sortedTI : CallR X (.builtin "sorted") (rSortedTI X.K) := by
  intro pins s σ H vs us Q I r h
  obtain ⟨a, ns, rfl, hs, q⟩ := h
  obtain ⟨its, rv, hl, hz⟩ := I.tuple hs
  rw [Vals.ref1 r]
  have hi := rv.ints
  refine sorted_tup SrtO.swo_int (by obtain ⟨o, h1, h2, n, h3⟩ := hl; exact ⟨o, h1, h2, n, h3⟩) (by rw [← rv.length]; exact hz) (fun h2 h₁ a' _ _ => SrtO.ints_sortable hi h2) fun out h1 h2 => ?_
  obtain ⟨k1, k2, k3⟩ := SrtO.ints_out hi h1 h2
  obtain ⟨ep, he'⟩ := PyProof.Rows.sortedAll_at s.heap its out.toArray
  have hlen : ((out.map SrtO.iv).map V.int).length ≤ sizeLine := by
    rw [List.length_map, k2.length_eq]
    rw [List.length_map] at hz
    exact hz
  exact ⟨.ref _, L2.upd H (s.heap.objs.size + 1) (.lst ((out.map SrtO.iv).map V.int)), I.laid (t' := s.toks) (fun _ _ => PyProof.Rows.sortedAll_old) (Nat.le_succ _) ⟨hlen, out, ep, vals_of_ints k1, he'⟩, rfl, q _ _ k2 k3 (I.hok.fresh (Nat.le_succ _))⟩
theorem opSorted_LD (us : List U) (u : U) (e : opSem g .sorted us = some u) : isLD u = true := by
  change opSorted us = some u at e
  unfold opSorted at e
  split at e
  · rename_i us
    cases h : ints? us with
    | none => rw [h] at e; cases e
    | some is => rw [h] at e; cases e; rfl
  · rename_i us
    cases h : ints? us with
    | none => rw [h] at e; cases e
    | some is => rw [h] at e; cases e; rfl
  · cases e
theorem sn_sorted (O : Of G X) : CallR X (.builtin "sorted") (fun xs H Q => xs.length = 1 ∧ rN G g .sorted xs H Q) := CallRi (cr_sortedI.or cr_sortedTI) fun xs H Q h => by
  obtain ⟨hl, h⟩ := h
  match xs, hl with
  | [x], _ =>
  obtain ⟨W, a, u, ha, e, _, k⟩ := h.one
  change opSorted [a] = some u at e
  rw [O.K]
  unfold opSorted at e
  split at e
  · rename_i us eq
    simp only [List.cons.injEq, and_true] at eq
    subst eq
    cases hi : ints? us with
    | none => rw [hi] at e; cases e
    | some is =>
      rw [hi] at e
      cases e
      obtain rfl := ints_of hi
      obtain ⟨p, vs, rfl, h1, h2⟩ := ha.tup
      obtain rfl := ints_rep h2
      exact .inr ⟨p, is, rfl, TX.sq h1, fun ns' q hp hs hq => by rw [sortI_only hp hs]; exact k.lst (rep_ints _) q hq⟩
  · rename_i us eq
    simp only [List.cons.injEq, and_true] at eq
    subst eq
    cases hi : ints? us with
    | none => rw [hi] at e; cases e
    | some is =>
      rw [hi] at e
      cases e
      obtain rfl := ints_of hi
      obtain ⟨p, vs, rfl, h1, h2⟩ := ha.lst
      obtain rfl := ints_rep h2
      exact .inl ⟨p, is, rfl, SqL.of h1, fun ns' q hp hs hq => by rw [sortI_only hp hs]; exact k.lst (rep_ints _) q hq⟩
  · cases e
end
end MP
set_option maxRecDepth 100000
set_option maxHeartbeats 1000000
/-! R1q: isinstance; each once; in; index. -/
namespace MP
open PySem PySem.Spec PyProof.Rows L2
def tyNm : U → Option String
  | .non => some "NoneType"
  | .bl _ => some "bool"
  | .int _ => some "int"
  | .str _ => some "str"
  | .tup _ => some "tuple"
  | .lst _ => some "list"
  | .dic _ _ => some "dict"
  | _ => none
def kindNm : Nat → Option String
  | 0 => some "int"
  | 1 => some "bool"
  | 2 => some "tuple"
  | 3 => some "list"
  | 4 => some "str"
  | 5 => some "dict"
  | _ => none
abbrev baseT : List String := ["NoneType", "bool", "int", "str", "tuple", "list", "dict"]
abbrev kindT : List String := ["int", "bool", "tuple", "list", "str", "dict"]
def clsV (G : Nms) (t : Nat) : V := match kindNm t with
  | some n => .ty n
  | none => .ref (G.cA (t - 10))
/-- an own class, for isinstance of its instances -/
structure InsC (K : PySem.W.Frag) (D : Addr) : Prop where
  cl : Cls K D
  ha : PySem.W.findIn K (.ref D) "__class__" = some (some (.builtin "object.__class__"))
  hn : PySem.W.specialIn K (.builtin "object.__class__") "__get__" = some (some (.builtin "getset_descriptor.__get__"))
  ht : PySem.W.takesIn K (.builtin "object.__class__") = some true
  hm : PySem.W.mroIn K D (.type "object") = some true
/-- what isinstance answers here -/
structure KitOk (G : Nms) (g : Gst) (cs : List Nat) : Prop where
  own : ∀ c ∈ cs, ∀ t ∈ baseT, PySem.W.kitOne G.K (.type t) (.ref (G.cA c)) = some false
  exO : ∀ d ∈ g.excs, ∀ c ∈ cs, PySem.W.kitOne G.K (.ref (G.cA d)) (.ref (G.cA c)) = some (g.sub d c)
  exT : ∀ d ∈ g.excs, ∀ n ∈ kindT, PySem.W.kitOne G.K (.ref (G.cA d)) (.type n) = some false
  exC : ∀ d ∈ g.excs, ExcC G.K (G.cA d)
  obO : ∀ d ∈ g.objs, ∀ c ∈ cs, PySem.W.kitOne G.K (.ref (G.cA d)) (.ref (G.cA c)) = some (g.sub d c)
  obT : ∀ d ∈ g.objs, ∀ n ∈ kindT, PySem.W.kitOne G.K (.ref (G.cA d)) (.type n) = some false
  obC : ∀ d ∈ g.objs, InsC G.K (G.cA d)
  exM : ∀ d ∈ g.excs, ∀ c ∈ cs, c ∈ g.excs → PySem.W.exmOne G.K (.ref (G.cA d)) (.ref (G.cA c)) = some (g.sub d c)
theorem kit_base : ∀ t ∈ baseT, ∀ n ∈ kindT, kitB t n = some (t == n || (t == "bool" && n == "int")) := by decide +kernel
section
variable {G : Nms} {g : Gst} {X : Cx} {x y : V} {xs : List V} {H : Hp} {Q : VK} {W : Wd} {a : U}
theorem tyNm_mem {n : String} (h : tyNm a = some n) : n ∈ baseT := by
  cases a <;> simp only [tyNm, Option.some.injEq, reduceCtorEq] at h <;> subst h <;> decide
theorem kindNm_mem {t : Nat} {n : String} (h : kindNm t = some n) : n ∈ kindT ∧ t < 10 := by
  unfold kindNm at h
  split at h <;> first | (cases h; exact ⟨by decide, by omega⟩) | cases h
theorem kit_tyx {pins : List (Addr × Obj)} {σ0 : L2.St} {s : Shared} {u : Value} {n : String} (I : L2.Inv X pins σ0 H s) (rx : L2.RelV x u) (tx : TyX X.K H x (.type n)) : ∃ P : Heap → Prop, PySem.W.KitX X.K u (.type n) P ∧ P s.heap ∧ u ≠ .builtin "__main__.__loader__#opaque" :=
  let ⟨P, Z, p, hx⟩ := kit_of I rx tx; ⟨P, Z, p, hx⟩
theorem tyx_of {n : String} (h : CRep G W H a x) (e : tyNm a = some n) (hd : n ≠ "dict") : TyX G.K H x (.type n) := by
  cases a <;> simp only [tyNm, Option.some.injEq, reduceCtorEq] at e <;> subst e
  · obtain rfl := h.non; exact .base .non
  · obtain rfl := h.bl; exact .base (.bl _)
  · obtain rfl := h.int; exact .base (.int _)
  · obtain rfl := h.str; exact .base (.str _)
  · obtain ⟨p, vs, rfl, h1, _⟩ := h.tup; obtain ⟨o, h1, _⟩ := h1; exact .fTuple h1
  · obtain ⟨p, vs, rfl, h1, _⟩ := h.lst; exact .base (.lst h1)
  · exact absurd rfl hd
/-- the type of a value that isinstance is asked of -/
theorem kit_at (O : Of G X) {pins : List (Addr × Obj)} {σ0 : L2.St} {s : Shared} {u : Value} {n : String} (I : L2.Inv X pins σ0 H s) (rx : L2.RelV x u) (h : CRep G W H a x) (e : tyNm a = some n) : ∃ P : Heap → Prop, PySem.W.KitX X.K u (.type n) P ∧ P s.heap ∧ u ≠ .builtin "__main__.__loader__#opaque" := by
  by_cases hd : n = "dict"
  · subst hd
    cases a <;> simp only [tyNm, Option.some.injEq, reduceCtorEq] at e <;> first | (exact absurd e (by decide)) | skip
    rename_i ks vs
    have c : ∃ p, x = .ref p ∧ Cont G W H p (.dic ks vs) := by
      rcases h with h | h
      · simp only [RepV] at h
        obtain ⟨p, e, _, c⟩ := h
        exact ⟨p, e, by simpa only [Cont] using c⟩
      · exact h
    obtain ⟨p, rfl, c⟩ := c
    cases rx
    refine ⟨_, PySem.W.kitx_dict, ?_, fun z => nomatch z⟩
    simp only [Cont] at c
    rcases c with ⟨kvs, h1, _⟩ | ⟨ys, _, h1, _⟩
    · obtain ⟨_, _, vs, _, p⟩ := (show ObjOk X.prog X.w H s.heap p (.dK kvs) from I.hok p _ h1)
      obtain ⟨o, es, ep, h1, h2, _⟩ := p
      exact ⟨o, h1, h2.1⟩
    · have := (show ObjOk X.prog X.w H s.heap p (NO G.P G.w p ys) from I.hok p _ h1)
      obtain ⟨⟨_, o, es, ep, _, h3, _, h4, _⟩, _⟩ := this
      exact ⟨o, h3, h4.1⟩
  · have tx := tyx_of h e hd
    rw [← O.K] at tx
    exact kit_tyx I rx tx
theorem isK_kind {t : Nat} {n m : String} (h : tyNm a = some n) (hk : kindNm t = some m) : isT g a t = (n == m || (n == "bool" && m == "int")) := by
  have ht := (kindNm_mem hk).2
  unfold isT
  rw [if_pos ht]
  unfold kindNm at hk
  split at hk <;> first | cases hk | skip
  all_goals (cases a <;> simp only [tyNm, Option.some.injEq, reduceCtorEq] at h <;> subst h <;> rfl)
theorem isT_own {t : Nat} {n : String} (h : tyNm a = some n) (ht : 10 ≤ t) : isT g a t = false := by
  unfold isT
  rw [if_neg (by omega)]
  cases a <;> first | rfl | (simp only [tyNm, reduceCtorEq] at h)
/-- isinstance of an exception that is kept -/
theorem call_isX {D : Addr} (C : ExcC X.K D) : CallR X (.builtin "isinstance") (fun xs H Q => ∃ (a : Addr) (c : V) (cv : Value) (b : Bool), xs = [.ref a, c] ∧ H a = some (ExcO (.ref D) none a) ∧ (∀ u, RelV c u → u = cv) ∧ PySem.W.kitOne X.K (.ref D) cv = some b ∧ Q (.bl b) H) := by
  intro pins s σ H xs us Q I r h
  obtain ⟨a, c, cv, b, rfl, hH, hcv, e, q⟩ := h
  cases r with
  | cons rx rr =>
    cases rr with
    | cons rt rr =>
      cases rr
      cases rx
      have ec := hcv _ rt
      subst ec
      obtain ⟨⟨oe, vs, hget, hz, hv⟩, _, _⟩ := (show ObjOk X.prog X.w H s.heap a (ExcO (.ref D) none a) from I.hok a _ hH)
      have J : PySem.W.InstAt s.heap a oe D none := by
        obtain ⟨oc, od, oda, osl⟩ := oe
        obtain ⟨h1, h2⟩ := hz
        dsimp only at h1 h2 hv
        subst h1 h2 hv
        exact ⟨hget, rfl, rfl, trivial⟩
      exact PySem.W.kia_one (PySem.W.handS_kitx_exc C.hg C.hk C.hs C.hd C.ha C.hn C.ht C.hm) I.kIn J e (fun z => nomatch z) fun tk => ⟨.bl b, H, I.kept (t' := tk) fun _ _ z => z, rfl, q⟩
theorem clsV_ty {t : Nat} : ∃ cv, ClsV (clsV G t) cv := by
  unfold clsV
  split
  · exact ⟨_, .ty _⟩
  · exact ⟨_, .own _⟩
theorem clsV_val {t : Nat} {cv u : Value} (h : ClsV (clsV G t) cv) (r : RelV (clsV G t) u) : u = cv := h.eq r
/-- what isinstance asks of a value, of any classes -/
theorem kit_all (O : Of G X) {cs : List Nat} (KK : KitOk G g cs) {pins : List (Addr × Obj)} {σ0 : L2.St} {s : Shared} {u : Value} (I : L2.Inv X pins σ0 H s) (rx : L2.RelV x u) (ha : CRep G W H a x) (hok : isiOk g a = true) :
    ∃ (ty : Value) (P : Heap → Prop), PySem.W.KitX X.K u ty P ∧ P s.heap ∧ u ≠ .builtin "__main__.__loader__#opaque" ∧ ∀ t cv, (kindNm t = none → 10 ≤ t ∧ t - 10 ∈ cs) → ClsV (clsV G t) cv → PySem.W.kitOne X.K ty cv = some (isT g a t) := by
  cases hn : tyNm a with
  | some n =>
    obtain ⟨P, Z, p, hx⟩ := kit_at O I rx ha hn
    refine ⟨_, P, Z, p, hx, fun t cv ht hcv => ?_⟩
    cases hk : kindNm t with
    | some m =>
      have e1 : clsV G t = .ty m := by unfold clsV; rw [hk]
      rw [e1] at hcv
      cases hcv
      rw [isK_kind hn hk]
      exact kit_ty (kit_base n (tyNm_mem hn) m (kindNm_mem hk).1)
    | none =>
      obtain ⟨h10, hc⟩ := ht hk
      have e1 : clsV G t = .ref (G.cA (t - 10)) := by unfold clsV; rw [hk]
      rw [e1] at hcv
      cases hcv
      rw [isT_own hn h10, O.K]
      exact KK.own _ hc n (tyNm_mem hn)
  | none =>
    cases a with
    | exc d fs =>
      have hd : d ∈ g.excs := by
        have : g.excs.contains d = true := hok
        simpa using this
      rcases ha with ha | ⟨_, _, c⟩
      · simp only [RepV] at ha
        obtain ⟨p, rfl, _, _, hH⟩ := ha
        cases rx
        have C := KK.exC d hd
        rw [← O.K] at C
        obtain ⟨⟨oe, vs, hget, hz, hv⟩, _, _⟩ := (show ObjOk X.prog X.w H s.heap p (ExcO (.ref (G.cA d)) none p) from I.hok p _ hH)
        have J : PySem.W.InstAt s.heap p oe (G.cA d) none := by
          obtain ⟨oc, od, oda, osl⟩ := oe
          obtain ⟨h1, h2⟩ := hz
          dsimp only at h1 h2 hv
          subst h1 h2 hv
          exact ⟨hget, rfl, rfl, trivial⟩
        refine ⟨_, _, PySem.W.handS_kitx_exc C.hg C.hk C.hs C.hd C.ha C.hn C.ht C.hm, J, (fun z => nomatch z), fun t cv ht hcv => ?_⟩
        rw [O.K]
        cases hk : kindNm t with
        | some m =>
          have e1 : clsV G t = .ty m := by unfold clsV; rw [hk]
          rw [e1] at hcv
          cases hcv
          rw [KK.exT d hd m (kindNm_mem hk).1]
          have := (kindNm_mem hk).2
          unfold isT
          rw [if_pos this]
          unfold kindNm at hk
          split at hk <;> first | (cases hk; rfl) | cases hk
        | none =>
          obtain ⟨h10, hc⟩ := ht hk
          have e1 : clsV G t = .ref (G.cA (t - 10)) := by unfold clsV; rw [hk]
          rw [e1] at hcv
          cases hcv
          rw [KK.exO d hd _ hc]
          unfold isT
          rw [if_neg (by omega)]
      · simp only [Cont] at c
    | obj d fs =>
      have hd : d ∈ g.objs := by
        have : g.objs.contains d = true := hok
        simpa using this
      have hc : ∃ p dx fvs, x = .ref p ∧ H p = some (.ins (G.cA d) dx fvs) := by
        rcases ha with ha | ⟨p, rfl, c⟩
        · simp only [RepV] at ha
          obtain ⟨p, dx, fvs, rfl, _, h1, _⟩ := ha
          exact ⟨p, dx, fvs, rfl, h1⟩
        · simp only [Cont] at c
          obtain ⟨dx, fvs, h1, _⟩ := c
          exact ⟨p, dx, fvs, rfl, h1⟩
      obtain ⟨p, dx, fvs, rfl, h1⟩ := hc
      cases rx
      obtain ⟨mA, O1, _⟩ := ins_get I.hok h1
      obtain ⟨od, J, _⟩ := O1.look
      have C := KK.obC d hd
      rw [← O.K] at C
      refine ⟨_, _, PySem.W.kitx_own (C.cl.get _) C.cl.hd C.ha C.hn C.ht C.hm, J, (fun z => nomatch z), fun t cv ht hcv => ?_⟩
      rw [O.K]
      cases hk : kindNm t with
      | some m =>
        have e1 : clsV G t = .ty m := by unfold clsV; rw [hk]
        rw [e1] at hcv
        cases hcv
        rw [KK.obT d hd m (kindNm_mem hk).1]
        have := (kindNm_mem hk).2
        unfold isT
        rw [if_pos this]
        unfold kindNm at hk
        split at hk <;> first | (cases hk; rfl) | cases hk
      | none =>
        obtain ⟨h10, hc⟩ := ht hk
        have e1 : clsV G t = .ref (G.cA (t - 10)) := by unfold clsV; rw [hk]
        rw [e1] at hcv
        cases hcv
        rw [KK.obO d hd _ hc]
        unfold isT
        rw [if_neg (by omega)]
    | _ => first | (cases hn; done) | exact absurd hok (by simp [isiOk])
theorem so_isi (O : Of G X) {cs : List Nat} (KK : KitOk G g cs) {t : Nat} (ht : kindNm t = none → 10 ≤ t ∧ t - 10 ∈ cs) : CallR X (.builtin "isinstance") (fun xs H Q => ∃ x, xs = [x, clsV G t] ∧ rA G g (.isi [t]) [x] H Q) := by
  intro pins s0 σ0 H xs us Q I rr ⟨x, hx, h⟩
  obtain ⟨Wx, W, s, σ, a, u, r, ha, e, k⟩ := h.one
  have e0 : (if isiOk g a then some (U.bl ([t].any (isT g a))) else none) = some u := e
  split at e0
  · rename_i hok
    cases e0
    have k := k.bl r
    simp only [List.any_cons, List.any_nil, Bool.or_false] at k
    subst hx
    obtain ⟨u1, u2, rfl, r1, r2⟩ := vals2 rr
    obtain ⟨cv, hcv⟩ := clsV_ty (G := G) (t := t)
    cases clsV_val hcv r2
    obtain ⟨ty, P, Z, p, hx, hk⟩ := kit_all O KK I r1 ha hok
    exact PySem.W.kia_one Z I.kIn p (hk t _ ht hcv) hx fun tk => ⟨.bl (isT g a t), H, I.tok tk, rfl, k⟩
  · cases e0
/-- isinstance(x, (c, d)): the classes' tuple was just laid -/
theorem so_isi2 (O : Of G X) {cs : List Nat} (KK : KitOk G g cs) {t t' : Nat} (ht : kindNm t = none → 10 ≤ t ∧ t - 10 ∈ cs) (ht' : kindNm t' = none → 10 ≤ t' ∧ t' - 10 ∈ cs) : CallR X (.builtin "isinstance") (fun xs H Q => ∃ x tp H0, xs = [x, .ref tp] ∧ H0 tp = none ∧ H = L2.upd H0 tp (.tup [clsV G t, clsV G t']) ∧ rA G g (.isi [t, t']) [x] H0 Q) := by
  intro pins s0 σ0 H xs us Q I rr ⟨x, tp, H0, hx, hn, hH, h⟩
  subst hH
  obtain ⟨Wx, W, s, σ, a, u, r, ha, e, k⟩ := h.one
  have e0 : (if isiOk g a then some (U.bl ([t, t'].any (isT g a))) else none) = some u := e
  split at e0
  · rename_i hok
    cases e0
    have k := tAt.fin (tAt.shift (Ext.upd (o := .tup [clsV G t, clsV G t']) hn) k) (r.upd hn) (b := V.bl ([t, t'].any (isT g a))) (by simp only [RV, RepV])
    subst hx
    obtain ⟨u1, u2, rfl, r1, r2⟩ := vals2 rr
    cases (show u2 = Value.ref tp from r2)
    obtain ⟨cv, hcv⟩ := clsV_ty (G := G) (t := t)
    obtain ⟨cv', hcv'⟩ := clsV_ty (G := G) (t := t')
    have ha' : CRep G W (L2.upd H0 tp (.tup [clsV G t, clsV G t'])) a x := by
      rcases ha with ha | ⟨q, e, c⟩
      · exact .inl (RepV.mono (.refl W) (kp_upd hn) _ ha)
      · exact .inr ⟨q, e, c.mono (.refl W) (kp_upd hn) fun o ho => by rw [upd_ne (ne_of_none ho hn)]; exact ho⟩
    obtain ⟨ty, P, Z, p, hx, hk⟩ := kit_all O KK I r1 ha' hok
    obtain ⟨_, its, rv, o, h1, h2, n, h3⟩ := (show ObjOk X.prog X.w _ s0.heap tp (.tup [clsV G t, clsV G t']) from I.hok tp _ upd_same)
    have e3 := ClsV.all (.cons hcv (.cons hcv' .nil)) rv
    subst e3
    obtain ⟨oc, od, dt, sl⟩ := o
    simp only at h2 h3
    subst h2 h3
    refine PySem.W.kia_tup Z I.kIn p h1 (kitAny_cons (hk t _ ht hcv) (fun z => kitAny_cons (r := [t, t'].any (isT g a)) (hk t' _ ht' hcv') (fun z' => ?_) fun z' => ?_) fun z => ?_) hx fun tk => ⟨.bl ([t, t'].any (isT g a)), _, I.tok tk, rfl, k⟩
    · simp only [List.any_cons, List.any_nil, z, z']; rfl
    · simp [z']
    · simp [z]
  · cases e0
end
end MP
set_option maxRecDepth 100000
set_option maxHeartbeats 1000000
/-! R1r: each once; in; index. -/
namespace MP
open PySem PySem.Spec PyProof.Rows L2
section
variable {G : Nms} {g : Gst} {X : Cx} {x y : V} {xs : List V} {H : Hp} {Q : VK} {W : Wd} {a : U}
/-! len(set(xs)) -/
theorem met_fold (ns : List Int) : PyProof.Rows.firstMet (fun i => ns.getD i 0) ns.length = onceI ns := by
  unfold PyProof.Rows.firstMet onceI
  have : (List.range ns.length).map (fun i => ns.getD i 0) = ns := by
    apply List.ext_getElem?
    intro i
    rw [List.getElem?_map]
    by_cases h : i < ns.length
    · rw [List.getElem?_range h]
      simp [List.getD_eq_getElem?_getD, List.getElem?_eq_getElem h]
    · rw [List.getElem?_eq_none (by simpa using h), List.getElem?_eq_none (by simpa using h)]; rfl
  rw [this]
  rfl
def tOnce (K : PySem.W.Frag) (ta : TE) : TE := fun σ H Q => ta σ H fun x H1 => ∃ (l : Addr) (ns : List Int), x = .ref l ∧ SqL K H1 l (ns.map V.int) ∧ ns.length ≤ 4000 ∧ Q (.int ((onceI ns).length : Nat)) H1
theorem pe_once {e : Expr} {ta : TE} {p p2 q pos : Pos} (hg : Gl X "len") (hm : X.mg "len" = none) (hg2 : Gl X "set") (hm2 : X.mg "set" = none) (ha : PE X e ta) (hc : X.calm = true)
    (na : starEach [e] X.env = (false, eval e X.env) :: starEach [] X.env) : PE X (.Call (.Name "len" p) [.Call (.Name "set" p2) [e] [] q] [] pos) (tOnce X.K ta) := by
  refine ⟨fun pins s σ H Q I h => ?_⟩
  refine Call_ (ld_blt I hg hm boot_len ?_)
  refine PyProof.Rows.callWith_builtin1 (PyProof.Rows.args_cons ?_ rfl) rfl rfl
  refine Call_ (ld_blt I hg2 hm2 boot_set ?_)
  refine PyProof.Rows.callWith_type1 (PyProof.Rows.args_cons (thn (ha.run pins s σ H _ I h) fun v s1 ⟨x, H1, I1, r1, q1⟩ => PyProof.Rows.args_nil ?_) na) na rfl
  obtain ⟨l, ns, rfl, hq, hl, q1⟩ := q1
  cases r1
  obtain ⟨its, r, pl, hz⟩ := I1.list hq
  have hlen : its.toArray.size = ns.length := by rw [List.size_toArray, ← r.length, List.length_map]
  refine call_set_list (I1.ok.hd hc) pl.isList (by simpa using r.ints) (by rw [hlen]; unfold scanBound; omega) fun h' tk hS hk => ?_
  refine PyProof.Rows.args_nil ?_
  rw [hlen, met_fold] at hS
  have hb : (onceI ns).length ≤ ns.length := by rw [← met_fold]; exact PyProof.Rows.firstMet_length_le _ _
  obtain ⟨o, es, ep, t, ho, hex, hd, _, _, _, hf, hn⟩ := hS
  have I2 : Inv X pins σ H1 { s1 with heap := h', toks := tk } := I1.kept fun b o e => hk b o (Heap.lt_size e) e
  exact call_len_set ho hex hd hf (by rw [hn] <;> omega) ⟨.int (onceI ns).length, H1, I2.tok _, ⟨_, by rw [hn]⟩, q1⟩
theorem sa_once (O : Of G X) (h : rA G g .lenSet [x] H Q) : ∃ (l : Addr) (ns : List Int), x = .ref l ∧ SqL X.K H l (ns.map V.int) ∧ ns.length ≤ 4000 ∧ Q (.int ((onceI ns).length : Nat)) H := by
  obtain ⟨Wx, W, s, σ, a, u, r, ha, e, k⟩ := h.one
  change opLenSet [a] = some u at e
  unfold opLenSet at e
  split at e
  · rename_i us eq
    simp only [List.cons.injEq, and_true] at eq
    subst eq
    cases hi : ints? us with
    | none => rw [hi] at e; cases e
    | some is =>
      rw [hi] at e
      simp only [Option.bind_some] at e
      split at e
      · rename_i hl
        cases e
        obtain rfl := ints_of hi
        obtain ⟨p, vs, rfl, h1, h2⟩ := ha.lst
        obtain rfl := ints_rep h2
        exact ⟨p, is, rfl, SqL.of h1, hl, k.int r⟩
      · cases e
  · cases e

/-! in, not in, over lists -/
theorem mem_py (ha : deepU 7 a = true) : ∀ {us : List U}, deepUs 6 us = true → (pyUs us).any (fun z => PyData.eqv z (pyU a)) = memU a us
  | [], _ => by simp only [pyUs, memU, List.any_nil]
  | u :: us, h => by
    simp only [deepUs, Bool.and_eq_true] at h
    simp only [pyUs, memU, List.any_cons]
    rw [eqv_py 6 7 u a h.1 ha, mem_py ha h.2]
    rfl
theorem sz_lst {us : List U} (h : deepUs 6 us = true) : SeqAt.shaped (.list (pyUs us)) = true := shaped_py (u := .lst us) (n := 7) (by simpa only [deepU] using h) (by omega)
def rInU (G : Nms) (neg : Bool) : R2 := fun x y H Q => ∃ W a us, CRep G W H a x ∧ CRep G W H (.lst us) y ∧ a.plain = true ∧ plains us = true ∧ Q (.bl (if neg then !memU a us else memU a us)) H
theorem or_inL (O : Of G X) : OpR X (compareOp .In) (rInU G false) := OpRi (op_inD (Nat.lt_of_le_of_lt (by omega) O.un)) fun x y H Q ⟨W, a, us, ha, hu, p1, p2, k⟩ => by
  rw [O.K]
  refine ⟨pyU a, pyUs us, ha.dp p1, hu.dp (n := 7) (u := .lst us) (by simpa only [deepU] using p2), shaped_py p1 (by omega), sz_lst p2, ?_⟩
  rw [mem_py p1 p2]
  exact k
theorem or_notinL (O : Of G X) : OpR X (compareOp .NotIn) (rInU G true) := OpRi (op_notInD (Nat.lt_of_le_of_lt (by omega) O.un)) fun x y H Q ⟨W, a, us, ha, hu, p1, p2, k⟩ => by
  rw [O.K]
  refine ⟨pyU a, pyUs us, ha.dp p1, hu.dp (n := 7) (u := .lst us) (by simpa only [deepU] using p2), shaped_py p1 (by omega), sz_lst p2, ?_⟩
  rw [mem_py p1 p2]
  exact k
theorem so_in (O : Of G X) : OpR X (compareOp .In) (r2 G g .inn) := OpRi ((or_inL O).or (or_in O)) fun x y H Q h => by
  obtain ⟨Wx, W, s, σ, a, b, u, r, ha, hb, e, k⟩ := rA.two h
  change opInn [a, b] = some u at e
  unfold opInn at e
  split at e
  · rename_i a' us eq
    simp only [List.cons.injEq, and_true] at eq
    obtain ⟨rfl, rfl⟩ := eq
    split at e
    · rename_i hp
      simp only [Bool.and_eq_true] at hp
      cases e
      exact .inl ⟨W, a, us, ha, hb, hp.1, hp.2, k.bl r⟩
    · cases e
  · rename_i a' ks vs eq
    simp only [List.cons.injEq, and_true] at eq
    obtain ⟨rfl, rfl⟩ := eq
    split at e
    · rename_i hk
      cases e
      obtain ⟨p, rfl, c⟩ := hb.dic
      refine .inr ⟨W, a, ks, vs, hk, ?_, ⟨p, rfl, c⟩, k.bl r⟩
      rcases ha with ha | ⟨q, rfl, cq⟩
      · exact ha
      · exfalso
        rcases kOk_cases hk with ⟨kk, h1, _⟩ | ⟨us, rfl, _, _⟩
        · cases a <;> simp only [Cont] at cq <;> cases h1
        · simp only [Cont] at cq
    · cases e
  · cases e
theorem so_notin (O : Of G X) : OpR X (compareOp .NotIn) (r2 G g .notin) := OpRi ((or_notinL O).or (or_notin O)) fun x y H Q h => by
  obtain ⟨Wx, W, s, σ, a, b, u, r, ha, hb, e, k⟩ := rA.two h
  change opNotin [a, b] = some u at e
  unfold opNotin at e
  split at e
  · rename_i a' us eq
    simp only [List.cons.injEq, and_true] at eq
    obtain ⟨rfl, rfl⟩ := eq
    split at e
    · rename_i hp
      simp only [Bool.and_eq_true] at hp
      cases e
      exact .inl ⟨W, a, us, ha, hb, hp.1, hp.2, k.bl r⟩
    · cases e
  · rename_i a' ks vs eq
    simp only [List.cons.injEq, and_true] at eq
    obtain ⟨rfl, rfl⟩ := eq
    split at e
    · rename_i hk
      cases e
      obtain ⟨p, rfl, c⟩ := hb.dic
      refine .inr ⟨W, a, ks, vs, hk, ?_, ⟨p, rfl, c⟩, k.bl r⟩
      rcases ha with ha | ⟨q, rfl, cq⟩
      · exact ha
      · exfalso
        rcases kOk_cases hk with ⟨kk, h1, _⟩ | ⟨us, rfl, _, _⟩
        · cases a <;> simp only [Cont] at cq <;> cases h1
        · simp only [Cont] at cq
    · cases e
  · cases e

/-! index, of a list -/
theorem idx_py (ha : deepU 7 a = true) : ∀ {us : List U} {j : Nat}, deepUs 6 us = true → idxU a us = some j → ∃ z, (pyUs us)[j]? = some z ∧ PyData.eqv z (pyU a) = true ∧ ∀ (m : Nat) (z' : PyData), m < j → (pyUs us)[m]? = some z' → PyData.eqv z' (pyU a) = false
  | [], j, _, e => by cases e
  | u :: us, j, h, e => by
    simp only [deepUs, Bool.and_eq_true] at h
    have q := eqv_py 6 7 u a h.1 ha
    unfold idxU at e
    split at e
    · rename_i hq
      cases e
      refine ⟨pyU u, rfl, q.trans hq, fun m z' hm => absurd hm (Nat.not_lt_zero m)⟩
    · rename_i hq
      cases ei : idxU a us with
      | none => rw [ei] at e; cases e
      | some i =>
        rw [ei] at e
        cases e
        obtain ⟨z, h1, h2, h3⟩ := idx_py ha h.2 ei
        refine ⟨z, by simpa only [pyUs, List.getElem?_cons_succ] using h1, h2, fun m z' hm hz => ?_⟩
        cases m with
        | zero =>
          simp only [pyUs, List.getElem?_cons_zero, Option.some.injEq] at hz
          subst hz
          rw [q]
          simpa using hq
        | succ m =>
          simp only [pyUs, List.getElem?_cons_succ] at hz
          exact h3 m z' (Nat.lt_of_succ_lt_succ hm) hz
/-- t.index(x): the first place of an equal one, in a tuple -/
theorem mt_indexT (hu : X.A.units + 65 < cLine) : MtR X "tuple.index" (fun x xs H Q => ∃ (a : Addr) (y : V) (d : PyData) (ds : List PyData) (j : Nat) (z : PyData), x = V.ref a ∧ xs = [y] ∧ Dp X.K H (V.ref a) (.tuple ds) ∧ Dp X.K H y d ∧
    SeqAt.shaped (.tuple ds) = true ∧ SeqAt.shaped d = true ∧ ds[j]? = some z ∧ PyData.eqv z d = true ∧ (∀ (m : Nat) (z' : PyData), m < j → ds[m]? = some z' → PyData.eqv z' d = false) ∧ Q (.int (j : Nat)) H) := by
  intro pins s σ H x xs v us Q I rx rxs h
  obtain ⟨a, y, d, ds, j, z, rfl, rfl, hl, hy, sl, sd, hz, hzj, hno, q⟩ := h
  cases rx
  obtain ⟨uy, rfl, ry⟩ := Vals.one rxs
  obtain ⟨bs, r1⟩ := Dp.reads I d y uy hy ry
  have hxs : PyData.canLayAll0 ds = true := SeqAt.canLay_of_shaped sl
  have hroom : X.A.units + 1 + min (PyData.depthAll ds) d.depth < cLine := room_in_shaped sd hu
  cases hl with
  | tup hs ha =>
    obtain ⟨its, rv, ⟨⟨cls, dd, data, sls⟩, ho, hc, n, hdt⟩, hlen⟩ := I.tuple hs
    simp only at hc hdt
    subst hc hdt
    obtain ⟨as, h4⟩ := Dp.readsAll I ds _ its ha rv
    have hn : its.length = ds.length := SeqAt.ReadsAll.length ds its as h4
    have hmap : its.map (SeqAt.readOf s.heap) = ds := SeqAt.readsAll_map ds its as hxs h4
    obtain ⟨hjd, _⟩ := List.getElem?_eq_some_iff.mp hz
    have hj : j < its.toArray.size := by simp only [List.size_toArray]; omega
    have at_ : ∀ (m : Nat) (hm : m < its.toArray.size) (z' : PyData), ds[m]? = some z' → SeqAt.readOf s.heap its.toArray[m] = z' := by
      intro m hm z' hz'
      have hml : m < its.length := by simpa using hm
      rw [← hmap, List.getElem?_map, List.getElem?_eq_getElem hml] at hz'
      simpa using hz'
    refine call_meets PySem.F.slot_tuple_index ⟨_, ho, rfl⟩ PySem.F.entry_tuple_index (PySem.F.args_tuple_index_2 _ _)
      (TI.tuple_indexAt a its.toArray n dd sls uy (fun u => PyData.eqv (SeqAt.readOf s.heap u) d) j hj ?_ ?_) ⟨ho, SeqAt.items_eqAt (vs := its.toArray) (show ReadsAll s.heap its.toArray.toList ds as from h4) r1 hxs (SeqAt.canLay_of_shaped sd) hroom, ?_⟩
    · show PyData.eqv (SeqAt.readOf s.heap its.toArray[j]) d = true
      rw [at_ j hj z hz]
      exact hzj
    · intro m hm hmj
      have hmd : m < ds.length := by omega
      show PyData.eqv (SeqAt.readOf s.heap its.toArray[m]) d = false
      rw [at_ m hm _ (List.getElem?_eq_getElem hmd)]
      exact hno m _ hmj (List.getElem?_eq_getElem hmd)
    · exact ⟨.int (j : Nat), H, I.tok _, ⟨_, rfl⟩, q⟩
theorem op_index {us : List U} {b u : U} (e : opIndex [.lst us, b] = some u ∨ opIndex [.tup us, b] = some u) : b.plain = true ∧ plains us = true ∧ ∃ j, idxU b us = some j ∧ u = .int (j : Nat) := by
  have e : (if b.plain && plains us then (idxU b us).map fun k => U.int k else none) = some u := by rcases e with e | e <;> exact e
  split at e
  · rename_i hp
    simp only [Bool.and_eq_true] at hp
    cases ei : idxU b us with
    | none => rw [ei] at e; cases e
    | some j => rw [ei] at e; cases e; exact ⟨hp.1, hp.2, j, rfl, rfl⟩
  · cases e
/-- the method's rule, by values -/
theorem sm_index (O : Of G X) : MtR X "list.index" (fun x xs H Q => xs.length = 1 ∧ (∃ Wx W s σ us b u, RelFr G W s σ H ∧ CRep G W H (.lst us) x ∧ (∃ y, xs = [y] ∧ CRep G W H b y) ∧ opIndex [.lst us, b] = some u ∧ Wants G Wx u W s σ H Q)) := by
  intro pins s0 σ0 H x xs v us Q I rx rxs h
  obtain ⟨hl, Wx, W, s, σ, us', b, u, r, ha, ⟨y, rfl, hb⟩, e, k⟩ := h
  obtain ⟨p1, p2, j, ei, rfl⟩ := op_index (.inl e)
  obtain ⟨z, h1, h2, h3⟩ := idx_py p1 p2 ei
  have hd := ha.dp (n := 7) (u := .lst us') (by simpa only [deepU] using p2)
  obtain ⟨p, vs, rfl, _, _⟩ := ha.lst
  rw [← O.K] at hd
  have hy := hb.dp p1
  rw [← O.K] at hy
  exact mt_indexD (X := X) (Nat.lt_of_le_of_lt (by omega) O.un) pins s0 σ0 H _ _ v _ Q I rx rxs ⟨p, y, pyU b, pyUs us', j, z, rfl, rfl, hd, hy, sz_lst p2, shaped_py p1 (by omega), h1, h2, h3, k.int r⟩
theorem sm_indexT (O : Of G X) : MtR X "tuple.index" (fun x xs H Q => xs.length = 1 ∧ (∃ Wx W s σ us b u, RelFr G W s σ H ∧ CRep G W H (.tup us) x ∧ (∃ y, xs = [y] ∧ CRep G W H b y) ∧ opIndex [.tup us, b] = some u ∧ Wants G Wx u W s σ H Q)) := by
  intro pins s0 σ0 H x xs v us Q I rx rxs h
  obtain ⟨hl, Wx, W, s, σ, us', b, u, r, ha, ⟨y, rfl, hb⟩, e, k⟩ := h
  obtain ⟨p1, p2, j, ei, rfl⟩ := op_index (.inr e)
  obtain ⟨z, h1, h2, h3⟩ := idx_py p1 p2 ei
  have hd := ha.dp (n := 7) (u := .tup us') (by simpa only [deepU] using p2)
  obtain ⟨p, vs, rfl, _, _⟩ := ha.tup
  rw [← O.K] at hd
  have hy := hb.dp p1
  rw [← O.K] at hy
  exact mt_indexT (X := X) (Nat.lt_of_le_of_lt (by omega) O.un) pins s0 σ0 H _ _ v _ Q I rx rxs ⟨p, y, pyU b, pyUs us', j, z, rfl, rfl, hd, hy, shaped_py (n := 7) (u := .tup us') (by simpa only [deepU] using p2) (by omega), shaped_py p1 (by omega), h1, h2, h3, k.int r⟩
end
end MP
set_option maxRecDepth 100000
set_option maxHeartbeats 1000000
/-! R1s: fields of instances; slices; xs[::-1]. -/
namespace HT
open PySem PySem.Spec PyProof.Rows L2
section
variable {prog : Program} {w : World} {A : Around} {E : Value → Shared → Prop} {s : Shared}
theorem rev_adjust (n : Nat) : Builtin.Slice.sliceAdjust none none (-1) (n : Int) = ((n : Int) - 1, -1) := by
  unfold Builtin.Slice.sliceAdjust
  simp
theorem rev_places (n : Nat) : Builtin.Slice.slicePlaces ((n : Int) - 1) (-1) (-1) = n := by
  unfold Builtin.Slice.slicePlaces
  simp only [show ¬ ((-1 : Int) > 0) by omega, if_false, show (- -1 : Int) = 1 by decide, Int.ediv_one]
  split <;> omega
theorem fm_congr {α β : Type} {f g : α → Option β} : ∀ {l : List α}, (∀ x ∈ l, f x = g x) → l.filterMap f = l.filterMap g
  | [], _ => rfl
  | a :: l, h => by
    rw [List.filterMap_cons, List.filterMap_cons, h a List.mem_cons_self, fm_congr fun x hx => h x (List.mem_cons_of_mem _ hx)]
theorem rev_pick (xs : Array Value) : ((List.range xs.size).filterMap fun (m : Nat) => xs[(((xs.size : Int) - 1) + (m : Int) * (-1)).toNat]?).toArray = xs.toList.reverse.toArray := by
  congr 1
  have e : (List.range xs.size).filterMap (fun (m : Nat) => xs[(((xs.size : Int) - 1) + (m : Int) * (-1)).toNat]?) = ((List.range xs.size).map fun k => xs.size - 1 - k).filterMap (xs[·]?) := by
    rw [List.filterMap_map]
    refine fm_congr fun m hm => ?_
    have := List.mem_range.mp hm
    show _ = xs[xs.size - 1 - m]?
    congr 1
    omega
  rw [e, PySem.W.krv_range, List.filterMap_reverse, PySem.W.krv_all]
theorem sliceApplied_rev {sl : Addr} {vs : Value} {n : Nat} {Q : Int × Int × Nat → Shared → Prop} (hs : s.heap.IsSliceOf sl .none .none vs) (ps : IsPart vs (some (-1))) (h : Q ((n : Int) - 1, -1, n) s) :
    wpAny (model prog w) A (Builtin.Slice.sliceApplied (.ref sl) (pure (n : Int))) Q E s := by
  obtain ⟨os, hos, hcs, hds⟩ := id hs
  unfold Builtin.Slice.sliceApplied Builtin.Slice.sliceFields
  refine wpAny_bind (wpAny_bind (wpAny_field hos hds (x := .none) rfl (wpAny_bind (wpAny_field hos hds (x := .none) rfl (wpAny_bind (wpAny_field hos hds (x := vs) rfl (wpAny_pure ?_)))))))
  refine wpAny_bind (slicePart_ ps ?_)
  show wpAny _ _ (if ((-1 : Int) == 0) = true then _ else _) _ _ s
  rw [if_neg (by decide)]
  refine wpAny_bind (slicePart_none (wpAny_bind (slicePart_none (wpAny_bind (wpAny_pure ?_)))))
  show wpAny _ _ (match Builtin.Slice.sliceAdjust none none (-1) (n : Int) with | (lo, hi) => pure (lo, (-1 : Int), Builtin.Slice.slicePlaces lo hi (-1))) _ _ s
  rw [rev_adjust n]
  show wpAny _ _ (pure ((n : Int) - 1, (-1 : Int), Builtin.Slice.slicePlaces ((n : Int) - 1) (-1) (-1))) _ _ s
  rw [rev_places]
  exact wpAny_pure h
theorem getItem_tuple_rev {t sl : Addr} {items : Array Value} {vs : Value} {Q : Value → Shared → Prop} (ht : IsTup s.heap t items) (hs : s.heap.IsSliceOf sl .none .none vs) (ps : IsPart vs (some (-1)))
    (h : Q (.ref s.heap.objs.size) { s with heap := s.heap.push { cls := .type "tuple", data := .seq items.toList.reverse.toArray } })
    (hsz : items.size ≤ sizeLine) : wpAny (model prog w) A (getItem (.ref t) (.ref sl)) Q E s := by
  have htake : sizeOk (.seq items.toList.reverse.toArray) := by
    show (items.toList.reverse.toArray).size ≤ sizeLine
    rw [List.size_toArray, List.length_reverse, Array.length_toList]
    exact hsz
  obtain ⟨os, hos, hcs, hds⟩ := id hs
  have hTs : s.TypeIs (.ref sl) "slice" := ⟨os, hos, hcs⟩
  unfold getItem
  try with_reducible refine wpAny_holding ?_
  first | refine wpAny_bind (wpAny_pure ?_) | skip
  refine wpAny_bind (wpAny_sequenceKey ht.typeIs (by decide) ?_)
  refine wpAny_bind (wpAny_callSpecial?_slot (name := Str.ofString "__getitem__") ht.typeIs PyProof.Rows.slot_tuple_getitem
    (wpAny_call_entry PyProof.Rows.slot_tuple_getitem ht.typeIs entry_tuple_getitem ?_ (args_tuple_getitem _ _)))
  show wpAny _ _ (Builtin.Tuple.tupleItemsOf (.ref t) >>= _) _ _ s
  refine wpAny_bind (tupleItemsOf_ ht ?_)
  refine wpAny_bind (wpAny_typeOf hTs ?_)
  rw [if_pos (by decide)]
  refine wpAny_bind (sliceApplied_rev hs ps ?_)
  have hno : ¬ ((((items.size : Int) - 1) == 0 && (-1 : Int) == 1 && items.size == items.size) = true) := by simp
  show wpAny _ _ (if (((items.size : Int) - 1) == 0 && (-1 : Int) == 1 && items.size == items.size) = true then _ else _) _ _ s
  rw [if_neg hno, rev_pick]
  first
    | exact wpAny_bind (m := Builtin.Tuple.tupleExact _) (wpAny_newObj_type (wpAny_pure ⟨_, rfl, wpAny_pure h⟩) htake)
    | exact wpAny_bind (m := Builtin.Tuple.tupleExact _) (wpAny_newObj_type (wpAny_bind (wpAny_pure (wpAny_pure ⟨_, rfl, wpAny_pure h⟩))) htake)
    | exact wpAny_bind (wpAny_bind (m := Builtin.Tuple.tupleExact _) (wpAny_newObj_type (wpAny_pure (wpAny_pure ⟨_, rfl, wpAny_pure h⟩)) htake))
    | exact wpAny_bind (wpAny_bind (m := Builtin.Tuple.tupleExact _) (wpAny_newObj_type (wpAny_pure ⟨_, rfl, wpAny_pure h⟩) htake))
end
end HT
namespace MP
open PySem PySem.Spec PyProof.Rows L2
section
variable {X : Cx}
/-- xs[::-1], a list's or a tuple's -/
def rRev (K : PySem.W.Frag) (x : V) (H : Hp) (Q : VK) : Prop :=
  (∃ a xs, x = .ref a ∧ SqL K H a xs ∧ ∀ p, H p = none → Q (.ref p) (upd H p (.lst xs.reverse))) ∨ (∃ a xs, x = .ref a ∧ SqT K H a xs ∧ NewT xs.reverse H Q)
theorem pe_rev {e : Expr} {te : TE} {k : Nat} {p1 p2 p3 pos : Pos} (he : PE X e te) : PE X (.Subscript e (.Slice none none (some (.UnaryOp .USub (.Constant (.int 1) k p1) p2)) p3) pos) (fun σ H Q => te σ H fun x H1 => rRev X.K x H1 Q) := by
  refine ⟨fun pins s σ H Q I h => ?_⟩
  refine Subscript_ (thn (he.run pins s σ H _ I h) fun v s1 ⟨x, H1, I1, r1, q1⟩ => ?_)
  have hst : PO X (some (.UnaryOp .USub (.Constant (.int 1) k p1) p2)) (tPart (tUn (rU fun i => .int (-i)) (tC (.int 1)))) := po_some (pe_un un_neg pe_int)
  rcases q1 with ⟨a, xs, ex, hx, q⟩ | ⟨a, xs, ex, hx, q⟩
  all_goals
    subst ex
    cases r1
    refine wpAny_Slice (thn (po_none.run pins s1 σ H1 (fun o H2 => o = none ∧ H2 = H1) I1 ⟨rfl, rfl⟩) fun vl s2 ⟨l, H2, I2, pl, el, e2⟩ => ?_)
    subst el e2
    refine thn (po_none.run pins s2 σ H2 (fun o H3 => o = none ∧ H3 = H2) I2 ⟨rfl, rfl⟩) fun vu s3 ⟨u, H3, I3, pu, eu, e3⟩ => ?_
    subst eu e3
    refine thn (hst.run pins s3 σ H3 (fun o H4 => o = some (-1) ∧ H4 = H3) I3 ⟨1, rfl, -1, rfl, rfl, rfl⟩) fun vs s4 ⟨o, H4, I4, ps, eo, e4⟩ => ?_
    subst eo e4
    have I5 : Inv X pins σ H4 { s4 with heap := s4.heap.push { cls := .type "slice", data := .fields #[vl, vu, vs] } } := I4.kept (t' := s4.toks) fun b ob q => Heap.get?_push_of_some _ q
    show wpAny (model X.prog X.w) X.A (subscriptTail e (.Slice none none (some (.UnaryOp .USub (.Constant (.int 1) k p1) p2)) p3) (.ref a) (.ref s4.heap.objs.size)) (EP X pins σ Q) X.xe { s4 with heap := s4.heap.push { cls := .type "slice", data := .fields #[vl, vu, vs] } }
  · obtain ⟨its, r, ht, hz⟩ := I5.list hx
    have hlen := r.length
    refine tail_any (ops := [.ref a, .ref s4.heap.objs.size]) ht.isList.typeIs (PySem.slot_list_getitem.lookup) ?_ (by with_unfolding_all rfl)
    refine wpAny_getItem_list_slice ht.isList (Heap.IsSliceOf.new _ vl vu vs) pl pu ps (by decide) ?_ (by rw [List.size_toArray]; omega)
    rw [PySem.W.krv_pick]
    refine ⟨.ref _, _, I5.laid (t' := s4.toks) (o := .lst xs.reverse) (fun b ob q => Heap.get?_push_of_some _ q) (Nat.le_refl _) ?_, rfl, q _ (I5.hok.fresh (Nat.le_refl _))⟩
    exact ⟨by rw [List.length_reverse]; exact hz, _, 0, r.reverse, Heap.get?_push_size _ rfl⟩
  · obtain ⟨its, r, ht, hz⟩ := I5.tuple hx
    have hlen := r.length
    cases pl
    cases pu
    refine tail_any (ops := [.ref a, .ref s4.heap.objs.size]) ht.typeIs (PyProof.Rows.slot_tuple_getitem.lookup) ?_ (by with_unfolding_all rfl)
    refine HT.getItem_tuple_rev ht (Heap.IsSliceOf.new _ .none .none vs) ps ?_ (by rw [List.size_toArray]; omega)
    exact laidX I5 (by rw [List.length_reverse]; exact hz) r.reverse q
/-- xs[lo:hi]: a list's, a tuple's, a text's -/
def rSlX (K : PySem.W.Frag) : V → Option Int → Option Int → Hp → VK → Prop := fun x lo hi H Q => ∃ a xs, x = .ref a ∧ SqT K H a xs ∧
  (HT.sIx xs.length 0 lo = 0 ∧ HT.sIx xs.length xs.length hi = xs.length → Q (.ref a) H) ∧ (¬ (HT.sIx xs.length 0 lo = 0 ∧ HT.sIx xs.length xs.length hi = xs.length) → NewT (cutV xs lo hi) H Q)
theorem sl_tupX : SlR X (rSlX X.K) := by
  intro pins s σ H x v vl vu lo hi sl Q I rx hs pl pu h
  obtain ⟨a, xs, rfl, hx, q1, q2⟩ := h
  cases rx
  obtain ⟨its, r, ht, hz⟩ := I.tuple hx
  have hlen : its.toArray.size = xs.length := by rw [List.size_toArray]; exact r.length.symm
  refine ⟨"tuple", _, PyProof.Rows.slot_tuple_getitem.lookup, ht.typeIs, ?_⟩
  by_cases hw : HT.sIx xs.length 0 lo = 0 ∧ HT.sIx xs.length xs.length hi = xs.length
  · exact L2.getItem_tuple_whole ht hs pl pu (by rw [hlen]; exact hw) ⟨.ref a, H, I, rfl, q1 hw⟩
  · refine HT.getItem_tuple_cut ht hs pl pu (by rw [hlen]; exact hw) ?_ (by rw [hlen]; exact hz)
    rw [hlen]
    exact laidX I (Nat.le_trans (cutV_length xs lo hi) hz) ((r.drop (HT.sIx xs.length 0 lo)).take (HT.sIx xs.length xs.length hi - HT.sIx xs.length 0 lo)) (q2 hw)
end

/-- what the classes of instances have -/
structure ClassOk (G : Nms) (g : Gst) : Prop where
  attr : g.attr = G.at_
  nd : G.aL.Nodup
  few : G.aL.length ≤ 900
  lt : ∀ c n k, G.at_ c n = some k → n < G.aL.length
  inj : ∀ c n n' k, G.at_ c n = some k → G.at_ c n' = some k → n = n'
  cls : ∀ c n k, G.at_ c n = some k → Cls G.K (G.cA c)
  noa : ∀ c n k x, G.at_ c n = some k → G.aL[n]? = some x → NoAttr G.K (G.cA c) x
section
variable {G : Nms} {g : Gst} {W : Wd} {H : Hp} {Q : VK}
theorem RepFs.get : ∀ {us : List U} {ws : List (Option V)} {i : Nat} {u : U}, RepFs G W H us ws → us[i]? = some u → u ≠ .hole → ∃ v, ws[i]? = some (some v) ∧ RepV G W H u v
  | [], _, _, _, _, e, _ => by simp at e
  | u :: us, ws, 0, u', h, e, hn => by
    simp at e; subst e
    cases u <;> simp only [RepFs] at h <;> first
      | (exact absurd rfl hn)
      | (obtain ⟨v, r, rfl, h1, h2⟩ := h; exact ⟨v, rfl, h1⟩)
  | u :: us, ws, i + 1, u', h, e, hn => by
    have e' : us[i]? = some u' := by simpa using e
    cases u <;> simp only [RepFs] at h <;> first
      | (obtain ⟨v, r, rfl, h1, h2⟩ := h
         obtain ⟨w, q1, q2⟩ := RepFs.get h2 e' hn
         exact ⟨w, by simpa using q1, q2⟩)
      | (obtain ⟨r, rfl, h2⟩ := h
         obtain ⟨w, q1, q2⟩ := RepFs.get h2 e' hn
         exact ⟨w, by simpa using q1, q2⟩)
theorem CRep.obj {c : Nat} {fs : List U} {v : V} (h : CRep G W H (.obj c fs) v) : ∃ p dx fvs ws, v = .ref p ∧ H p = some (.ins (G.cA c) dx fvs) ∧ RepFs G W H fs ws ∧ FldOk G c fvs ws := by
  rcases h with h | ⟨p, e, h⟩
  · simp only [RepV] at h
    obtain ⟨p, dx, fvs, e, _, h1, ws, h2, h3⟩ := h
    exact ⟨p, dx, fvs, ws, e, h1, h2, h3⟩
  · simp only [Cont] at h
    obtain ⟨dx, fvs, h1, ws, h2, h3⟩ := h
    exact ⟨p, dx, fvs, ws, e, h1, h2, h3⟩
/-- what a field's reading asks -/
theorem sa_fld (O : ClassOk G g) {f : Nat} {x : Str} {v : V} (hx : G.aL[f]? = some x) (h : rA G g (.fld f) [v] H Q) : ∃ a C dx fs w, v = .ref a ∧ H a = some (.ins C dx fs) ∧ Cls G.K C ∧ NoAttr G.K C x ∧ fs.lookup x = some w ∧ Q w H := by
  obtain ⟨Wx, W, s, σ, a, u, r, ha, e, k⟩ := h.one
  have e : opFld g f [a] = some u := e
  cases a with
  | obj c fs =>
    have e : (match (g.attr c f).bind (fs[·]?) with | some .hole => none | r => r) = some u := e
    obtain ⟨p, dx, fvs, ws, rfl, h1, h2, h3⟩ := ha.obj
    cases hk : g.attr c f with
    | none => rw [hk] at e; simp at e
    | some n =>
      rw [hk] at e
      simp only [Option.bind_some] at e
      cases hf : fs[n]? with
      | none => rw [hf] at e; simp at e
      | some u' =>
        rw [hf] at e
        have hne : u' ≠ .hole := fun z => by rw [z] at e; simp at e
        have eu : u' = u := by
          cases u' <;> first | (exact absurd rfl hne) | (simpa using e)
        subst eu
        obtain ⟨w, q1, q2⟩ := RepFs.get h2 hf hne
        rw [O.attr] at hk
        obtain ⟨x', hx', hl⟩ := h3.at_ f n hk
        rw [hx] at hx'
        cases hx'
        rw [q1] at hl
        exact ⟨p, _, dx, fvs, w, rfl, h1, O.cls c f n hk, O.noa c f n x hk hx, hl, k.val r q2⟩
  | exc c fs =>
    have e : (g.attr c f).bind (fs[·]?) = some u := e
    rcases ha with ha | ⟨_, _, c⟩
    · simp only [RepV] at ha
      obtain ⟨p, rfl, _, rfl, _⟩ := ha
      cases hk : g.attr c f with
      | none => rw [hk] at e; simp at e
      | some n => rw [hk] at e; simp at e
    · simp only [Cont] at c
  | _ => simp [opFld] at e
end
end MP
set_option maxRecDepth 100000
set_option maxHeartbeats 1000000
/-! R1t: slices and turned sequences, by values. -/
namespace MP
open PySem PySem.Spec PyProof.Rows L2
theorem cut_eq {α : Type} (us : List α) (lo hi : Option Int) : cut us lo hi = (us.drop (HT.sIx us.length 0 lo)).take (HT.sIx us.length us.length hi - HT.sIx us.length 0 lo) := by
  unfold cut
  have key : ∀ (d : Nat) (i : Int), (if i < 0 then Max.max (i + (us.length : Int)) 0 else Min.min i (us.length : Int)).toNat = HT.sIx us.length d (some i) := fun d i => by
    have := HT.clip_eq i us.length d
    rw [this, Int.toNat_natCast]
  have h1 : (match lo with | some i => (if i < 0 then Max.max (i + (us.length : Int)) 0 else Min.min i (us.length : Int)) | none => 0).toNat = HT.sIx us.length 0 lo := by
    cases lo with
    | none => rfl
    | some i => exact key 0 i
  have h2 : (match hi with | some i => (if i < 0 then Max.max (i + (us.length : Int)) 0 else Min.min i (us.length : Int)) | none => (us.length : Int)).toNat = HT.sIx us.length us.length hi := by
    cases hi with
    | none => exact Int.toNat_natCast _
    | some i => exact key us.length i
  show (us.take (match hi with | some i => (if i < 0 then Max.max (i + (us.length : Int)) 0 else Min.min i (us.length : Int)) | none => (us.length : Int)).toNat).drop (match lo with | some i => (if i < 0 then Max.max (i + (us.length : Int)) 0 else Min.min i (us.length : Int)) | none => 0).toNat = _
  rw [h1, h2, List.drop_take]
theorem cut_whole {α : Type} (us : List α) (lo hi : Option Int) (h : HT.sIx us.length 0 lo = 0 ∧ HT.sIx us.length us.length hi = us.length) : cut us lo hi = us := by
  rw [cut_eq, h.1, h.2]
  simp
theorem cut_all {α : Type} (us : List α) : cut us none none = us := cut_whole us none none ⟨rfl, rfl⟩
section
variable {G : Nms} {g : Gst} {W : Wd} {H : Hp} {Q : VK} {X : Cx}
theorem RepVs.cut {us : List U} {vs : List V} (h : RepVs G W H us vs) (lo hi : Option Int) : RepVs G W H (MP.cut us lo hi) (cutV vs lo hi) := by
  rw [cut_eq]
  unfold cutV
  rw [RepVs.length h]
  exact (h.drop _).take _
theorem RepVs.reverse : ∀ {us : List U} {vs : List V}, RepVs G W H us vs → RepVs G W H us.reverse vs.reverse
  | [], _, h => by simp only [RepVs] at h; subst h; simp only [List.reverse_nil, RepVs]
  | u :: us, _, h => by
    simp only [RepVs] at h
    obtain ⟨v, r, rfl, h1, h2⟩ := h
    rw [List.reverse_cons, List.reverse_cons]
    exact RepVs.append (RepVs.reverse h2) (by simp only [RepVs]; exact ⟨v, [], rfl, h1, rfl⟩)
theorem sOf_cut (s : List Nat) (lo hi : Option Int) : sOf (MP.cut s lo hi) = cutS (sOf s) lo hi := by
  unfold sOf cutS
  rw [cut_eq]
  simp [Str.length]
/-- the reading of a slice of any kind -/
def rSlAll (K : PySem.W.Frag) : V → Option Int → Option Int → Hp → VK → Prop := fun x lo hi H Q => (rSlX K x lo hi H Q ∨ rSlL K x lo hi H Q) ∨ rSlS x lo hi H Q
theorem pe_slice2 {r : V → Option Int → Option Int → Hp → VK → Prop} {e lo hi : Expr} {te tl th : TE} {pos p2 : Pos} (hr : SlR X r) (he : PE X e te) (hl : PE X lo tl) (hu : PE X hi th) : PE X (.Subscript e (.Slice (some lo) (some hi) none p2) pos)
    (fun σ H Q => te σ H fun x H1 => tl σ H1 fun y H2 => th σ H2 fun z H3 => ∃ i j, y = .int i ∧ z = .int j ∧ r x (some i) (some j) H3 Q) := by
  refine ⟨fun pins s σ H Q I h => ?_⟩
  refine Subscript_ (thn (he.run pins s σ H _ I h) fun v s1 ⟨x, H1, I1, r1, q1⟩ => ?_)
  refine wpAny_Slice ?_
  rw [evalPart_some]
  refine thn (hl.run pins s1 σ H1 _ I1 q1) fun vl s2 ⟨y, H2, I2, ry, q2⟩ => ?_
  rw [evalPart_some]
  refine thn (hu.run pins s2 σ H2 _ I2 q2) fun vu s3 ⟨z, H3, I3, rz, i, j, hy, hz, q3⟩ => ?_
  subst hy hz
  obtain ⟨ti, rfl⟩ := ry
  obtain ⟨tj, rfl⟩ := rz
  rw [evalPart_none]
  refine wpAny_pure ?_
  have I4 : Inv X pins σ H3 { s3 with heap := s3.heap.push { cls := .type "slice", data := .fields #[.int i ti, .int j tj, .none] } } := I3.kept (t' := s3.toks) fun b ob q => Heap.get?_push_of_some _ q
  obtain ⟨T, id, hT, ht, hg⟩ := hr pins { s3 with heap := s3.heap.push { cls := .type "slice", data := .fields #[.int i ti, .int j tj, .none] } } σ H3 x v (.int i ti) (.int j tj) (some i) (some j) s3.heap.objs.size Q I4 r1 (Heap.IsSliceOf.new ..) (.int i ti) (.int j tj) q3
  show wpAny (model X.prog X.w) X.A (subscriptTail e (.Slice (some lo) (some hi) none p2) v (.ref s3.heap.objs.size)) (EP X pins σ Q) X.xe { s3 with heap := s3.heap.push { cls := .type "slice", data := .fields #[.int i ti, .int j tj, .none] } }
  exact tail_any (ops := [.ref s3.heap.objs.size, v]) ht hT hg (by with_unfolding_all rfl)
theorem sl_all : SlR X (rSlAll X.K) := (sl_tupX.or sl_list).or sl_str
theorem ol_slice {Wx : WX} {s : Sta} {σ : L2.St} {a u : U} {x : V} {lo hi : Option Int} (e : cutU a lo hi = some u) (ha : CRep G W H a x) (r : RelFr G W s σ H) (k : Wants G Wx u W s σ H Q) : rSlAll G.K x lo hi H Q := by
  cases a <;> simp only [cutU, reduceCtorEq] at e
  · split at e
    · rename_i hl
      cases e
      obtain rfl := ha.str
      refine .inr ⟨_, rfl, by rw [sOf_length]; exact le_line hl, ?_⟩
      exact k.val r (by simp only [RepV]; rw [sOf_cut])
    · cases e
  · cases e
    obtain ⟨p, vs, rfl, h1, h2⟩ := ha.tup
    refine .inl (.inl ⟨p, vs, rfl, TX.sq h1, fun hw => ?_, fun _ => k.tup r (h2.cut lo hi)⟩)
    rw [← RepVs.length h2] at hw
    rw [cut_whole _ _ _ hw] at k
    exact k.val r (by simp only [RepV]; exact ⟨p, vs, rfl, h1, h2⟩)
  · cases e
    obtain ⟨p, vs, rfl, h1, h2⟩ := ha.lst
    exact .inl (.inr ⟨p, vs, rfl, SqL.of h1, fun q hq => k.lst r (h2.cut lo hi) q hq⟩)
theorem sa_sl00 {x : V} (h : rA G g (.slice false false) [x] H Q) : rSlAll G.K x none none H Q := by
  obtain ⟨Wx, W, s, σ, a, u, r, ha, e, k⟩ := h.one
  exact ol_slice (show cutU a none none = some u from e) ha r k
theorem sa_sl10 {x y : V} (h : rA G g (.slice true false) [x, y] H Q) : ∃ i, y = .int i ∧ rSlAll G.K x (some i) none H Q := by
  obtain ⟨Wx, W, s, σ, a, b, u, r, ha, hb, e, k⟩ := h.two
  have e : opSlice true false [a, b] = some u := e
  cases b <;> simp only [opSlice, reduceCtorEq] at e
  exact ⟨_, hb.int, ol_slice e ha r k⟩
theorem sa_sl01 {x y : V} (h : rA G g (.slice false true) [x, y] H Q) : ∃ i, y = .int i ∧ rSlAll G.K x none (some i) H Q := by
  obtain ⟨Wx, W, s, σ, a, b, u, r, ha, hb, e, k⟩ := h.two
  have e : opSlice false true [a, b] = some u := e
  cases b <;> simp only [opSlice, reduceCtorEq] at e
  exact ⟨_, hb.int, ol_slice e ha r k⟩
theorem sa_sl11 {x y z : V} (h : rA G g (.slice true true) [x, y, z] H Q) : ∃ i j, y = .int i ∧ z = .int j ∧ rSlAll G.K x (some i) (some j) H Q := by
  obtain ⟨Wx, W, s, σ, a, b, c, u, r, ha, hb, hc, e, k⟩ := h.three
  have e : opSlice true true [a, b, c] = some u := e
  cases b <;> simp only [opSlice, reduceCtorEq] at e
  cases c <;> simp only [opSlice, reduceCtorEq] at e
  exact ⟨_, _, hb.int, hc.int, ol_slice e ha r k⟩
theorem sa_rev {x : V} (h : rA G g .rev [x] H Q) : rRev G.K x H Q := by
  obtain ⟨Wx, W, s, σ, a, u, r, ha, e, k⟩ := h.one
  have e : opRev [a] = some u := e
  cases a <;> simp only [opRev, Option.some.injEq, reduceCtorEq] at e
  · subst e
    obtain ⟨p, vs, rfl, h1, h2⟩ := ha.tup
    exact .inr ⟨p, vs, rfl, TX.sq h1, k.tup r h2.reverse⟩
  · subst e
    obtain ⟨p, vs, rfl, h1, h2⟩ := ha.lst
    exact .inl ⟨p, vs, rfl, SqL.of h1, fun q hq => k.lst r h2.reverse q hq⟩
end
end MP
set_option maxRecDepth 100000
set_option maxHeartbeats 1000000
/-! R2a: which expression of the program an operation is. -/
namespace MP
open PySem PySem.Spec PyProof.Rows L2

/-- what is known of the text's names -/
structure SC where
  N : List Str
  cls : List (Str × Nat)
  fn : List (Str × Nat)
  glo : List (Str × Nat × U)
  isi : List Nat
  /-- exceptions' classes -/
  exs : List (Str × Nat)
  /-- the own classes by name: the number of what makes an instance -/
  mks : List (Str × Nat)
  /-- methods' names -/
  mth : List (Str × Nat)
  /-- attributes' names -/
  att : List (Str × Nat)
  /-- defs that are called with a lambda -/
  lms : List (Str × Nat)
  /-- is slot 0 a lambda that was handed in? -/
  cv : Bool
  /-- the number of this def's table of code objects -/
  tid : Option Nat

def SC.noCv (C : SC) : SC := { C with cv := false }
def SC.inLam (C : SC) : SC := { C with cv := false, tid := none }
def glB (sc : Scope) (x : Str) : Bool := decide (sc.names.lookup x = some .globalImplicit) && !(x == ("__debug__" : Str))
def visB (sc : Scope) (x : Str) : Bool := match sc.names.lookup x with
  | some .local => true
  | some .cell => true
  | some .free => true
  | _ => false
def bnames : List String := ["len", "abs", "max", "min", "all", "any", "tuple", "list", "sorted", "set", "isinstance", "range", "enumerate", "zip", "reversed", "int", "bool", "str", "dict", "KeyError", "ValueError"]
/-- the builtin of that name -/
def isB (sc : Scope) (x : Str) (n : String) : Bool := x == Str.ofString n && glB sc x
def notStar : Expr → Bool
  | .Starred _ _ => false
  | _ => true
def plainIx : Expr → Bool
  | .Slice _ _ _ _ => false
  | _ => true
def notBare : Expr → Bool
  | .Call _ _ _ _ => false
  | _ => true
def isNone : Expr → Bool
  | .Constant .none _ _ => true
  | _ => false

def binOf : Opr → Option Operator
  | .add => some .Add
  | .sub => some .Sub
  | .mul => some .Mult
  | .fdiv => some .FloorDiv
  | .mod => some .Mod
  | .pow => some .Pow
  | _ => none
def cmpOf : Opr → Option CmpOp
  | .eq => some .Eq
  | .ne => some .NotEq
  | .lt => some .Lt
  | .le => some .LtE
  | .gt => some .Gt
  | .ge => some .GtE
  | .inn => some .In
  | .notin => some .NotIn
  | _ => none
/-- a builtin, called with one, with two arguments -/
def funOf : Opr → Option (String × Nat)
  | .len => some ("len", 1)
  | .abs => some ("abs", 1)
  | .max1 => some ("max", 1)
  | .all => some ("all", 1)
  | .any => some ("any", 1)
  | .sorted => some ("sorted", 1)
  | .tupOf => some ("tuple", 1)
  | .lstOf => some ("list", 1)
  | .max2 => some ("max", 2)
  | .min2 => some ("min", 2)
  | _ => none
/-- list(range(..)), tuple(range(..)), len(set(..)) -/
def nestOf : Opr → Option (String × String × Nat)
  | .lstR1 => some ("list", "range", 1)
  | .lstR2 => some ("list", "range", 2)
  | .tupR1 => some ("tuple", "range", 1)
  | .tupR2 => some ("tuple", "range", 2)
  | .lenSet => some ("len", "set", 1)
  | _ => none
def clsOk (C : SC) (sc : Scope) (t : Nat) : Expr → Bool
  | .Name x _ => glB sc x && (match kindNm t with
    | some n => x == Str.ofString n
    | none => decide (10 ≤ t) && C.isi.contains (t - 10) && decide (C.cls.lookup x = some (t - 10)))
  | _ => false
def callArgs (C : SC) (sc : Scope) (o : Opr) (x : Str) (es : List Expr) : Option (List Expr) :=
  match o with
  | .isi ts => match ts, es with
    | [t], [a, c] => if isB sc x "isinstance" && clsOk C sc t c && notStar a then some [a] else none
    | [t, t'], [a, .Tuple [c, d] _ _] => if isB sc x "isinstance" && clsOk C sc t c && clsOk C sc t' d && notStar a then some [a] else none
    | _, _ => none
  | _ => match funOf o with
    | some (n, k) => if isB sc x n && es.length == k && es.all notStar then some es else none
    | none => match nestOf o with
      | some (n, m, k) => match es with
        | [.Call (.Name y _) bs [] _] => if isB sc x n && isB sc y m && bs.length == k && bs.all notStar then some bs else none
        | _ => none
      | none => none
/-- a slice -/
def sliceArgs (o : Opr) (a b : Expr) : Option (List Expr) := match b with
  | .Slice none none none _ => if o = .slice false false then some [a] else none
  | .Slice (some l) none none _ => if o = .slice true false then some [a, l] else none
  | .Slice none (some h) none _ => if o = .slice false true then some [a, h] else none
  | .Slice (some l) (some h) none _ => if o = .slice true true then some [a, l, h] else none
  | .Slice none none (some (.UnaryOp .USub (.Constant (.int 1) _ _) _)) _ => if o = .rev then some [a] else none
  | _ => none
/-- the operation's arguments in the text -/
def opArgs (C : SC) (sc : Scope) (o : Opr) (e : Expr) : Option (List Expr) :=
  match e with
  | .BinOp a op b _ => if decide (binOf o = some op) then some [a, b] else none
  | .UnaryOp op a _ => if decide (op = .USub) && decide (o = .neg) then some [a] else none
  | .Compare a ops bs _ => match ops, bs with
    | [op], [b] => if decide (cmpOf o = some op) && !behindInMarks op b then some [a, b] else if decide (op = .Is) && decide (o = .isN) && isNone b then some [a] else none
    | _, _ => none
  | .Subscript a b _ => if decide (o = .ix) && plainIx b then some [a, b] else sliceArgs o a b
  | .Tuple es _ _ => if decide (o = .tup) then some es else none
  | .List es _ => if decide (o = .lst) then some es else none
  | .Call f es kws cpos => match f, kws with
    | .Name x _, [] => callArgs C sc o x es
    | .Attribute r name apos, [] => if decide (o = .index) && name == ("index" : Str) && notBare r && (apos.endLine == cpos.line) then (match es with
      | [a] => if notStar a then some [r, a] else none
      | _ => none) else none
    | _, _ => none
  | .Attribute r x _ => (match o with
    | .fld f => if decide (C.att.lookup x = some f) && notBare r then some [r] else none
    | _ => none)
  | _ => none
end MP
set_option maxRecDepth 100000
set_option maxHeartbeats 1000000
/-! R2b: operations in the text do what they say. -/
namespace MP
open PySem PySem.Spec PyProof.Rows L2

/-- what is true of the module -/
structure St0 (C : SC) (G : Nms) (g : Gst) (mg : Str → Option Value) : Prop where
  nd : C.N.Nodup
  kit : KitOk G g C.isi
  nob : ∀ n ∈ bnames, mg (Str.ofString n) = none
  cls : ∀ x c, C.cls.lookup x = some c → mg x = some (.ref (G.cA c))
  co : ClassOk G g
  att : ∀ x n, C.att.lookup x = some n → G.aL[n]? = some x
  mno : ∀ x n, C.mth.lookup x = some n → x ∉ G.aL
  glo : ∀ x n u, (x, n, u) ∈ C.glo → ∃ v w, mg x = some w ∧ RelV v w ∧ ∀ W H, RepV G W H u v
theorem St0.noCv {C : SC} {G : Nms} {g : Gst} {mg : Str → Option Value} (h : St0 C G g mg) : St0 C.noCv G g mg := ⟨h.nd, h.kit, h.nob, h.cls, h.co, h.att, h.mno, h.glo⟩
theorem St0.inLam {C : SC} {G : Nms} {g : Gst} {mg : Str → Option Value} (h : St0 C G g mg) : St0 C.inLam G g mg := ⟨h.nd, h.kit, h.nob, h.cls, h.co, h.att, h.mno, h.glo⟩
/-- the context -/
structure Good (C : SC) (G : Nms) (g : Gst) (X : Cx) (sc : Scope) : Prop where
  s0 : St0 C G g X.mg
  of : Of G X
  N : X.N = C.N
  scp : X.env.scope = sc
  calm : X.calm = true

section
variable {C : SC} {G : Nms} {g : Gst} {X : Cx} {sc : Scope} {Wx : WX} {σ : L2.St} {H : Hp}
theorem glB_gl (D : Good C G g X sc) {x : Str} (h : glB sc x = true) : Gl X x ∧ (x == ("__debug__" : Str)) = false := by
  unfold glB at h
  simp only [Bool.and_eq_true, decide_eq_true_eq, Bool.not_eq_true'] at h
  refine ⟨?_, h.2⟩
  show X.env.kindOf x = _
  unfold Env.kindOf
  rw [D.scp]
  exact h.1
theorem isB_is (D : Good C G g X sc) {x : Str} {n : String} (hn : n ∈ bnames) (h : isB sc x n = true) : x = Str.ofString n ∧ Gl X x ∧ X.mg x = none ∧ (x == ("__debug__" : Str)) = false := by
  unfold isB at h
  simp only [Bool.and_eq_true, beq_iff_eq] at h
  obtain ⟨h1, h2⟩ := glB_gl D h.2
  exact ⟨h.1, h1, by rw [h.1]; exact D.s0.nob n hn, h2⟩
theorem star1 {e : Expr} {es : List Expr} {env : Env} (h : notStar e = true) : starEach (e :: es) env = (false, eval e env) :: starEach es env := by
  cases e <;> first | rfl | cases h
theorem two_args {m1 m2 : ME} {Q : List V → Hp → Prop} (h : tArgs G Wx g [m1, m2] σ H Q) : tArg G Wx g m1 σ H fun x H1 => tArg G Wx g m2 σ H1 fun y H2 => Q [x, y] H2 :=
  tR_mono (tArgs_cons h) fun x H1 h1 => tR_mono (tArgs_cons h1) fun y H2 h2 => tArgs_nil h2
theorem one_arg' {m1 : ME} {Q : List V → Hp → Prop} (h : tArgs G Wx g [m1] σ H Q) : tArg G Wx g m1 σ H fun x H1 => Q [x] H1 :=
  tR_mono (tArgs_cons h) fun x H1 h1 => tArgs_nil h1
abbrev PX (G : Nms) (Wx : WX) (g : Gst) (X : Cx) (m : ME) (e : Expr) : Prop := PE X e (tArg G Wx g m)
theorem pa_nil' : PA X [] (tArgs G Wx g []) := PAi pa_nil fun σ H Q h => tArgs_nil h
theorem pa_of : ∀ {ms : List ME} {es : List Expr}, Paired (PX G Wx g X) ms es → es.all notStar = true → PA X es (tArgs G Wx g ms)
  | [], [], _, _ => pa_nil'
  | m :: ms, e :: es, h, hs => by
    simp only [List.all_cons, Bool.and_eq_true] at hs
    cases h with | cons h t => exact PAi (pa_cons h (pa_of t hs.2) (star1 hs.1)) fun σ H Q q => tArgs_cons q
  | [], _ :: _, h, _ => by cases h
  | _ :: _, [], h, _ => by cases h
theorem paE_of : ∀ {ms : List ME} {es : List Expr}, Paired (fun m e => PE X e (tE G Wx g m)) ms es → es.all notStar = true → PA X es (tEs G Wx g ms)
  | [], [], _, _ => PAi pa_nil fun σ H Q h => tEs_nil h
  | m :: ms, e :: es, h, hs => by
    simp only [List.all_cons, Bool.and_eq_true] at hs
    cases h with | cons h t => exact PAi (pa_cons h (paE_of t hs.2) (star1 hs.1)) fun σ H Q q => tEs_cons q
  | [], _ :: _, h, _ => by cases h
  | _ :: _, [], h, _ => by cases h

theorem so_bin (O : Of G X) {o : Opr} {op : Operator} (h : binOf o = some op) : OpR X (binaryOp op) (r2 G g o) := by
  cases o <;> simp only [binOf, Option.some.injEq, reduceCtorEq] at h <;> subst h
  · exact so_add O
  · exact so_sub O
  · exact so_mul O
  · exact so_fdiv O
  · exact so_mod O
  · exact so_pow O
theorem so_cmp (O : Of G X) {o : Opr} {op : CmpOp} (h : cmpOf o = some op) : OpR X (compareOp op) (r2 G g o) := by
  cases o <;> simp only [cmpOf, Option.some.injEq, reduceCtorEq] at h <;> subst h
  · exact so_eq O
  · exact so_ne O
  · exact so_lt O
  · exact so_le O
  · exact so_gt O
  · exact so_ge O
  · exact so_in O
  · exact so_notin O
theorem bin_free {o : Opr} {op : Operator} (h : binOf o = some op) : o.holds = false ∧ o.meth = false := by cases o <;> first | exact ⟨rfl, rfl⟩ | cases h
theorem cmp_free {o : Opr} {op : CmpOp} (h : cmpOf o = some op) : o.holds = false ∧ o.meth = false := by cases o <;> first | exact ⟨rfl, rfl⟩ | cases h
theorem se_bin (O : Of G X) {o : Opr} {op : Operator} {a b : Expr} {pos : Pos} {m1 m2 : ME} (h : binOf o = some op) (ha : PX G Wx g X m1 a) (hb : PX G Wx g X m2 b) : PE X (.BinOp a op b pos) (tE G Wx g (.op o [m1, m2])) :=
  PEi (pe_op (so_bin O h) ha hb) fun σ H Q q => two_args (tE_op (bin_free h).1 (bin_free h).2 q)
theorem sn_mulE (O : Of G X) {a b : Expr} {pos : Pos} {m1 m2 : ME} (ha : PX G Wx g X m1 a) (hb : PX G Wx g X m2 b) : PE X (.BinOp a .Mult b pos) (tN G Wx g (.op .mul [m1, m2])) :=
  PEi (pe_op (sn_mul O) ha hb) fun σ H Q q => two_args (tN_op rfl rfl q)
theorem se_neg (O : Of G X) {a : Expr} {pos : Pos} {m1 : ME} (ha : PX G Wx g X m1 a) : PE X (.UnaryOp .USub a pos) (tE G Wx g (.op .neg [m1])) :=
  PEi (pe_un (so_neg O) ha) fun σ H Q q => one_arg' (tE_op rfl rfl q)
theorem se_cmp (O : Of G X) {o : Opr} {op : CmpOp} {a b : Expr} {pos : Pos} {m1 m2 : ME} (h : cmpOf o = some op) (hm : behindInMarks op b = false) (ha : PX G Wx g X m1 a) (hb : PX G Wx g X m2 b) : PE X (.Compare a [op] [b] pos) (tE G Wx g (.op o [m1, m2])) :=
  PEi (pe_cmpR (so_cmp O h) ha hb hm) fun σ H Q q => two_args (tE_op (cmp_free h).1 (cmp_free h).2 q)
theorem se_ix (O : Of G X) {a b : Expr} {pos : Pos} {m1 m2 : ME} (hp : plainIx b = true) (ha : PX G Wx g X m1 a) (hb : PX G Wx g X m2 b) : PE X (.Subscript a b pos) (tE G Wx g (.op .ix [m1, m2])) :=
  PEi (pe_ix (so_ix O) ha hb (by intro o i; cases b <;> first | rfl | cases hp)) fun σ H Q q => two_args (tE_op rfl rfl q)
theorem so_isN : OpR X (compareOp .Is) (fun x y H Q => y = .non ∧ rA G g .isN [x] H Q) := OpRi op_isN fun x y H Q ⟨hy, h⟩ => by
  obtain ⟨Wx, W, s, σ, a, u, r, ha, e, k⟩ := rA.one h
  refine ⟨hy, ?_⟩
  cases e
  have k := k.bl r
  cases a with
  | non => obtain rfl := ha.non; exact k
  | bl b => obtain rfl := ha.bl; exact k
  | int b => obtain rfl := ha.int; exact k
  | str b => obtain rfl := ha.str; exact k
  | tup b => obtain ⟨p, vs, rfl, _⟩ := ha.tup; exact k
  | prs b => obtain ⟨p, vs, rfl, _⟩ := ha.prs; exact k
  | lst b => obtain ⟨p, vs, rfl, _⟩ := ha.lst; exact k
  | scr b => obtain ⟨p, vs, rfl, _⟩ := ha.scr; exact k
  | dic b c => obtain ⟨p, rfl, _⟩ := ha.dic; exact k
  | obj b c => rcases ha with ha | ⟨p, rfl, _⟩
               · simp only [RepV] at ha; obtain ⟨p, _, _, rfl, _⟩ := ha; exact k
               · exact k
  | exc b c => rcases ha with ha | ⟨p, rfl, _⟩
               · simp only [RepV] at ha; obtain ⟨p, rfl, _⟩ := ha; exact k
               · exact k
  | ref b => rcases ha with ha | ⟨p, rfl, _⟩
             · simp only [RepV] at ha; obtain ⟨p, _, rfl⟩ := ha; exact k
             · exact k
  | fn b => rcases ha with ha | ⟨p, rfl, _⟩
            · simp only [RepV] at ha; subst ha; exact k
            · exact k
  | clo b c => rcases ha with ha | ⟨p, rfl, c⟩
               · simp only [RepV] at ha
               · simp only [Cont] at c
  | hole => rcases ha with ha | ⟨p, rfl, c⟩
            · simp only [RepV] at ha
            · simp only [Cont] at c
theorem se_isN (O : Of G X) {a b : Expr} {pos : Pos} {m1 : ME} (hb : isNone b = true) (ha : PX G Wx g X m1 a) : PE X (.Compare a [.Is] [b] pos) (tE G Wx g (.op .isN [m1])) := by
  cases b <;> first | cases hb | skip
  rename_i c k p
  cases c <;> first | cases hb | skip
  exact PEi (pe_cmpR so_isN ha pe_non (by rfl)) fun σ H Q q => tR_mono (one_arg' (tE_op rfl rfl q)) fun x H1 h => ⟨rfl, h⟩
end
end MP
set_option maxRecDepth 100000
set_option maxHeartbeats 1000000
/-! R2c: builtins called. -/
namespace MP
open PySem PySem.Spec PyProof.Rows L2
section
variable {C : SC} {G : Nms} {g : Gst} {X : Cx} {sc : Scope} {Wx : WX} {σ : L2.St} {H : Hp}
theorem hpl1 {es : List Expr} {env : Env} {pos : Pos} (h : es.all notStar = true) : (backTo pos (starEach es env)).any (·.1) = false := by
  induction es with
  | nil => rfl
  | cons e es ih =>
    simp only [List.all_cons, Bool.and_eq_true] at h
    rw [star1 h.1]
    show ((false, _).1 || (backTo pos (starEach es env)).any (·.1)) = false
    rw [ih h.2]; rfl
theorem se_fB {n : String} {o : Opr} {r : List V → Hp → VK → Prop} {e : Expr} {es : List Expr} {ms : List ME} {p pos : Pos} {x : Str} (D : Good C G g X sc) (hn : n ∈ bnames) (hx : isB sc x n = true) (hv : bootBuiltins (Str.ofString n) = some (.builtin n)) (hc : CallR X (.builtin n) r)
    (hs : (e :: es).all notStar = true) (ha : Paired (PX G Wx g X) ms (e :: es)) (hne : Str.ofString n ≠ "__name__") {tt : TE} (ht : ∀ σ H Q, tt σ H Q → tArgs G Wx g ms σ H fun xs H' => r xs H' Q) : PE X (.Call (.Name x p) (e :: es) [] pos) tt := by
  obtain ⟨rfl, h1, h2, h3⟩ := isB_is D hn hx
  have hs' := hs
  simp only [List.all_cons, Bool.and_eq_true] at hs'
  exact PEi (pe_callB hc h1 h2 hv (pa_of ha hs) hne h3 (star1 hs'.1) (hpl1 hs'.2)) ht
theorem se_fT {n : String} {o : Opr} {r : List V → Hp → VK → Prop} {e : Expr} {es : List Expr} {ms : List ME} {p pos : Pos} {x : Str} (D : Good C G g X sc) (hn : n ∈ bnames) (hx : isB sc x n = true) (hv : bootBuiltins (Str.ofString n) = some (.type n)) (hc : CallR X (.type n) r)
    (hs : (e :: es).all notStar = true) (ha : Paired (PX G Wx g X) ms (e :: es)) (hne : Str.ofString n ≠ "__name__") {tt : TE} (ht : ∀ σ H Q, tt σ H Q → tArgs G Wx g ms σ H fun xs H' => r xs H' Q) : PE X (.Call (.Name x p) (e :: es) [] pos) tt := by
  obtain ⟨rfl, h1, h2, h3⟩ := isB_is D hn hx
  have hs' := hs
  simp only [List.all_cons, Bool.and_eq_true] at hs'
  exact PEi (pe_callTy hc h1 h2 hv (pa_of ha hs) hne h3 (star1 hs'.1) (hpl1 hs'.2)) ht
theorem len_args {n : Nat} {ms : List ME} {Q : List V → Hp → Prop} (hl : ms.length = n) (h : tArgs G Wx g ms σ H Q) : tArgs G Wx g ms σ H fun xs H' => xs.length = n ∧ Q xs H' := by
  obtain ⟨W, s, r, h⟩ := h
  refine ⟨W, s, r, ?_⟩
  have key : ∀ (ms : List ME) (s s' : Sta) (as : List AV), evalAs g ms s = .ok as s' → as.length = ms.length := by
    intro ms
    induction ms with
    | nil => intro s s' as e; unfold evalAs at e; cases e; rfl
    | cons m ms ih =>
      intro s s' as e
      unfold evalAs at e
      cases e1 : argOf (fun s => evalE g m s) m s with
      | stuck => rw [e1] at e; cases e
      | exc _ _ => rw [e1] at e; cases e
      | ok a s1 =>
        rw [e1] at e
        simp only [Rs.bind] at e
        cases e2 : evalAs g ms s1 with
        | stuck => rw [e2] at e; cases e
        | exc _ _ => rw [e2] at e; cases e
        | ok as2 s2 =>
          rw [e2] at e
          simp only [Rs.bind] at e
          cases e
          rw [List.length_cons, List.length_cons, ih _ _ _ e2]
  refine h.imp fun as s' W' H' b ee _ _ ra k => ⟨?_, k b ra⟩
  have h1 := key ms s s' as ee
  have h2 : as.length = b.length := Paired.length ra
  omega
theorem rA_lenX {o : Opr} {n : Nat} {ms : List ME} {Q : VK} (hl : ms.length = n) (ho : o.holds = false) (hm : o.meth = false) (h : tE G Wx g (.op o ms) σ H Q) : tArgs G Wx g ms σ H fun xs H' => rX G g o n xs H' Q := len_args hl (tE_op ho hm h)
theorem rN_lenX {o : Opr} {n : Nat} {ms : List ME} {Q : VK} (hl : ms.length = n) (ho : o.holds = false) (hm : o.meth = false) (h : tN G Wx g (.op o ms) σ H Q) : tArgs G Wx g ms σ H fun xs H' => xs.length = n ∧ rN G g o xs H' Q := len_args hl (tN_op ho hm h)
theorem boot_fns : bootBuiltins "len" = some (.builtin "len") ∧ bootBuiltins "abs" = some (.builtin "abs") ∧ bootBuiltins "max" = some (.builtin "max") ∧ bootBuiltins "min" = some (.builtin "min") ∧ bootBuiltins "all" = some (.builtin "all") ∧
    bootBuiltins "any" = some (.builtin "any") ∧ bootBuiltins "sorted" = some (.builtin "sorted") ∧ bootBuiltins "isinstance" = some (.builtin "isinstance") ∧ bootBuiltins "tuple" = some (.type "tuple") ∧ bootBuiltins "list" = some (.type "list") := by decide +kernel

/-- a builtin called -/
theorem se_fun (D : Good C G g X sc) {o : Opr} {n : String} {k : Nat} {es : List Expr} {ms : List ME} {p pos : Pos} {x : Str} (h : funOf o = some (n, k)) (hx : isB sc x n = true) (hl : es.length = k) (hs : es.all notStar = true) (ha : Paired (PX G Wx g X) ms es) :
    PE X (.Call (.Name x p) es [] pos) (tE G Wx g (.op o ms)) := by
  obtain ⟨b1, b2, b3, b4, b5, b6, b7, b8, b9, b10⟩ := boot_fns
  have lm : ms.length = k := by rw [← hl]; exact Paired.length ha
  match es, hl, hs, ha with
  | [], hl, _, _ => exfalso; cases o <;> simp only [funOf, Option.some.injEq, Prod.mk.injEq, reduceCtorEq] at h <;> (obtain ⟨_, rfl⟩ := h; cases hl)
  | e :: es, hl, hs, ha =>
  cases o <;> simp only [funOf, Option.some.injEq, Prod.mk.injEq, reduceCtorEq] at h <;> obtain ⟨rfl, rfl⟩ := h
  case abs => exact se_fB (o := .abs) D (by decide) hx b2 (so_abs D.of) hs ha (by decide +kernel) fun σ H Q q => rA_lenX (by omega) rfl rfl q
  case len => exact se_fB (o := .len) D (by decide) hx b1 (so_len D.of) hs ha (by decide +kernel) fun σ H Q q => rA_lenX (by omega) rfl rfl q
  case tupOf => exact se_fT (o := .tupOf) D (by decide) hx b9 (so_tupOf D.of) hs ha (by decide +kernel) fun σ H Q q => rA_lenX (by omega) rfl rfl q
  case lstOf => exact se_fT (o := .lstOf) D (by decide) hx b10 (sn_lstOf (g := g) D.of) hs ha (by decide +kernel) fun σ H Q q => tR_mono (rA_lenX (n := 1) (by omega) rfl rfl q) fun xs H' h => ⟨h.1, rA_N opLstOf_LD h.2⟩
  case sorted => exact se_fB (o := .sorted) D (by decide) hx b7 (sn_sorted (g := g) D.of) hs ha (by decide +kernel) fun σ H Q q => tR_mono (rA_lenX (n := 1) (by omega) rfl rfl q) fun xs H' h => ⟨h.1, rA_N opSorted_LD h.2⟩
  case max1 => exact se_fB (o := .max1) D (by decide) hx b3 (so_max1 D.of D.calm) hs ha (by decide +kernel) fun σ H Q q => rA_lenX (by omega) rfl rfl q
  case max2 => exact se_fB (o := .max2) D (by decide) hx b3 (so_max2 D.of D.calm) hs ha (by decide +kernel) fun σ H Q q => rA_lenX (by omega) rfl rfl q
  case min2 => exact se_fB (o := .min2) D (by decide) hx b4 (so_min2 D.of D.calm) hs ha (by decide +kernel) fun σ H Q q => rA_lenX (by omega) rfl rfl q
  case all => exact se_fB (o := .all) D (by decide) hx b5 (so_all D.of D.calm) hs ha (by decide +kernel) fun σ H Q q => rA_lenX (by omega) rfl rfl q
  case any => exact se_fB (o := .any) D (by decide) hx b6 (so_any D.of D.calm) hs ha (by decide +kernel) fun σ H Q q => rA_lenX (by omega) rfl rfl q
theorem sn_fun (D : Good C G g X sc) {o : Opr} {n : String} {k : Nat} {es : List Expr} {ms : List ME} {p pos : Pos} {x : Str} (ho : o = .lstOf ∨ o = .sorted) (h : funOf o = some (n, k)) (hx : isB sc x n = true) (hl : es.length = k) (hs : es.all notStar = true) (ha : Paired (PX G Wx g X) ms es) :
    PE X (.Call (.Name x p) es [] pos) (tN G Wx g (.op o ms)) := by
  obtain ⟨b1, b2, b3, b4, b5, b6, b7, b8, b9, b10⟩ := boot_fns
  have lm : ms.length = k := by rw [← hl]; exact Paired.length ha
  match es, hl, hs, ha with
  | [], hl, _, _ => exfalso; rcases ho with rfl | rfl <;> (simp only [funOf, Option.some.injEq, Prod.mk.injEq] at h; obtain ⟨_, rfl⟩ := h; cases hl)
  | e :: es, hl, hs, ha =>
  rcases ho with rfl | rfl <;> simp only [funOf, Option.some.injEq, Prod.mk.injEq] at h <;> obtain ⟨rfl, rfl⟩ := h
  · exact se_fT (o := .lstOf) D (by decide) hx b10 (sn_lstOf (g := g) D.of) hs ha (by decide +kernel) fun σ H Q q => rN_lenX (by omega) rfl rfl q
  · exact se_fB (o := .sorted) D (by decide) hx b7 (sn_sorted (g := g) D.of) hs ha (by decide +kernel) fun σ H Q q => rN_lenX (by omega) rfl rfl q

/-- isinstance(x, c) -/
theorem pe_cls (D : Good C G g X sc) {t : Nat} {c : Expr} (h : clsOk C sc t c = true) : PE X c (tC (clsV G t)) ∧ notStar c = true ∧ (kindNm t = none → 10 ≤ t ∧ t - 10 ∈ C.isi) := by
  cases c <;> first | cases h | skip
  rename_i x p
  simp only [clsOk, Bool.and_eq_true] at h
  obtain ⟨h1, h2⟩ := h
  obtain ⟨g1, g2⟩ := glB_gl D h1
  unfold clsV
  cases hk : kindNm t with
  | some n =>
    rw [hk] at h2
    simp only [beq_iff_eq] at h2
    subst h2
    refine ⟨?_, rfl, fun z => by cases z⟩
    have hb : ∀ n ∈ kindT, n ∈ bnames ∧ bootBuiltins (Str.ofString n) = some (.type n) ∧ Str.ofString n ≠ "__name__" := by decide +kernel
    obtain ⟨q1, q2, q3⟩ := hb n (kindNm_mem hk).1
    exact pe_bltn g1 (D.s0.nob n q1) q2 rfl q3 g2
  | none =>
    rw [hk] at h2
    simp only [Bool.and_eq_true, decide_eq_true_eq, List.contains_eq_mem] at h2
    refine ⟨?_, rfl, fun _ => ⟨h2.1.1, h2.1.2⟩⟩
    exact pe_glob g1 (D.s0.cls x _ h2.2) rfl g2
theorem se_isi (D : Good C G g X sc) {t : Nat} {a c : Expr} {m : ME} {p pos : Pos} {x : Str} (hx : isB sc x "isinstance" = true) (hc : clsOk C sc t c = true) (hs : notStar a = true) (ha : PX G Wx g X m a) :
    PE X (.Call (.Name x p) [a, c] [] pos) (tE G Wx g (.op (.isi [t]) [m])) := by
  obtain ⟨b1, b2, b3, b4, b5, b6, b7, b8, b9, b10⟩ := boot_fns
  obtain ⟨pc, sc', hk⟩ := pe_cls D hc
  obtain ⟨rfl, h1, h2, h3⟩ := isB_is D (n := "isinstance") (by decide) hx
  refine PEi (pe_callB (so_isi (t := t) D.of D.s0.kit hk) h1 h2 b8 (pa_cons ha (pa_cons pc pa_nil (star1 sc')) (star1 hs)) (by decide +kernel) h3 (star1 hs) (hpl1 (by simp [sc']))) fun σ H Q q => ?_
  exact tR_mono (one_arg' (tE_op rfl rfl q)) fun x H1 h => ⟨x, rfl, h⟩

/-- list(range(..)), tuple(range(..)), len(set(..)) -/
theorem boot_nest : bootBuiltins "set" = some (.type "set") ∧ bootBuiltins "range" = some (.type "range") := by decide +kernel
theorem se_nest (D : Good C G g X sc) {o : Opr} {n m : String} {k : Nat} {es : List Expr} {ms : List ME} {p p2 q pos : Pos} {x y : Str} (h : nestOf o = some (n, m, k)) (hx : isB sc x n = true) (hy : isB sc y m = true) (hl : es.length = k) (hs : es.all notStar = true) (ha : Paired (PX G Wx g X) ms es) :
    PE X (.Call (.Name x p) [.Call (.Name y p2) es [] q] [] pos) (tE G Wx g (.op o ms)) := by
  cases o <;> simp only [nestOf, Option.some.injEq, Prod.mk.injEq, reduceCtorEq] at h <;> obtain ⟨rfl, rfl, rfl⟩ := h
  case lstR1 =>
    obtain ⟨rfl, h1, h2, _⟩ := isB_is D (by decide) hx
    obtain ⟨rfl, h3, h4, _⟩ := isB_is D (by decide) hy
    match es, hl, hs, ha with
    | [e], _, hs, .cons ha .nil =>
    simp only [List.all_cons, List.all_nil, Bool.and_true] at hs
    exact PEi (pe_listRg D.calm h1 h2 (prg_1 h3 h4 ha (star1 hs))) fun σ H Q q => tR_mono (one_arg' (tE_op rfl rfl q)) fun x H1 h => by
      obtain ⟨i, rfl, h5, h6⟩ := sn_lstR1 (rA_N opLstR1_LD h)
      exact ⟨i, rfl, h5, h6⟩
  case lstR2 =>
    obtain ⟨rfl, h1, h2, _⟩ := isB_is D (by decide) hx
    obtain ⟨rfl, h3, h4, _⟩ := isB_is D (by decide) hy
    match es, hl, hs, ha with
    | [e, f], _, hs, .cons ha (.cons hb .nil) =>
    simp only [List.all_cons, List.all_nil, Bool.and_true, Bool.and_eq_true] at hs
    exact PEi (pe_listRg D.calm h1 h2 (prg_2 h3 h4 ha hb (star1 hs.1) (star1 hs.2) (hpl1 (by simp [hs.2])))) fun σ H Q q => tR_mono (two_args (tE_op rfl rfl q)) fun x H1 h => tR_mono h fun y H2 h => by
      obtain ⟨i, j, rfl, rfl, h5, h6⟩ := sn_lstR2 (rA_N opLstR2_LD h)
      exact ⟨i, j, rfl, rfl, h5, h6⟩
  case tupR1 =>
    obtain ⟨rfl, h1, h2, _⟩ := isB_is D (by decide) hx
    obtain ⟨rfl, h3, h4, _⟩ := isB_is D (by decide) hy
    match es, hl, hs, ha with
    | [e], _, hs, .cons ha .nil =>
    simp only [List.all_cons, List.all_nil, Bool.and_true] at hs
    exact PEi (pe_tupRgX D.calm h1 h2 (prg_1 h3 h4 ha (star1 hs))) fun σ H Q q => tR_mono (one_arg' (tE_op rfl rfl q)) fun x H1 h => by
      obtain ⟨i, rfl, h5, h6⟩ := sa_tupR1 h
      exact ⟨i, rfl, h5, h6⟩
  case tupR2 =>
    obtain ⟨rfl, h1, h2, _⟩ := isB_is D (by decide) hx
    obtain ⟨rfl, h3, h4, _⟩ := isB_is D (by decide) hy
    match es, hl, hs, ha with
    | [e, f], _, hs, .cons ha (.cons hb .nil) =>
    simp only [List.all_cons, List.all_nil, Bool.and_true, Bool.and_eq_true] at hs
    exact PEi (pe_tupRgX D.calm h1 h2 (prg_2 h3 h4 ha hb (star1 hs.1) (star1 hs.2) (hpl1 (by simp [hs.2])))) fun σ H Q q => tR_mono (two_args (tE_op rfl rfl q)) fun x H1 h => tR_mono h fun y H2 h => by
      obtain ⟨i, j, rfl, rfl, h5, h6⟩ := sa_tupR2 h
      exact ⟨i, j, rfl, rfl, h5, h6⟩
  case lenSet =>
    obtain ⟨rfl, h1, h2, _⟩ := isB_is D (by decide) hx
    obtain ⟨rfl, h3, h4, _⟩ := isB_is D (by decide) hy
    match es, hl, hs, ha with
    | [e], _, hs, .cons ha .nil =>
    simp only [List.all_cons, List.all_nil, Bool.and_true] at hs
    exact PEi (pe_once h1 h2 h3 h4 ha D.calm (star1 hs)) fun σ H Q q => tR_mono (one_arg' (tE_op rfl rfl q)) fun x H1 h => sa_once D.of h
theorem sn_nest (D : Good C G g X sc) {o : Opr} {n m : String} {k : Nat} {es : List Expr} {ms : List ME} {p p2 q pos : Pos} {x y : Str} (ho : o = .lstR1 ∨ o = .lstR2) (h : nestOf o = some (n, m, k)) (hx : isB sc x n = true) (hy : isB sc y m = true) (hl : es.length = k) (hs : es.all notStar = true) (ha : Paired (PX G Wx g X) ms es) :
    PE X (.Call (.Name x p) [.Call (.Name y p2) es [] q] [] pos) (tN G Wx g (.op o ms)) := by
  rcases ho with rfl | rfl <;> simp only [nestOf, Option.some.injEq, Prod.mk.injEq] at h <;> obtain ⟨rfl, rfl, rfl⟩ := h
  · obtain ⟨rfl, h1, h2, _⟩ := isB_is D (by decide) hx
    obtain ⟨rfl, h3, h4, _⟩ := isB_is D (by decide) hy
    match es, hl, hs, ha with
    | [e], _, hs, .cons ha .nil =>
    simp only [List.all_cons, List.all_nil, Bool.and_true] at hs
    exact PEi (pe_listRg D.calm h1 h2 (prg_1 h3 h4 ha (star1 hs))) fun σ H Q q => tR_mono (one_arg' (tN_op rfl rfl q)) fun x H1 h => by
      obtain ⟨i, rfl, h5, h6⟩ := sn_lstR1 h
      exact ⟨i, rfl, h5, h6⟩
  · obtain ⟨rfl, h1, h2, _⟩ := isB_is D (by decide) hx
    obtain ⟨rfl, h3, h4, _⟩ := isB_is D (by decide) hy
    match es, hl, hs, ha with
    | [e, f], _, hs, .cons ha (.cons hb .nil) =>
    simp only [List.all_cons, List.all_nil, Bool.and_true, Bool.and_eq_true] at hs
    exact PEi (pe_listRg D.calm h1 h2 (prg_2 h3 h4 ha hb (star1 hs.1) (star1 hs.2) (hpl1 (by simp [hs.2])))) fun σ H Q q => tR_mono (two_args (tN_op rfl rfl q)) fun x H1 h => tR_mono h fun y H2 h => by
      obtain ⟨i, j, rfl, rfl, h5, h6⟩ := sn_lstR2 h
      exact ⟨i, j, rfl, rfl, h5, h6⟩
/-- isinstance(x, (c, d)) -/
theorem se_isi2 (D : Good C G g X sc) {t t' : Nat} {a c d : Expr} {m : ME} {p q pos : Pos} {x : Str} {x1} (hx : isB sc x "isinstance" = true) (hc : clsOk C sc t c = true) (hd : clsOk C sc t' d = true) (hs : notStar a = true) (ha : PX G Wx g X m a) :
    PE X (.Call (.Name x p) [a, .Tuple [c, d] x1 q] [] pos) (tE G Wx g (.op (.isi [t, t']) [m])) := by
  obtain ⟨b1, b2, b3, b4, b5, b6, b7, b8, b9, b10⟩ := boot_fns
  obtain ⟨pc, sc', hk⟩ := pe_cls D hc
  obtain ⟨pd, sd', hk'⟩ := pe_cls D hd
  obtain ⟨rfl, h1, h2, h3⟩ := isB_is D (n := "isinstance") (by decide) hx
  refine PEi (pe_callB (so_isi2 (t := t) (t' := t') D.of D.s0.kit hk hk') h1 h2 b8 (pa_cons ha (pa_cons (pe_tup (pa_cons pc (pa_cons pd pa_nil (star1 sd')) (star1 sc'))) pa_nil) (star1 hs)) (by decide +kernel) h3 (star1 hs) (hpl1 (by simp [notStar]))) fun σ H Q q => ?_
  exact tR_mono (one_arg' (tE_op rfl rfl q)) fun x H1 h => ⟨by show 2 ≤ sizeLine; decide, fun tp ht => ⟨x, tp, H1, rfl, ht, rfl, h⟩⟩
/-- a field -/
theorem se_fld (D : Good C G g X sc) {f : Nat} {r : Expr} {x : Str} {pos : Pos} {m : ME} (hx : C.att.lookup x = some f) (hb : notBare r = true) (ha : PX G Wx g X m r) : PE X (.Attribute r x pos) (tE G Wx g (.op (.fld f) [m])) :=
  PEi (pe_fld ha (by cases r <;> first | rfl | cases hb)) fun σ H Q q => tR_mono (one_arg' (tE_op rfl rfl q)) fun v H1 h => by
    rw [D.of.K]
    exact sa_fld D.s0.co (D.s0.att x f hx) h
theorem three_args {m1 m2 m3 : ME} {Q : List V → Hp → Prop} (h : tArgs G Wx g [m1, m2, m3] σ H Q) : tArg G Wx g m1 σ H fun x H1 => tArg G Wx g m2 σ H1 fun y H2 => tArg G Wx g m3 σ H2 fun z H3 => Q [x, y, z] H3 :=
  tR_mono (tArgs_cons h) fun x H1 h1 => tR_mono (tArgs_cons h1) fun y H2 h2 => tR_mono (tArgs_cons h2) fun z H3 h3 => tArgs_nil h3
theorem paired1 {α β : Type} {F : α → β → Prop} {ms : List α} {b : β} (h : Paired F ms [b]) : ∃ m, ms = [m] ∧ F m b := by
  cases h with | cons a t => cases t with | nil => exact ⟨_, rfl, a⟩
theorem paired2 {α β : Type} {F : α → β → Prop} {ms : List α} {b c : β} (h : Paired F ms [b, c]) : ∃ m n, ms = [m, n] ∧ F m b ∧ F n c := by
  cases h with | cons a t => cases t with | cons a2 t => cases t with | nil => exact ⟨_, _, rfl, a, a2⟩
theorem paired3 {α β : Type} {F : α → β → Prop} {ms : List α} {b c d : β} (h : Paired F ms [b, c, d]) : ∃ m n k, ms = [m, n, k] ∧ F m b ∧ F n c ∧ F k d := by
  cases h with | cons a t => cases t with | cons a2 t => cases t with | cons a3 t => cases t with | nil => exact ⟨_, _, _, rfl, a, a2, a3⟩
/-- a slice -/
theorem se_slice (D : Good C G g X sc) {o : Opr} {a b : Expr} {es : List Expr} {ms : List ME} {pos : Pos} (h : sliceArgs o a b = some es) (ha : Paired (PX G Wx g X) ms es) : PE X (.Subscript a b pos) (tE G Wx g (.op o ms)) := by
  have hsl : SlR X (rSlAll G.K) := by rw [← D.of.K]; exact sl_all
  unfold sliceArgs at h
  split at h <;> first | (cases h; done) | skip
  · split at h <;> first | (cases h; done) | skip
    rename_i ho; subst ho; cases h
    obtain ⟨m1, rfl, a1⟩ := paired1 ha
    exact PEi (pe_slice hsl a1 po_none po_none) fun σ H Q q => tR_mono (one_arg' (tE_op rfl rfl q)) fun v H1 h => sa_sl00 h
  · split at h <;> first | (cases h; done) | skip
    rename_i ho; subst ho; cases h
    obtain ⟨m1, m2, rfl, a1, a2⟩ := paired2 ha
    exact PEi (pe_slice hsl a1 (po_some a2) po_none) fun σ H Q q => tR_mono (two_args (tE_op rfl rfl q)) fun v H1 h => tR_mono h fun w H2 h => sa_sl10 h
  · split at h <;> first | (cases h; done) | skip
    rename_i ho; subst ho; cases h
    obtain ⟨m1, m2, rfl, a1, a2⟩ := paired2 ha
    exact PEi (pe_slice hsl a1 po_none (po_some a2)) fun σ H Q q => tR_mono (two_args (tE_op rfl rfl q)) fun v H1 h => tR_mono h fun w H2 h => sa_sl01 h
  · split at h <;> first | (cases h; done) | skip
    rename_i ho; subst ho; cases h
    obtain ⟨m1, m2, m3, rfl, a1, a2, a3⟩ := paired3 ha
    exact PEi (pe_slice2 hsl a1 a2 a3) fun σ H Q q => tR_mono (three_args (tE_op rfl rfl q)) fun v H1 h => tR_mono h fun w H2 h => tR_mono h fun z H3 h => sa_sl11 h
  · split at h <;> first | (cases h; done) | skip
    rename_i ho; subst ho; cases h
    obtain ⟨m1, rfl, a1⟩ := paired1 ha
    exact PEi (pe_rev a1) fun σ H Q q => tR_mono (one_arg' (tE_op rfl rfl q)) fun v H1 h => by rw [D.of.K]; exact sa_rev h
end
end MP
set_option maxRecDepth 100000
set_option maxHeartbeats 1000000
/-! R2d: an operation in the text. -/
namespace MP
open PySem PySem.Spec PyProof.Rows L2
section
variable {C : SC} {G : Nms} {g : Gst} {X : Cx} {sc : Scope} {Wx : WX} {σ : L2.St} {H : Hp}
theorem ok_of_kind {s : Sta} {av : AV} (h : kindN (av.get s) ≠ 0) : av.ok s = true := by
  cases av with
  | v u => rfl
  | own i =>
    show (match slot s i with | .own _ => true | _ => false) = true
    have h : kindN (match slot s i with | .own u => u | _ => .non) ≠ 0 := h
    cases e : slot s i with
    | own u => rfl
    | no => rw [e] at h; exact absurd rfl h
    | val u => rw [e] at h; exact absurd rfl h
    | clo us => rw [e] at h; exact absurd rfl h
theorem kind1 {u : U} (h : kindN u = 1) : ∃ us, u = .lst us := by cases u <;> first | exact ⟨_, rfl⟩ | (simp [kindN] at h)
theorem kind3 {u : U} (h : kindN u = 3) : ∃ ks vs, u = .dic ks vs := by cases u <;> first | exact ⟨_, _, rfl⟩ | (simp [kindN] at h)
theorem kind2 {u : U} (h : kindN u = 2) : ∃ us, u = .tup us := by cases u <;> first | exact ⟨_, rfl⟩ | (simp [kindN] at h)
/-- an operation that is a method: its first argument is of the kind -/
def rMe (G : Nms) (g : Gst) (o : Opr) (k : Nat) (xs : List V) (H : Hp) (Q : VK) : Prop := ∃ Wx W s σ a us u, RelFr G W s σ H ∧ Paired (fun u v => CRep G W H u v) (a :: us) xs ∧ kindN a = k ∧ opSem g o (a :: us) = some u ∧ Wants G Wx u W s σ H Q
theorem tE_opM {o : Opr} {m : ME} {ms : List ME} {Q : VK} (ho : o.holds = false) (hm : o.meth = true) (h : tE G Wx g (.op o (m :: ms)) σ H Q) :
    tArg G Wx g m σ H fun x H1 => ((∃ W us, CRep G W H1 (.lst us) x) ∧ tArgs G Wx g ms σ H1 fun xs H2 => rMe G g o 1 (x :: xs) H2 Q) ∨ ((∃ W us, CRep G W H1 (.tup us) x) ∧ tArgs G Wx g ms σ H1 fun xs H2 => rMe G g o 2 (x :: xs) H2 Q) := by
  obtain ⟨W, s, r, h⟩ := h
  unfold evalE at h
  rw [ho, hm] at h
  simp only [Bool.false_eq_true, if_false, if_true] at h
  unfold evalRecv at h
  refine ⟨W, s, r, ?_⟩
  cases ea : argOf (fun s => evalE g m s) m s with
  | stuck => rw [ea] at h; exact h
  | exc x s' => rw [ea] at h; exact h
  | ok av s1 =>
    rw [ea] at h
    intro W1 H1 x e1 r1 ra
    simp only [Rs.bind] at h
    have key : ∀ k, kindN (av.get s1) = k → k = 1 ∨ k = 2 → tArgs G Wx g ms σ H1 fun xs H2 => rMe G g o k (x :: xs) H2 Q := fun k hk h12 => by
      rw [if_neg (by rcases h12 with z | z <;> simp [hk, z])] at h
      refine ⟨W1, s1, r1, ?_⟩
      cases eb : evalAs g ms s1 with
      | stuck => rw [eb] at h; exact h
      | exc x s' => rw [eb] at h; exact h.shift e1
      | ok as s2 =>
        rw [eb] at h
        intro W2 H2 xs e2 r2 ras
        simp only [Rs.bind] at h
        by_cases hk2 : kindN (av.get s2) = kindN (av.get s1)
        · rw [if_neg (by simp [hk2])] at h
          simp only [] at h
          by_cases hall : (av :: as).all (AV.ok s2) = true
          · rw [if_pos hall] at h
            cases eo : opSem g o ((av :: as).map (AV.get s2)) with
            | none => rw [eo] at h; exact h.elim
            | some u =>
              rw [eo] at h
              exact ⟨Wx, W2, s2, σ, _, _, u, r2, creps_of r2 (.cons (ra.ext e2) ras) hall, by rw [hk2, hk], eo, h.shift (e1.trans e2)⟩
          · rw [if_neg hall] at h; exact h.elim
        · rw [if_pos (by simp [hk2])] at h; exact h.elim
    by_cases h1 : kindN (av.get s1) = 1
    · obtain ⟨us, hu⟩ := kind1 h1
      have hc := crep_of r1 ra (ok_of_kind (by rw [h1]; decide))
      exact .inl ⟨⟨W1, us, by rw [← hu]; exact hc⟩, key 1 h1 (.inl rfl)⟩
    · by_cases h2 : kindN (av.get s1) = 2
      · obtain ⟨us, hu⟩ := kind2 h2
        have hc := crep_of r1 ra (ok_of_kind (by rw [h2]; decide))
        exact .inr ⟨⟨W1, us, by rw [← hu]; exact hc⟩, key 2 h2 (.inr rfl)⟩
      · rw [if_pos (by simp [h1, h2])] at h; exact h.elim
theorem notBare_base {e : Expr} {n : Str} {env : Env} (h : notBare e = true) : attributeBase e n env (eval e env) = eval e env := by
  cases e <;> first | rfl | cases h
theorem few1 {a : Expr} {env : Env} {pos : Pos} (h : notStar a = true) : ((backTo pos (starEach [a] env)).all (fun x => !x.1) && (backToKw pos (keywordEach [] env)).all (fun x => x.1.isSome)
      && decide (([a] : List Expr).length + ([] : List Keyword).length + (if ([] : List Keyword).isEmpty then 0 else 1) < 30)) = true := by
  rw [star1 h]; rfl
/-- what pe_bm asks, with the type known behind the receiver -/
theorem pe_index {o e : Expr} {to : TE} {t : TA} {apos cpos : Pos} {rl rt : V → List V → Hp → VK → Prop} (ml : MtR X "list.index" rl) (mt : MtR X "tuple.index" rt) (ho : PE X o to) (ha : PA X [e] t)
    (hbase : attributeBase o ("index" : Str) X.env (eval o X.env) = eval o X.env)
    (hfew : ((backTo cpos (starEach [e] X.env)).all (fun x => !x.1) && (backToKw cpos (keywordEach [] X.env)).all (fun x => x.1.isSome)
      && decide (([e] : List Expr).length + ([] : List Keyword).length + (if ([] : List Keyword).isEmpty then 0 else 1) < 30)) = true)
    (hline : (apos.endLine == cpos.line) = true) (hs : starEach [e] X.env = (false, eval e X.env) :: starEach [] X.env) :
    PE X (.Call (.Attribute o ("index" : Str) apos) [e] [] cpos) (fun σ H Q => to σ H fun x H1 => ((∃ p vs, x = .ref p ∧ H1 p = some (.lst vs)) ∧ t σ H1 fun xs H2 => rl x xs H2 Q) ∨ ((∃ p vs, x = .ref p ∧ TX H1 p vs) ∧ t σ H1 fun xs H2 => rt x xs H2 Q)) := by
  refine ⟨fun pins s σ H Q I h => ?_⟩
  refine wpAny_Call_method_late hbase hfew hline rfl (thn (ho.run pins s σ H _ I h) fun v s1 ⟨x, H1, I1, r1, q⟩ => ?_)
  rcases q with ⟨⟨p, vs, rfl, hp⟩, q1⟩ | ⟨⟨p, vs, rfl, ob, hp, hx⟩, q1⟩
  · obtain ⟨h1, h2⟩ := tyV_is (T := "list") I1 r1 (.inl ⟨rfl, vs, SqL.of hp⟩)
    refine ⟨"list", "list.index", PySem.F.plainAttrs_list, PySem.F.slot_list_index, PySem.F.type_list_index, h1, h2, ?_⟩
    have hA := ha.run cpos pins s1 σ H1 _ I1 q1
    rw [hs] at hA ⊢
    refine Calls.callWith_builtin rfl (Calls.evalArgs_plain ?_)
    exact thn hA fun us s2 ⟨vs, H2, I2, r2, q2⟩ => ml pins s2 σ H2 _ vs v us Q I2 r1 r2 q2
  · cases r1
    have e1 : s1.heap.get? p = some ob := (show ObjOk X.prog X.w H1 s1.heap p (.frz ob (.tup vs)) from I1.hok p _ hp).1
    refine ⟨"tuple", "tuple.index", PySem.F.plainAttrs_tuple, PySem.F.slot_tuple_index, PySem.F.type_tuple_index, ⟨ob, e1, hx.1⟩, fun a e => by cases e; exact ⟨ob, e1, hx.2⟩, ?_⟩
    have hA := ha.run cpos pins s1 σ H1 _ I1 q1
    rw [hs] at hA ⊢
    refine Calls.callWith_builtin rfl (Calls.evalArgs_plain ?_)
    exact thn hA fun us s2 ⟨vs, H2, I2, r2, q2⟩ => mt pins s2 σ H2 (V.ref p) vs _ us Q I2 rfl r2 q2
theorem se_index (D : Good C G g X sc) {r a : Expr} {m1 m2 : ME} {apos cpos : Pos} {name : Str} (hn : name = ("index" : Str)) (hb : notBare r = true) (hl : (apos.endLine == cpos.line) = true) (hs : notStar a = true) (h1 : PX G Wx g X m1 r) (h2 : PX G Wx g X m2 a) :
    PE X (.Call (.Attribute r name apos) [a] [] cpos) (tE G Wx g (.op .index [m1, m2])) := by
  subst hn
  refine PEi (pe_index (sm_index D.of) (sm_indexT D.of) h1 (PAi (pa_cons h2 pa_nil (star1 hs)) (t' := tArgs G Wx g [m2]) fun σ H Q q => tR_mono (tArgs_cons q) fun x H1 h => tArgs_nil h) (notBare_base hb) (few1 hs) hl (star1 hs)) fun σ H Q q => ?_
  refine tR_mono (tE_opM rfl rfl q) fun x H1 hh => ?_
  rcases hh with ⟨⟨W, us, hc⟩, h⟩ | ⟨⟨W, us, hc⟩, h⟩
  · obtain ⟨p, vs, rfl, hp, _⟩ := hc.lst
    refine .inl ⟨⟨p, vs, rfl, hp⟩, tR_mono (len_args (n := 1) rfl h) fun xs H2 hh => ⟨hh.1, ?_⟩⟩
    obtain ⟨hlen, Wx', W', s', σ', a', us', u', r', c', hk, e', k'⟩ := hh
    obtain ⟨vs', rfl⟩ := kind1 hk
    cases c' with | cons c1 c2 =>
    match xs, hlen with
    | [y], _ =>
    cases c2 with | cons c2 c3 =>
    cases c3
    exact ⟨Wx', W', s', σ', vs', _, u', r', c1, ⟨y, rfl, c2⟩, e', k'⟩
  · obtain ⟨p, vs, rfl, hp, _⟩ := hc.tup
    refine .inr ⟨⟨p, vs, rfl, hp⟩, tR_mono (len_args (n := 1) rfl h) fun xs H2 hh => ⟨hh.1, ?_⟩⟩
    obtain ⟨hlen, Wx', W', s', σ', a', us', u', r', c', hk, e', k'⟩ := hh
    obtain ⟨vs', rfl⟩ := kind2 hk
    cases c' with | cons c1 c2 =>
    match xs, hlen with
    | [y], _ =>
    cases c2 with | cons c2 c3 =>
    cases c3
    exact ⟨Wx', W', s', σ', vs', _, u', r', c1, ⟨y, rfl, c2⟩, e', k'⟩

/-- every operation -/
theorem op_sound (D : Good C G g X sc) {o : Opr} {e : Expr} {es : List Expr} {ms : List ME} (h : opArgs C sc o e = some es) (ha : Paired (PX G Wx g X) ms es) (hE : Paired (fun m e => PE X e (tE G Wx g m)) ms es) (hst : es.all notStar = true) : PE X e (tE G Wx g (.op o ms)) := by
  unfold opArgs at h
  split at h
  · -- BinOp
    split at h
    · rename_i hb
      cases h
      obtain ⟨m1, m2, rfl, a1, a2⟩ := paired2 ha
      exact se_bin D.of (of_decide_eq_true hb) a1 a2
    · cases h
  · -- UnaryOp
    split at h
    · rename_i hb
      simp only [Bool.and_eq_true, decide_eq_true_eq] at hb
      obtain ⟨rfl, rfl⟩ := hb
      cases h
      obtain ⟨m1, rfl, a1⟩ := paired1 ha
      exact se_neg D.of a1
    · cases h
  · -- Compare
    split at h
    · split at h
      · rename_i hb
        simp only [Bool.and_eq_true, decide_eq_true_eq, Bool.not_eq_true'] at hb
        cases h
        obtain ⟨m1, m2, rfl, a1, a2⟩ := paired2 ha
        exact se_cmp D.of hb.1 hb.2 a1 a2
      · split at h
        · rename_i hb
          simp only [Bool.and_eq_true, decide_eq_true_eq] at hb
          obtain ⟨⟨rfl, rfl⟩, hn⟩ := hb
          cases h
          obtain ⟨m1, rfl, a1⟩ := paired1 ha
          exact se_isN D.of hn a1
        · cases h
    · cases h
  · -- Subscript
    split at h
    · rename_i hb
      simp only [Bool.and_eq_true, decide_eq_true_eq] at hb
      obtain ⟨rfl, hp⟩ := hb
      cases h
      obtain ⟨m1, m2, rfl, a1, a2⟩ := paired2 ha
      exact se_ix D.of hp a1 a2
    · exact se_slice D h ha
  · -- Tuple
    split at h
    · rename_i hb
      obtain rfl := of_decide_eq_true hb
      cases h
      exact se_tup (paE_of hE hst)
    · cases h
  · -- List
    split at h
    · rename_i hb
      obtain rfl := of_decide_eq_true hb
      cases h
      exact se_lst (paE_of hE hst)
    · cases h
  · -- Call
    split at h
    · unfold callArgs at h
      split at h
      · split at h
        · split at h
          · rename_i hb
            simp only [Bool.and_eq_true] at hb
            cases h
            obtain ⟨m1, rfl, a1⟩ := paired1 ha
            exact se_isi D hb.1.1 hb.1.2 hb.2 a1
          · cases h
        · split at h
          · rename_i hb
            simp only [Bool.and_eq_true] at hb
            cases h
            obtain ⟨m1, rfl, a1⟩ := paired1 ha
            exact se_isi2 D hb.1.1.1 hb.1.1.2 hb.1.2 hb.2 a1
          · cases h
        · cases h
      · split at h
        · rename_i n k hf
          split at h
          · rename_i hb
            simp only [Bool.and_eq_true, beq_iff_eq] at hb
            cases h
            exact se_fun D hf hb.1.1 hb.1.2 hb.2 ha
          · cases h
        · split at h
          · rename_i n m k hf
            split at h
            · split at h
              · rename_i hb
                simp only [Bool.and_eq_true, beq_iff_eq] at hb
                cases h
                exact se_nest D hf hb.1.1.1 hb.1.1.2 hb.1.2 hb.2 ha
              · cases h
            · cases h
          · cases h
    · split at h
      · rename_i hb
        simp only [Bool.and_eq_true, decide_eq_true_eq, beq_iff_eq] at hb
        split at h
        · split at h
          · rename_i hs
            cases h
            obtain ⟨⟨⟨rfl, hn⟩, hbare⟩, hl⟩ := hb
            obtain ⟨m1, m2, rfl, a1, a2⟩ := paired2 ha
            exact se_index D hn hbare (by simpa using hl) hs a1 a2
          · cases h
        · cases h
      · cases h
    · cases h
  · -- Attribute
    split at h
    · split at h
      · rename_i hb
        simp only [Bool.and_eq_true, decide_eq_true_eq] at hb
        cases h
        obtain ⟨m1, rfl, a1⟩ := paired1 ha
        exact se_fld D hb.1 hb.2 a1
      · cases h
    · cases h
  · cases h
end
end MP
set_option maxRecDepth 100000
set_option maxHeartbeats 1000000
/-! R2e: {}, {k: v}. -/
namespace MP
open PySem PySem.Spec PyProof.Rows L2
section
variable {G : Nms} {X : Cx} {pins : List (Addr × Obj)} {W : Wd} {σ : L2.St} {H : Hp} {s : Shared}
theorem put_dic (O : Of G X) {Q : Unit → Shared → Prop} {E : Value → Shared → Prop} {x y : V} {v r : Value} {a u : U} {ks xs : List U} {p : Addr} (I : Inv X pins σ H s) (hf : ¬ W.fz p) (rx : RelV x v) (ry : RelV y r) (hk : kOk ks a = true) (hl : ks.length < line) (ha : RepV G W H a x) (hu : RepV G W H u y) (c : Cont G W H p (.dic ks xs))
    (q : ∀ o' s', Inv X pins σ (L2.upd H p o') s' → Cont G W (L2.upd H p o') p (.dic (dput ks xs a u).1 (dput ks xs a u).2) → Q () s') :
    wpAny (model X.prog X.w) X.A (dictSet p v r) Q E s := by
  rcases kOk_cases hk with ⟨k, h1, h2⟩ | ⟨us, rfl, h1, h2⟩
  · obtain ⟨kvs, g1, g2, g3⟩ := dict_is c h2
    have l : ks.length = kvs.length := by have := congrArg List.length g2; simpa using this
    have ek := RepV.key h1 ha
    subst ek
    obtain ⟨z, hd, vs, rel, dd⟩ := dk_of I.hok g1
    have hz : vs.length ≤ sizeLine := by rw [← rel.length]; exact z
    have hl' : (putK kvs k y).length ≤ sizeLine := by
      have := length_putK kvs k y
      unfold line at hl
      rw [sizeLine_eq]; omega
    refine wpAny_dictSet_pairs (hsz := hz) (kV_is rx) dd fun h' dd' hs => q _ _ ?_ (stored_dicK hf hu c h1 g2 g3)
    have he : ∃ q, h'.get? p = some q := let ⟨q, _, _, hq, _⟩ := dd'; ⟨q, hq⟩
    exact d_write I (by rw [g1]; exact True.intro) hs he (dk_new hl' hd (rel.put k ry) dd')
  · obtain ⟨zs, ws, g1, g2, g3, g4, g5, g6⟩ := dict_tup O I c h2
    obtain ⟨k, e1, e2⟩ := nk_key h1
    have hn := key_is I _ k x v e1 ha rx
    have ha0 := ha
    simp only [RepV] at ha
    obtain ⟨b, vs, rfl, hb, _⟩ := ha
    obtain rfl : v = Value.ref b := rx
    have l : ks.length = zs.length := by have := congrArg List.length g3; simpa using this
    rw [O.P, O.w]
    refine wpAny_dictSet_heap (knd := nestedKind G.P G.w) (by show X.A.units + 8 < cLine; have := O.un; omega) ⟨hn, e2⟩ g1 (fun h' hm' hs => ?_) (by rw [← l, sizeLine_eq]; unfold line at hl; omega)
    obtain ⟨o', I', c'⟩ := stored_dic (tk := s.toks + (nestedKind G.P G.w).draws k) O I hf ry hl ha0 hu c h2 e1 g2 g3 g4 g5 g6 hm' hs
    exact q _ _ I' c'
end
section
variable {C : SC} {G : Nms} {g : Gst} {X : Cx} {sc : Scope} {Wx : WX}
theorem sd_nil {pos : Pos} : PE X (.Dict [] [] pos) (tN G Wx g (.op (.dict 0) [])) :=
  PEi pe_dnewK fun σ H Q q p hp => by
    have h := tEs_nil (tN_opH rfl q)
    obtain ⟨W, us, u, c, e, hu, k⟩ := h
    obtain rfl : us = [] := by
      have := RepVs.length c
      exact List.length_eq_zero_iff.mp (by simpa using this)
    cases e
    refine k p _ hp ?_
    simp only [Cont]
    exact .inl ⟨[], upd_same, rfl, by simp only [List.map_nil, RepVs]⟩
theorem mkDic1 {a b u : U} (e : opDict 1 [a, b] = some u) : kOk [] a = true ∧ u = .dic (dput [] [] a b).1 (dput [] [] a b).2 := by
  have e : (if kOk [] a then mkDic [] (dput [] [] a b).1 (dput [] [] a b).2 else none) = some u := e
  split at e
  · rename_i h
    cases e
    exact ⟨h, rfl⟩
  · cases e
theorem two_es {σ : L2.St} {H : Hp} {m1 m2 : ME} {Q : List V → Hp → Prop} (h : tEs G Wx g [m1, m2] σ H Q) : tE G Wx g m1 σ H fun x H1 => tE G Wx g m2 σ H1 fun y H2 => Q [x, y] H2 :=
  tR_mono (tEs_cons h) fun x H1 h1 => tR_mono (tEs_cons h1) fun y H2 h2 => tEs_nil h2
theorem sd_one (O : Of G X) {ke ve : Expr} {m1 m2 : ME} {pos : Pos} (hk : PE X ke (tE G Wx g m1)) (hv : PE X ve (tE G Wx g m2)) : PE X (.Dict [some ke] [ve] pos) (tN G Wx g (.op (.dict 1) [m1, m2])) := by
  refine ⟨fun pins s σ H Q I h => ?_⟩
  have hn := I.hok.fresh (Nat.le_refl s.heap.objs.size)
  generalize hp : s.heap.objs.size = p at hn
  obtain ⟨W, st, r, h⟩ := h
  have I1 : Inv X pins σ (L2.upd H p (.dK [])) { s with heap := s.heap.push { cls := .type "dict", data := .dict #[] } } := by
    have := I.laid (a := s.heap.objs.size) (o := .dK []) (h' := s.heap.push { cls := .type "dict", data := .dict #[] }) (t' := s.toks) (fun _ _ q => Heap.get?_push_of_some _ q) (Nat.le_refl _) (dk_empty s.heap I.big)
    rw [hp] at this
    exact this
  -- what the pairs are for
  have r1 := r.upd (o := .dK []) hn
  have hT : tEs G Wx g [m1, m2] σ (L2.upd H p (.dK [])) fun xs H2 => ∃ W2 s2 a b x y, xs = [x, y] ∧ kOk [] a = true ∧ RepV G W2 H2 a x ∧ RepV G W2 H2 b y ∧ ¬ W2.fz p ∧ Cont G W2 H2 p (.dic [] []) ∧ RelFr G W2 s2 σ H2 ∧
      ∀ o', Cont G W2 (L2.upd H2 p o') p (.dic (dput [] [] a b).1 (dput [] [] a b).2) → Q (.ref p) (L2.upd H2 p o') := by
    refine ⟨W, st, r1, ?_⟩
    unfold evalE newOf at h
    simp only [show (Opr.dict 1).holds = true from rfl, if_true] at h
    cases ea : evalEs g [m1, m2] st with
    | stuck => rw [ea] at h; exact h
    | exc x s' => rw [ea] at h; exact tAt.shift (R := RVs G) (Q := fun _ _ => True) (r := .exc x s') (.upd hn) (by exact h)
    | ok as s2 =>
      rw [ea] at h
      intro W2 H2 xs e2 r2 ra
      simp only [Rs.bind] at h
      cases eo : opSem g (.dict 1) as with
      | none => rw [eo] at h; exact h.elim
      | some u =>
        rw [eo] at h
        simp only at h
        change opDict 1 as = some u at eo
        have hlen : as.length = 2 := by
          have eo : (if as.length == 2 * 1 then mkDic as [] [] else none) = some u := eo
          split at eo
          · rename_i hl; simpa using hl
          · cases eo
        match as, hlen, eo, ra with
        | [a, b], _, eo, ra =>
        obtain ⟨hk0, rfl⟩ := mkDic1 eo
        rw [if_pos (show isLD (U.dic (dput [] [] a b).fst (dput [] [] a b).snd) = true from rfl)] at h
        obtain ⟨x, y, rfl, ha, hb⟩ := RepVs.two_of ra
        -- the new dict is nobody's
        have hsome : (L2.upd H p (.dK [])) p = some (.dK []) := upd_same
        have pal0 : p ∉ W.al := fun z => by obtain ⟨o, e⟩ := r.m.al_some z; rw [hn] at e; cases e
        have pow0 : ¬ Ownd st σ p := fun z => by obtain ⟨o, e⟩ := r.own_some z; rw [hn] at e; cases e
        have pfz0 : ¬ W.fz p := fun z => by obtain ⟨o, e⟩ := r.m.sm p z; rw [hn] at e; cases e
        have pfz : ¬ W2.fz p := fun z => by
          rcases e2.new p (.inl ⟨z, pfz0⟩) with q | q | q
          · rw [hsome] at q; cases q
          · exact pow0 q
          · exact pal0 q
        have pal : p ∉ W2.al := fun z => by
          rcases e2.new p (.inr ⟨z, pal0⟩) with q | q | q
          · rw [hsome] at q; cases q
          · exact pow0 q
          · exact pal0 q
        have pow : ¬ Ownd s2 σ p := fun z => pow0 (z.mono e2.own)
        have hH2 : H2 p = some (.dK []) := e2.fr p _ hsome pal0 pow0
        have c2 : Cont G W2 H2 p (.dic [] []) := by
          simp only [Cont]
          exact .inl ⟨[], hH2, rfl, by simp only [List.map_nil, RepVs]⟩
        refine ⟨W2, s2, a, b, x, y, rfl, hk0, ha, hb, pfz, c2, r2, fun o' c' => ?_⟩
        have kp : Kp W2 H2 (L2.upd H2 p o') := cont_kp pfz c2
        have back : ∀ {q o}, H2 q = some o → q ≠ p → (L2.upd H2 p o') q = some o := fun h1 h2 => by rw [upd_ne h2]; exact h1
        refine h W2 _ _ ⟨e2.le, ?_, fun q o hq hq1 hq2 => ?_, fun q hq => ?_, e2.own, e2.len⟩ ⟨r2.len, fun i z hz => ?_, r2.apart, ?_⟩ ⟨p, rfl, pfz, pal, pow, .inl hn, c'⟩
        · exact (kp_upd hn : Kp W H _).trans (.refl W) (e2.kp.trans e2.le kp)
        · have hne : q ≠ p := ne_of_none hq hn
          exact back (e2.fr q o (by rw [upd_ne hne]; exact hq) hq1 hq2) hne
        · rcases e2.new q hq with z | z | z
          · left
            by_cases hqp : q = p
            · subst hqp; exact hn
            · rw [upd_ne hqp] at z; exact z
          · exact .inr (.inl z)
          · exact .inr (.inr z)
        · obtain ⟨y', h1, h2⟩ := r2.slt i z hz
          refine ⟨y', h1, ?_⟩
          cases z with
          | no => trivial
          | val u => obtain ⟨v, e, q⟩ := h2; exact ⟨v, e, RepV.mono (.refl W2) kp _ q⟩
          | clo us => exact CloOk.mono (.refl W2) kp h2
          | own u =>
            obtain ⟨q, e, f, n, c⟩ := h2
            refine ⟨q, e, f, n, c.mono (.refl W2) kp fun o ho => back ho fun z => ?_⟩
            subst z; subst e
            exact pow ⟨i, u, hz, h1⟩
        · refine ⟨r2.m.len, r2.m.nod, fun n q hq => ?_, fun q hq => ?_⟩
          · obtain ⟨h1, u, h2, h3⟩ := r2.m.mem n q hq
            exact ⟨h1, u, h2, h3.mono (.refl W2) kp fun o ho => back ho fun z => by subst z; exact pal (List.mem_of_getElem? hq)⟩
          · obtain ⟨o, ho⟩ := r2.m.sm q hq
            exact ⟨o, back ho fun z => by subst z; exact pfz hq⟩
  have hT2 := two_es hT
  refine wpAny_Dict_any (by rfl) rfl (by simp) (by simp) ?_
  rw [hp]
  show wpAny _ _ (evalPairs [(eval ke X.env, do let x ← eval ve X.env; standAt pos; pure x)]) _ _ _
  refine evalPairs_cons (thn (hk.run pins _ σ _ _ I1 hT2) fun kv s2 ⟨x, H2, I2, rx, q2⟩ => ?_)
  refine wpAny_bind (thn (hv.run pins s2 σ H2 _ I2 q2) fun vv s3 ⟨y, H3, I3, ry, q3⟩ => wpAny_bind (wpAny_standAt (wpAny_pure (evalPairs_nil ?_))))
  obtain ⟨W2, s2', a, b, x', y', e1, hk0, ha, hb, pfz, c2, r2, fin⟩ := q3
  simp only [List.cons.injEq, and_true] at e1
  obtain ⟨rfl, rfl⟩ := e1
  unfold storeAll
  rw [List.forIn_cons]
  refine wpAny_bind (wpAny_bind (put_dic (Q := fun _ s4 => _) O I3 pfz rx ry hk0 (by unfold line; decide) ha hb c2 fun o' s4 I4 c4 => ?_))
  refine wpAny_pure ?_
  show wpAny _ _ (forIn [] PUnit.unit _) _ _ s4
  rw [List.forIn_nil]
  exact wpAny_pure ⟨.ref p, _, I4, rfl, fin o' c4⟩
end
end MP
set_option maxRecDepth 100000
set_option maxHeartbeats 1000000
/-! R2f: tests, and, or, not, choices, chains. -/
namespace MP
open PySem PySem.Spec PyProof.Rows L2
section
variable {C : SC} {G : Nms} {g : Gst} {X : Cx} {sc : Scope} {Wx : WX} {σ : L2.St} {H : Hp}
theorem tR_bind {α β γ δ : Type} {f : Sta → Rs α} {k : α → Sta → Rs γ} {R' : L2.St → Wd → Sta → Hp → γ → δ → Prop} {Q : δ → Hp → Prop} (R : L2.St → Wd → Sta → Hp → α → β → Prop)
    (h : tR G Wx (fun s => (f s).bind k) R' σ H Q) : tR G Wx f R σ H fun b H1 => ∃ a W1 s1, RelFr G W1 s1 σ H1 ∧ R σ W1 s1 H1 a b ∧ tAt G Wx (k a s1) W1 s1 σ H1 (R' σ) Q := by
  obtain ⟨W, s, r, h⟩ := h
  refine ⟨W, s, r, ?_⟩
  refine tAt.imp (tAt.bind (R σ) h) ?_
  intro a s' W' H' b _ e1 r1 ra k
  obtain ⟨a1, W1, s1, _, e2, r2, ra2, h2⟩ := k b ra
  exact ⟨a1, W1, s1, r2, ra2, h2⟩
theorem tR_eq {α β : Type} {f f' : Sta → Rs α} {R : L2.St → Wd → Sta → Hp → α → β → Prop} {Q : β → Hp → Prop} (e : ∀ s, f s = f' s) (h : tR G Wx f R σ H Q) : tR G Wx f' R σ H Q := by
  obtain ⟨W, s, r, h⟩ := h
  exact ⟨W, s, r, by rw [← e]; exact h⟩
theorem truV {W : Wd} {s : Sta} {a : U} {x : V} {b : Bool} (h : CRep G W H a x) (e : truthy a = some b) : TruV G.K x H b := by
  cases a with
  | non => obtain rfl := h.non; cases e; rfl
  | bl c => obtain rfl := h.bl; cases e; rfl
  | int i => obtain rfl := h.int; cases e; rfl
  | str z =>
    obtain rfl := h.str
    simp only [truthy] at e
    split at e
    · rename_i hl
      cases e
      refine ⟨by rw [sOf_length]; exact le_line hl, ?_⟩
      rw [sOf_length]
      cases z with
      | nil => rfl
      | cons c z =>
        have : ((c :: z).length : Int) ≠ 0 := by simp only [List.length_cons]; omega
        rw [show ((c :: z).length : Int) != 0 from by simpa using this]
        rfl
    · cases e
  | tup us =>
    obtain ⟨p, vs, rfl, h1, h2⟩ := h.tup
    cases e
    refine .inr (.inl ⟨vs, TX.sq h1, ?_⟩)
    have := RepVs.length h2
    cases us <;> cases vs <;> first | rfl | (simp at this)
  | lst us =>
    obtain ⟨p, vs, rfl, h1, h2⟩ := h.lst
    cases e
    refine .inl ⟨vs, SqL.of h1, ?_⟩
    have := RepVs.length h2
    cases us <;> cases vs <;> first | rfl | (simp at this)
  | dic ks vs =>
    obtain ⟨p, rfl, c⟩ := h.dic
    simp only [truthy] at e
    split at e
    · rename_i hk
      cases e
      obtain ⟨kvs, h1, h2, _⟩ := dict_is c hk
      refine .inr (.inr ⟨kvs, h1, ?_⟩)
      cases ks <;> cases kvs <;> first | rfl | (simp at h2)
    · cases e
  | _ => cases e
theorem arg_ok {f : Sta → Rs U} {m : ME} {s s1 : Sta} {av : AV} (h : argOf f m s = .ok av s1) : av.ok s1 = true := by
  unfold argOf at h
  split at h
  · rename_i i e
    cases h
    unfold isOwn at e
    split at e
    · split at e
      · cases e
        rename_i u he
        show (match slot _ i with | .own _ => true | _ => false) = true
        rw [he]
      · cases e
    · cases e
  · cases e : f s with
    | ok u s2 => rw [e] at h; cases h; rfl
    | exc _ _ => rw [e] at h; cases h
    | stuck => rw [e] at h; cases h
def truB (u : U) (s : Sta) : Rs Bool := match truthy u with
  | some b => .ok b s
  | none => .stuck
/-- a test: the argument's truth -/
theorem tCond_arg {m : ME} {Q : Bool → Hp → Prop} (h : tCond G Wx g m σ H Q) : tArg G Wx g m σ H fun x H' => ∃ k, TruV G.K x H' k ∧ Q k H' := by
  obtain ⟨W, s, r, h⟩ := h
  refine ⟨W, s, r, ?_⟩
  unfold condOf at h
  cases ea : argOf (fun s => evalE g m s) m s with
  | stuck => rw [ea] at h; exact h
  | exc x s' => rw [ea] at h; exact h
  | ok av s1 =>
    rw [ea] at h
    intro W1 H1 x e1 r1 ra
    simp only [Rs.bind] at h
    cases et : truthy (av.get s1) with
    | none => rw [et] at h; exact h.elim
    | some b =>
      rw [et] at h
      exact ⟨b, truV (s := s1) (crep_of r1 ra (arg_ok ea)) et, tAt.fin (h.shift e1) r1 rfl⟩
def plainC : Expr → Bool
  | .UnaryOp .Not _ _ => false
  | .BoolOp _ _ _ => false
  | .IfExp _ _ _ _ => false
  | .Compare _ _ _ _ => false
  | _ => true
theorem pt_gen (O : Of G X) {e : Expr} {m : ME} (hp : plainC e = true) (h : PE X e (tArg G Wx g m)) : PT X e (tCond G Wx g m) :=
  PTi (pt_truth h (by
    intro whole
    cases e <;> first | rfl | (cases hp; done) | skip
    rename_i op a p
    cases op <;> first | rfl | cases hp)) fun σ H Q q => by
      rw [O.K]
      exact tCond_arg q
/-- from a value to a test -/
theorem cond_of {m : ME} {Q : Bool → Hp → Prop} (h : tR G Wx (fun s => (evalE g m s).bind fun u s => truB (MP.cont s.m u) s) (fun _ => RB) σ H Q) : tCond G Wx g m σ H Q := by
  obtain ⟨W, s, r, h⟩ := h
  refine ⟨W, s, r, ?_⟩
  unfold condOf argOf
  cases eo : isOwn s m with
  | none =>
    cases ev : evalE g m s with
    | stuck => simp only [ev, Rs.bind] at h; exact h.elim
    | exc x s' => simp only [ev, Rs.bind] at h ⊢; exact h
    | ok u s1 => simp only [ev, Rs.bind] at h ⊢; exact h
  | some i =>
    exfalso
    unfold isOwn at eo
    split at eo
    · split at eo
      · cases eo
        rename_i u he
        unfold evalE at h
        simp only [he, Rs.bind] at h
        exact h
      · cases eo
    · cases eo
theorem of_cond {m : ME} {Q : Bool → Hp → Prop} (hm : isVar m = false) (h : tCond G Wx g m σ H Q) : tR G Wx (fun s => (evalE g m s).bind fun u s => truB (MP.cont s.m u) s) (fun _ => RB) σ H Q := by
  obtain ⟨W, s, r, h⟩ := h
  refine ⟨W, s, r, ?_⟩
  have e : isOwn s m = none := by cases m <;> first | rfl | cases hm
  unfold condOf argOf at h
  rw [e] at h
  cases ev : evalE g m s with
  | stuck => simp only [ev, Rs.bind] at h; exact h.elim
  | exc x s' => simp only [ev, Rs.bind] at h ⊢; exact h
  | ok u s1 => simp only [ev, Rs.bind] at h ⊢; exact h
/-- a comparison's truth, where its value is a truth -/
theorem cond_val {m : ME} {Q : Bool → Hp → Prop} (hm : isVar m = false) (hb : ∀ s u s', evalE g m s = .ok u s' → ∃ b, u = .bl b) (h : tCond G Wx g m σ H Q) : tE G Wx g m σ H fun x H' => ∃ k, x = .bl k ∧ Q k H' := by
  obtain ⟨W, s, r, h⟩ := of_cond hm h
  refine ⟨W, s, r, ?_⟩
  cases ev : evalE g m s with
  | stuck => simp only [ev, Rs.bind] at h; exact h.elim
  | exc x s' => simp only [ev, Rs.bind] at h; exact h
  | ok u s1 =>
    simp only [ev, Rs.bind] at h
    obtain ⟨b, rfl⟩ := hb s u s1 ev
    intro W1 H1 x e1 r1 ra
    have ra : RepV G W1 H1 (.bl b) x := ra
    simp only [RepV] at ra
    subst ra
    exact ⟨b, rfl, tAt.fin (h.shift e1) r1 rfl⟩
end
end MP
set_option maxRecDepth 100000
set_option maxHeartbeats 1000000
/-! R2g: not, and, or, choices, comparisons, as values and as tests. -/
namespace MP
open PySem PySem.Spec PyProof.Rows L2
section
variable {C : SC} {G : Nms} {g : Gst} {X : Cx} {sc : Scope} {Wx : WX} {σ : L2.St} {H : Hp} {pos : Pos}
theorem rv_bl {W : Wd} {s : Sta} {b : Bool} {v : V} (h : RV G W s H (.bl b) v) : v = .bl b := by
  have h : RepV G W H (.bl b) v := h
  simpa only [RepV] using h
/-! not -/
theorem not_eq (m : ME) (s : Sta) : evalE g (.not m) s = (condOf (fun s => evalE g m s) m s).bind fun b s => .ok (.bl (!b)) s := by
  conv => lhs; unfold evalE
  unfold condOf
  cases argOf (fun s => evalE g m s) m s with
  | ok av s1 =>
    simp only [Rs.bind]
    cases truthy (av.get s1) <;> rfl
  | _ => rfl
theorem tE_not {m : ME} {Q : VK} (h : tE G Wx g (.not m) σ H Q) : tCond G Wx g m σ H fun b H' => Q (.bl (!b)) H' := by
  refine tR_mono (tR_bind (fun _ => RB) (tR_eq (not_eq m) h)) fun b H1 ⟨a, W1, s1, r1, ra, k⟩ => ?_
  have ra : a = b := ra
  subst ra
  exact tAt.fin k r1 (by show RepV G W1 H1 _ _; simp only [RepV])
theorem se_not (O : Of G X) {m : ME} {e : Expr} (h : PE X e (tArg G Wx g m)) : PE X (.UnaryOp .Not e pos) (tE G Wx g (.not m)) :=
  PEi (pe_notT h) fun σ H Q q => by
    rw [O.K]
    exact tCond_arg (tE_not q)
theorem not_bl (m : ME) (s : Sta) (u : U) (s' : Sta) (h : evalE g (.not m) s = .ok u s') : ∃ b, u = .bl b := by
  rw [not_eq] at h
  cases e : condOf (fun s => evalE g m s) m s with
  | ok b s1 => rw [e] at h; cases h; exact ⟨_, rfl⟩
  | exc _ _ => rw [e] at h; cases h
  | stuck => rw [e] at h; cases h
theorem st_not {m : ME} {e : Expr} (h : PT X e (tCond G Wx g m)) : PT X (.UnaryOp .Not e pos) (tCond G Wx g (.not m)) :=
  PTi (pt_not h) fun σ H Q q => tR_mono (tE_not (cond_val rfl (not_bl m) q)) fun b H1 ⟨k, e, q⟩ => by
    cases e
    exact q

/-! and, or -/
theorem se_and1 {m : ME} {e : Expr} {op : BoolOp} (h : PE X e (tE G Wx g m)) : PE X (.BoolOp op [e] pos) (tE G Wx g m) := pe_one h
theorem and_cons {m m2 : ME} {ms : List ME} {Q : VK} (h : tE G Wx g (.and (m :: m2 :: ms)) σ H Q) : tAndV (tE G Wx g m) (tE G Wx g (.and (m2 :: ms))) σ H Q := by
  have h : tR G Wx (fun s => (evalE g m s).bind fun u s => match u with | .bl true => evalAnd g (m2 :: ms) s | .bl false => .ok (.bl false) s | _ => .stuck) (fun _ => RV G) σ H Q := h
  refine tR_mono (tR_bind (fun _ => RV G) h) fun v H1 ⟨a, W1, s1, r1, ra, k⟩ => ?_
  split at k
  · have := rv_bl (s := s1) ra; subst this
    exact ⟨true, rfl, by rw [if_pos rfl]; exact ⟨W1, s1, r1, k⟩⟩
  · have := rv_bl (s := s1) ra; subst this
    exact ⟨false, rfl, by rw [if_neg Bool.false_ne_true]; exact tAt.fin k r1 (by show RepV G W1 H1 _ _; simp only [RepV])⟩
  · exact k.elim
theorem or_cons {m m2 : ME} {ms : List ME} {Q : VK} (h : tE G Wx g (.or (m :: m2 :: ms)) σ H Q) : tOrV (tE G Wx g m) (tE G Wx g (.or (m2 :: ms))) σ H Q := by
  have h : tR G Wx (fun s => (evalE g m s).bind fun u s => match u with | .bl true => .ok (.bl true) s | .bl false => evalOr g (m2 :: ms) s | _ => .stuck) (fun _ => RV G) σ H Q := h
  refine tR_mono (tR_bind (fun _ => RV G) h) fun v H1 ⟨a, W1, s1, r1, ra, k⟩ => ?_
  split at k
  · have := rv_bl (s := s1) ra; subst this
    exact ⟨true, rfl, by rw [if_pos rfl]; exact tAt.fin k r1 (by show RepV G W1 H1 _ _; simp only [RepV])⟩
  · have := rv_bl (s := s1) ra; subst this
    exact ⟨false, rfl, by rw [if_neg Bool.false_ne_true]; exact ⟨W1, s1, r1, k⟩⟩
  · exact k.elim
theorem se_and : ∀ {ms : List ME} {es : List Expr}, Paired (fun m e => PE X e (tE G Wx g m)) ms es → es ≠ [] → PE X (.BoolOp .And es pos) (tE G Wx g (.and ms))
  | [], [], _, h => absurd rfl h
  | [m], [e], .cons h .nil, _ => se_and1 h
  | m :: m2 :: ms, e :: e2 :: es, .cons h t, _ => PEi (pe_and h (se_and t (by simp))) fun σ H Q q => and_cons q
  | [m], e :: e2 :: es, h, _ => by cases h with | cons _ t => cases t
  | m :: m2 :: ms, [e], h, _ => by cases h with | cons _ t => cases t
  | [], _ :: _, h, _ => by cases h
  | _ :: _, [], h, _ => by cases h
theorem se_or : ∀ {ms : List ME} {es : List Expr}, Paired (fun m e => PE X e (tE G Wx g m)) ms es → es ≠ [] → PE X (.BoolOp .Or es pos) (tE G Wx g (.or ms))
  | [], [], _, h => absurd rfl h
  | [m], [e], .cons h .nil, _ => se_and1 h
  | m :: m2 :: ms, e :: e2 :: es, .cons h t, _ => PEi (pe_or h (se_or t (by simp))) fun σ H Q q => or_cons q
  | [m], e :: e2 :: es, h, _ => by cases h with | cons _ t => cases t
  | m :: m2 :: ms, [e], h, _ => by cases h with | cons _ t => cases t
  | [], _ :: _, h, _ => by cases h
  | _ :: _, [], h, _ => by cases h
/-- an element's own test, from the whole's -/
theorem cand1 {m : ME} {Q : Bool → Hp → Prop} (h : tCond G Wx g (.and [m]) σ H Q) : tCond G Wx g m σ H Q := cond_of (of_cond (m := .and [m]) rfl h)
theorem cor1 {m : ME} {Q : Bool → Hp → Prop} (h : tCond G Wx g (.or [m]) σ H Q) : tCond G Wx g m σ H Q := cond_of (of_cond (m := .or [m]) rfl h)
theorem bl_cond {b : Bool} {W : Wd} {s : Sta} {Q : Bool → Hp → Prop} (h : tAt G Wx ((Rs.ok (U.bl b) s).bind fun u s => truB (MP.cont s.m u) s) W s σ H RB Q) (r : RelFr G W s σ H) : Q b H := tAt.fin (a := b) h r rfl
theorem cand {m m2 : ME} {ms : List ME} {Q : Bool → Hp → Prop} (h : tCond G Wx g (.and (m :: m2 :: ms)) σ H Q) : tAnd (tCond G Wx g m) (tCond G Wx g (.and (m2 :: ms))) σ H Q := by
  refine cond_of ?_
  obtain ⟨W, s, r, h⟩ := of_cond rfl h
  refine ⟨W, s, r, ?_⟩
  have e0 : evalE g (.and (m :: m2 :: ms)) s = (evalE g m s).bind fun u s => match u with | .bl true => evalAnd g (m2 :: ms) s | .bl false => .ok (.bl false) s | _ => .stuck := rfl
  simp only [e0] at h
  cases ev : evalE g m s with
  | stuck => simp only [ev, Rs.bind] at h; exact h.elim
  | exc x s' => simp only [ev, Rs.bind] at h ⊢; exact h
  | ok u s1 =>
    simp only [ev] at h ⊢
    cases u with
    | bl c =>
      cases c with
      | true =>
        have h : tAt G Wx ((evalAnd g (m2 :: ms) s1).bind fun u s => truB (MP.cont s.m u) s) W s σ H RB Q := h
        intro W1 H1 b e1 r1 hb
        obtain rfl : true = b := hb
        rw [if_pos rfl]
        exact cond_of ⟨W1, s1, r1, h.shift e1⟩
      | false =>
        have h : tAt G Wx ((Rs.ok (U.bl false) s1).bind fun u s => truB (MP.cont s.m u) s) W s σ H RB Q := h
        intro W1 H1 b e1 r1 hb
        obtain rfl : false = b := hb
        rw [if_neg Bool.false_ne_true]
        exact bl_cond (h.shift e1) r1
    | _ => exact (show False from h).elim
theorem cor {m m2 : ME} {ms : List ME} {Q : Bool → Hp → Prop} (h : tCond G Wx g (.or (m :: m2 :: ms)) σ H Q) : tOr (tCond G Wx g m) (tCond G Wx g (.or (m2 :: ms))) σ H Q := by
  refine cond_of ?_
  obtain ⟨W, s, r, h⟩ := of_cond rfl h
  refine ⟨W, s, r, ?_⟩
  have e0 : evalE g (.or (m :: m2 :: ms)) s = (evalE g m s).bind fun u s => match u with | .bl true => .ok (.bl true) s | .bl false => evalOr g (m2 :: ms) s | _ => .stuck := rfl
  simp only [e0] at h
  cases ev : evalE g m s with
  | stuck => simp only [ev, Rs.bind] at h; exact h.elim
  | exc x s' => simp only [ev, Rs.bind] at h ⊢; exact h
  | ok u s1 =>
    simp only [ev] at h ⊢
    cases u with
    | bl c =>
      cases c with
      | true =>
        have h : tAt G Wx ((Rs.ok (U.bl true) s1).bind fun u s => truB (MP.cont s.m u) s) W s σ H RB Q := h
        intro W1 H1 b e1 r1 hb
        obtain rfl : true = b := hb
        rw [if_pos rfl]
        exact bl_cond (h.shift e1) r1
      | false =>
        have h : tAt G Wx ((evalOr g (m2 :: ms) s1).bind fun u s => truB (MP.cont s.m u) s) W s σ H RB Q := h
        intro W1 H1 b e1 r1 hb
        obtain rfl : false = b := hb
        rw [if_neg Bool.false_ne_true]
        exact cond_of ⟨W1, s1, r1, h.shift e1⟩
    | _ => exact (show False from h).elim
theorem sw_and : ∀ {ms : List ME} {es : List Expr}, Paired (fun m e => PT X e (tCond G Wx g m)) ms es → es ≠ [] → PW X (.BoolOp .And es pos) (tCond G Wx g (.and ms))
  | [], [], _, h => absurd rfl h
  | [m], [e], .cons h .nil, _ => pw_and1 (PTi h fun σ H Q q => cand1 q)
  | m :: m2 :: ms, e :: e2 :: es, .cons h t, _ => ⟨fun whole pins s σ H Q I q => (pw_and h (sw_and t (by simp))).run whole pins s σ H Q I (cand q)⟩
  | [m], e :: e2 :: es, h, _ => by cases h with | cons _ t => cases t
  | m :: m2 :: ms, [e], h, _ => by cases h with | cons _ t => cases t
  | [], _ :: _, h, _ => by cases h
  | _ :: _, [], h, _ => by cases h
theorem sw_or : ∀ {ms : List ME} {es : List Expr}, Paired (fun m e => PT X e (tCond G Wx g m)) ms es → es ≠ [] → PW X (.BoolOp .Or es pos) (tCond G Wx g (.or ms))
  | [], [], _, h => absurd rfl h
  | [m], [e], .cons h .nil, _ => pw_or1 (PTi h fun σ H Q q => cor1 q)
  | m :: m2 :: ms, e :: e2 :: es, .cons h t, _ => ⟨fun whole pins s σ H Q I q => (pw_or h (sw_or t (by simp))).run whole pins s σ H Q I (cor q)⟩
  | [m], e :: e2 :: es, h, _ => by cases h with | cons _ t => cases t
  | m :: m2 :: ms, [e], h, _ => by cases h with | cons _ t => cases t
  | [], _ :: _, h, _ => by cases h
  | _ :: _, [], h, _ => by cases h
end
end MP
set_option maxRecDepth 100000
set_option maxHeartbeats 1000000
/-! R2h: choices, chains, comparisons as tests, constants, globals, a name handed on. -/
namespace MP
open PySem PySem.Spec PyProof.Rows L2
section
variable {C : SC} {G : Nms} {g : Gst} {X : Cx} {sc : Scope} {Wx : WX} {σ : L2.St} {H : Hp} {pos : Pos}
/-! a if c else b -/
theorem ifx_eq (c a b : ME) (s : Sta) : evalE g (.ifx c a b) s = (condOf (fun s => evalE g c s) c s).bind fun k s => if k then evalE g a s else evalE g b s := by
  conv => lhs; unfold evalE
  unfold condOf
  cases argOf (fun s => evalE g c s) c s with
  | ok av s1 =>
    simp only [Rs.bind]
    cases truthy (av.get s1) with
    | none => rfl
    | some k => cases k <;> rfl
  | _ => rfl
theorem se_ifx {c a b : Expr} {m1 m2 m3 : ME} (hc : PT X c (tCond G Wx g m1)) (ha : PE X a (tE G Wx g m2)) (hb : PE X b (tE G Wx g m3)) : PE X (.IfExp c a b pos) (tE G Wx g (.ifx m1 m2 m3)) :=
  PEi (pe_ifExp hc ha hb) fun σ H Q q => by
    refine tR_mono (tR_bind (fun _ => RB) (tR_eq (ifx_eq m1 m2 m3) q)) fun k H1 ⟨a, W1, s1, r1, ra, kk⟩ => ?_
    have ra : a = k := ra
    subst ra
    cases a with
    | true => rw [if_pos rfl]; exact ⟨W1, s1, r1, kk⟩
    | false => rw [if_neg Bool.false_ne_true]; exact ⟨W1, s1, r1, kk⟩

/-! comparisons give truths -/
theorem cmp_bl {o : Opr} {op : CmpOp} {us : List U} {u : U} (ho : cmpOf o = some op) (h : opSem g o us = some u) : ∃ b, u = .bl b := by
  cases o <;> first | (exfalso; revert ho; simp [cmpOf]; done) | skip
  case eq => change opEq us = some u at h; unfold opEq at h; (repeat' split at h) <;> first | (cases h; exact ⟨_, rfl⟩) | cases h
  case ne => change opNe us = some u at h; unfold opNe at h; (repeat' split at h) <;> first | (cases h; exact ⟨_, rfl⟩) | cases h
  case lt => change opLt us = some u at h; unfold opLt at h; (repeat' split at h) <;> first | (cases h; exact ⟨_, rfl⟩) | cases h
  case le => change opLe us = some u at h; unfold opLe at h; (repeat' split at h) <;> first | (cases h; exact ⟨_, rfl⟩) | cases h
  case gt => change opGt us = some u at h; unfold opGt at h; (repeat' split at h) <;> first | (cases h; exact ⟨_, rfl⟩) | cases h
  case ge => change opGe us = some u at h; unfold opGe at h; (repeat' split at h) <;> first | (cases h; exact ⟨_, rfl⟩) | cases h
  case inn => change opInn us = some u at h; unfold opInn at h; (repeat' split at h) <;> first | (cases h; exact ⟨_, rfl⟩) | cases h
  case notin => change opNotin us = some u at h; unfold opNotin at h; (repeat' split at h) <;> first | (cases h; exact ⟨_, rfl⟩) | cases h
theorem isN_bl {us : List U} {u : U} (h : opSem g .isN us = some u) : ∃ b, u = .bl b := by
  change opIsN us = some u at h
  unfold opIsN at h
  split at h <;> first | (cases h; exact ⟨_, rfl⟩) | cases h
theorem op_out {o : Opr} {ms : List ME} {s s' : Sta} {u : U} (h : evalE g (.op o ms) s = .ok u s') : ∃ us, opSem g o us = some u := by
  unfold evalE at h
  split at h
  · cases e : evalEs g ms s with
    | ok us s1 =>
      rw [e] at h
      simp only [Rs.bind] at h
      cases eo : opSem g o us with
      | none => rw [eo] at h; cases h
      | some u' => rw [eo] at h; cases h; exact ⟨us, eo⟩
    | exc _ _ => rw [e] at h; cases h
    | stuck => rw [e] at h; cases h
  · cases e : (if o.meth = true then evalRecv g ms s else evalAs g ms s) with
    | ok us s1 =>
      rw [e] at h
      simp only [Rs.bind] at h
      split at h
      · cases eo : opSem g o (us.map (AV.get s1)) with
        | none => rw [eo] at h; cases h
        | some u' => rw [eo] at h; cases h; exact ⟨_, eo⟩
      · cases h
    | exc _ _ => rw [e] at h; cases h
    | stuck => rw [e] at h; cases h
theorem st_cmp (O : Of G X) {o : Opr} {op : CmpOp} {a b : Expr} {m1 m2 : ME} (h : cmpOf o = some op) (hm : behindInMarks op b = false) (ha : PX G Wx g X m1 a) (hb : PX G Wx g X m2 b) : PT X (.Compare a [op] [b] pos) (tCond G Wx g (.op o [m1, m2])) :=
  PTi (pt_cmpR (so_cmp O h) ha hb hm) fun σ H Q q => two_args (tE_op (cmp_free h).1 (cmp_free h).2 (cond_val rfl (fun s u s' e => let ⟨us, e⟩ := op_out e; cmp_bl h e) q))
theorem st_isN (O : Of G X) {a b : Expr} {m1 : ME} (hb : isNone b = true) (ha : PX G Wx g X m1 a) : PT X (.Compare a [.Is] [b] pos) (tCond G Wx g (.op .isN [m1])) := by
  cases b <;> first | cases hb | skip
  rename_i c k p
  cases c <;> first | cases hb | skip
  exact PTi (pt_cmpR so_isN ha pe_non (by rfl)) fun σ H Q q => tR_mono (one_arg' (tE_op rfl rfl (cond_val rfl (fun s u s' e => let ⟨us, e⟩ := op_out e; isN_bl e) q))) fun x H1 h => ⟨rfl, h⟩

/-! a op b op c -/
theorem tChain_of {o o' : Opr} {m1 m2 m3 : ME} {Q : VK} (h : tE G Wx g (.chain o o' m1 m2 m3) σ H Q) : tChain (r2 G g o) (r2 G g o') (tE G Wx g m1) (tE G Wx g m2) (tE G Wx g m3) σ H Q := by
  have e0 : ∀ s, evalE g (.chain o o' m1 m2 m3) s = (evalE g m1 s).bind fun x s => (evalE g m2 s).bind fun y s => match opSem g o [x, y] with
      | some (.bl true) => (evalE g m3 s).bind fun z s => match opSem g o' [y, z] with
        | some u => .ok u s
        | none => .stuck
      | some (.bl false) => .ok (.bl false) s
      | _ => .stuck := fun s => by
    conv => lhs; unfold evalE
    try rfl
  refine tR_mono (tR_bind (fun _ => RV G) (tR_eq e0 h)) fun x H1 ⟨ux, W1, s1, r1, rx, k1⟩ => ?_
  refine ⟨W1, s1, r1, tAt.imp (tAt.bind (RV G) k1) ?_⟩
  intro uy' s2' W2' H2' y _ _ _ ry' kk
  obtain ⟨uy, W2, s2, _, e2, r2, ry, k2⟩ := kk y ry'
  cases eo : opSem g o [ux, uy] with
  | none => rw [eo] at k2; exact k2.elim
  | some u =>
    rw [eo] at k2
    cases u with
    | bl b =>
      refine ⟨Wx, W2, s2, σ, [ux, uy], .bl b, r2, .cons (.inl (RepV.ext e2 rx)) (.cons (.inl ry) .nil), eo, fun W3 H3 z e3 r3 hz => ?_⟩
      have := rv_bl (s := s2) hz
      subst this
      refine ⟨b, rfl, ?_⟩
      cases b with
      | true =>
        rw [if_pos rfl]
        have k2 : tAt G Wx ((evalE g m3 s2).bind fun z s => match opSem g o' [uy, z] with | some u => .ok u s | none => .stuck) W2 s2 σ _ (RV G) Q := k2
        refine ⟨W3, s2, r3, tAt.imp (tAt.bind (RV G) (k2.shift e3)) ?_⟩
        intro uz' s4' W4' H4' w _ _ _ rw' kk
        obtain ⟨uz, W4, s4, _, e4, r4, rw4, k4⟩ := kk w rw'
        cases eo' : opSem g o' [uy, uz] with
        | none => rw [eo'] at k4; exact k4.elim
        | some u =>
          rw [eo'] at k4
          exact ⟨Wx, W4, s4, σ, [uy, uz], u, r4, .cons (.inl (RepV.ext e4 (RepV.ext e3 ry))) (.cons (.inl rw4) .nil), eo', k4⟩
      | false =>
        rw [if_neg Bool.false_ne_true]
        exact tAt.fin (k2.shift e3) r3 (by show RepV G W3 H3 _ _; simp only [RepV])
    | _ => exact (show False from k2).elim
theorem chain_out {o o' : Opr} {op op' : CmpOp} (h1 : cmpOf o = some op) (h2 : cmpOf o' = some op') {m1 m2 m3 : ME} {s s' : Sta} {u : U} (h : evalE g (.chain o o' m1 m2 m3) s = .ok u s') : ∃ b, u = .bl b := by
  unfold evalE at h
  cases e1 : evalE g m1 s with
  | ok ux s1 =>
    rw [e1] at h
    simp only [Rs.bind] at h
    cases e2 : evalE g m2 s1 with
    | ok uy s2 =>
      rw [e2] at h
      simp only [Rs.bind] at h
      split at h
      · cases e3 : evalE g m3 s2 with
        | ok uz s3 =>
          rw [e3] at h
          simp only at h
          cases eo : opSem g o' [uy, uz] with
          | none => rw [eo] at h; cases h
          | some w => rw [eo] at h; cases h; exact cmp_bl h2 eo
        | exc _ _ => rw [e3] at h; cases h
        | stuck => rw [e3] at h; cases h
      · cases h; exact ⟨false, rfl⟩
      · cases h
    | exc _ _ => rw [e2] at h; cases h
    | stuck => rw [e2] at h; cases h
  | exc _ _ => rw [e1] at h; cases h
  | stuck => rw [e1] at h; cases h
theorem se_chain (O : Of G X) {o o' : Opr} {op op' : CmpOp} {a b c : Expr} {m1 m2 m3 : ME} (h1 : cmpOf o = some op) (h2 : cmpOf o' = some op') (hm : lastMarks [op, op'] [b, c] = false) (ha : PE X a (tE G Wx g m1)) (hb : PE X b (tE G Wx g m2)) (hc : PE X c (tE G Wx g m3)) :
    PE X (.Compare a [op, op'] [b, c] pos) (tE G Wx g (.chain o o' m1 m2 m3)) ∧ PT X (.Compare a [op, op'] [b, c] pos) (tCond G Wx g (.chain o o' m1 m2 m3)) :=
  ⟨PEi (pe_chain (so_cmp O h1) (so_cmp O h2) ha hb hc hm) fun σ H Q q => tChain_of q,
   PTi (pt_chain (so_cmp O h1) (so_cmp O h2) ha hb hc hm) fun σ H Q q => tChain_of (cond_val rfl (fun s u s' e => chain_out h1 h2 e) q)⟩

/-! constants, globals -/
def litOk : U → Expr → Bool
  | .int i, .Constant (.int j) _ _ => i == j
  | .bl i, .Constant (.bool j) _ _ => i == j
  | .str s, .Constant (.str x) _ _ => sOf s == x
  | .non, .Constant .none _ _ => true
  | _, _ => false
theorem se_lit {u : U} {e : Expr} (h : litOk u e = true) : PE X e (tE G Wx g (.lit u)) := by
  unfold litOk at h
  split at h
  · simp only [beq_iff_eq] at h
    subst h
    exact PEi pe_int fun σ H Q ⟨W, s, r, q⟩ => tAt.fin q r (by show RepV G W H _ _; simp only [RepV])
  · simp only [beq_iff_eq] at h
    subst h
    exact PEi pe_bl fun σ H Q ⟨W, s, r, q⟩ => tAt.fin q r (by show RepV G W H _ _; simp only [RepV])
  · simp only [beq_iff_eq] at h
    subst h
    exact PEi pe_str fun σ H Q ⟨W, s, r, q⟩ => tAt.fin q r (by show RepV G W H _ _; simp only [RepV])
  · exact PEi pe_non fun σ H Q ⟨W, s, r, q⟩ => tAt.fin q r (by show RepV G W H _ _; simp only [RepV])
  · cases h
theorem se_glo (D : Good C G g X sc) {n : Nat} {u : U} {x : Str} (h1 : glB sc x = true) (h2 : (x, n, u) ∈ C.glo) : PE X (.Name x pos) (tE G Wx g (.glo n u)) := by
  obtain ⟨g1, g2⟩ := glB_gl D h1
  obtain ⟨v, w, h3, h4, h5⟩ := D.s0.glo x n u h2
  exact PEi (pe_glob g1 h3 h4 g2) fun σ H Q ⟨W, s, r, q⟩ => tAt.fin q r (h5 W H)
end
end MP
set_option maxRecDepth 100000
set_option maxHeartbeats 1000000
/-! R2i: calls of one's own defs. -/
namespace MP
open PySem PySem.Spec PyProof.Rows L2
/-- a def's promise: it answers as it is told to -/
def spI (G : Nms) (g : Gst) (f : Nat) : Sp := fun vs H Q E => ∃ W us m, RelSh G W m H ∧ RepVs G W H us vs ∧ match g.call f us m with
  | .ok u m' => ∀ W' H' v, ExtM W W' H H' → RelSh G W' m' H' → RepV G W' H' u v → Q v H'
  | .exc e m' => ∀ W' H' cls d, ExtM W W' H H' → RelSh G W' m' H' → ExcOk G W' H' e cls d → E cls d H'
  | .stuck => False
theorem lookup_memK {β : Type} : ∀ {l : List (Str × β)} {x : Str} {y : β}, l.lookup x = some y → (x, y) ∈ l
  | [], x, y, h => by cases h
  | (a, b) :: l, x, y, h => by
    rw [List.lookup_cons] at h
    split at h
    · rename_i e
      cases h
      have := eq_of_beq e
      subst this
      exact List.mem_cons_self
    · exact List.mem_cons_of_mem _ (lookup_memK h)
section
variable {C : SC} {G : Nms} {g : Gst} {X : Cx} {sc : Scope} {Wx : WX} {σ : L2.St} {H H' : Hp} {pos : Pos} {W W' : Wd} {s : Sta} {m' : List U}
theorem callFr (r : RelFr G W s σ H) (e : ExtM W W' H H') (rm : RelSh G W' m' H') : RelFr G W' ⟨s.r, m'⟩ σ H' ∧ Ext s ⟨s.r, m'⟩ σ W W' H H' := by
  refine ⟨⟨r.len, fun i x hx => ?_, r.apart, rm⟩, ⟨e.le, e.kp, fun a o h1 h2 _ => e.fr a o h1 h2, fun a ha => ?_, fun i u h => ⟨u, h⟩, rfl⟩⟩
  · obtain ⟨y, h1, h2⟩ := r.slt i x hx
    refine ⟨y, h1, ?_⟩
    cases x with
    | no => trivial
    | val u => obtain ⟨v, q1, q2⟩ := h2; exact ⟨v, q1, RepV.mono e.le e.kp _ q2⟩
    | own u =>
      obtain ⟨p, q1, q2, q3, q4⟩ := h2
      obtain ⟨o, ho⟩ := q4.some
      refine ⟨p, q1, fun z => ?_, fun z => ?_, q4.mono e.le e.kp fun o' ho' => e.fr p o' ho' q3⟩
      · rcases e.new p (.inl ⟨z, q2⟩) with k | k
        · rw [ho] at k; cases k
        · exact q3 k
      · rcases e.new p (.inr ⟨z, q3⟩) with k | k
        · rw [ho] at k; cases k
        · exact q3 k
    | clo us => exact CloOk.mono e.le e.kp h2
  · rcases e.new a ha with k | k
    · exact .inl k
    · exact .inr (.inr k)
theorem tE_call {f : Nat} {ms : List ME} {Q : VK} (h : tE G Wx g (.call f ms) σ H Q) : tCallS (spI G g f) (WE Wx) (tEs G Wx g ms) σ H Q := by
  have h : tR G Wx (fun s => (evalEs g ms s).bind fun us s => rc s.r (g.call f us s.m)) (fun _ => RV G) σ H Q := h
  refine tR_mono (tR_bind (fun _ => RVs G) h) fun vs H1 ⟨us, W1, s1, r1, ra, k⟩ => ?_
  refine ⟨W1, us, s1.m, r1.m, ra, ?_⟩
  cases ec : g.call f us s1.m with
  | ok u m' =>
    rw [ec] at k
    intro W' H' v e rm rv
    obtain ⟨q1, q2⟩ := callFr r1 e rm
    exact k W' H' v q2 q1 rv
  | exc x m' =>
    rw [ec] at k
    intro W' H' cls d e rm rx
    obtain ⟨q1, q2⟩ := callFr r1 e rm
    exact k W' H' cls d q2 q1 rx
  | stuck => rw [ec] at k; exact k
/-- what is asked of a method's call -/
theorem tE_meth {o : ME} {mi : Nat} {ms : List ME} {Q : VK} (h : tE G Wx g (.meth o mi ms) σ H Q) : tE G Wx g o σ H fun x H1 => ∃ (c f : Nat) (a dx : Addr) (fvs : List (Str × V)), x = .ref a ∧ H1 a = some (.ins (G.cA c) dx fvs) ∧ (∀ y ∈ fvs.map (·.1), y ∈ G.aL) ∧ g.mt c mi = some f ∧
    tEs G Wx g ms σ H1 fun vs H2 => spI G g f (x :: vs) H2 Q (WE Wx σ) := by
  have h : tR G Wx (fun s => (evalE g o s).bind fun u s => match MP.cont s.m u with
      | .obj c _ => (match g.mt c mi with
        | some f => (evalEs g ms s).bind fun us s => rc s.r (g.call f (u :: us) s.m)
        | none => .stuck)
      | _ => .stuck) (fun _ => RV G) σ H Q := h
  refine tR_mono (tR_bind (fun _ => RV G) h) fun x H1 ⟨u, W1, s1, r1, ra, k⟩ => ?_
  have cr := crep_cont r1.m ra
  cases ec : MP.cont s1.m u with
  | obj c fs =>
    rw [ec] at k cr
    obtain ⟨a, dx, fvs, ws, ex, h1, h2, h3⟩ := cr.obj
    simp only at k
    cases em : g.mt c mi with
    | none => rw [em] at k; exact (show False from k).elim
    | some f =>
      rw [em] at k
      simp only at k
      refine ⟨c, f, a, dx, fvs, ex, h1, h3.sub, em, W1, s1, r1, ?_⟩
      refine tAt.imp (tAt.bind (RVs G) k) ?_
      intro us' s' W' H' vs _ e1 r1' ra1 k1
      obtain ⟨us, W2, s2, _, e2, r2, ra2, k2⟩ := k1 vs ra1
      refine ⟨W2, u :: us, s2.m, r2.m, by simp only [RepVs]; exact ⟨x, vs, rfl, RepV.ext e2 ra, ra2⟩, ?_⟩
      cases ec : g.call f (u :: us) s2.m with
      | ok u' m' =>
        rw [ec] at k2
        intro W'' H'' v e rm rv
        obtain ⟨q1, q2⟩ := callFr r2 e rm
        exact k2 W'' H'' v q2 q1 rv
      | exc x m' =>
        rw [ec] at k2
        intro W'' H'' cls d e rm rx
        obtain ⟨q1, q2⟩ := callFr r2 e rm
        exact k2 W'' H'' cls d q2 q1 rx
      | stuck => rw [ec] at k2; exact k2
  | _ => rw [ec] at k; exact (show False from k).elim
/-- a def that keeps its promise, by its name -/
def CallOk (G : Nms) (g : Gst) (K : PySem.W.Frag) (mg : Str → Option Value) (base : Heap) (k : Nat) (x : Str) (f : Nat) : Prop := ∃ fd ps, mg x = some (.ref (G.fA f)) ∧ PySem.W.keepIn K (.ref (G.fA f)) = true ∧ Binds K fd ps [] ∧
  FnOk G.P G.w K mg base (L2.CX G.P G.w) k (G.fA f) fd ps (spI G g f)
/-- a method that keeps its promise -/
structure MethOk (G : Nms) (g : Gst) (K : PySem.W.Frag) (mg : Str → Option Value) (base : Heap) (k : Nat) (c : Nat) (name : Str) (f : Nat) : Prop where
  cls : Cls K (G.cA c)
  at_ : Meth K (G.cA c) name (G.fA f)
  fn : ∃ fd ps, Binds K fd ps [] ∧ FnOk G.P G.w K mg base (L2.CX G.P G.w) k (G.fA f) fd ps (spI G g f)
/-- what makes instances of an own class -/
def MakeOk (G : Nms) (g : Gst) (K : PySem.W.Frag) (mg : Str → Option Value) (base : Heap) (k : Nat) (x : Str) (f : Nat) : Prop := ∃ (Ca fi : Addr) (fd : FuncData) (ps : List Str) (j : Nat) (sp0 : Sp), j + 1 ≤ k ∧ mg x = some (.ref Ca) ∧ Mk K Ca fi ∧ Binds K fd ps [] ∧
  FnOk G.P G.w K mg base (L2.CX G.P G.w) j fi fd ps sp0 ∧ ∀ vs H Q E, spI G g f vs H Q E → ∀ x dx, H x = none → H dx = none → dx ≠ x → sp0 (.ref x :: vs) (L2.upd (L2.upd H dx (.own x)) x (.ins Ca dx [])) (fun v H2 => v = .non ∧ Q (.ref x) H2) E
/-- with a lambda that was handed in -/
def Nms.lam (G : Nms) (f c : Addr) (q : Str) (vs : List V) : Nms := { G with lf := f, lc := c, lq := q, lv := vs }
/-- the lambda that was handed in, called -/
def tCV (G : Nms) (Wx : WX) (φ : List U → List U → RC) : TE := tR G Wx (fun s => match slot s 0 with | .clo us => rc s.r (φ us s.m) | _ => .stuck) fun _ => RV G
/-- a def that is called with a lambda -/
def LamOk (G : Nms) (g : Gst) (K : PySem.W.Frag) (mg : Str → Option Value) (base : Heap) (k : Nat) (x : Str) (f : Nat) : Prop := ∃ (ga : Addr) (Ng : List Str) (sg : Scope) (cdg : Value) (qg a : Str), mg x = some (.ref ga) ∧ PySem.W.keepIn K (.ref ga) = true ∧
  Ng[0]? = some a ∧ Vis sg a ∧ (a == ("__debug__" : Str)) = false ∧ (a == ("__classdict__" : Str)) = false ∧
  ∀ (A : Around) (outer : List Env) (s : Shared) (H : Hp) (Q : VK) (E : XK) (lf lc : Addr) (lq : Str) (lv : List V) (us m : List U) (φ : List U → List U → RC) (W : Wd), Room k A → Env0 G.P G.w K mg base A outer s H → K.In s.heap →
    (∀ (pn : List (Addr × Obj)) (xe : Value → Shared → Prop) (Wx : WX) (p1 p2 : Pos), Takes ((cxOf (L2.CX G.P G.w) G.P G.w K mg base Ng qg sg ga cdg A outer s H E).tr pn xe) Wx →
      PE ((cxOf (L2.CX G.P G.w) G.P G.w K mg base Ng qg sg ga cdg A outer s H E).tr pn xe) (.Call (.Name a p1) [] [] p2) (tCV (G.lam lf lc lq lv) Wx φ)) →
    RelSh G W m H → W.fz lc → H lc = some (LamX.CodeO lc lq) → RepVs G W H us lv →
    (match g.callL f us φ m with
      | .ok u m' => ∀ W' H' v, ExtM W W' H H' → RelSh G W' m' H' → RepV G W' H' u v → Q v H'
      | .exc e m' => ∀ W' H' cls d, ExtM W W' H H' → RelSh G W' m' H' → ExcOk G W' H' e cls d → E cls d H'
      | .stuck => False) →
    codeAny (model G.P G.w) A (.call (.ref ga) ⟨[.ref lf], []⟩) (CR (L2.CX G.P G.w) outer G.P G.w H s Q E) s
structure Full (C : SC) (G : Nms) (g : Gst) (k : Nat) (X : Cx) (sc : Scope) (Wx : WX) : Prop where
  good : Good C G g X sc
  room : Room k X.A
  calls : ∀ x f, C.fn.lookup x = some f → CallOk G g X.K X.mg X.base k x f
  makes : ∀ x f, C.mks.lookup x = some f → MakeOk G g X.K X.mg X.base k x f
  meths : ∀ name mi c f, C.mth.lookup name = some mi → g.mt c mi = some f → MethOk G g X.K X.mg X.base k c name f
  pass : ∀ σ, PassesAt (L2.CX X.prog X.w) X σ (WE Wx σ)
  clos : C.cv = true → ∀ a p1 p2, C.N[0]? = some a → PE X (.Call (.Name a p1) [] [] p2) (tE G Wx g (.callv 0 []))
  mkr : ∀ t, C.tid = some t → Room (k + 2) X.A ∧ ∃ c, X.env.code = .ref c ∧ LamX.TabB X.base X.mg c (G.tA t) ∧ X.env.qual ++ "<lambda>" = G.tq t
  lams : ∀ x f, C.lms.lookup x = some f → LamOk G g X.K X.mg X.base k x f
theorem se_call {k : Nat} (D : Full C G g k X sc Wx) {x : Str} {f : Nat} {e : Expr} {es : List Expr} {ms : List ME} {p : Pos} (hx : glB sc x = true) (hf : C.fn.lookup x = some f) (hs : (e :: es).all notStar = true) (ha : Paired (fun m e => PE X e (tE G Wx g m)) ms (e :: es)) :
    PE X (.Call (.Name x p) (e :: es) [] pos) (tE G Wx g (.call f ms)) := by
  obtain ⟨g1, g2⟩ := glB_gl D.good hx
  obtain ⟨fd, ps, h1, h2, h3, h4⟩ := D.calls x f hf
  have h4' : FnOk X.prog X.w X.K X.mg X.base (L2.CX X.prog X.w) k (G.fA f) fd ps (spI G g f) := by rw [D.good.of.P, D.good.of.w]; exact h4
  have hs' := hs
  simp only [List.all_cons, Bool.and_eq_true] at hs'
  exact PEi (pe_callS h4' D.room g1 h1 h2 h3 D.pass (paE_of ha hs) g2 (star1 hs'.1) (hpl1 hs'.2)) fun σ H Q q => tE_call q
theorem se_call0 {k : Nat} (D : Full C G g k X sc Wx) {x : Str} {f : Nat} {p : Pos} (hx : glB sc x = true) (hf : C.fn.lookup x = some f) :
    PE X (.Call (.Name x p) [] [] pos) (tE G Wx g (.call f [])) := by
  obtain ⟨g1, g2⟩ := glB_gl D.good hx
  obtain ⟨fd, ps, h1, h2, h3, h4⟩ := D.calls x f hf
  have h4' : FnOk X.prog X.w X.K X.mg X.base (L2.CX X.prog X.w) k (G.fA f) fd ps (spI G g f) := by rw [D.good.of.P, D.good.of.w]; exact h4
  refine PEi (t := fun σ H Q => spI G g f [] H Q (WE Wx σ)) ⟨fun pins s σ H Q I h => ?_⟩ fun σ H Q q => ?_
  · refine wpAny_Call_Name_kw (ld_glob I g1 h1 ?_ g2)
    exact PySem.W.callWith_K0 I.kIn h2 (run_fnS (us := []) h4' D.room h3 (D.pass σ) I .nil h)
  · exact tEs_nil (tE_call q)
/-- C(..): a new instance, then __init__; what is raised is wished for at the caller's slots -/
theorem run_makeS {CX : CXT} {k : Nat} {f Ca : Addr} {fd : FuncData} {ps : List Str} {sp : Sp} {E : L2.St → XK} {pins : List (Addr × Obj)} {σ : L2.St} {H : Hp} {s : Shared} {Q : VK} {us : List Value} {vs : List V} (M : Mk X.K Ca f) (F : FnOk X.prog X.w X.K X.mg X.base CX k f fd ps sp) (hr : Room (k + 1) X.A) (hb : Binds X.K fd ps [])
    (hx : PassesAt CX X σ (E σ)) (I : Inv X pins σ H s) (r : Vals vs us)
    (h : ∀ x dx, H x = none → H dx = none → dx ≠ x → sp (.ref x :: vs) (L2.upd (L2.upd H dx (.own x)) x (.ins Ca dx [])) (fun v H2 => v = .non ∧ Q (.ref x) H2) (E σ)) :
    wpAny (model X.prog X.w) X.A (call (.ref Ca) us) (EP X pins σ Q) X.xe s := by
  have hq := h (s.heap.objs.size + 1) s.heap.objs.size (I.hok.fresh (Nat.le_succ _)) (I.hok.fresh (Nat.le_refl _)) (Nat.ne_of_lt (Nat.lt_succ_self _))
  have I2 := Inv.made (C := Ca) I
  have r2 : Vals (V.ref (s.heap.objs.size + 1) :: vs) (Value.ref (s.heap.objs.size + 1) :: us) := .cons rfl r
  have hl : (Value.ref (s.heap.objs.size + 1) :: us ++ []).length = ps.length := by
    have e := r2.length
    rw [F.len _ _ _ _ hq] at e
    rw [List.append_nil]
    exact e.symm
  have hb2 := hb _ (Value.ref (s.heap.objs.size + 1) :: us) I2.kIn hl
  rw [List.append_nil] at hb2
  refine wpAny_call (make_map (f := f) I.kIn M.makes M.init (beq_iff_eq.mp M.fn) (codeAny_mono (F.run _ X.stack _ _ ⟨Value.ref (s.heap.objs.size + 1) :: us, []⟩ (Value.ref (s.heap.objs.size + 1) :: us) _ _ (E σ) (hr.make Ca us [])
    (I2.env0.make Ca us []) hb2 r2 hq) fun r s' hq' => ?_))
  cases r with
  | error e => exact hx pins _ _ e s' I2 hq'
  | ok fl =>
    cases fl with
    | ret u =>
      obtain ⟨v, H', I3, rv, ev, q3⟩ := I2.after hq'
      subst ev
      exact ⟨rv, ⟨V.ref (s.heap.objs.size + 1), H', I3, rfl, q3⟩⟩
    | next => exact False.elim hq'
    | brk => exact False.elim hq'
    | cont => exact False.elim hq'
theorem se_make {k : Nat} (D : Full C G g k X sc Wx) {x : Str} {f : Nat} {e : Expr} {es : List Expr} {ms : List ME} {p : Pos} (hx : glB sc x = true) (hf : C.mks.lookup x = some f) (hs : (e :: es).all notStar = true) (ha : Paired (fun m e => PE X e (tE G Wx g m)) ms (e :: es)) :
    PE X (.Call (.Name x p) (e :: es) [] pos) (tE G Wx g (.call f ms)) := by
  obtain ⟨g1, g2⟩ := glB_gl D.good hx
  obtain ⟨Ca, fi, fd, ps, j, sp0, hj, h1, h2, h3, h4, h5⟩ := D.makes x f hf
  have h4' : FnOk X.prog X.w X.K X.mg X.base (L2.CX X.prog X.w) j fi fd ps sp0 := by rw [D.good.of.P, D.good.of.w]; exact h4
  have hs' := hs
  simp only [List.all_cons, Bool.and_eq_true] at hs'
  refine PEi (t := fun σ H Q => tEs G Wx g ms σ H fun vs H1 => ∀ x dx, H1 x = none → H1 dx = none → dx ≠ x → sp0 (.ref x :: vs) (L2.upd (L2.upd H1 dx (.own x)) x (.ins Ca dx [])) (fun v H2 => v = .non ∧ Q (.ref x) H2) (WE Wx σ)) ⟨fun pins s σ H Q I h => ?_⟩ fun σ H Q q => ?_
  · refine wpAny_Call_Name_kw (ld_glob I g1 h1 ?_ g2)
    refine PySem.W.callWith_K (h₀ := X.base) I.ok.mod.kin h2.kp (thn ((paE_of ha hs).run pos pins s σ H _ I h) fun us s1 ⟨vs, H1, I1, r, q⟩ => ⟨I1.kIn, ?_⟩) (star1 hs'.1) (hpl1 hs'.2)
    exact run_makeS h2 h4' (D.room.mono hj) h3 (D.pass σ) I1 r q
  · exact tR_mono (tE_call q) fun vs H1 hh => h5 vs H1 Q (WE Wx σ) hh
theorem few_all : ∀ {es : List Expr} {env : Env} {pos : Pos}, es.all notStar = true → (backTo pos (starEach es env)).all (fun x => !x.1) = true
  | [], _, _, _ => rfl
  | e :: es, env, pos, h => by
    simp only [List.all_cons, Bool.and_eq_true] at h
    rw [star1 h.1]
    show ((!false) && (backTo pos (starEach es env)).all (fun x => !x.1)) = true
    rw [few_all h.2]; rfl
/-- a method's call in the text: the receiver, the method, then the arguments -/
theorem meth_eval {pl : Sem Bool} {name : Str} {o : Expr} {es : List Expr} {apos : Pos} {env : Env} (hb : notBare o = true) (hs : es.all notStar = true) (hn : es.length < 30) (hl : (apos.endLine == pos.line) = true) :
    eval (.Call (.Attribute o name apos) es [] pos) env = (do
      let ov ← eval o env
      standAt apos.atName
      let (f, first) ← holding [ov] (getMethod ov name (do return (← importBound o env).getD true))
      callWith pos f first (backTo pos (starEach es env)) (backToKw pos (keywordEach [] env))) := by
  have hform : methodCallForm (es.length + ([] : List Keyword).length) (backTo pos (starEach es env)) (backToKw pos (keywordEach [] env)) = true := by
    unfold methodCallForm
    rw [few_all hs]
    show (true && true && decide (es.length + 0 + 0 < 30)) = true
    simpa using hn
  have hpos : methodCallPos true o env apos pos = pure pos := by unfold methodCallPos; simp [hl]
  have hcal : ∀ ov, calleeOf true o env ov name = getMethod ov name (do return (← importBound o env).getD true) := fun ov => rfl
  rw [arm_eval_Call, notBare_base hb]
  unfold methodCall
  rw [hform, hpos]
  simp only [hcal, pure_bind]
/-- o.m(..) -/
theorem se_meth {k : Nat} (D : Full C G g k X sc Wx) {name : Str} {mi : Nat} {o : Expr} {mo : ME} {es : List Expr} {ms : List ME} {apos : Pos} (hm : C.mth.lookup name = some mi) (hno : name ∉ G.aL) (hb : notBare o = true) (hs : es.all notStar = true) (hn : es.length < 30) (ho : PE X o (tE G Wx g mo)) (ha : Paired (fun m e => PE X e (tE G Wx g m)) ms es) (hl : (apos.endLine == pos.line) = true) :
    PE X (.Call (.Attribute o name apos) es [] pos) (tE G Wx g (.meth mo mi ms)) := by
  refine PEi (t := fun σ H Q => tE G Wx g mo σ H fun x H1 => ∃ (c f : Nat) (a dx : Addr) (fvs : List (Str × V)), x = .ref a ∧ H1 a = some (.ins (G.cA c) dx fvs) ∧ (∀ y ∈ fvs.map (·.1), y ∈ G.aL) ∧ g.mt c mi = some f ∧
    tEs G Wx g ms σ H1 fun vs H2 => spI G g f (x :: vs) H2 Q (WE Wx σ)) ⟨fun pins s σ H Q I h => ?_⟩ fun σ H Q q => tE_meth q
  refine PySem.W.methodCall_KW (thn (ho.run pins s σ H _ I h) fun u s1 ⟨x, H1, I1, rx, c, f, a, dx, fvs, ex, ea, hsub, hmt, q⟩ => ?_) (meth_eval (pl := pure true) hb hs hn hl)
  subst ex
  obtain rfl : u = Value.ref a := rx
  have M := D.meths name mi c f hm hmt
  obtain ⟨fd, ps, hbn, F⟩ := M.fn
  have F' : FnOk X.prog X.w X.K X.mg X.base (L2.CX X.prog X.w) k (G.fA f) fd ps (spI G g f) := by rw [D.good.of.P, D.good.of.w]; exact F
  have hlk : fvs.lookup name = none := by
    cases e : fvs.lookup name with
    | none => rfl
    | some v => exact absurd (hsub name (List.mem_map.mpr ⟨_, lookup_memK e, rfl⟩)) hno
  refine getmeth_ok I1 ea M.cls M.at_ hlk ?_
  cases es with
  | nil =>
    cases ha
    exact PySem.W.callWith_K0 (first := [.ref a]) I1.kIn M.at_.kp (run_fnS (us := [.ref a]) (vs := [.ref a]) F' D.room hbn (D.pass σ) I1 (.cons rfl .nil) (tEs_nil q))
  | cons e es =>
    have hs' := hs
    simp only [List.all_cons, Bool.and_eq_true] at hs'
    refine PySem.W.callWith_K (first := [.ref a]) (h₀ := X.base) I1.ok.mod.kin M.at_.kp (thn ((paE_of ha hs).run pos pins s1 σ H1 _ I1 q) fun us s2 ⟨vs, H2, I2, r, q2⟩ => ⟨I2.kIn, ?_⟩) (star1 hs'.1) (hpl1 hs'.2)
    exact run_fnS (us := .ref a :: us) (vs := .ref a :: vs) F' D.room hbn (D.pass σ) I2 (.cons rfl r) q2
end
end MP
set_option maxRecDepth 100000
set_option maxHeartbeats 1000000
/-! R2j: methods that change their container. -/
namespace MP
open PySem PySem.Spec PyProof.Rows L2
section
variable {C : SC} {G : Nms} {g : Gst} {X : Cx} {sc : Scope} {Wx : WX} {σ : L2.St} {H : Hp}
def KindAt (G : Nms) (k : Nat) (x : V) (H : Hp) : Prop := ∃ W a, CRep G W H a x ∧ kindN a = k
theorem kind_type (k : Nat) (T : String) (hT : (k = 1 ∧ T = "list") ∨ (k = 3 ∧ T = "dict")) {pins : List (Addr × Obj)} {s : Shared} {x : V} {v : Value} (I : Inv X pins σ H s) (rx : RelV x v) (h : KindAt G k x H) :
    s.TypeIs v T ∧ ∀ a, v = .ref a → ∃ ob, s.heap.get? a = some ob ∧ ob.dict = none := by
  obtain ⟨W, u, c, hk⟩ := h
  rcases hT with ⟨rfl, rfl⟩ | ⟨rfl, rfl⟩
  · obtain ⟨us, rfl⟩ := kind1 hk
    obtain ⟨p, vs, rfl, h1, _⟩ := c.lst
    obtain ⟨its, _, pl, _⟩ := I.list (SqL.of (K := X.K) h1)
    cases rx
    refine ⟨pl.isList.typeIs, fun a e => ?_⟩
    cases e
    obtain ⟨o, n, e, c, hd, _⟩ := pl
    exact ⟨o, e, hd⟩
  · obtain ⟨ks, vs, rfl⟩ := kind3 hk
    obtain ⟨p, rfl, cc⟩ := c.dic
    cases rx
    have z : ∃ o, s.heap.get? p = some o ∧ o.ExactDict := by
      rcases (by simpa only [MP.Cont] using cc : _ ∨ _) with ⟨kvs, h, _⟩ | ⟨ys, _, h, _⟩
      · obtain ⟨_, _, _, _, o, _, _, e, ex, _⟩ := I.hok p _ h
        exact ⟨o, e, ex⟩
      · obtain ⟨⟨_, o, es, ep, ys', e, _, ex, _⟩, _⟩ := I.hok p _ h
        exact ⟨o, e, ex⟩
    obtain ⟨o, e, ex⟩ := z
    refine ⟨⟨o, e, ex.1⟩, fun a e2 => ?_⟩
    cases e2
    exact ⟨o, e, ex.2.1⟩
section
variable {T id : String} {name : Str} {o e : Expr} {es : List Expr} {to : TE} {t : TA} {apos cpos : Pos} {r : V → List V → Hp → VK → Prop} {P : V → Hp → Prop}
theorem pe_bmP (hP : ∀ pins σ H s x v, Inv X pins σ H s → RelV x v → P x H → s.TypeIs v T ∧ ∀ a, v = .ref a → ∃ ob, s.heap.get? a = some ob ∧ ob.dict = none) (pa : PlainAttrs T) (slot : Slot T name id) (hty : typeOf (.builtin id) = pure (.type "method_descriptor")) (hm : MtR X id r) (ho : PE X o to) (ha : PA X (e :: es) t)
    (hbase : attributeBase o name X.env (eval o X.env) = eval o X.env)
    (hfew : ((backTo cpos (starEach (e :: es) X.env)).all (fun x => !x.1) && (backToKw cpos (keywordEach [] X.env)).all (fun x => x.1.isSome)
      && decide ((e :: es).length + ([] : List Keyword).length + (if ([] : List Keyword).isEmpty then 0 else 1) < 30)) = true)
    (hline : (apos.endLine == cpos.line) = true) (hs : starEach (e :: es) X.env = (false, eval e X.env) :: starEach es X.env) (hplain : (backTo cpos (starEach es X.env)).any (·.1) = false) :
    PE X (.Call (.Attribute o name apos) (e :: es) [] cpos) (fun σ H Q => to σ H fun x H1 => P x H1 ∧ t σ H1 fun xs H2 => r x xs H2 Q) := by
  refine ⟨fun pins s σ H Q I h => ?_⟩
  refine wpAny_Call_method_late hbase hfew hline rfl (thn (ho.run pins s σ H _ I h) fun v s1 ⟨x, H1, I1, r1, ty, q1⟩ => ?_)
  obtain ⟨h1, h2⟩ := hP _ _ _ _ _ _ I1 r1 ty
  refine ⟨T, id, pa, slot, hty, h1, h2, ?_⟩
  have hA := ha.run cpos pins s1 σ H1 _ I1 q1
  rw [hs] at hA ⊢
  refine Calls.callWith_builtin (by show (false || (backTo cpos (starEach es X.env)).any (·.1)) = false; rw [hplain] <;> rfl) (Calls.evalArgs_plain ?_)
  exact thn hA fun us s2 ⟨vs, H2, I2, r2, q2⟩ => hm pins s2 σ H2 x vs v us Q I2 r1 r2 q2
theorem pe_bmP0 (hP : ∀ pins σ H s x v, Inv X pins σ H s → RelV x v → P x H → s.TypeIs v T ∧ ∀ a, v = .ref a → ∃ ob, s.heap.get? a = some ob ∧ ob.dict = none) (pa : PlainAttrs T) (slot : Slot T name id) (hty : typeOf (.builtin id) = pure (.type "method_descriptor")) (hm : MtR X id r) (ho : PE X o to)
    (hbase : attributeBase o name X.env (eval o X.env) = eval o X.env) (hline : (apos.endLine == cpos.line) = true) : PE X (.Call (.Attribute o name apos) [] [] cpos) (fun σ H Q => to σ H fun x H1 => P x H1 ∧ r x [] H1 Q) := by
  refine ⟨fun pins s σ H Q I h => ?_⟩
  refine wpAny_Call_method0_late hbase hline (thn (ho.run pins s σ H _ I h) fun v s1 ⟨x, H1, I1, r1, ty, q1⟩ => ?_)
  obtain ⟨h1, h2⟩ := hP _ _ _ _ _ _ I1 r1 ty
  exact ⟨T, id, pa, slot, hty, h1, h2, Calls.callWith_builtin rfl (PySem.evalArgs_none (hm pins s1 σ H1 x [] v [] Q I1 r1 .nil q1))⟩
end
theorem sm_setdefault (O : Of G X) : MtR X "dict.setdefault" (rM G .setdefault) := by
  intro pins s0 σ0 H x xs v us' Q I rx rxs h
  obtain ⟨Wx, W, s, σ, av, us, u, c', s', r, ra, rs, e, hs, k⟩ := h
  obtain ⟨p, rfl, hf, c, done⟩ := mut_at r ra hs (mut_some e)
  change muSetdefault (av.get s) us = some (c', u) at e
  unfold muSetdefault at e
  split at e
  · rename_i ks ws kk b eq1
    rw [eq1] at c
    obtain ⟨x1, y1, rfl, h1, h2⟩ := rs.two_of
    obtain ⟨u1, u2, rfl, q1, q2⟩ := Vals.two rxs
    cases rx
    split at e
    · rename_i hk
      simp only [Bool.and_eq_true, decide_eq_true_eq] at hk
      refine setd_dic O I hf q1 q2 hk.1 hk.2 h1 h2 c (fun w hw z zv s1 I1 rz rw' => ?_) fun hn o' s1 I1 c1 rv hrv => ?_
      · rw [hw] at e
        cases e
        have same : s' = s ∧ True ∨ RelFr G W s' σ H ∧ Ext s s' σ W W H H := by
          right
          have := done
          obtain ⟨o, ho⟩ := c.some
          have e1 : L2.upd H p o = H := by
            funext q
            by_cases hq : q = p
            · subst hq; rw [upd_same, ho]
            · rw [upd_ne hq]
          have d := done o
          rw [e1] at d
          exact d (.refl W H) c
        rcases same with ⟨rfl, _⟩ | ⟨d1, d2⟩
        · exact ⟨z, H, I1, rz, tAt.fin k r rw'⟩
        · exact ⟨z, H, I1, rz, k W H z d2 d1 rw'⟩
      · rw [hn] at e
        cases e
        have kp := cont_kp (o' := o') hf c
        obtain ⟨d1, d2⟩ := done o' kp c1
        exact ⟨y1, _, I1, hrv, k W _ _ d2 d1 (RepV.mono (.refl W) kp _ h2)⟩
    · cases e
  · cases e
/-- a changing method's walk -/
theorem tE_mut {o : Mop} {m : ME} {ms : List ME} {Q : VK} (ho : o ≠ .extend) (h : tE G Wx g (.mut o m ms) σ H Q) :
    tArg G Wx g m σ H fun x H1 => KindAt G o.kind x H1 ∧ tEs G Wx g ms σ H1 fun xs H2 => rM G o x xs H2 Q := by
  obtain ⟨W, s, r, h⟩ := h
  unfold evalE at h
  refine ⟨W, s, r, ?_⟩
  cases ea : argOf (fun s => evalE g m s) m s with
  | stuck => rw [ea] at h; exact h
  | exc x s' => rw [ea] at h; exact h
  | ok av s1 =>
    rw [ea] at h
    intro W1 H1 x e1 r1 ra
    simp only [Rs.bind] at h
    by_cases hk : kindN (av.get s1) = o.kind
    · rw [if_neg (by simp [hk]), if_neg (by simp [ho])] at h
      have hc := crep_of r1 ra (arg_ok ea)
      refine ⟨⟨W1, _, hc, hk⟩, W1, s1, r1, ?_⟩
      cases eb : evalEs g ms s1 with
      | stuck => rw [eb] at h; exact h
      | exc x s' => rw [eb] at h; exact h.shift e1
      | ok as s2 =>
        rw [eb] at h
        intro W2 H2 xs e2 r2 ras
        simp only at h
        unfold mutF at h
        cases em : mutSem o (av.get s2) as with
        | none => rw [em] at h; exact h.elim
        | some z =>
          obtain ⟨c', u⟩ := z
          rw [em] at h
          simp only at h
          cases es : setC s2 av c' with
          | none => rw [es] at h; exact h.elim
          | some s3 =>
            rw [es] at h
            exact ⟨Wx, W2, s2, σ, av, as, u, c', s3, r2, ra.ext e2, ras, em, es, h.shift (e1.trans e2)⟩
    · rw [if_pos (by simp [hk])] at h; exact h.elim
def mopOf : Mop → Option (String × Nat)
  | .append => some ("append", 1)
  | .pop => some ("pop", 0)
  | .popAt => some ("pop", 1)
  | .setdefault => some ("setdefault", 2)
  | _ => none
theorem few2 {a b : Expr} {env : Env} {pos : Pos} (h : notStar a = true) (h2 : notStar b = true) : ((backTo pos (starEach [a, b] env)).all (fun x => !x.1) && (backToKw pos (keywordEach [] env)).all (fun x => x.1.isSome)
      && decide (([a, b] : List Expr).length + ([] : List Keyword).length + (if ([] : List Keyword).isEmpty then 0 else 1) < 30)) = true := by
  rw [star1 h, star1 h2]; rfl
theorem se_mut (O : Of G X) {o : Mop} {n : String} {k : Nat} {r : Expr} {es : List Expr} {m : ME} {ms : List ME} {name : Str} {apos cpos : Pos} (ho : mopOf o = some (n, k)) (hn : name = Str.ofString n) (hl : es.length = k) (hs : es.all notStar = true) (hb : notBare r = true) (hline : (apos.endLine == cpos.line) = true)
    (hr : PX G Wx g X m r) (ha : Paired (fun m e => PE X e (tE G Wx g m)) ms es) : PE X (.Call (.Attribute r name apos) es [] cpos) (tE G Wx g (.mut o m ms)) := by
  subst hn
  cases o <;> simp only [mopOf, Option.some.injEq, Prod.mk.injEq, reduceCtorEq] at ho <;> obtain ⟨rfl, rfl⟩ := ho
  case append =>
    match es, hl, hs, ha with
    | [a], _, hs, ha =>
    have hs' : notStar a = true := by simpa using hs
    exact PEi (pe_bmP (P := KindAt G 1) (T := "list") (id := "list.append") (fun _ _ _ _ _ _ I rx h => kind_type 1 "list" (.inl ⟨rfl, rfl⟩) I rx h) PySem.F.plainAttrs_list PySem.F.slot_list_append PySem.F.type_list_append (r := rM G .append) (fun pins s σ H x xs v us Q I rx rxs h => mt_append pins s σ H x xs v us Q I rx rxs (om_append h)) hr (paE_of ha hs) (notBare_base hb) (few1 hs') hline (star1 hs') rfl) fun σ H Q q => tE_mut (by simp) q
  case pop =>
    match es, hl, hs, ha with
    | [], _, hs, .nil =>
    exact PEi (pe_bmP0 (P := KindAt G 1) (T := "list") (id := "list.pop") (fun _ _ _ _ _ _ I rx h => kind_type 1 "list" (.inl ⟨rfl, rfl⟩) I rx h) PySem.F.plainAttrs_list PySem.F.slot_list_pop PySem.F.type_list_pop (r := rM G .pop) (fun pins s σ H x xs v us Q I rx rxs h => mt_pop pins s σ H x xs v us Q I rx rxs (om_pop h)) hr (notBare_base hb) hline) fun σ H Q q => tR_mono (tE_mut (by simp) q) fun x H1 h => ⟨h.1, tEs_nil h.2⟩
  case popAt =>
    match es, hl, hs, ha with
    | [a], _, hs, ha =>
    have hs' : notStar a = true := by simpa using hs
    exact PEi (pe_bmP (P := KindAt G 1) (T := "list") (id := "list.pop") (fun _ _ _ _ _ _ I rx h => kind_type 1 "list" (.inl ⟨rfl, rfl⟩) I rx h) PySem.F.plainAttrs_list PySem.F.slot_list_pop PySem.F.type_list_pop (r := rM G .popAt) (fun pins s σ H x xs v us Q I rx rxs h => mt_popAt pins s σ H x xs v us Q I rx rxs (om_popAt h)) hr (paE_of ha hs) (notBare_base hb) (few1 hs') hline (star1 hs') rfl) fun σ H Q q => tE_mut (by simp) q
  case setdefault =>
    match es, hl, hs, ha with
    | [a, b], _, hs, ha =>
    have hs' : notStar a = true ∧ notStar b = true := by simpa using hs
    exact PEi (pe_bmP (P := KindAt G 3) (T := "dict") (id := "dict.setdefault") (fun _ _ _ _ _ _ I rx h => kind_type 3 "dict" (.inr ⟨rfl, rfl⟩) I rx h) PySem.F.plainAttrs_dict PySem.F.slot_dict_setdefault PySem.F.type_dict_setdefault (r := rM G .setdefault) (sm_setdefault O) hr (paE_of ha hs) (notBare_base hb) (few2 hs'.1 hs'.2) hline (star1 hs'.1) (hpl1 (by simp [hs'.2]))) fun σ H Q q => tE_mut (by simp) q
end
end MP
set_option maxRecDepth 100000
set_option maxHeartbeats 1000000
/-! R2k: what is walked: a list or a tuple, told or not; enumerate over a tuple. -/
namespace MP
open PySem PySem.Spec PyProof.Rows L2
section
variable {X : Cx} {tg : Expr}
/-- a list or a tuple -/
def iSeq (K : PySem.W.Frag) (tl : TE) : TI := fun σ H R => tl σ H fun x H1 => ∃ a, x = .ref a ∧ (((∃ xs, SqL K H1 a xs) ∧ R (Itl K a) H1) ∨ ((∃ xs, SqT K H1 a xs) ∧ R (Itt K a) H1))
theorem pi_seq {l : Expr} {tl : TE} (hl : PE X l tl) : PI X tg l (iSeq X.K tl) := by
  refine ⟨fun pins s σ H R I h => ?_⟩
  refine thn (hl.run pins s σ H _ I h) fun v s1 ⟨x, H1, I1, r1, q1⟩ => ?_
  obtain ⟨a, e, q⟩ := q1
  subst e
  cases r1
  rcases q with ⟨⟨xs, hq⟩, q⟩ | ⟨⟨xs, hq⟩, q⟩
  · obtain ⟨its, rv, p, hz⟩ := I1.list hq
    refine wpAny_pyIter_list p.isList ?_
    refine ⟨s1.heap.objs.size, [s1.heap.objs.size], _, _, H1, rfl, I1.kept (t' := s1.toks) fun b o e => Heap.get?_push_of_some _ e, turn_list a _, ⟨_, Heap.get?_push_size _ rfl, rfl, rfl⟩, fun b hb => ?_, q⟩
    have e : b = s1.heap.objs.size := by simpa using hb
    subst e
    exact I1.fpOk (Nat.le_refl _) (I1.hok.fresh (Nat.le_refl _))
  · obtain ⟨its, rv, p, hz⟩ := I1.tuple hq
    refine wpAny_pyIter_tuple (show s1.heap.IsTuple a its.toArray from p) ?_
    refine ⟨s1.heap.objs.size, [s1.heap.objs.size], _, _, H1, rfl, I1.kept (t' := s1.toks) fun b o e => Heap.get?_push_of_some _ e, turn_tuple a _, ⟨_, Heap.get?_push_size _ rfl, rfl, rfl⟩, fun b hb => ?_, q⟩
    have e : b = s1.heap.objs.size := by simpa using hb
    subst e
    exact I1.fpOk (Nat.le_refl _) (I1.hok.fresh (Nat.le_refl _))

/-! enumerate over a tuple -/
theorem meets_enumerate_newT (l : Addr) (items : Array Value) :
    Meets (Builtin.«enumerate.__new__» ⟨[.type "enumerate", .ref l], []⟩) (fun _ R s => s.heap.IsTuple l items ∧
      R (.ok (.ret (.ref (s.heap.push { cls := .type "tuple_iterator", data := .fields #[.ref l, .int 0 0] }).objs.size)))
        { s with heap := (s.heap.push { cls := .type "tuple_iterator", data := .fields #[.ref l, .int 0 0] }).push { cls := .type "enumerate", data := .fields #[.none, .bool false, .ref s.heap.objs.size, rawInt 0, .none, .none] } }) :=
  .of_wp fun prog w A R s h => by
    obtain ⟨hp, g, d, tk, os⟩ := s; obtain ⟨h1, h⟩ := h
    have hsub := sub_enumerate
    have q1 : ∀ {A' : Around} {E : Value → Shared → Prop} {Q : Value → Shared → Prop}, Q (.ref hp.objs.size) ⟨hp.push { cls := .type "tuple_iterator", data := .fields #[.ref l, .int 0 0] }, g, d, tk, os⟩ → wpAny (model prog w) A' (pyIter (.ref l)) Q E ⟨hp, g, d, tk, os⟩ :=
      fun q => wpAny_pyIter_tuple h1 q
    wp_walk using q1
    refine wpAny_stack_any fun st => wpAny_pure ?_
    split
    · rename_i c _ _ _ _ _
      cases (c == Value.type "enumerate")
      · wp_walk using q1
        exact ⟨_, rfl, h⟩
      · wp_walk using q1
        exact ⟨_, rfl, h⟩
    · wp_walk using q1
      exact ⟨_, rfl, h⟩
theorem call_enumerate_tuple {prog : Program} {w : World} {A : Around} {E : Value → Shared → Prop} {s : Shared} {l : Addr} {items : Array Value} {Q : Value → Shared → Prop} (hL : s.heap.IsTuple l items)
    (h : ∀ h', IsEnum h' (s.heap.objs.size + 1) s.heap.objs.size 0 .none → h'.IsTupleIter s.heap.objs.size l 0 → h'.objs.size = s.heap.objs.size + 2 →
      (∀ b o, s.heap.get? b = some o → h'.get? b = some o) → Q (.ref (s.heap.objs.size + 1)) { s with heap := h' }) :
    wpAny (model prog w) A (call (.type "enumerate") [.ref l]) Q E s := by
  refine callType_new F.called_enumerate (by decide) (F.typeCall_enumerate_1 _) (F.newCall_enumerate_1 _) (fun obj => F.args_object_init_2 obj _) F.entry_enumerate_new
    (meets_enumerate_newT l items) ⟨hL, ?_⟩
  have hz : (s.heap.push { cls := .type "tuple_iterator", data := .fields #[.ref l, .int 0 0] }).objs.size = s.heap.objs.size + 1 := Heap.size_push ..
  show _ ∧ _
  rw [hz]
  have he : IsEnum ((s.heap.push { cls := .type "tuple_iterator", data := .fields #[.ref l, .int 0 0] }).push
      { cls := .type "enumerate", data := .fields #[.none, .bool false, .ref s.heap.objs.size, rawInt 0, .none, .none] }) (s.heap.objs.size + 1) s.heap.objs.size 0 .none := by
    have := Heap.get?_push_size (s.heap.push { cls := .type "tuple_iterator", data := .fields #[.ref l, .int 0 0] })
      (o := { cls := .type "enumerate", data := .fields #[.none, .bool false, .ref s.heap.objs.size, rawInt 0, .none, .none] }) rfl
    rw [hz] at this; exact this
  exact ⟨⟨_, he, rfl⟩, h _ he ⟨_, Heap.get?_push_of_some _ (Heap.get?_push_size _ rfl), rfl, rfl⟩ (by rw [Heap.size_push, hz]) fun b o x => Heap.get?_push_of_some _ (Heap.get?_push_of_some _ x)⟩
theorem pyNext_enumT_end {prog : Program} {w : World} {A : Around} {E : Value → Shared → Prop} {s : Shared} {e it l : Addr} {i : Nat} {items : Array Value} {old : Value} {Q : Option Value → Shared → Prop} (hh : A.handled = none)
    (he : IsEnum s.heap e it i old) (hit : s.heap.IsTupleIter it l i) (hl : s.heap.IsTuple l items) (hx : items[i]? = none)
    (hQ : ∀ h', Heap.ExtBut it s.heap h' → Q none { s with heap := h' }) : wpAny (model prog w) A (pyNext (.ref e)) Q E s := by
  have hT : s.TypeIs (.ref e) "enumerate" := ⟨_, he, rfl⟩
  unfold pyNext
  refine wpAny_bind (wpAny_attempt (wpAny_callSpecial?_slot (name := Str.ofString "__next__") hT F.slot_enumerate_next
    (wpAny_call_entry F.slot_enumerate_next hT F.entry_enumerate_next ?_ (F.args_enumerate_next_1 _))))
  show wpAny _ _ (field (.ref e) 2 >>= _) _ _ _
  refine wpAny_bind (wpAny_field he rfl (x := .ref it) rfl ?_)
  refine wpAny_bind (wpAny_nextOf_tuple_end hh hit hl hx fun h' x he' hx' => ?_)
  obtain ⟨o, ho, hc⟩ := hx'
  refine wpAny_bind (wpAny_isInstance (T := "StopIteration") (b := true) ⟨o, ho, hc⟩ isSubtype_stop ?_)
  exact wpAny_pure (hQ _ he')
def IteT (K : PySem.W.Frag) (a : Addr) : It :=
  ⟨fun i H => ∃ (xs : List V) (x : V), SqT K H a xs ∧ xs[i]? = some x, fun i H v H' => ∃ T x, v = .ref T ∧ H T = none ∧ H' = L2.upd H T (.tup [.int (i : Nat), x]) ∧ ∀ xs, SqT K H a xs → xs[i]? = some x, fun i H => ∃ xs : List V, SqT K H a xs ∧ xs.length ≤ i⟩
theorem turn_enumT {P : Program} {w : World} {K : PySem.W.Frag} {elts : List Expr} {kk : Nat} {tpos : Pos} (a e it : Addr) :
    Turn P w K (.Tuple elts kk tpos) (IteT K a) [e, it] e (fun i h => (∃ old, IsEnum h e it ((i : Nat) : Int) old) ∧ h.IsTupleIter it a i ∧ e ≠ it) where
  mem := by simp
  obj := fun i h st b hb => by
    obtain ⟨⟨old, he⟩, ⟨o, ho, hc, hd⟩, _⟩ := st
    have e' : b = e ∨ b = it := by simpa using hb
    rcases e' with z | z
    · rw [z]; exact ⟨_, he, fun v q => nomatch q⟩
    · rw [z]; exact ⟨o, ho, fun v q => by rw [hd] at q; cases q⟩
  keep := fun i h h' st k => let ⟨⟨old, he⟩, hi, hne⟩ := st; ⟨⟨old, k e (by simp) _ he⟩, hi.at fun o q => k it (by simp) o q, hne⟩
  item := by
    intro X hP hw hK hc i pins s σ H E I hf st hg
    subst hP hw hK
    obtain ⟨⟨old, he⟩, hit, hne⟩ := st
    obtain ⟨xs, x, hq, hx⟩ := hg
    obtain ⟨its, rv, p, hz⟩ := I.tuple hq
    obtain ⟨u, hu, ru⟩ := rv.get hx
    have p' : s.heap.IsTuple a its.toArray := p
    have hel : e < s.heap.objs.size := Heap.lt_size he
    have hil : it < s.heap.objs.size := by obtain ⟨_, q, _⟩ := hit; exact Heap.lt_size q
    have ait : a ≠ it := fun z => by
      subst z
      obtain ⟨o, q1, q2, _⟩ := p'
      obtain ⟨o', q3, q4, _⟩ := hit
      rw [q1] at q3; cases q3
      rw [q2] at q4
      injection q4 with z
      exact absurd z (by decide)
    have eait : e ≠ a := fun z => by
      subst z
      obtain ⟨o, q1, q2, _⟩ := p'
      have he' := he
      unfold IsEnum at he'
      rw [q1] at he'
      cases he'
      injection q2 with z
      exact absurd z (by decide)
    have hh : X.A.in1.handled = none := I.ok.hd hc
    have hsz : i < its.toArray.size := by
      have := (List.getElem?_eq_some_iff.mp hu).1
      simpa using this
    refine wpAny_pyNext_enum_itemD (Draws.tuple (prog := X.prog) (w := X.w) hh it a ait its.toArray) he ⟨hit, p'⟩ hsz hne (by simp [hne, eait]) fun u' h' tk hP ho st' hT hsz' hk => ?_
    obtain rfl : u = u' := by
      have h1 : its.toArray[i]? = some u := by simpa using hu
      have h2 : its.toArray[i]? = some u' := hP
      rw [h1] at h2; exact Option.some.inj h2
    obtain ⟨hit', _⟩ := st'
    refine ⟨_, rfl, wpAny_letOwnedTupleGo_enum (s := { s with heap := h', toks := tk + 1 }) ho fun h'' he' sb => ?_⟩
    have hT2 : h''.get? s.heap.objs.size = some { cls := .type "tuple", data := .seq #[.int i tk, u] } := (sb.2 _ (Nat.ne_of_gt hel)).trans hT
    have new : ObjOk X.prog X.w (L2.upd H s.heap.objs.size (.tup [.int (i : Nat), x])) h'' s.heap.objs.size (.tup [.int (i : Nat), x]) :=
      ⟨by show 2 ≤ sizeLine; decide, [.int i tk, u], .cons ⟨_, rfl⟩ (.cons ru .nil), ⟨_, hT2, rfl, _, rfl⟩⟩
    have I1 : Inv X pins σ (L2.upd H s.heap.objs.size (.tup [.int (i : Nat), x])) { s with heap := h'', toks := tk + 1 } :=
      I.turnedNew (ch := [e, it]) (fun b ob hb q => (sb.2 b (fun z => hb (by simp [z]))).trans (hk b ob (fun z => hb (by simp [z])) (fun z => hb (by simp [z])) q)) hf (Nat.le_refl _) new
    refine ⟨.ref s.heap.objs.size, _, I1, rfl, ⟨_, x, rfl, I.hok.fresh (Nat.le_refl _), rfl, fun ys hy => by rw [I.tuple_inj hy hq]; exact hx⟩, ⟨⟨u, ?_⟩, hit'.at fun o q => (sb.2 it (Ne.symm hne)).trans q, hne⟩, fun b hb => ?_⟩
    · have e1 : ((i + 1 : Nat) : Int) = (i : Int) + 1 := by omega
      rw [e1]; exact he'
    · have hb' : b < s.heap.objs.size := by
        have e' : b = e ∨ b = it := by simpa using hb
        rcases e' with z | z
        · rw [z]; exact hel
        · rw [z]; exact hil
      rw [upd_ne (Nat.ne_of_lt hb')]
      exact (hf b hb).1
  done := by
    intro X hP hw hK hc i pins s σ H E I hf st hg
    subst hP hw hK
    obtain ⟨⟨old, he⟩, hit, hne⟩ := st
    obtain ⟨xs, hq, hx⟩ := hg
    obtain ⟨its, rv, p, hz⟩ := I.tuple hq
    obtain ⟨f0, f1, f2, f3, f4, f5⟩ := hf it (by simp)
    have hl := rv.length
    have p' : s.heap.IsTuple a its.toArray := p
    have ait : a ≠ it := fun z => by
      subst z
      obtain ⟨o, q1, q2, _⟩ := p'
      obtain ⟨o', q3, q4, _⟩ := hit
      rw [q1] at q3; cases q3
      rw [q2] at q4
      injection q4 with z
      exact absurd z (by decide)
    exact pyNext_enumT_end (I.ok.hd hc) he hit p' (by simp; omega) fun h' eb => ⟨rfl, I.turned (t' := s.toks) (fun b o hb q => eb b o hb q) f0 f1 f3 f4 f5⟩
  self := fun A i s Q E st h => let ⟨⟨_, he⟩, _⟩ := st; wpAny_pyIter_enum he h
def iEnumA (K : PySem.W.Frag) (te : TE) : TI := fun σ H R => te σ H fun x H1 => ∃ a, x = .ref a ∧ (((∃ xs, SqL K H1 a xs) ∧ R (Ite K a) H1) ∨ ((∃ xs, SqT K H1 a xs) ∧ R (IteT K a) H1))
theorem pi_enumA {e : Expr} {te : TE} {p pos tpos : Pos} {elts : List Expr} {kk : Nat} (hg : Gl X "enumerate") (hm : X.mg "enumerate" = none) (he : PE X e te) (hs : starEach [e] X.env = (false, eval e X.env) :: starEach [] X.env) :
    PI X (.Tuple elts kk tpos) (.Call (.Name "enumerate" p) [e] [] pos) (iEnumA X.K te) := by
  refine ⟨fun pins s σ H R I h => ?_⟩
  refine Call_ (ld_blt I hg hm boot_enumerate (PyProof.Rows.callWith_type1 (PyProof.Rows.args_cons (thn (he.run pins s σ H _ I h) fun u s1 ⟨v, H1, I1, r1, q1⟩ => PyProof.Rows.args_nil ?_) hs) hs rfl))
  obtain ⟨a, ex, q⟩ := q1
  subst ex
  cases r1
  have fp : ∀ b ∈ [s1.heap.objs.size + 1, s1.heap.objs.size], FpOk X pins H1 b := fun b hb => by
    have e' : b = s1.heap.objs.size + 1 ∨ b = s1.heap.objs.size := by simpa using hb
    have hle : s1.heap.objs.size ≤ b := by
      rcases e' with z | z
      · rw [z]; exact Nat.le_add_right _ _
      · rw [z]; exact Nat.le_refl _
    exact I1.fpOk hle (I1.hok.fresh hle)
  rcases q with ⟨⟨xs, hq⟩, q⟩ | ⟨⟨xs, hq⟩, q⟩
  · obtain ⟨its, rv, p', hz⟩ := I1.list hq
    refine call_enumerate_list p'.isList fun h' he hit hsz hk => wpAny_pyIter_enum he ?_
    have I2 : Inv X pins σ H1 { s1 with heap := h' } := I1.kept (t' := s1.toks) hk
    exact ⟨s1.heap.objs.size + 1, [s1.heap.objs.size + 1, s1.heap.objs.size], _, _, H1, rfl, I2, turn_enum a (s1.heap.objs.size + 1) s1.heap.objs.size, ⟨⟨.none, he⟩, hit, Nat.succ_ne_self _⟩, fp, q⟩
  · obtain ⟨its, rv, p', hz⟩ := I1.tuple hq
    refine call_enumerate_tuple (show s1.heap.IsTuple a its.toArray from p') fun h' he hit hsz hk => wpAny_pyIter_enum he ?_
    have I2 : Inv X pins σ H1 { s1 with heap := h' } := I1.kept (t' := s1.toks) hk
    exact ⟨s1.heap.objs.size + 1, [s1.heap.objs.size + 1, s1.heap.objs.size], _, _, H1, rfl, I2, turn_enumT a (s1.heap.objs.size + 1) s1.heap.objs.size, ⟨⟨.none, he⟩, hit, Nat.succ_ne_self _⟩, fp, q⟩
end
end MP
set_option maxRecDepth 100000
set_option maxHeartbeats 1000000
/-! R2l: walks. -/
namespace MP
open PySem PySem.Spec PyProof.Rows L2
mutual
theorem sameU_eq : ∀ (a b : U), sameU a b = true → a = b
  | .non, b, h => by cases b <;> first | rfl | (simp [sameU] at h)
  | .bl x, b, h => by cases b <;> first | (simp [sameU] at h; done) | (simp only [sameU, beq_iff_eq] at h; rw [h])
  | .int x, b, h => by cases b <;> first | (simp [sameU] at h; done) | (simp only [sameU, beq_iff_eq] at h; rw [h])
  | .str x, b, h => by cases b <;> first | (simp [sameU] at h; done) | (simp only [sameU, beq_iff_eq] at h; rw [h])
  | .tup x, b, h => by cases b <;> first | (simp [sameU] at h; done) | (simp only [sameU] at h; rw [sameUs_eq _ _ h])
  | .lst x, b, h => by cases b <;> first | (simp [sameU] at h; done) | (simp only [sameU] at h; rw [sameUs_eq _ _ h])
  | .dic x y, b, h => by cases b <;> first | (simp [sameU] at h; done) | (simp only [sameU, Bool.and_eq_true] at h; rw [sameUs_eq _ _ h.1, sameUs_eq _ _ h.2])
  | .obj x y, b, h => by cases b <;> first | (simp [sameU] at h; done) | (simp only [sameU, Bool.and_eq_true, beq_iff_eq] at h; rw [h.1, sameUs_eq _ _ h.2])
  | .exc x y, b, h => by cases b <;> first | (simp [sameU] at h; done) | (simp only [sameU, Bool.and_eq_true, beq_iff_eq] at h; rw [h.1, sameUs_eq _ _ h.2])
  | .ref x, b, h => by cases b <;> first | (simp [sameU] at h; done) | (simp only [sameU, beq_iff_eq] at h; rw [h])
  | .fn x, b, h => by cases b <;> first | (simp [sameU] at h; done) | (simp only [sameU, beq_iff_eq] at h; rw [h])
  | .clo x y, b, h => by cases b <;> first | (simp [sameU] at h; done) | (simp only [sameU, Bool.and_eq_true, beq_iff_eq] at h; rw [h.1, sameUs_eq _ _ h.2])
  | .hole, b, h => by cases b <;> first | rfl | (simp [sameU] at h)
  | .scr x, b, h => by cases b <;> first | (simp [sameU] at h; done) | (simp only [sameU] at h; rw [sameUs_eq _ _ h])
theorem sameUs_eq : ∀ (a b : List U), sameUs a b = true → a = b
  | [], b, h => by cases b <;> first | rfl | (simp [sameUs] at h)
  | x :: xs, b, h => by
    cases b with
    | nil => simp [sameUs] at h
    | cons y ys =>
      simp only [sameUs, Bool.and_eq_true] at h
      rw [sameU_eq _ _ h.1, sameUs_eq _ _ h.2]
end
theorem still_get {s s' : Sta} : ∀ {avs : List AV}, avs.all (AV.ok s) = true → stillIs s s' avs = true → avs.all (AV.ok s') = true ∧ avs.map (AV.get s') = avs.map (AV.get s)
  | [], _, _ => ⟨rfl, rfl⟩
  | .own i :: r, ho, h => by
    simp only [List.all_cons, Bool.and_eq_true] at ho
    simp only [stillIs, Bool.and_eq_true] at h
    obtain ⟨h1, h2⟩ := still_get ho.2 h.2
    have e := sameU_eq _ _ h.1.2
    simp only [List.all_cons, List.map_cons, Bool.and_eq_true]
    exact ⟨⟨h.1.1, h1⟩, by rw [h2, e]⟩
  | .v u :: r, ho, h => by
    simp only [List.all_cons, Bool.and_eq_true] at ho
    cases u with
    | ref n =>
      simp only [stillIs, Bool.and_eq_true] at h
      obtain ⟨h1, h2⟩ := still_get ho.2 h.2
      have e := sameU_eq _ _ h.1
      simp only [List.all_cons, List.map_cons, Bool.and_eq_true]
      exact ⟨⟨rfl, h1⟩, by rw [h2]; show MP.cont s'.m (.ref n) :: _ = MP.cont s.m (.ref n) :: _; rw [e]⟩
    | _ =>
      simp only [stillIs] at h
      obtain ⟨h1, h2⟩ := still_get ho.2 h
      simp only [List.all_cons, List.map_cons, Bool.and_eq_true]
      exact ⟨⟨rfl, h1⟩, by rw [h2]; rfl⟩
theorem walk_get {k : Nat} {avs : List AV} {s : Sta} {xs : List U} (h : walkA k avs s = some xs) : avs.all (AV.ok s) = true ∧ walk k (avs.map (AV.get s)) = some xs := by
  unfold walkA at h
  split at h
  · exact ⟨by assumption, h⟩
  · cases h
section
variable {C : SC} {G : Nms} {g : Gst} {X : Cx} {sc : Scope} {Wx : WX} {σ : L2.St} {H : Hp} {pos : Pos} {tg : Expr}
/-- what a turn yields -/
def Yld (G : Nms) (W : Wd) (H H' : Hp) (u : U) (v : V) : Prop := (H' = H ∨ ∃ T o, H T = none ∧ H' = L2.upd H T o) ∧ RepV G W H' u v
def JOk (G : Nms) (J : It) (avs : List AV) (vs : List V) (us : List U) (xs : List U) : Prop := ∀ (i : Nat) (W : Wd) (s : Sta) (σ : L2.St) (H : Hp), RelFr G W s σ H → RAs G σ W s H avs vs → avs.all (AV.ok s) = true → avs.map (AV.get s) = us →
  (xs.length ≤ i → J.stop i H) ∧ ∀ u, xs[i]? = some u → J.go i H ∧ ∀ v H', J.yld i H v H' → Yld G W H H' u v
def tI (G : Nms) (Wx : WX) (g : Gst) (k : Nat) (its : List ME) : TI := fun σ H R => tArgs G Wx g its σ H fun vs H1 => ∃ W s avs xs, RelFr G W s σ H1 ∧ RAs G σ W s H1 avs vs ∧ walkA k avs s = some xs ∧ ∀ J, JOk G J avs vs (avs.map (AV.get s)) xs → R J H1
theorem PIi {iter : Expr} {wi wi' : TI} (h : PI X tg iter wi) (hi : ∀ σ H R, wi' σ H R → wi σ H R) : PI X tg iter wi' := ⟨fun pins s σ H R I q => h.run pins s σ H R I (hi σ H R q)⟩
theorem ras1 {W : Wd} {s : Sta} {avs : List AV} {x : V} (h : RAs G σ W s H avs [x]) : ∃ av, avs = [av] ∧ RA G σ W s H av x := paired1 h
theorem ras2 {W : Wd} {s : Sta} {avs : List AV} {x y : V} (h : RAs G σ W s H avs [x, y]) : ∃ av bv, avs = [av, bv] ∧ RA G σ W s H av x ∧ RA G σ W s H bv y := paired2 h
theorem crep1 {W : Wd} {s : Sta} {av : AV} {x : V} {u : U} (r : RelFr G W s σ H) (ra : RAs G σ W s H [av] [x]) (ho : [av].all (AV.ok s) = true) (e : [av].map (AV.get s) = [u]) : CRep G W H u x := by
  cases ra with | cons ra _ =>
  simp only [List.all_cons, List.all_nil, Bool.and_true] at ho
  simp only [List.map_cons, List.map_nil, List.cons.injEq, and_true] at e
  rw [← e]
  exact crep_of r ra ho
theorem j_lst {K : PySem.W.Frag} (hK : K = G.K) {av : AV} {p : Addr} {xs : List U} : JOk G (Itl K p) [av] [.ref p] [.lst xs] xs := fun i W s σ H r ra ho e => by
  subst hK
  have c := crep1 r ra ho e
  obtain ⟨q, vs, hq, h1, h2⟩ := c.lst
  cases hq
  have hl := RepVs.length h2
  refine ⟨fun hi => ⟨vs, SqL.of h1, by omega⟩, fun u hu => ?_⟩
  obtain ⟨v, h3, h4⟩ := RepVs.get h2 hu
  refine ⟨⟨vs, v, SqL.of h1, h3⟩, fun x H' hy => ?_⟩
  obtain ⟨rfl, hy⟩ := hy
  have := hy vs (SqL.of h1)
  rw [h3] at this
  cases this
  exact ⟨.inl rfl, h4⟩
theorem j_tup {K : PySem.W.Frag} (hK : K = G.K) {av : AV} {p : Addr} {xs : List U} : JOk G (Itt K p) [av] [.ref p] [.tup xs] xs := fun i W s σ H r ra ho e => by
  subst hK
  have c := crep1 r ra ho e
  obtain ⟨q, vs, hq, h1, h2⟩ := c.tup
  cases hq
  have hl := RepVs.length h2
  refine ⟨fun hi => ⟨vs, TX.sq h1, by omega⟩, fun u hu => ?_⟩
  obtain ⟨v, h3, h4⟩ := RepVs.get h2 hu
  refine ⟨⟨vs, v, TX.sq h1, h3⟩, fun x H' hy => ?_⟩
  obtain ⟨rfl, hy⟩ := hy
  have := hy vs (TX.sq h1)
  rw [h3] at this
  cases this
  exact ⟨.inl rfl, h4⟩
theorem enum_get {xs : List U} {i : Nat} {u : U} (h : (xs.mapIdx fun i x => U.prs [.int i, x])[i]? = some u) : ∃ x, xs[i]? = some x ∧ u = .prs [.int i, x] := by
  rw [List.getElem?_mapIdx] at h
  cases e : xs[i]? with
  | none => rw [e] at h; cases h
  | some x => rw [e] at h; cases h; exact ⟨x, rfl, rfl⟩
theorem rep_pair {W : Wd} {a b : U} {x y : V} {T : Addr} (hT : H T = none) (ha : RepV G W H a x) (hb : RepV G W H b y) : RepV G W (L2.upd H T (.tup [x, y])) (.prs [a, b]) (.ref T) := by
  have k : Kp W H (L2.upd H T (.tup [x, y])) := kp_upd hT
  simp only [RepV, RepVs]
  exact ⟨T, [x, y], rfl, upd_same, x, [y], rfl, RepV.mono (.refl W) k _ ha, y, [], rfl, RepV.mono (.refl W) k _ hb, rfl⟩
theorem j_enumL {K : PySem.W.Frag} (hK : K = G.K) {av : AV} {p : Addr} {xs : List U} : JOk G (Ite K p) [av] [.ref p] [.lst xs] (xs.mapIdx fun i x => .prs [.int i, x]) := fun i W s σ H r ra ho e => by
  subst hK
  have c := crep1 r ra ho e
  obtain ⟨q, vs, hq, h1, h2⟩ := c.lst
  cases hq
  have hl := RepVs.length h2
  rw [List.length_mapIdx]
  refine ⟨fun hi => ⟨vs, SqL.of h1, by omega⟩, fun u hu => ?_⟩
  obtain ⟨x, hx, rfl⟩ := enum_get hu
  obtain ⟨v, h3, h4⟩ := RepVs.get h2 hx
  refine ⟨⟨vs, v, SqL.of h1, h3⟩, fun w H' hy => ?_⟩
  obtain ⟨T, x', rfl, hT, rfl, hy⟩ := hy
  have := hy vs (SqL.of h1)
  rw [h3] at this
  cases this
  exact ⟨.inr ⟨T, _, hT, rfl⟩, rep_pair hT (by simp only [RepV]) h4⟩
theorem j_enumT {K : PySem.W.Frag} (hK : K = G.K) {av : AV} {p : Addr} {xs : List U} : JOk G (IteT K p) [av] [.ref p] [.tup xs] (xs.mapIdx fun i x => .prs [.int i, x]) := fun i W s σ H r ra ho e => by
  subst hK
  have c := crep1 r ra ho e
  obtain ⟨q, vs, hq, h1, h2⟩ := c.tup
  cases hq
  have hl := RepVs.length h2
  rw [List.length_mapIdx]
  refine ⟨fun hi => ⟨vs, TX.sq h1, by omega⟩, fun u hu => ?_⟩
  obtain ⟨x, hx, rfl⟩ := enum_get hu
  obtain ⟨v, h3, h4⟩ := RepVs.get h2 hx
  refine ⟨⟨vs, v, TX.sq h1, h3⟩, fun w H' hy => ?_⟩
  obtain ⟨T, x', rfl, hT, rfl, hy⟩ := hy
  have := hy vs (TX.sq h1)
  rw [h3] at this
  cases this
  exact ⟨.inr ⟨T, _, hT, rfl⟩, rep_pair hT (by simp only [RepV]) h4⟩
theorem zip_get {xs ys : List U} {i : Nat} {u : U} (h : (List.zipWith (fun a b => U.prs [a, b]) xs ys)[i]? = some u) : ∃ x y, xs[i]? = some x ∧ ys[i]? = some y ∧ u = .prs [x, y] := by
  rw [List.getElem?_zipWith] at h
  cases e : xs[i]? with
  | none => rw [e] at h; cases h
  | some x =>
    cases e2 : ys[i]? with
    | none => rw [e, e2] at h; cases h
    | some y => rw [e, e2] at h; cases h; exact ⟨x, y, rfl, rfl, rfl⟩
theorem crep2 {W : Wd} {s : Sta} {av bv : AV} {x y : V} {u w : U} (r : RelFr G W s σ H) (ra : RAs G σ W s H [av, bv] [x, y]) (ho : [av, bv].all (AV.ok s) = true) (e : [av, bv].map (AV.get s) = [u, w]) : CRep G W H u x ∧ CRep G W H w y := by
  obtain ⟨av', bv', e0, ra1, ra2⟩ := ras2 ra
  simp only [List.cons.injEq, and_true] at e0
  obtain ⟨rfl, rfl⟩ := e0
  simp only [List.all_cons, List.all_nil, Bool.and_true, Bool.and_eq_true] at ho
  simp only [List.map_cons, List.map_nil, List.cons.injEq, and_true] at e
  rw [← e.1, ← e.2]
  exact ⟨crep_of r ra1 ho.1, crep_of r ra2 ho.2⟩
theorem j_zipT {K : PySem.W.Frag} (hK : K = G.K) {av bv : AV} {p p2 : Addr} {xs ys : List U} : JOk G (RZ.ItzT K p p2) [av, bv] [.ref p, .ref p2] [.tup xs, .tup ys] (List.zipWith (fun a b => .prs [a, b]) xs ys) := fun i W s σ H r ra ho e => by
  subst hK
  obtain ⟨c1, c2⟩ := crep2 r ra ho e
  obtain ⟨q, vs, hq, h1, h2⟩ := c1.tup
  cases hq
  obtain ⟨q, ws, hq, h3, h4⟩ := c2.tup
  cases hq
  have hl := RepVs.length h2
  have hl2 := RepVs.length h4
  rw [List.length_zipWith]
  refine ⟨fun hi => ⟨vs, ws, TX.sq h1, TX.sq h3, by omega⟩, fun u hu => ?_⟩
  obtain ⟨x, y, hx, hy, rfl⟩ := zip_get hu
  obtain ⟨v, h5, h6⟩ := RepVs.get h2 hx
  obtain ⟨w, h7, h8⟩ := RepVs.get h4 hy
  refine ⟨⟨vs, ws, v, w, TX.sq h1, TX.sq h3, h5, h7⟩, fun z H' hz => ?_⟩
  obtain ⟨T, x', y', rfl, hT, rfl, g1, g2⟩ := hz
  have g1 := g1 vs (TX.sq h1)
  have g2 := g2 ws (TX.sq h3)
  rw [h5] at g1
  rw [h7] at g2
  cases g1
  cases g2
  exact ⟨.inr ⟨T, _, hT, rfl⟩, rep_pair hT h6 h8⟩
theorem j_zipL {K : PySem.W.Frag} (hK : K = G.K) {av bv : AV} {p p2 : Addr} {xs ys : List U} : JOk G (Itz K p p2) [av, bv] [.ref p, .ref p2] [.lst xs, .lst ys] (List.zipWith (fun a b => .prs [a, b]) xs ys) := fun i W s σ H r ra ho e => by
  subst hK
  obtain ⟨c1, c2⟩ := crep2 r ra ho e
  obtain ⟨q, vs, hq, h1, h2⟩ := c1.lst
  cases hq
  obtain ⟨q, ws, hq, h3, h4⟩ := c2.lst
  cases hq
  have hl := RepVs.length h2
  have hl2 := RepVs.length h4
  rw [List.length_zipWith]
  refine ⟨fun hi => ⟨vs, ws, SqL.of h1, SqL.of h3, by omega⟩, fun u hu => ?_⟩
  obtain ⟨x, y, hx, hy, rfl⟩ := zip_get hu
  obtain ⟨v, h5, h6⟩ := RepVs.get h2 hx
  obtain ⟨w, h7, h8⟩ := RepVs.get h4 hy
  refine ⟨⟨vs, ws, v, w, SqL.of h1, SqL.of h3, h5, h7⟩, fun z H' hz => ?_⟩
  obtain ⟨T, x', y', rfl, hT, rfl, g1, g2⟩ := hz
  have g1 := g1 vs (SqL.of h1)
  have g2 := g2 ws (SqL.of h3)
  rw [h5] at g1
  rw [h7] at g2
  cases g1
  cases g2
  exact ⟨.inr ⟨T, _, hT, rfl⟩, rep_pair hT h6 h8⟩
theorem rng_get {a b : Int} {i : Nat} {u : U} (h : (rng a b)[i]? = some u) : i < (b - a).toNat ∧ u = .int (a + i) := by
  unfold rng at h
  rw [List.getElem?_map] at h
  by_cases hi : i < (b - a).toNat
  · rw [List.getElem?_range hi] at h
    cases h
    exact ⟨hi, rfl⟩
  · rw [List.getElem?_eq_none (by simpa using hi)] at h; cases h
theorem j_rng {avs : List AV} {vs : List V} {us : List U} {a b : Int} : JOk G (Itr a (b - a).toNat) avs vs us (rng a b) := fun i W s σ H r ra ho e => by
  have hl : (rng a b).length = (b - a).toNat := by unfold rng; rw [List.length_map, List.length_range]
  rw [hl]
  refine ⟨fun h => h, fun u hu => ?_⟩
  obtain ⟨h1, rfl⟩ := rng_get hu
  refine ⟨h1, fun v H' hy => ?_⟩
  obtain ⟨rfl, rfl⟩ := hy
  exact ⟨.inl rfl, by simp only [RepV]⟩

/-! the walks in the text -/
def notSet : Expr → Bool
  | .Set _ _ _ => false
  | _ => true
def itArgs (sc : Scope) (k : Nat) (tg : Expr) (e : Expr) : Option (List Expr) :=
  match k with
  | 0 => if notSet e then some [e] else none
  | 1 => match e with
    | .Call (.Name x _) [a] [] _ => if isB sc x "range" && notStar a then some [a] else none
    | _ => none
  | 2 => match e with
    | .Call (.Name x _) [a, b] [] _ => if isB sc x "range" && notStar a && notStar b then some [a, b] else none
    | _ => none
  | 3 => match e, tg with
    | .Call (.Name x _) [a] [] _, .Tuple _ _ _ => if isB sc x "enumerate" && notStar a then some [a] else none
    | _, _ => none
  | 4 => match e, tg with
    | .Call (.Name x _) [a, b] [] _, .Tuple _ _ _ => if isB sc x "zip" && notStar a && notStar b then some [a, b] else none
    | _, _ => none
  | _ => none
theorem walk0 {us xs : List U} (h : walk 0 us = some xs) : us = [.tup xs] ∨ us = [.lst xs] := by
  unfold walk at h
  split at h
  · cases h; exact .inl rfl
  · cases h; exact .inr rfl
  all_goals first | contradiction | (exfalso; omega) | skip
end
end MP
set_option maxRecDepth 100000
set_option maxHeartbeats 1000000
/-! R2m: walks in the text; targets. -/
namespace MP
open PySem PySem.Spec PyProof.Rows L2
section
variable {C : SC} {G : Nms} {g : Gst} {X : Cx} {sc : Scope} {Wx : WX} {σ : L2.St} {H : Hp} {pos : Pos} {tg : Expr}
theorem walk1 {us xs : List U} (h : walk 1 us = some xs) : ∃ n, us = [.int n] ∧ small n = true ∧ xs = rng 0 n := by
  unfold walk at h
  split at h <;> first | contradiction | skip
  rename_i n _
  split at h
  · cases h; exact ⟨_, rfl, by assumption, rfl⟩
  · cases h
theorem walk2 {us xs : List U} (h : walk 2 us = some xs) : ∃ a b, us = [.int a, .int b] ∧ small a = true ∧ small b = true ∧ xs = rng a b := by
  unfold walk at h
  split at h <;> first | contradiction | skip
  split at h
  · rename_i hh
    simp only [Bool.and_eq_true] at hh
    cases h; exact ⟨_, _, rfl, hh.1, hh.2, rfl⟩
  · cases h
theorem walk3 {us xs : List U} (h : walk 3 us = some xs) : (∃ ys, us = [.tup ys] ∧ xs = ys.mapIdx fun i x => .prs [.int i, x]) ∨ (∃ ys, us = [.lst ys] ∧ xs = ys.mapIdx fun i x => .prs [.int i, x]) := by
  unfold walk at h
  split at h <;> first | contradiction | skip
  · cases h; exact .inl ⟨_, rfl, rfl⟩
  · cases h; exact .inr ⟨_, rfl, rfl⟩
theorem boot_range' : bootBuiltins "range" = some (.type "range") := by decide +kernel
theorem walk4 {us xs : List U} (h : walk 4 us = some xs) : (∃ as bs, us = [.tup as, .tup bs] ∧ xs = List.zipWith (fun a b => .prs [a, b]) as bs) ∨ (∃ as bs, us = [.lst as, .lst bs] ∧ xs = List.zipWith (fun a b => .prs [a, b]) as bs) := by
  unfold walk at h
  split at h <;> first | (exfalso; omega) | skip
  · cases h; exact .inl ⟨_, _, rfl, rfl⟩
  · cases h; exact .inr ⟨_, _, rfl, rfl⟩
  all_goals first | contradiction | cases h
theorem pi_walk (D : Good C G g X sc) {k : Nat} {its : List ME} {iter : Expr} {es : List Expr} (h : itArgs sc k tg iter = some es) (ha : Paired (PX G Wx g X) its es) : PI X tg iter (tI G Wx g k its) ∧ ∀ x, foldedSetIterable iter X.env x = pure x := by
  have O := D.of
  unfold itArgs at h
  split at h
  · split at h
    · rename_i hs
      cases h
      obtain ⟨m, rfl, a1⟩ := paired1 ha
      refine ⟨PIi (pi_seq a1) fun σ H R q => tR_mono (one_arg' q) fun x H1 ⟨W, s, avs, xs, r, ra, hw, j⟩ => ?_, fun x => by cases iter <;> first | rfl | cases hs⟩
      obtain ⟨av, rfl, ra1⟩ := ras1 ra
      obtain ⟨ho, hw⟩ := walk_get hw
      simp only [List.all_cons, List.all_nil, Bool.and_true] at ho
      have c := crep_of r ra1 ho
      rcases walk0 hw with e | e <;> simp only [List.map_cons, List.map_nil, List.cons.injEq, and_true] at e
      · rw [e] at c
        obtain ⟨p, vs, rfl, h1, h2⟩ := c.tup
        refine ⟨p, rfl, .inr ⟨⟨vs, TX.sq h1⟩, j _ ?_⟩⟩
        simp only [List.map_cons, List.map_nil, e]
        exact j_tup O.K
      · rw [e] at c
        obtain ⟨p, vs, rfl, h1, h2⟩ := c.lst
        refine ⟨p, rfl, .inl ⟨⟨vs, SqL.of h1⟩, j _ ?_⟩⟩
        simp only [List.map_cons, List.map_nil, e]
        exact j_lst O.K
    · cases h
  · split at h
    · split at h
      · rename_i hh
        simp only [Bool.and_eq_true] at hh
        cases h
        obtain ⟨m, rfl, a1⟩ := paired1 ha
        obtain ⟨rfl, g1, g2, _⟩ := isB_is D (by decide) hh.1
        have pa : PA X _ (tArgs G Wx g [m]) := pa_of (.cons a1 .nil) (by simp [hh.2])
        refine ⟨PIi (pi_range1 g1 g2 pa (star1 hh.2)) fun σ H R q => tR_mono q fun xv H1 ⟨W, s, avs, xs, r, ra, hw, j⟩ => ?_, fun x => rfl⟩
        obtain ⟨ho, hw⟩ := walk_get hw
        obtain ⟨n, e, hn, rfl⟩ := walk1 hw
        have hl : xv.length = 1 := by
          have h1 := Paired.length ra
          have h2 := congrArg List.length e
          simp at h2
          omega
        match xv, hl with
        | [x], _ =>
        obtain ⟨av, rfl, ra1⟩ := ras1 ra
        have c := crep1 r ra ho e
        obtain ⟨s1, s2⟩ := small_of hn
        refine ⟨n, by rw [c.int], s1, s2, ?_⟩
        have := j (Itr 0 (n - 0).toNat) j_rng
        rwa [Int.sub_zero] at this
      · cases h
    · cases h
  · split at h
    · split at h
      · rename_i hh
        simp only [Bool.and_eq_true] at hh
        cases h
        obtain ⟨m, m2, rfl, a1, a2⟩ := paired2 ha
        obtain ⟨rfl, g1, g2, _⟩ := isB_is D (by decide) hh.1.1
        have pa : PA X _ (tArgs G Wx g [m, m2]) := pa_of (.cons a1 (.cons a2 .nil)) (by simp [hh.2, hh.1.2])
        refine ⟨PIi (pi_range2 g1 g2 pa (by rw [star1 hh.1.2, star1 hh.2]; rfl) (star1 hh.2)) fun σ H R q => tR_mono q fun xv H1 ⟨W, s, avs, xs, r, ra, hw, j⟩ => ?_, fun x => rfl⟩
        obtain ⟨ho, hw⟩ := walk_get hw
        obtain ⟨a, b, e, hna, hnb, rfl⟩ := walk2 hw
        have hl : xv.length = 2 := by
          have h1 := Paired.length ra
          have h2 := congrArg List.length e
          simp at h2
          omega
        match xv, hl with
        | [x, y], _ =>
        obtain ⟨av, bv, rfl, ra1, ra2⟩ := ras2 ra
        simp only [List.all_cons, List.all_nil, Bool.and_true, Bool.and_eq_true] at ho
        simp only [List.map_cons, List.map_nil, List.cons.injEq, and_true] at e
        have c1 := crep_of r ra1 ho.1
        have c2 := crep_of r ra2 ho.2
        rw [e.1] at c1
        rw [e.2] at c2
        obtain ⟨s1, s2⟩ := small_of hna
        obtain ⟨s3, s4⟩ := small_of hnb
        exact ⟨a, b, by rw [c1.int, c2.int], ⟨s1, s2, s3, s4⟩, j _ j_rng⟩
      · cases h
    · cases h
  · split at h
    · split at h
      · rename_i hh
        simp only [Bool.and_eq_true] at hh
        cases h
        obtain ⟨m, rfl, a1⟩ := paired1 ha
        obtain ⟨rfl, g1, g2, _⟩ := isB_is D (by decide) hh.1
        refine ⟨PIi (pi_enumA g1 g2 a1 (star1 hh.2)) fun σ H R q => tR_mono (one_arg' q) fun x H1 ⟨W, s, avs, xs, r, ra, hw, j⟩ => ?_, fun x => rfl⟩
        obtain ⟨av, rfl, ra1⟩ := ras1 ra
        obtain ⟨ho, hw⟩ := walk_get hw
        simp only [List.all_cons, List.all_nil, Bool.and_true] at ho
        have c := crep_of r ra1 ho
        rcases walk3 hw with ⟨ys, e, rfl⟩ | ⟨ys, e, rfl⟩ <;> simp only [List.map_cons, List.map_nil, List.cons.injEq, and_true] at e
        · rw [e] at c
          obtain ⟨p, vs, rfl, h1, h2⟩ := c.tup
          refine ⟨p, rfl, .inr ⟨⟨vs, TX.sq h1⟩, j _ ?_⟩⟩
          simp only [List.map_cons, List.map_nil, e]
          exact j_enumT O.K
        · rw [e] at c
          obtain ⟨p, vs, rfl, h1, h2⟩ := c.lst
          refine ⟨p, rfl, .inl ⟨⟨vs, SqL.of h1⟩, j _ ?_⟩⟩
          simp only [List.map_cons, List.map_nil, e]
          exact j_enumL O.K
      · cases h
    · cases h
  · split at h
    · split at h
      · rename_i hh
        simp only [Bool.and_eq_true] at hh
        cases h
        obtain ⟨m, m2, rfl, a1, a2⟩ := paired2 ha
        obtain ⟨rfl, g1, g2, _⟩ := isB_is D (by decide) hh.1.1
        have pa : PA X _ (tArgs G Wx g [m, m2]) := pa_of (.cons a1 (.cons a2 .nil)) (by simp [hh.2, hh.1.2])
        refine ⟨PIi (RZ.pi_zipA g1 g2 pa (star1 hh.1.2) (by rw [star1 hh.2]; rfl)) fun σ H R q => tR_mono q fun xv H1 ⟨W, s, avs, xs, r, ra, hw, j⟩ => ?_, fun x => rfl⟩
        obtain ⟨ho, hw⟩ := walk_get hw
        have hl : xv.length = 2 := by
          have h1 := Paired.length ra
          rcases walk4 hw with ⟨us, ws, e, _⟩ | ⟨us, ws, e, _⟩ <;>
          · have h2 := congrArg List.length e
            simp at h2
            omega
        match xv, hl with
        | [x, y], _ =>
        obtain ⟨av, bv, rfl, ra1, ra2⟩ := ras2 ra
        have ho' := ho
        simp only [List.all_cons, List.all_nil, Bool.and_true, Bool.and_eq_true] at ho
        have c1 := crep_of r ra1 ho.1
        have c2 := crep_of r ra2 ho.2
        rcases walk4 hw with ⟨us, ws, e, rfl⟩ | ⟨us, ws, e, rfl⟩ <;> simp only [List.map_cons, List.map_nil, List.cons.injEq, and_true] at e
        · rw [e.1] at c1
          rw [e.2] at c2
          obtain ⟨p, vs, rfl, h1, h2⟩ := c1.tup
          obtain ⟨p2, vs2, rfl, h3, h4⟩ := c2.tup
          refine ⟨p, p2, vs, vs2, rfl, .inr ⟨TX.sq h1, TX.sq h3, j _ ?_⟩⟩
          simp only [List.map_cons, List.map_nil, e.1, e.2]
          exact j_zipT O.K
        · rw [e.1] at c1
          rw [e.2] at c2
          obtain ⟨p, vs, rfl, h1, h2⟩ := c1.lst
          obtain ⟨p2, vs2, rfl, h3, h4⟩ := c2.lst
          refine ⟨p, p2, vs, vs2, rfl, .inl ⟨SqL.of h1, SqL.of h3, j _ ?_⟩⟩
          simp only [List.map_cons, List.map_nil, e.1, e.2]
          exact j_zipL O.K
      · cases h
    · cases h
  · cases h
end
end MP
set_option maxRecDepth 100000
set_option maxHeartbeats 1000000
/-! R2n: targets. -/
namespace MP
open PySem PySem.Spec PyProof.Rows L2
mutual
def chkT (N : List Str) (lo : Str → Bool) : Tg → Expr → Bool
  | .one i, .Name x _ => decide (N[i]? = some x) && lo x
  | .tup ts, .Tuple es _ _ => chkTs N lo ts es
  | _, _ => false
def chkTs (N : List Str) (lo : Str → Bool) : List Tg → List Expr → Bool
  | [], [] => true
  | t :: ts, e :: es => chkT N lo t e && chkTs N lo ts es
  | _, _ => false
end
mutual
/-- the slots that a target fills -/
def asgT : Tg → List Nat
  | .one i => [i]
  | .tup ts => asgTs ts
def asgTs : List Tg → List Nat
  | [] => []
  | t :: ts => asgT t ++ asgTs ts
end
mutual
def gT (K : PySem.W.Frag) : Tg → TG
  | .one i => gName i
  | .tup ts => gTup K ts.length (gTs K ts)
def gTs (K : PySem.W.Frag) : List Tg → TGs
  | [] => gNil
  | t :: ts => gCons (gT K t) (gTs K ts)
end
section
variable {X : Cx} {lo : Str → Bool}
theorem chkTs_len {N : List Str} : ∀ {ts : List Tg} {es : List Expr}, chkTs N lo ts es = true → ts.length = es.length
  | [], [], _ => rfl
  | t :: ts, e :: es, h => by
    simp only [chkTs, Bool.and_eq_true] at h
    rw [List.length_cons, List.length_cons, chkTs_len h.2]
  | [], _ :: _, h => by simp [chkTs] at h
  | _ :: _, [], h => by simp [chkTs] at h
theorem each_cons {N : List Str} {t : Tg} {e : Expr} {es : List Expr} (h : chkT N lo t e = true) : assignEach (e :: es) X.env = (false, assign e X.env) :: assignEach es X.env := by
  cases t <;> cases e <;> first | rfl | (simp [chkT] at h; done)
theorem each_len {N : List Str} : ∀ {ts : List Tg} {es : List Expr}, chkTs N lo ts es = true → (assignEach es X.env).length = ts.length ∧ (assignEach es X.env).findIdx? (·.1) = none
  | [], [], _ => ⟨rfl, rfl⟩
  | t :: ts, e :: es, h => by
    simp only [chkTs, Bool.and_eq_true] at h
    obtain ⟨h1, h2⟩ := each_len h.2
    rw [each_cons h.1]
    refine ⟨by rw [List.length_cons, List.length_cons, h1], ?_⟩
    rw [List.findIdx?_cons, h2]
    rfl
  | [], _ :: _, h => by simp [chkTs] at h
  | _ :: _, [], h => by simp [chkTs] at h
variable (hc : X.calm = true) (nd : X.N.Nodup) (hlo : ∀ x, lo x = true → Loc X.env.scope x ∧ (X.fn x = true ∨ X.env.scope.names.lookup x = some .local))
include hc nd hlo
mutual
theorem pg_T : ∀ (t : Tg) (e : Expr), chkT X.N lo t e = true → PG X e (gT X.K t)
  | .one i, e, h => by
    cases e <;> first | (simp [chkT] at h; done) | skip
    simp only [chkT, Bool.and_eq_true, decide_eq_true_eq] at h
    obtain ⟨h1, h2⟩ := hlo _ h.2
    exact pg_name nd h.1 h1 h2
  | .tup ts, e, h => by
    cases e <;> first | (simp [chkT] at h; done) | skip
    rename_i es k p
    simp only [chkT] at h
    obtain ⟨h1, h2⟩ := each_len (X := X) h
    exact pg_tup hc (pgs_T ts es h) h1 h2
theorem pgs_T : ∀ (ts : List Tg) (es : List Expr), chkTs X.N lo ts es = true → PGs X es (gTs X.K ts)
  | [], [], _ => pgs_nil
  | t :: ts, e :: es, h => by
    simp only [chkTs, Bool.and_eq_true] at h
    exact pgs_cons (pg_T t e h.1) (pgs_T ts es h.2) (by rw [each_cons h.1]; rfl)
  | [], _ :: _, h => by simp [chkTs] at h
  | _ :: _, [], h => by simp [chkTs] at h
end
end
section
variable {G : Nms} {W : Wd} {s : Sta} {σ : L2.St} {H : Hp}
theorem RelFr.set (r : RelFr G W s σ H) (i : Nat) {u : U} {v : V} (hv : RepV G W H u v) : RelFr G W (s.put i (.val u)) (σ.set i (some v)) H := by
  by_cases hi : i < s.r.length
  · have hi' : i < σ.length := by rw [← r.len]; exact hi
    refine ⟨?_, fun j x hj => ?_, fun j k u1 u2 a jk h1 h2 a1 a2 => ?_, r.m⟩
    · show (s.r.set i _).length = _
      rw [List.length_set, List.length_set]; exact r.len
    · rw [slot_put _ _ _ _ hi] at hj
      rw [List.getElem?_set]
      split at hj
      · rename_i e; subst e
        cases hj
        rw [if_pos rfl, if_pos hi']
        exact ⟨_, rfl, v, rfl, hv⟩
      · rename_i e
        rw [if_neg e]
        exact r.slt j x hj
    · rw [slot_put _ _ _ _ hi] at h1 h2
      rw [List.getElem?_set] at a1 a2
      split at h1
      · cases h1
      · split at h2
        · cases h2
        · rename_i e1 e2
          rw [if_neg e1] at a1
          rw [if_neg e2] at a2
          exact r.apart j k u1 u2 a jk h1 h2 a1 a2
  · have e1 : s.put i (.val u) = s := by
      unfold Sta.put
      rw [List.set_eq_of_length_le (by omega)]
    rw [e1, List.set_eq_of_length_le (by rw [← r.len]; omega)]
    exact r
theorem ownd_set (r : RelFr G W s σ H) {i : Nat} {u : U} {v : V} {a : Addr} (h : Ownd (s.put i (.val u)) (σ.set i (some v)) a) : Ownd s σ a := by
  obtain ⟨j, w, h1, h2⟩ := h
  by_cases hi : i < s.r.length
  · rw [slot_put _ _ _ _ hi] at h1
    split at h1
    · cases h1
    · rename_i e
      rw [List.getElem?_set_ne e] at h2
      exact ⟨j, w, h1, h2⟩
  · have e1 : s.put i (.val u) = s := by
      unfold Sta.put
      rw [List.set_eq_of_length_le (by omega)]
    rw [e1] at h1
    rw [List.set_eq_of_length_le (by rw [← r.len]; omega)] at h2
    exact ⟨j, w, h1, h2⟩
mutual
theorem gT_ok (K : PySem.W.Frag) (hK : K = G.K) : ∀ (t : Tg) (u : U) (s s' : Sta) (v : V) (σ : L2.St) (Q : L2.St → Hp → Prop), bindT t u s = some s' → RelFr G W s σ H → RepV G W H u v →
    (∀ σ', RelFr G W s' σ' H → (∀ j, j ∉ asgT t → σ'[j]? = σ[j]?) → σ'.length = σ.length → s'.m = s.m ∧ (∀ a, Ownd s' σ' a → Ownd s σ a) → Q σ' H) → gT K t v σ H Q
  | .one i, u, s, s', v, σ, Q, e, r, rv, q => by
    simp only [bindT] at e
    cases e
    simp only [gT]
    refine q _ (r.set i rv) (fun j hj => ?_) (List.length_set ..) ⟨rfl, fun a ha => ownd_set r ha⟩
    simp only [asgT, List.mem_singleton] at hj
    rw [List.getElem?_set_ne (fun z => hj z.symm)]
  | .tup ts, u, s, s', v, σ, Q, e, r, rv, q => by
    cases u with
    | tup us =>
      simp only [bindT] at e
      simp only [RepV] at rv
      obtain ⟨a, vs, rfl, h1, h2⟩ := rv
      simp only [gT]
      refine ⟨a, vs, rfl, by rw [hK]; exact TX.sq h1, ?_, gTs_ok K hK ts us s s' vs σ Q e r h2 fun σ' h3 h4 h5 h6 => q σ' h3 (by simpa only [asgT] using h4) h5 h6⟩
      rw [← RepVs.length h2]
      exact bindTs_len e
    | prs us =>
      simp only [bindT] at e
      simp only [RepV] at rv
      obtain ⟨a, vs, rfl, h1, h2⟩ := rv
      simp only [gT]
      refine ⟨a, vs, rfl, by rw [hK]; exact SqT.of h1, ?_, gTs_ok K hK ts us s s' vs σ Q e r h2 fun σ' h3 h4 h5 h6 => q σ' h3 (by simpa only [asgT] using h4) h5 h6⟩
      rw [← RepVs.length h2]
      exact bindTs_len e
    | _ => simp [bindT] at e
theorem gTs_ok (K : PySem.W.Frag) (hK : K = G.K) : ∀ (ts : List Tg) (us : List U) (s s' : Sta) (vs : List V) (σ : L2.St) (Q : L2.St → Hp → Prop), bindTs ts us s = some s' → RelFr G W s σ H → RepVs G W H us vs →
    (∀ σ', RelFr G W s' σ' H → (∀ j, j ∉ asgTs ts → σ'[j]? = σ[j]?) → σ'.length = σ.length → s'.m = s.m ∧ (∀ a, Ownd s' σ' a → Ownd s σ a) → Q σ' H) → gTs K ts vs σ H Q
  | [], [], s, s', vs, σ, Q, e, r, rv, q => by
    simp only [bindTs] at e
    cases e
    obtain rfl := rv.nil_of
    simp only [gTs]
    exact ⟨rfl, q σ r (fun _ _ => rfl) rfl ⟨rfl, fun _ h => h⟩⟩
  | t :: ts, u :: us, s, s', vs, σ, Q, e, r, rv, q => by
    simp only [bindTs] at e
    simp only [RepVs] at rv
    obtain ⟨v, vr, rfl, h1, h2⟩ := rv
    cases e1 : bindT t u s with
    | none => rw [e1] at e; cases e
    | some s1 =>
      rw [e1] at e
      simp only [gTs]
      refine ⟨v, vr, rfl, gT_ok K hK t u s s1 v σ _ e1 r h1 fun σ1 r1 k1 l1 m1 => gTs_ok K hK ts us s1 s' vr σ1 Q e r1 h2 fun σ2 r2 k2 l2 m2 => q σ2 r2 (fun j hj => ?_) (l2.trans l1) ⟨m2.1.trans m1.1, fun a ha => m1.2 a (m2.2 a ha)⟩⟩
      simp only [asgTs, List.mem_append, not_or] at hj
      exact (k2 j hj.2).trans (k1 j hj.1)
  | [], _ :: _, _, _, _, _, _, e, _, _, _ => by simp [bindTs] at e
  | _ :: _, [], _, _, _, _, _, e, _, _, _ => by simp [bindTs] at e
theorem bindTs_len : ∀ {ts : List Tg} {us : List U} {s s' : Sta}, bindTs ts us s = some s' → us.length = ts.length
  | [], [], _, _, _ => rfl
  | t :: ts, u :: us, s, s', e => by
    simp only [bindTs] at e
    cases e1 : bindT t u s with
    | none => rw [e1] at e; cases e
    | some s1 =>
      rw [e1] at e
      rw [List.length_cons, List.length_cons, bindTs_len e]
  | [], _ :: _, _, _, e => by simp [bindTs] at e
  | _ :: _, [], _, _, e => by simp [bindTs] at e
end
end
end MP
set_option maxRecDepth 100000
set_option maxHeartbeats 2000000
/-! R2o: comprehensions. -/
namespace MP
open PySem PySem.Spec PyProof.Rows L2
section
variable {G : Nms} {g : Gst} {W W1 : Wd} {s s1 : Sta} {σ σ2 : L2.St} {H H1 : Hp}
theorem wipeS_m (s : Sta) : ∀ own : List Nat, (wipeS s own).m = s.m
  | [] => rfl
  | i :: is => by show (wipeS s is).m = s.m; exact wipeS_m s is
theorem wipeS_len (s : Sta) : ∀ own : List Nat, (wipeS s own).r.length = s.r.length
  | [] => rfl
  | i :: is => by
    show ((wipeS s is).r.set i .no).length = _
    rw [List.length_set]; exact wipeS_len s is
theorem wipeS_out (s : Sta) {j : Nat} : ∀ {own : List Nat}, j ∉ own → (wipeS s own).r[j]? = s.r[j]?
  | [], _ => rfl
  | i :: is, h => by
    simp only [List.mem_cons, not_or] at h
    show ((wipeS s is).r.set i .no)[j]? = _
    rw [List.getElem?_set_ne (fun z => h.1 z.symm)]
    exact wipeS_out s h.2
theorem wipeS_in (s : Sta) {j : Nat} : ∀ {own : List Nat}, j ∈ own → ∀ x, (wipeS s own).r[j]? = some x → x = .no
  | [], h, _, _ => by simp at h
  | i :: is, h, x, e => by
    have e : ((wipeS s is).r.set i .no)[j]? = some x := e
    by_cases hij : i = j
    · subst hij
      rw [List.getElem?_set] at e
      simp only [if_true] at e
      split at e
      · cases e; rfl
      · cases e
    · rw [List.getElem?_set_ne hij] at e
      rcases List.mem_cons.mp h with z | z
      · exact absurd z.symm hij
      · exact wipeS_in s z x e
theorem wipe_in {σ : L2.St} {j : Nat} : ∀ {vs : List Nat}, j ∈ vs → j < σ.length → (L2.wipe σ vs)[j]? = some none
  | [], h, _ => by simp at h
  | i :: is, h, hl => by
    show ((L2.wipe σ is).set i none)[j]? = some none
    have hl2 : j < (L2.wipe σ is).length := by rw [wipe_length]; exact hl
    by_cases hij : i = j
    · subst hij
      rw [List.getElem?_set]
      simp [hl2]
    · rw [List.getElem?_set_ne hij]
      rcases List.mem_cons.mp h with z | z
      · exact absurd z.symm hij
      · exact wipe_in z hl
theorem wipe_agree {vs : List Nat} (hl : σ2.length = (L2.wipe σ vs).length) (h : ∀ j, j ∉ vs → σ2[j]? = (L2.wipe σ vs)[j]?) : L2.wipe σ2 vs = L2.wipe σ vs := by
  apply List.ext_getElem?
  intro j
  rw [wipe_length] at hl
  by_cases hj : j ∈ vs
  · by_cases hlt : j < σ.length
    · rw [wipe_in hj hlt, wipe_in hj (by omega)]
    · rw [List.getElem?_eq_none (by rw [wipe_length]; omega), List.getElem?_eq_none (by rw [wipe_length]; omega)]
  · rw [wipe_out hj, h j hj]
theorem RelFr.wipe (r : RelFr G W s σ H) (vs : List Nat) : RelFr G W (wipeS s vs) (L2.wipe σ vs) H := by
  refine ⟨by rw [wipeS_len, wipe_length]; exact r.len, fun j x hx => ?_, fun i j u u' a ij h1 h2 a1 a2 => ?_, by rw [wipeS_m]; exact r.m⟩
  · by_cases hj : j ∈ vs
    · obtain rfl := wipeS_in s hj x hx
      have hlt := (List.getElem?_eq_some_iff.mp hx).1
      rw [wipeS_len, r.len] at hlt
      exact ⟨none, wipe_in hj hlt, trivial⟩
    · rw [wipeS_out s hj] at hx
      rw [wipe_out hj]
      exact r.slt j x hx
  · have k : ∀ m um, (wipeS s vs).r[m]? = some (Slt.own um) → m ∉ vs := fun m um hm hmem => by
      have := wipeS_in s hmem _ hm
      cases this
    have ki := k i u h1
    have kj := k j u' h2
    rw [wipeS_out s ki] at h1
    rw [wipeS_out s kj] at h2
    rw [wipe_out ki] at a1
    rw [wipe_out kj] at a2
    exact r.apart i j u u' a ij h1 h2 a1 a2
theorem ownd_wipe {vs : List Nat} {a : Addr} (h : Ownd (wipeS s vs) (L2.wipe σ vs) a) : Ownd s σ a := by
  obtain ⟨i, u, h1, h2⟩ := h
  have ki : i ∉ vs := fun hm => by
    have := wipeS_in s hm _ h1
    cases this
  rw [wipeS_out s ki] at h1
  rw [wipe_out ki] at h2
  exact ⟨i, u, h1, h2⟩
/-- a thing that is nobody's stays so -/
theorem stays_free {a b : Sta} {D : Addr} {o : HO} (e : Ext a b σ W W1 H H1) (h : H D = some o) (h1 : D ∉ W.al) (h2 : ¬ W.fz D) (h3 : ¬ Ownd a σ D) : D ∉ W1.al ∧ ¬ W1.fz D ∧ ¬ Ownd b σ D ∧ H1 D = some o := by
  refine ⟨fun z => ?_, fun z => ?_, fun z => h3 (z.mono e.own), e.fr D o h h1 h3⟩
  · rcases e.new D (.inr ⟨z, h1⟩) with q | q | q
    · rw [h] at q; cases q
    · exact h3 q
    · exact h1 q
  · rcases e.new D (.inl ⟨z, h2⟩) with q | q | q
    · rw [h] at q; cases q
    · exact h3 q
    · exact h1 q
/-- a nobody's list grows -/
theorem RelFr.grow {D : Addr} {o : HO} {xs : List V} (r : RelFr G W s σ H) (hD : H D = some (HO.lst xs)) (h1 : D ∉ W.al) (h2 : ¬ W.fz D) (h3 : ¬ Ownd s σ D) : Kp W H (L2.upd H D o) ∧ RelFr G W s σ (L2.upd H D o) := by
  have k : Kp W H (L2.upd H D o) := kp_own h2 hD (fun _ z => by cases z) (fun _ _ z => by cases z)
  have back : ∀ {q o'}, H q = some o' → q ≠ D → (L2.upd H D o) q = some o' := fun a b => by rw [upd_ne b]; exact a
  refine ⟨k, r.len, fun i x hx => ?_, r.apart, r.m.len, r.m.nod, fun n a ha => ?_, fun a ha => ?_⟩
  · obtain ⟨y, q1, q2⟩ := r.slt i x hx
    refine ⟨y, q1, ?_⟩
    cases x with
    | no => trivial
    | val u => obtain ⟨v, e, q⟩ := q2; exact ⟨v, e, RepV.mono (.refl W) k _ q⟩
    | clo us => exact CloOk.mono (.refl W) k q2
    | own u =>
      obtain ⟨p, e, f, n, c⟩ := q2
      refine ⟨p, e, f, n, c.mono (.refl W) k fun o' ho => back ho fun z => ?_⟩
      subst z; subst e
      exact h3 ⟨i, u, hx, q1⟩
  · obtain ⟨q1, u, q2, q3⟩ := r.m.mem n a ha
    exact ⟨q1, u, q2, q3.mono (.refl W) k fun o' ho => back ho fun z => by subst z; exact h1 (List.mem_of_getElem? ha)⟩
  · obtain ⟨x, hx⟩ := r.m.sm a ha
    exact ⟨x, back hx fun z => by subst z; exact h2 ha⟩
end
def condC (g : Gst) (cond : Option ME) (s : Sta) : Rs Bool := match cond with
  | none => .ok true s
  | some c => condOf (fun s => evalE g c s) c s
def compF (g : Gst) (e : ME) (t : Tg) (own : List Nat) (cond : Option ME) (avs : List AV) (s1 : Sta) (x : U) (s : Sta) : Rs (Option U) := match bindT t x (wipeS s own) with
  | some sb => (condC g cond sb).bind fun b sc => if b then (evalE g e sc).bind fun u se => (if stillIs s1 se avs then .ok (some u) se else .stuck)
      else (if stillIs s1 sc avs then .ok none sc else .stuck)
  | none => .stuck
theorem comp_eq (g : Gst) (e : ME) (t : Tg) (k : Nat) (its : List ME) (own : List Nat) (cond : Option ME) (s : Sta) : evalE g (.comp e t k its own cond) s = (evalAs g its s).bind fun avs s1 => match walkA k avs s1 with
      | some xs => if stillIs s1 (wipeS s1 own) avs && own.all (fun j => !(AV.own j).ok s1) then
          (match turnsC (compF g e t own cond avs s1) xs s1 with
          | .ok us s' => if us.length ≤ line then .ok (.lst us) (backS s1 s' own) else .stuck
          | _ => .stuck) else .stuck
      | none => .stuck := by
  conv => lhs; unfold evalE
  try rfl
end MP
set_option maxRecDepth 100000
set_option maxHeartbeats 4000000
/-! R2p: a comprehension's turns. -/
namespace MP
open PySem PySem.Spec PyProof.Rows L2
abbrev WF : WX := fun _ _ _ _ => False
section
variable {G : Nms} {g : Gst} {W W1 W2 : Wd} {s s1 s2 : Sta} {σ σ2 : L2.St} {H H1 H2 : Hp}
mutual
theorem bindT_out : ∀ {t : Tg} {u : U} {s s' : Sta} {j : Nat}, bindT t u s = some s' → j ∉ asgT t → s'.r[j]? = s.r[j]?
  | .one i, u, s, s', j, e, h => by
    simp only [bindT] at e
    cases e
    simp only [asgT, List.mem_singleton] at h
    show (s.r.set i _)[j]? = _
    rw [List.getElem?_set_ne (fun z => h z.symm)]
  | .tup ts, u, s, s', j, e, h => by
    cases u with
    | tup us => simp only [bindT] at e; simp only [asgT] at h; exact bindTs_out e h
    | prs us => simp only [bindT] at e; simp only [asgT] at h; exact bindTs_out e h
    | _ => simp [bindT] at e
theorem bindTs_out : ∀ {ts : List Tg} {us : List U} {s s' : Sta} {j : Nat}, bindTs ts us s = some s' → j ∉ asgTs ts → s'.r[j]? = s.r[j]?
  | [], [], s, s', j, e, _ => by simp only [bindTs] at e; cases e; rfl
  | t :: ts, u :: us, s, s', j, e, h => by
    simp only [bindTs] at e
    simp only [asgTs, List.mem_append, not_or] at h
    cases e1 : bindT t u s with
    | none => rw [e1] at e; cases e
    | some s1 =>
      rw [e1] at e
      exact (bindTs_out e h.2).trans (bindT_out e1 h.1)
  | [], _ :: _, _, _, _, e, _ => by simp [bindTs] at e
  | _ :: _, [], _, _, _, e, _ => by simp [bindTs] at e
end
mutual
theorem bindT_len : ∀ {t : Tg} {u : U} {s s' : Sta}, bindT t u s = some s' → s'.r.length = s.r.length
  | .one i, u, s, s', e => by
    simp only [bindT] at e
    cases e
    show (s.r.set i _).length = _
    rw [List.length_set]
  | .tup ts, u, s, s', e => by
    cases u with
    | tup us => simp only [bindT] at e; exact bindTs_rlen e
    | prs us => simp only [bindT] at e; exact bindTs_rlen e
    | _ => simp [bindT] at e
theorem bindTs_rlen : ∀ {ts : List Tg} {us : List U} {s s' : Sta}, bindTs ts us s = some s' → s'.r.length = s.r.length
  | [], [], s, s', e => by simp only [bindTs] at e; cases e; rfl
  | t :: ts, u :: us, s, s', e => by
    simp only [bindTs] at e
    cases e1 : bindT t u s with
    | none => rw [e1] at e; cases e
    | some s1 => rw [e1] at e; exact (bindTs_rlen e).trans (bindT_len e1)
  | [], _ :: _, _, _, e => by simp [bindTs] at e
  | _ :: _, [], _, _, e => by simp [bindTs] at e
end
theorem slot_wipe {own : List Nat} {j : Nat} (h : j ∉ own) : slot (wipeS s own) j = slot s j := by
  unfold slot
  rw [List.getD_eq_getElem?_getD, List.getD_eq_getElem?_getD, wipeS_out s h]
theorem ok_wipe {own : List Nat} {j : Nat} (h : (AV.own j).ok (wipeS s own) = true) : j ∉ own := fun hm => by
  have h : (match slot (wipeS s own) j with | .own _ => true | _ => false) = true := h
  have : slot (wipeS s own) j = .no := by
    unfold slot
    rw [List.getD_eq_getElem?_getD]
    cases e : (wipeS s own).r[j]? with
    | none => rfl
    | some x => rw [wipeS_in s hm x e]; rfl
  rw [this] at h
  cases h
def avFree (own : List Nat) (avs : List AV) : Prop := ∀ j, AV.own j ∈ avs → j ∉ own
theorem free_of {own : List Nat} {avs : List AV} (h : avs.all (AV.ok (wipeS s own)) = true) : avFree own avs := fun j hj => ok_wipe (List.all_eq_true.mp h _ hj)
theorem av_wipe {own : List Nat} : ∀ {avs : List AV}, avFree own avs → avs.all (AV.ok (wipeS s own)) = avs.all (AV.ok s) ∧ avs.map (AV.get (wipeS s own)) = avs.map (AV.get s)
  | [], _ => ⟨rfl, rfl⟩
  | a :: as, h => by
    obtain ⟨h1, h2⟩ := av_wipe (fun j hj => h j (List.mem_cons_of_mem _ hj)) (avs := as)
    simp only [List.all_cons, List.map_cons, h1, h2]
    cases a with
    | v u =>
      refine ⟨rfl, ?_⟩
      show MP.cont (wipeS s own).m u :: _ = MP.cont s.m u :: _
      rw [wipeS_m]
    | own j =>
      have e := slot_wipe (s := s) (h j List.mem_cons_self)
      refine ⟨?_, ?_⟩
      · show ((match slot (wipeS s own) j with | .own _ => true | _ => false) && _) = _
        rw [e]; rfl
      · show (match slot (wipeS s own) j with | .own u => u | _ => U.non) :: _ = _
        rw [e]; rfl
theorem ras_wipe {own : List Nat} : ∀ {avs : List AV} {vs : List V}, avFree own avs → RAs G σ W s H avs vs → RAs G (L2.wipe σ own) W (wipeS s own) H avs vs
  | [], [], _, _ => .nil
  | a :: as, v :: vs, h, .cons ra rt => by
    refine .cons ?_ (ras_wipe (fun j hj => h j (List.mem_cons_of_mem _ hj)) rt)
    cases a with
    | v u => exact ra
    | own j =>
      show (L2.wipe σ own)[j]? = _
      rw [wipe_out (h j List.mem_cons_self)]
      exact ra
  | [], _ :: _, _, h => by cases h
  | _ :: _, [], _, h => by cases h
theorem ras_kp {W' : Wd} {H' : Hp} {s' : Sta} (l : W.le W') (k : Kp W H H') : ∀ {avs : List AV} {vs : List V}, RAs G σ W s H avs vs → RAs G σ W' s' H' avs vs
  | [], [], _ => .nil
  | a :: as, v :: vs, .cons ra rt => by
    refine .cons ?_ (ras_kp l k rt)
    cases a with
    | v u => exact RepV.mono l k _ ra
    | own j => exact ra
  | [], _ :: _, h => by cases h
  | _ :: _, [], h => by cases h
/-- a block's evaluation, seen from outside -/
theorem blk_ext {own : List Nat} {t : Tg} {u : U} {sb se : Sta} (hb : bindT t u (wipeS s own) = some sb) (hasg : ∀ j ∈ asgT t, j ∈ own) (ho : ∀ a, Ownd sb σ2 a → Ownd (wipeS s own) (L2.wipe σ own) a) (e : Ext sb se σ2 W W1 H H1) :
    Ext (wipeS s own) (wipeS se own) (L2.wipe σ own) W W1 H H1 := by
  refine ⟨e.le, e.kp, fun a o h1 h2 h3 => e.fr a o h1 h2 fun z => h3 (ho a z), fun a ha => ?_, fun i u' h => ?_, ?_⟩
  · rcases e.new a ha with q | q | q
    · exact .inl q
    · exact .inr (.inl (ho a q))
    · exact .inr (.inr q)
  · have hi : i ∉ own := fun hm => by
      have := wipeS_in se hm _ h
      cases this
    rw [wipeS_out se hi] at h
    obtain ⟨u1, h1⟩ := e.own i u' h
    rw [bindT_out hb (fun z => hi (hasg i z))] at h1
    exact ⟨u1, h1⟩
  · rw [wipeS_len, e.len, bindT_len hb]
theorem Ext.atNew {a b : Sta} {D : Addr} {o : HO} (e : Ext a b σ W W1 H H1) (h : H D = Option.none) : Ext a b σ W W1 H (L2.upd H1 D o) := by
  have ne : ∀ {q x}, H q = some x → q ≠ D := fun h1 => ne_of_none h1 h
  exact ⟨e.le, ⟨fun q x f hq => by rw [upd_ne (ne hq)]; exact e.kp.fz q x f hq, fun q x hq => by rw [upd_ne (ne hq)]; exact e.kp.tup q x hq, fun q x u hq => by rw [upd_ne (ne hq)]; exact e.kp.frz q x u hq⟩,
    fun q x hq h2 h3 => by rw [upd_ne (ne hq)]; exact e.fr q x hq h2 h3, e.new, e.own, e.len⟩
theorem turnsC_cons {f : U → Sta → Rs (Option U)} {x : U} {xs us : List U} {s s' : Sta} (h : turnsC f (x :: xs) s = .ok us s') : ∃ o sn ys, f x s = .ok o sn ∧ turnsC f xs sn = .ok ys s' ∧ us = (match o with | some y => y :: ys | none => ys) := by
  unfold turnsC at h
  cases e1 : f x s with
  | stuck => rw [e1] at h; cases h
  | exc _ _ => rw [e1] at h; cases h
  | ok o sn =>
    rw [e1] at h
    simp only [Rs.bind] at h
    cases e2 : turnsC f xs sn with
    | stuck => rw [e2] at h; cases h
    | exc _ _ => rw [e2] at h; cases h
    | ok ys s2 =>
      rw [e2] at h
      simp only at h
      cases h
      exact ⟨o, sn, ys, rfl, e2, rfl⟩
end
end MP
set_option maxRecDepth 100000
set_option maxHeartbeats 4000000
/-! R2q: a comprehension. -/
namespace MP
open PySem PySem.Spec PyProof.Rows L2
def tt (G : Nms) (g : Gst) (cond : Option ME) : TT := match cond with
  | none => tYes
  | some c => tCond G WF g c
section
variable {G : Nms} {g : Gst} {W W1 W2 : Wd} {s s1 s2 : Sta} {σ σ2 : L2.St} {H H1 H2 : Hp}
theorem tt_ok {cond : Option ME} {sb sc : Sta} {b : Bool} {Q : Bool → Hp → Prop} (h : condC g cond sb = .ok b sc) (r : RelFr G W sb σ2 H) (q : ∀ W' H', Ext sb sc σ2 W W' H H' → RelFr G W' sc σ2 H' → Q b H') : tt G g cond σ2 H Q := by
  cases cond with
  | none =>
    have h : Rs.ok true sb = Rs.ok b sc := h
    cases h
    exact q W H (.refl _ _ _ _) r
  | some c =>
    have h : condOf (fun s => evalE g c s) c sb = .ok b sc := h
    refine ⟨W, sb, r, ?_⟩
    rw [h]
    intro W' H' b' e1 r1 hb
    obtain rfl : b = b' := hb
    exact q W' H' e1 r1
theorem tE_ok {e : ME} {sc se : Sta} {u : U} {Q : VK} (h : evalE g e sc = .ok u se) (r : RelFr G W sc σ2 H) (q : ∀ W' H' v, Ext sc se σ2 W W' H H' → RelFr G W' se σ2 H' → RepV G W' H' u v → Q v H') : tE G WF g e σ2 H Q :=
  ⟨W, sc, r, by rw [h]; exact fun W' H' v e1 r1 hv => q W' H' v e1 r1 hv⟩
/-- where a turn stands -/
def CI (G : Nms) (g : Gst) (e : ME) (t : Tg) (own : List Nat) (cond : Option ME) (avs : List AV) (vs : List V) (s1 s' : Sta) (xs us : List U) (W1 : Wd) (σ : L2.St) (H1 : Hp) (D : Addr) (i : Nat) (H : Hp) : Prop :=
  ∃ Wi si done rest acc, turnsC (compF g e t own cond avs s1) (xs.drop i) si = .ok rest s' ∧ us = done ++ rest ∧ RelFr G Wi (wipeS si own) (L2.wipe σ own) H ∧ H D = some (HO.lst acc) ∧ RepVs G Wi H done acc ∧
    Ext (wipeS s1 own) (wipeS si own) (L2.wipe σ own) W1 Wi H1 H ∧ RAs G (L2.wipe σ own) Wi (wipeS si own) H avs vs ∧ avs.all (AV.ok si) = true ∧ avs.map (AV.get si) = avs.map (AV.get s1) ∧ D ∉ Wi.al ∧ ¬ Wi.fz D ∧ ¬ Ownd (wipeS si own) (L2.wipe σ own) D
theorem comp_core {K : PySem.W.Frag} (hK : K = G.K) {e : ME} {t : Tg} {own : List Nat} {cond : Option ME} {avs : List AV} {vs : List V} {xs us : List U} {s' : Sta} {J : It} {D : Addr} {Q : VK}
    (hF : turnsC (compF g e t own cond avs s1) xs s1 = .ok us s') (hlen : us.length ≤ line) (hst : stillIs s1 (wipeS s1 own) avs = true) (hok : avs.all (AV.ok s1) = true) (hasg : ∀ j ∈ asgT t, j ∈ own) (r1 : RelFr G W1 s1 σ H1) (ra : RAs G σ W1 s1 H1 avs vs)
    (hJ : JOk G J avs vs (avs.map (AV.get s1)) xs) (hD : H1 D = none)
    (fin : ∀ W' H', Ext (wipeS s1 own) (wipeS s' own) (L2.wipe σ own) W1 W' H1 H' → RelFr G W' (wipeS s' own) (L2.wipe σ own) H' → D ∉ W'.al → ¬ W'.fz D → ¬ Ownd (wipeS s' own) (L2.wipe σ own) D → Cont G W' H' D (.lst us) → Q (.ref D) H') :
    ∃ Wm : Nat → Nat → Hp → Prop, (∃ m, Wm 0 m (L2.upd H1 D (.lst []))) ∧ ∀ i m H, Wm i m H →
      (J.stop i H ∧ Q (.ref D) H) ∨ (J.go i H ∧ ∃ Nx : Hp → Prop, (∀ H', Nx H' → ∃ m', m' < m ∧ Wm (i + 1) m' H') ∧ ∀ x H', J.yld i H x H' → gT K t x (L2.wipe σ own) H' fun σ2 H2 => L2.wipe σ2 own = L2.wipe σ own ∧ tt G g cond σ2 H2 fun b H3 =>
        if b = true then tE G WF g e σ2 H3 fun y H4 => ∃ acc, H4 D = some (HO.lst acc) ∧ acc.length < sizeLine ∧ Nx (L2.upd H4 D (.lst (acc ++ [y]))) else Nx H3) := by
  have hfree : avFree own avs := free_of (still_get hok hst).1
  have pal0 : D ∉ W1.al := fun z => by obtain ⟨o, e⟩ := r1.m.al_some z; rw [hD] at e; cases e
  have pow0 : ¬ Ownd s1 σ D := fun z => by obtain ⟨o, e⟩ := r1.own_some z; rw [hD] at e; cases e
  have pfz0 : ¬ W1.fz D := fun z => by obtain ⟨o, e⟩ := r1.m.sm D z; rw [hD] at e; cases e
  refine ⟨fun i m H => m = xs.length - i ∧ i ≤ xs.length ∧ CI G g e t own cond avs vs s1 s' xs us W1 σ H1 D i H, ⟨xs.length, by simp, Nat.zero_le _, ?_⟩, ?_⟩
  · refine ⟨W1, s1, [], us, [], by simpa using hF, rfl, (r1.upd hD).wipe own, upd_same, by simp only [RepVs], (Ext.refl _ _ _ _).atNew hD, ?_, hok, rfl, pal0, pfz0, fun z => pow0 (ownd_wipe z)⟩
    exact ras_wipe hfree (ras_kp (.refl W1) (kp_upd hD) ra)
  rintro i m H ⟨rfl, hi, Wi, si, done, rest, acc, hT, hus, r, hHD, hacc, E0, ras, hoki, hgeti, dal, dfz, dow⟩
  have hw := av_wipe (s := si) hfree
  have jj := hJ i Wi (wipeS si own) (L2.wipe σ own) H r ras (by rw [hw.1]; exact hoki) (by rw [hw.2]; exact hgeti)
  by_cases hlt : i < xs.length
  · right
    have hget : xs[i]? = some xs[i] := List.getElem?_eq_getElem hlt
    obtain ⟨go, yl⟩ := jj.2 _ hget
    refine ⟨go, fun H' => CI G g e t own cond avs vs s1 s' xs us W1 σ H1 D (i + 1) H', fun H' c => ⟨xs.length - (i + 1), by omega, rfl, hlt, c⟩, fun x H' hy => ?_⟩
    obtain ⟨hH', rx⟩ := yl x H' hy
    rw [List.drop_eq_getElem_cons hlt] at hT
    obtain ⟨o, sn, ys, hf, hT2, hrest⟩ := turnsC_cons hT
    -- the turn
    unfold compF at hf
    cases hb : bindT t xs[i] (wipeS si own) with
    | none => rw [hb] at hf; cases hf
    | some sb =>
    rw [hb] at hf
    simp only at hf
    cases hcnd : condC g cond sb with
    | stuck => rw [hcnd] at hf; cases hf
    | exc _ _ => rw [hcnd] at hf; cases hf
    | ok b sc =>
    rw [hcnd] at hf
    simp only [Rs.bind] at hf
    -- behind what was yielded
    have hup : Kp Wi H H' ∧ RelFr G Wi (wipeS si own) (L2.wipe σ own) H' ∧ Ext (wipeS si own) (wipeS si own) (L2.wipe σ own) Wi Wi H H' ∧ H' D = some (HO.lst acc) ∧ ∀ a o, H a = some o → H' a = some o := by
      rcases hH' with rfl | ⟨T, o, hTn, rfl⟩
      · exact ⟨.refl _ _, r, .refl _ _ _ _, hHD, fun _ _ h => h⟩
      · exact ⟨kp_upd hTn, r.upd hTn, .upd hTn, by rw [upd_ne (ne_of_none hHD hTn)]; exact hHD, fun a o h => by rw [upd_ne (ne_of_none h hTn)]; exact h⟩
    obtain ⟨k1, r', E1, hHD', _⟩ := hup
    refine gT_ok K hK t _ _ sb x _ _ hb r' rx fun σ2 rb kσ lσ mo => ?_
    have hσ : L2.wipe σ2 own = L2.wipe σ own := wipe_agree lσ fun j hj => kσ j fun z => hj (hasg j z)
    refine ⟨hσ, tt_ok hcnd rb fun Wc H3 Ec rc => ?_⟩
    have dow' : ¬ Ownd sb σ2 D := fun z => dow (mo.2 D z)
    obtain ⟨dal3, dfz3, dow3, hHD3⟩ := stays_free Ec hHD' dal dfz dow'
    have EC : Ext (wipeS si own) (wipeS sc own) (L2.wipe σ own) Wi Wc H' H3 := blk_ext hb hasg mo.2 Ec
    have hacc3 : RepVs G Wc H3 done acc := RepVs.mono Ec.le (k1.trans (.refl _) Ec.kp) _ hacc
    cases b with
    | true =>
      rw [if_pos rfl] at hf ⊢
      cases he : evalE g e sc with
      | stuck => rw [he] at hf; cases hf
      | exc _ _ => rw [he] at hf; cases hf
      | ok u se =>
      rw [he] at hf
      simp only [Rs.bind] at hf
      split at hf
      · rename_i hstill
        obtain ⟨rfl, rfl⟩ : o = some u ∧ se = sn := by cases hf; exact ⟨rfl, rfl⟩
        refine tE_ok he rc fun We H4 y Ee re ry => ?_
        obtain ⟨dal4, dfz4, dow4, hHD4⟩ := stays_free Ee hHD3 dal3 dfz3 dow3
        have hacc4 : RepVs G We H4 done acc := RepVs.mono Ee.le Ee.kp _ hacc3
        have EE : Ext (wipeS si own) (wipeS se own) (L2.wipe σ own) Wi We H' H4 := blk_ext hb hasg mo.2 (Ec.trans Ee)
        have E4 : Ext (wipeS s1 own) (wipeS se own) (L2.wipe σ own) W1 We H1 H4 := E0.trans (E1.trans EE)
        have re' : RelFr G We (wipeS se own) (L2.wipe σ own) H4 := by rw [← hσ]; exact re.wipe own
        have dow5 : ¬ Ownd (wipeS se own) (L2.wipe σ own) D := fun z => dow (z.mono EE.own)
        obtain ⟨k5, r5⟩ := re'.grow (o := HO.lst (acc ++ [y])) hHD4 dal4 dfz4 dow5
        obtain ⟨so1, so2⟩ := still_get hok hstill
        subst hrest
        have hl : done.length + (u :: ys).length ≤ line := by rw [hus, List.length_append] at hlen; exact hlen
        refine ⟨acc, hHD4, ?_, We, se, done ++ [u], ys, acc ++ [y], hT2, by rw [hus]; simp, r5, upd_same, ?_, E4.atNew hD, ?_, so1, so2, dal4, dfz4, dow5⟩
        · rw [← RepVs.length hacc, sizeLine_eq]
          simp only [List.length_cons] at hl
          unfold line at hl
          omega
        · exact RepVs.mono (.refl We) k5 _ (hacc4.append (by simp only [RepVs]; exact ⟨y, [], rfl, ry, rfl⟩))
        · exact ras_kp (.refl We) k5 (ras_kp (s' := wipeS se own) (EE.le) ((k1.trans (.refl _) EE.kp)) ras)
      · cases hf
    | false =>
      rw [if_neg Bool.false_ne_true] at hf ⊢
      split at hf
      · rename_i hstill
        obtain ⟨rfl, rfl⟩ : o = none ∧ sc = sn := by cases hf; exact ⟨rfl, rfl⟩
        have E4 : Ext (wipeS s1 own) (wipeS sc own) (L2.wipe σ own) W1 Wc H1 H3 := E0.trans (E1.trans EC)
        have rc' : RelFr G Wc (wipeS sc own) (L2.wipe σ own) H3 := by rw [← hσ]; exact rc.wipe own
        have dow5 : ¬ Ownd (wipeS sc own) (L2.wipe σ own) D := fun z => dow (z.mono EC.own)
        obtain ⟨so1, so2⟩ := still_get hok hstill
        subst hrest
        exact ⟨Wc, sc, done, _, acc, hT2, hus, rc', hHD3, hacc3, E4, ras_kp (s' := wipeS sc own) EC.le (k1.trans (.refl _) EC.kp) ras, so1, so2, dal3, dfz3, dow5⟩
      · cases hf
  · left
    have hi' : i = xs.length := by omega
    subst hi'
    refine ⟨jj.1 (Nat.le_refl _), ?_⟩
    rw [List.drop_length] at hT
    have hT : Rs.ok [] si = Rs.ok rest s' := hT
    cases hT
    rw [List.append_nil] at hus
    subst hus
    exact fin Wi H E0 r dal dfz dow (cont_lst_of hHD hacc)
end
end MP
set_option maxRecDepth 100000
set_option maxHeartbeats 4000000
/-! R2r: a comprehension in the text. -/
namespace MP
open PySem PySem.Spec PyProof.Rows L2
section
variable {G : Nms} {g : Gst} {Wx : WX} {W W1 W' : Wd} {s s1 s' sB : Sta} {σ : L2.St} {H H1 H' : Hp}
theorem backS_m (s0 s : Sta) : ∀ own : List Nat, (backS s0 s own).m = s.m
  | [] => rfl
  | i :: is => by show (backS s0 s is).m = s.m; exact backS_m s0 s is
theorem backS_len (s0 s : Sta) : ∀ own : List Nat, (backS s0 s own).r.length = s.r.length
  | [] => rfl
  | i :: is => by
    show ((backS s0 s is).r.set i _).length = _
    rw [List.length_set]; exact backS_len s0 s is
theorem backS_out (s0 s : Sta) {j : Nat} : ∀ {own : List Nat}, j ∉ own → (backS s0 s own).r[j]? = s.r[j]?
  | [], _ => rfl
  | i :: is, h => by
    simp only [List.mem_cons, not_or] at h
    show ((backS s0 s is).r.set i _)[j]? = _
    rw [List.getElem?_set_ne (fun z => h.1 z.symm)]
    exact backS_out s0 s h.2
theorem backS_in (s0 s : Sta) {j : Nat} : ∀ {own : List Nat}, j ∈ own → j < s.r.length → (backS s0 s own).r[j]? = some (slot s0 j)
  | [], h, _ => by simp at h
  | i :: is, h, hl => by
    show ((backS s0 s is).r.set i (slot s0 i))[j]? = _
    by_cases hij : i = j
    · subst hij
      rw [List.getElem?_set]
      simp [backS_len, hl]
    · rw [List.getElem?_set_ne hij]
      rcases List.mem_cons.mp h with z | z
      · exact absurd z.symm hij
      · exact backS_in s0 s z hl
theorem back_ok {own : List Nat} (hno : own.all (fun j => !(AV.own j).ok s1) = true) (r1 : RelFr G W1 s1 σ H1) (E : Ext (wipeS s1 own) (wipeS s' own) (L2.wipe σ own) W1 W' H1 H') (R : RelFr G W' (wipeS s' own) (L2.wipe σ own) H') :
    RelFr G W' (backS s1 s' own) σ H' ∧ Ext s1 (backS s1 s' own) σ W1 W' H1 H' := by
  have hl : s'.r.length = s1.r.length := by have := E.len; rwa [wipeS_len, wipeS_len] at this
  have notown : ∀ j ∈ own, ∀ u, slot s1 j ≠ .own u := fun j hj u z => by
    have h := List.all_eq_true.mp hno j hj
    have h : (!(match slot s1 j with | .own _ => true | _ => false)) = true := h
    rw [z] at h; cases h
  have key : ∀ i u, (backS s1 s' own).r[i]? = some (Slt.own u) → i ∉ own ∧ s'.r[i]? = some (Slt.own u) := fun i u h => by
    by_cases hi : i ∈ own
    · exfalso
      have hlt : i < s'.r.length := by
        have := (List.getElem?_eq_some_iff.mp h).1
        rwa [backS_len] at this
      rw [backS_in s1 s' hi hlt] at h
      exact notown i hi u (Option.some.inj h)
    · rw [backS_out s1 s' hi] at h
      exact ⟨hi, h⟩
  refine ⟨⟨by rw [backS_len, hl]; exact r1.len, fun i x hx => ?_, fun i j u u' a ij h1 h2 a1 a2 => ?_, by rw [backS_m, ← wipeS_m s' own]; exact R.m⟩, ⟨E.le, E.kp, fun a o h1 h2 h3 => E.fr a o h1 h2 fun z => h3 (ownd_wipe z), fun a ha => ?_, fun i u h => ?_, by rw [backS_len, hl]⟩⟩
  · by_cases hi : i ∈ own
    · have hlt : i < s'.r.length := by
        have := (List.getElem?_eq_some_iff.mp hx).1
        rwa [backS_len] at this
      rw [backS_in s1 s' hi hlt] at hx
      obtain rfl := Option.some.inj hx
      have hs : s1.r[i]? = some (slot s1 i) := by
        unfold slot
        rw [List.getD_eq_getElem?_getD, List.getElem?_eq_getElem (by omega)]
        rfl
      obtain ⟨y, h1, h2⟩ := r1.slt i _ hs
      refine ⟨y, h1, ?_⟩
      cases e : slot s1 i with
      | no => trivial
      | val u => rw [e] at h2; obtain ⟨v, q1, q2⟩ := h2; exact ⟨v, q1, RepV.mono E.le E.kp _ q2⟩
      | clo us => rw [e] at h2; exact CloOk.mono E.le E.kp h2
      | own u => exact absurd e (notown i hi u)
    · rw [backS_out s1 s' hi] at hx
      rw [← wipeS_out s' hi] at hx
      obtain ⟨y, h1, h2⟩ := R.slt i x hx
      rw [wipe_out hi] at h1
      exact ⟨y, h1, h2⟩
  · obtain ⟨k1, k2⟩ := key i u h1
    obtain ⟨k3, k4⟩ := key j u' h2
    rw [← wipeS_out s' k1] at k2
    rw [← wipeS_out s' k3] at k4
    exact R.apart i j u u' a ij k2 k4 (by rw [wipe_out k1]; exact a1) (by rw [wipe_out k3]; exact a2)
  · rcases E.new a ha with q | q | q
    · exact .inl q
    · exact .inr (.inl (ownd_wipe q))
    · exact .inr (.inr q)
  · obtain ⟨k1, k2⟩ := key i u h
    rw [← wipeS_out s' k1] at k2
    obtain ⟨u1, h1⟩ := E.own i u k2
    rw [wipeS_out s1 k1] at h1
    exact ⟨u1, h1⟩
theorem ownd_back {own : List Nat} (hno : own.all (fun j => !(AV.own j).ok s1) = true) {a : Addr} (hl : s'.r.length = s1.r.length) (h : Ownd (backS s1 s' own) σ a) : Ownd (wipeS s' own) (L2.wipe σ own) a := by
  obtain ⟨i, u, h1, h2⟩ := h
  by_cases hi : i ∈ own
  · exfalso
    have hlt : i < s'.r.length := by
      have := (List.getElem?_eq_some_iff.mp h1).1
      rwa [backS_len] at this
    rw [backS_in s1 s' hi hlt] at h1
    have z := Option.some.inj h1
    have h := List.all_eq_true.mp hno i hi
    have h : (!(match slot s1 i with | .own _ => true | _ => false)) = true := h
    rw [z] at h; cases h
  · rw [backS_out s1 s' hi] at h1
    exact ⟨i, u, by rw [wipeS_out s' hi]; exact h1, by rw [wipe_out hi]; exact h2⟩
/-- a new object, frozen -/
theorem freeze {u : U} {D : Addr} {Q : VK} (k : tAt G Wx (.ok u sB) W1 s1 σ H1 (RV G) Q) (E : Ext s1 sB σ W1 W' H1 H') (R : RelFr G W' sB σ H') (d1 : D ∉ W'.al) (d2 : ¬ Ownd sB σ D) (hD : H1 D = none ∨ Ownd s1 σ D ∨ D ∈ W1.al) (c : Cont G W' H' D u) (hu : isLD u = true) : Q (.ref D) H' := by
  obtain ⟨o, ho⟩ := c.some
  refine k (W'.ice D) H' (.ref D) ⟨E.le.trans Wd.le_ice, E.kp.trans E.le (.refl W' _), E.fr, fun a ha => ?_, E.own, E.len⟩ (R.ice d1 ho d2) ?_
  · rcases ha with ⟨h1, h2⟩ | h
    · rcases h1 with h1 | rfl
      · exact E.new a (.inl ⟨h1, h2⟩)
      · exact hD
    · exact E.new a (.inr h)
  · show RepV G (W'.ice D) H' u (.ref D)
    have c' : Cont G (W'.ice D) H' D u := c.mono Wd.le_ice (.refl W' _) fun _ h => h
    cases u <;> first | cases hu | skip
    · obtain ⟨vs, h1, h2⟩ := cont_lst c'
      simp only [RepV]
      exact ⟨D, vs, rfl, .inr rfl, h1, h2⟩
    · simp only [RepV]
      refine ⟨D, rfl, .inr rfl, ?_⟩
      simpa only [MP.Cont] using c'
/-- the comprehension's walk, as HandS asks for it -/
theorem comp_tLc {K : PySem.W.Frag} (hK : K = G.K) {e : ME} {t : Tg} {k : Nat} {its : List ME} {own : List Nat} {cond : Option ME} {Q : VK} (hasg : ∀ j ∈ asgT t, j ∈ own)
    (h : tE G Wx g (.comp e t k its own cond) σ H Q ∨ tN G Wx g (.comp e t k its own cond) σ H Q) : tLc (tI G Wx g k its) (gT K t) (tt G g cond) (tE G WF g e) own σ H Q := by
  have main : tArgs G Wx g its σ H fun vs H1 => ∃ W1 s1 avs xs us s', RelFr G W1 s1 σ H1 ∧ RAs G σ W1 s1 H1 avs vs ∧ walkA k avs s1 = some xs ∧ stillIs s1 (wipeS s1 own) avs = true ∧ own.all (fun j => !(AV.own j).ok s1) = true ∧ turnsC (compF g e t own cond avs s1) xs s1 = .ok us s' ∧ us.length ≤ line ∧
      ∀ W' H' D, Ext s1 (backS s1 s' own) σ W1 W' H1 H' → RelFr G W' (backS s1 s' own) σ H' → D ∉ W'.al → ¬ W'.fz D → ¬ Ownd (backS s1 s' own) σ D → H1 D = none → Cont G W' H' D (.lst us) → Q (.ref D) H' := by
    rcases h with h | h
    · refine tR_mono (tR_bind (fun σ => RAs G σ) (tR_eq (comp_eq g e t k its own cond) h)) fun vs H1 ⟨avs, W1, s1, r1, ra, kk⟩ => ?_
      cases hw : walkA k avs s1 with
      | none => rw [hw] at kk; exact kk.elim
      | some xs =>
        rw [hw] at kk
        simp only at kk
        split at kk
        · rename_i hc
          simp only [Bool.and_eq_true] at hc
          cases hT : turnsC (compF g e t own cond avs s1) xs s1 with
          | stuck => rw [hT] at kk; exact kk.elim
          | exc _ _ => rw [hT] at kk; exact kk.elim
          | ok us s' =>
            rw [hT] at kk
            simp only at kk
            split at kk
            · rename_i hl
              exact ⟨W1, s1, avs, xs, us, s', r1, ra, hw, hc.1, hc.2, hT, hl, fun W' H' D E R d1 d2 d3 hD c => freeze kk E R d1 d3 (.inl hD) c rfl⟩
            · exact kk.elim
        · exact kk.elim
    · obtain ⟨W, s, r, h⟩ := h
      refine ⟨W, s, r, ?_⟩
      rw [comp_eq] at h
      cases ea : evalAs g its s with
      | stuck => rw [ea] at h; exact h
      | exc x s' => rw [ea] at h; exact h
      | ok avs s1 =>
        rw [ea] at h
        intro W1 H1 vs e1 r1 ra
        unfold newOf at h
        simp only [Rs.bind] at h
        cases hw : walkA k avs s1 with
        | none => rw [hw] at h; exact h.elim
        | some xs =>
          rw [hw] at h
          simp only at h
          by_cases hc : (stillIs s1 (wipeS s1 own) avs && own.all (fun j => !(AV.own j).ok s1)) = true
          · rw [if_pos hc] at h
            simp only [Bool.and_eq_true] at hc
            cases hT : turnsC (compF g e t own cond avs s1) xs s1 with
            | stuck => rw [hT] at h; exact h.elim
            | exc _ _ => rw [hT] at h; exact h.elim
            | ok us s' =>
              rw [hT] at h
              simp only at h
              by_cases hl : us.length ≤ line
              · rw [if_pos hl] at h
                simp only [isLD, if_true] at h
                exact ⟨W1, s1, avs, xs, us, s', r1, ra, hw, hc.1, hc.2, hT, hl, fun W' H' D E R d1 d2 d3 hD c => h W' H' (.ref D) (e1.trans E) R ⟨D, rfl, d2, d1, d3, e1.none hD, c⟩⟩
              · rw [if_neg hl] at h; exact h.elim
          · rw [if_neg hc] at h; exact h.elim
  refine tR_mono main fun vs H1 ⟨W1, s1, avs, xs, us, s', r1, ra, hw, hst, hno, hT, hl, fin⟩ => ⟨W1, s1, avs, xs, r1, ra, hw, fun J hJ D hD => ?_⟩
  exact comp_core hK hT hl hst (walk_get hw).1 hasg r1 ra hJ hD fun W' H' E R d1 d2 d3 c => by
    have hlen : s'.r.length = s1.r.length := by have := E.len; rwa [wipeS_len, wipeS_len] at this
    obtain ⟨q1, q2⟩ := back_ok hno r1 E R
    exact fin W' H' D q2 q1 d1 d2 (fun z => d3 (ownd_back hno hlen z)) hD c
end
end MP
set_option maxRecDepth 100000
set_option maxHeartbeats 4000000
/-! R2s: a new object shared; a name's own object handed on; comprehensions in the text. -/
namespace MP
open PySem PySem.Spec PyProof.Rows L2
section
variable {C : SC} {G : Nms} {g : Gst} {X : Cx} {sc : Scope} {Wx : WX} {σ : L2.St} {H : Hp} {pos : Pos}
def Wd.more (W : Wd) (p : Addr) : Wd := ⟨W.al ++ [p], W.fz⟩
theorem Wd.le_more {W : Wd} {p : Addr} : W.le (W.more p) := ⟨⟨[p], rfl⟩, fun _ h => h⟩
theorem share_fr {W : Wd} {s : Sta} {p : Addr} {u : U} (r : RelFr G W s σ H) (f : ¬ W.fz p) (n : p ∉ W.al) (o : ¬ Ownd s σ p) (c : Cont G W H p u) : RelFr G (W.more p) { s with m := s.m ++ [u] } σ H := by
  refine ⟨r.len, fun i x hx => ?_, r.apart, ?_⟩
  · obtain ⟨y, h1, h2⟩ := r.slt i x hx
    refine ⟨y, h1, ?_⟩
    cases x with
    | no => trivial
    | val u => obtain ⟨v, e, q⟩ := h2; exact ⟨v, e, RepV.mono Wd.le_more (.refl W H) _ q⟩
    | clo us => exact CloOk.mono Wd.le_more (.refl W H) h2
    | own u =>
      obtain ⟨q, e, f', n', c'⟩ := h2
      refine ⟨q, e, f', fun z => ?_, c'.mono Wd.le_more (.refl W H) fun _ h => h⟩
      rcases List.mem_append.mp z with z | z
      · exact n' z
      · have : q = p := by simpa using z
        subst this; subst e
        exact o ⟨i, u, hx, h1⟩
  · refine ⟨?_, ?_, fun m a hm => ?_, r.m.sm⟩
    · show (s.m ++ [u]).length = (W.al ++ [p]).length
      rw [List.length_append, List.length_append, r.m.len]; rfl
    · show (W.al ++ [p]).Nodup
      rw [List.nodup_append]
      refine ⟨r.m.nod, by simp, fun a ha b hb => ?_⟩
      have : b = p := by simpa using hb
      subst this
      exact fun z => n (z ▸ ha)
    · have hm : (W.al ++ [p])[m]? = some a := hm
      by_cases hlt : m < W.al.length
      · rw [List.getElem?_append_left hlt] at hm
        obtain ⟨z1, u', z2, z3⟩ := r.m.mem m a hm
        refine ⟨z1, u', ?_, z3.mono Wd.le_more (.refl W H) fun _ h => h⟩
        show (s.m ++ [u])[m]? = _
        rw [List.getElem?_append_left (by rw [r.m.len]; exact hlt)]
        exact z2
      · rw [List.getElem?_append_right (by omega)] at hm
        have h0 : m - W.al.length = 0 := by
          have := (List.getElem?_eq_some_iff.mp hm).1
          simp at this; omega
        rw [h0] at hm
        have hp : p = a := by simpa using hm
        subst hp
        refine ⟨f, u, ?_, c.mono Wd.le_more (.refl W H) fun _ h => h⟩
        show (s.m ++ [u])[m]? = _
        rw [List.getElem?_append_right (by rw [r.m.len]; omega), r.m.len, h0]
        rfl
theorem tE_share {m : ME} {Q : VK} (h : tE G Wx g (.share m) σ H Q) : tN G Wx g m σ H Q := by
  obtain ⟨W, s, r, h⟩ := h
  have e0 : evalE g (.share m) s = (newOf (evalE g m s)).bind fun u s => .ok (.ref s.m.length) { s with m := s.m ++ [u] } := by
    conv => lhs; unfold evalE
  rw [e0] at h
  refine ⟨W, s, r, ?_⟩
  cases ea : newOf (evalE g m s) with
  | stuck => rw [ea] at h; exact h
  | exc x s' => rw [ea] at h; exact h
  | ok u s' =>
    rw [ea] at h
    intro W' H' v e1 r1 hv
    obtain ⟨p, rfl, f, n, o, hn, c⟩ := hv
    refine h (W'.more p) H' (.ref p) ⟨e1.le.trans Wd.le_more, e1.kp, e1.fr, fun a ha => ?_, e1.own, e1.len⟩ (share_fr r1 f n o c) ?_
    · rcases ha with ⟨h1, h2⟩ | ⟨h1, h2⟩
      · exact e1.new a (.inl ⟨h1, h2⟩)
      · rcases List.mem_append.mp h1 with z | z
        · exact e1.new a (.inr ⟨z, h2⟩)
        · have : a = p := by simpa using z
          subst this
          exact hn
    · show RepV G (W'.more p) H' (.ref s'.m.length) (.ref p)
      simp only [RepV]
      refine ⟨p, ?_, rfl⟩
      show (W'.al ++ [p])[s'.m.length]? = _
      rw [r1.m.len, List.getElem?_append_right (Nat.le_refl _)]
      simp
theorem ex_mv {i : Nat} {x : Str} (hN : X.N[i]? = some x) (hv : Vis X.env.scope x) (hd : (x == ("__debug__" : Str)) = false) (hcd : (x == ("__classdict__" : Str)) = false) : PE X (.Name x pos) (tE G Wx g (.mv i)) :=
  PEi (pe_var hN hv hd hcd) fun σ H Q h => by
    obtain ⟨W, s, r, h⟩ := h
    unfold evalE at h
    cases e : slot s i with
    | val u =>
      simp only [e] at h
      obtain ⟨v, h1, h2⟩ := r.valAt e
      exact ⟨v, h1, tAt.fin h r h2⟩
    | no => simp only [e] at h; exact h.elim
    | clo us => simp only [e] at h; exact h.elim
    | own u =>
      simp only [e] at h
      by_cases htab : tabU u = true
      · rw [if_pos htab] at h; exact h.elim
      rw [if_neg htab] at h
      obtain ⟨hs, p, h1, f, n, c⟩ := r.ownAt e
      have hi : i < s.r.length := (List.getElem?_eq_some_iff.mp hs).1
      obtain ⟨o, ho⟩ := c.some
      have c' : Cont G (W.ice p) H p u := c.mono Wd.le_ice (.refl W H) fun _ h => h
      have hrep : RepV G (W.ice p) H u (.ref p) := by
        cases u with
        | lst us =>
          obtain ⟨vs, q1, q2⟩ := cont_lst c'
          simp only [RepV]
          exact ⟨p, vs, rfl, .inr rfl, q1, q2⟩
        | dic ks vs =>
          simp only [RepV]
          exact ⟨p, rfl, .inr rfl, by simpa only [MP.Cont] using c'⟩
        | obj cc fs =>
          obtain ⟨dx, fvs, q1, q2⟩ : ∃ dx fvs, H p = some (.ins (G.cA cc) dx fvs) ∧ ∃ ws, RepFs G (W.ice p) H fs ws ∧ FldOk G cc fvs ws := by simpa only [MP.Cont] using c'
          simp only [RepV]
          exact ⟨p, dx, fvs, rfl, .inr rfl, q1, q2⟩
        | fn q => exact absurd rfl htab
        | _ => simp only [MP.Cont] at c'
      refine ⟨.ref p, h1, h (W.ice p) H (.ref p) ⟨Wd.le_ice, .refl W H, fun _ _ h _ _ => h, fun a ha => ?_, fun j u' hj => ?_, ?_⟩ ⟨?_, fun j x hj => ?_, fun j k u1 u2 a jk q1 q2 a1 a2 => ?_, r.m.ice n ho⟩ hrep⟩
      · rcases ha with ⟨q1, q2⟩ | ⟨q1, q2⟩
        · rcases q1 with q1 | rfl
          · exact absurd q1 q2
          · exact .inr (.inl ⟨i, u, hs, h1⟩)
        · exact absurd q1 q2
      · rw [slot_put _ _ _ _ hi] at hj
        split at hj
        · cases hj
        · exact ⟨_, hj⟩
      · show (s.r.set i _).length = _
        rw [List.length_set]
      · show (s.r.set i _).length = _
        rw [List.length_set]; exact r.len
      · rw [slot_put _ _ _ _ hi] at hj
        split at hj
        · rename_i ij; subst ij
          cases hj
          exact ⟨_, h1, .ref p, rfl, hrep⟩
        · rename_i ij
          obtain ⟨y, q1, q2⟩ := r.slt j x hj
          refine ⟨y, q1, ?_⟩
          cases x with
          | no => trivial
          | val u => obtain ⟨v, e, q⟩ := q2; exact ⟨v, e, RepV.mono Wd.le_ice (.refl W H) _ q⟩
          | clo us => exact CloOk.mono Wd.le_ice (.refl W H) q2
          | own u' =>
            obtain ⟨q, e, f', n', c'⟩ := q2
            refine ⟨q, e, fun z => ?_, n', c'.mono Wd.le_ice (.refl W H) fun _ h => h⟩
            rcases z with z | rfl
            · exact f' z
            · rw [e] at q1
              exact r.apart i j _ _ q ij hs hj h1 q1
      · have key : ∀ m um, (s.put i (.val u)).r[m]? = some (Slt.own um) → s.r[m]? = some (Slt.own um) := fun m um hm => by
          rw [slot_put _ _ _ _ hi] at hm
          split at hm
          · cases hm
          · exact hm
        exact r.apart j k u1 u2 a jk (key _ _ q1) (key _ _ q2) a1 a2
/-! the block -/
theorem Full.blk {k : Nat} (D : Full C G g k X sc Wx) (s : Shared) (H : Hp) (scope : Scope) (C' : Addr) (cl : List (Str × Addr)) (fp : List Addr) : Full C.noCv G g k (X.blk s H scope (compEnvC scope cl C' X.env) fp) (relS scope sc) WF := by
  refine ⟨⟨D.good.s0.noCv, ⟨D.good.of.P, D.good.of.w, D.good.of.K, D.good.of.un⟩, D.good.N, ?_, D.good.calm⟩, D.room, D.calls, D.makes, D.meths, fun σ => ?_, (fun z => by cases z), D.mkr, D.lams⟩
  · show (compEnvC scope cl C' X.env).scope = _
    rw [← D.good.scp]; rfl
  · intro pins H s e s' I c
    obtain ⟨_, _, _, _, _, _, _, _, _, _, _, _, h⟩ := c
    exact h.elim
end
end MP
set_option maxRecDepth 100000
set_option maxHeartbeats 4000000
/-! R2v: a def called with a lambda. -/
namespace MP
open PySem PySem.Spec PyProof.Rows L2
open LamX
/-! the same with a lambda handed in -/
section
variable {G : Nms} {W : Wd} {H : Hp} {f c : Addr} {q : Str} {ws : List V}
mutual
theorem RepV.lam : ∀ (u : U) {v : V}, RepV (G.lam f c q ws) W H u v ↔ RepV G W H u v
  | .non, _ => by simp only [RepV]
  | .bl _, _ => by simp only [RepV]
  | .int _, _ => by simp only [RepV]
  | .str _, _ => by simp only [RepV]
  | .tup us, v => by simp only [RepV, RepVs.lam us]
  | .prs us, v => by simp only [RepV, RepVs.lam us]
  | .lst us, v => by simp only [RepV, RepVs.lam us]
  | .dic ks xs, v => by simp only [RepV, RepVs.lam ks, RepVs.lam xs]; exact Iff.rfl
  | .obj c fs, v => by
    simp only [RepV, RepFs.lam fs]
    constructor <;> (rintro ⟨a, dx, fvs, h1, h2, h3, ws, h4, h5⟩; exact ⟨a, dx, fvs, h1, h2, h3, ws, h4, ⟨h5.at_, h5.sub, h5.nd⟩⟩)
  | .exc c fs, v => by simp only [RepV]; exact Iff.rfl
  | .ref n, v => by simp only [RepV]
  | .fn _, _ => by simp only [RepV]; exact Iff.rfl
  | .clo _ _, _ => by simp only [RepV]
  | .hole, _ => by simp only [RepV]
  | .scr us, v => by simp only [RepV, RepVs.lam us]; exact Iff.rfl
theorem RepVs.lam : ∀ (us : List U) {vs : List V}, RepVs (G.lam f c q ws) W H us vs ↔ RepVs G W H us vs
  | [], _ => by simp only [RepVs]
  | u :: us, _ => by simp only [RepVs, RepV.lam u, RepVs.lam us]
theorem RepFs.lam : ∀ (us : List U) {vs : List (Option V)}, RepFs (G.lam f c q ws) W H us vs ↔ RepFs G W H us vs
  | [], _ => by simp only [RepFs]
  | u :: us, _ => by
    cases u <;> simp only [RepFs, RepV.lam, RepFs.lam us]
end
theorem Cont.lam {a : Addr} {u : U} : Cont (G.lam f c q ws) W H a u ↔ Cont G W H a u := by
  cases u <;> simp only [Cont, RepVs.lam, RepFs.lam] <;> try exact Iff.rfl
  constructor <;> (rintro ⟨dx, fvs, h3, ws, h4, h5⟩; exact ⟨dx, fvs, h3, ws, h4, ⟨h5.at_, h5.sub, h5.nd⟩⟩)
theorem RelSh.lam {m : List U} : RelSh (G.lam f c q ws) W m H ↔ RelSh G W m H := by
  constructor <;> intro h <;> exact ⟨h.len, h.nod, fun n a hn => let ⟨h1, u, h2, h3⟩ := h.mem n a hn; ⟨h1, u, h2, by first | exact Cont.lam.mp h3 | exact Cont.lam.mpr h3⟩, h.sm⟩
end
/-! ### the lambda's object -/
section
variable {X : Cx} {pins : List (Addr × Obj)} {σ : L2.St} {H : Hp} {s : Shared}
/-- how the heap is behind the making: as it was (the code object was in the table), or with a new code object, which the table tells -/
def LamMade (H H1 : Hp) (P c' : Addr) (q : Str) (ps : Array Value) : Prop :=
  (H1 = H ∧ ∃ pos, codeAmong pos ps.toList = some (.ref c')) ∨
  ∃ ps' : Array Value, H c' = none ∧ H1 = L2.upd (L2.upd H P (.tbl ps')) c' (CodeO c' q) ∧ TriplesOk ps'.toList ∧ ∀ pos cv, codeAmong pos ps'.toList = some cv → codeAmong pos ps.toList = some cv ∨ cv = .ref c'
theorem lam_obj {c P : Addr} {ps : Array Value} {params : Arguments} {body : Expr} {scope : Scope} {pos : Pos} {E : Value → Shared → Prop} {Q : Value → Shared → Prop} (I : Inv X pins σ H s) (TB : TabB X.base X.mg c P) (hcode : X.env.code = .ref c)
    (hP : H P = some (.tbl ps)) (ht : TriplesOk ps.toList) (ha : ∀ (pos : Pos) (cv : Value), codeAmong pos ps.toList = some cv → ∃ c, cv = .ref c ∧ H c = some (CodeO c (X.env.qual ++ "<lambda>")))
    (hdef : defaultsOf params X.env = ([], [])) (hfree : ∀ y ∈ scope.names, y.2 = .free → ∃ c, X.env.cells.lookup y.1 = some c)
    (h : ∀ (f c' : Addr) (pm ctv : Value) (H1 : Hp) (s' : Shared), Inv X pins σ H1 s' → LamMade H H1 P c' (X.env.qual ++ "<lambda>") ps →
      s'.heap.get? f = some (PySem.W.kla_obj "<lambda>" (X.env.qual ++ "<lambda>") params body scope (cloFrom X.env.cells scope.names []) pm c' ctv) → H1 f = none → f ∉ frs X.stack → Q (.ref f) s') :
    wpAny (model X.prog X.w) X.A (eval (.Lambda params body scope pos) X.env) Q E s := by
  refine PySem.W.kla_eval hdef ?_
  have bP : s.heap.BuiltinsAt X.mg P := TB.bm.keeps I.bk
  have gP : s.heap.get? P = some { cls := .none, data := .fields ps } := I.hok P _ hP
  have away : ∀ f, s.heap.objs.size ≤ f → f ∉ frs X.stack := fun f hf z => by
    rcases List.mem_cons.mp (I.stkSub _ z) with e | e
    · subst e
      exact Nat.lt_irrefl _ (Nat.lt_of_lt_of_le I.lt hf)
    · exact I.nofs hf e
  cases hc : codeAmong pos ps.toList with
  | some cv =>
    obtain ⟨c', rfl, hco⟩ := ha pos cv hc
    refine PySem.W.kla_makeFunctionHit (mg := X.mg) (c := c) (P := P) (ps := ps) (closure_ok hfree) I.ok.glob (I.mod.glob.keeps I.bk) hcode (TB.code.keeps I.bk) gP ht hc bP fun ctv h' tk hx hsz => ?_
    exact h h'.objs.size c' ((X.mg "__name__").getD .none) ctv H _ (I.kept (t' := tk) fun b o e => Heap.get?_push_of_some _ (hx b o e)) (.inl ⟨rfl, pos, hc⟩) (Heap.get?_push_size _ rfl) (I.hok.fresh hsz) (away _ hsz)
  | none =>
    refine PySem.W.kla_makeFunction (mg := X.mg) (c := c) (P := P) (ps := ps) (closure_ok hfree) I.ok.glob (I.mod.glob.keeps I.bk) hcode (TB.code.keeps I.bk) gP ht hc TB.gP bP fun c' ctv h' tk hx hge hlt hrec htb => ?_
    obtain ⟨c2, oc, vs, t, e2, hoc, hd, hv⟩ := hrec
    cases e2
    have hsz : s.heap.objs.size ≤ h'.objs.size := Nat.le_trans hge (Nat.le_of_lt hlt)
    have nC : H c' = none := I.hok.fresh hge
    have hlast : (ps ++ #[rawInt pos.line, rawInt pos.col, .ref c']).toList = ps.toList ++ [rawInt pos.line, rawInt pos.col, .ref c'] := by simp
    refine h h'.objs.size c' ((X.mg "__name__").getD .none) ctv _ _ (inv_table (t' := tk) (more := #[rawInt pos.line, rawInt pos.col, .ref c']) (h' := h'.push (PySem.W.kla_obj "<lambda>" (X.env.qual ++ "<lambda>") params body scope (cloFrom X.env.cells scope.names []) ((X.mg "__name__").getD .none) c' ctv)) I hP
      (fun b o hb e => Heap.get?_push_of_some _ (hx b o hb e)) (Heap.get?_push_of_some _ htb) hge ⟨oc, vs, t, Heap.get?_push_of_some _ hoc, hd, hv⟩) (.inr ⟨_, nC, rfl, ?_, fun p' cv hcv => ?_⟩) (Heap.get?_push_size _ rfl) ?_ (away _ hsz)
    · rw [hlast]; exact PySem.TriplesOk_snoc _ _ _ _ ht
    · rw [hlast] at hcv
      exact among_app _ ht hcv
    · have n1 : h'.objs.size ≠ c' := Nat.ne_of_gt hlt
      have n2 : h'.objs.size ≠ P := Nat.ne_of_gt (Nat.lt_of_lt_of_le (Heap.lt_size gP) hsz)
      rw [upd_ne n1, upd_ne n2]
      exact I.hok.fresh hsz
end
section
variable {C : SC} {G : Nms} {g : Gst} {X : Cx} {sc : Scope} {Wx : WX} {σ : L2.St} {H H1 : Hp} {W : Wd} {s : Sta}
/-- the frame behind the making -/
theorem made_fr {P c' : Addr} {t : Nat} {ps : Array Value} (r : RelFr G W s σ H) (hm : s.m[t]? = some (.fn t)) (hP : H P = some (.tbl ps)) (ePt : P = G.tA t) (hcs : ∀ (pos : Pos) (cv : Value), codeAmong pos ps.toList = some cv → ∃ c, cv = .ref c ∧ W.fz c ∧ H c = some (CodeO c (G.tq t)))
    (h : LamMade H H1 P c' (G.tq t) ps) : ∃ W1, Ext s s σ W W1 H H1 ∧ RelFr G W1 s σ H1 ∧ W1.fz c' ∧ H1 c' = some (CodeO c' (G.tq t)) := by
  rcases h with ⟨rfl, pos, hc⟩ | ⟨ps', hn, rfl, ht, hcs'⟩
  · obtain ⟨c, e, h1, h2⟩ := hcs pos _ hc
    cases e
    exact ⟨W, .refl _ _ _ _, r, h1, h2⟩
  · -- the table's cell
    have tl : t < W.al.length := by rw [← r.m.len]; exact (List.getElem?_eq_some_iff.mp hm).1
    obtain ⟨a, ha⟩ : ∃ a, W.al[t]? = some a := ⟨_, List.getElem?_eq_getElem tl⟩
    obtain ⟨hf, u, hu, hcont⟩ := r.m.mem t a ha
    rw [hm] at hu
    cases hu
    simp only [Cont] at hcont
    obtain ⟨ea, _⟩ := hcont
    have eP : a = P := by rw [ea, ePt]
    subst eP
    have nPc : a ≠ c' := ne_of_none hP hn
    have k1 : Kp W H (L2.upd H a (.tbl ps')) := kp_own hf hP (fun _ z => by cases z) (fun _ _ z => by cases z)
    have hn1 : L2.upd H a (.tbl ps') c' = none := by rw [upd_ne nPc.symm]; exact hn
    -- the table changed
    have pm : a ∈ W.al := List.mem_of_getElem? ha
    have inj : ∀ m, W.al[m]? = some a → m = t := fun m hm => by
      have hm' : m < W.al.length := (List.getElem?_eq_some_iff.mp hm).1
      exact (List.getElem?_inj hm' r.m.nod).mp (hm.trans ha.symm)
    have k2 : Kp W (L2.upd H a (.tbl ps')) (L2.upd (L2.upd H a (.tbl ps')) c' (CodeO c' (G.tq t))) := kp_upd hn1
    have kk : Kp W H (L2.upd (L2.upd H a (.tbl ps')) c' (CodeO c' (G.tq t))) := k1.trans (.refl W) k2
    have keep : ∀ b o, H b = some o → b ≠ a → L2.upd (L2.upd H a (.tbl ps')) c' (CodeO c' (G.tq t)) b = some o := fun b o e hb => by
      rw [upd_ne (ne_of_none e hn), upd_ne hb]; exact e
    have cal : c' ∉ W.al := fun z => by obtain ⟨o, e⟩ := r.m.al_some z; rw [hn] at e; cases e
    have cow : ¬ Ownd s σ c' := fun z => by obtain ⟨o, e⟩ := r.own_some z; rw [hn] at e; cases e
    have hE : Ext s s σ W (W.ice c') H (L2.upd (L2.upd H a (.tbl ps')) c' (CodeO c' (G.tq t))) := by
      refine ⟨Wd.le_ice, kk, fun b o e hb _ => keep b o e fun z => by subst z; exact hb pm, fun b hb => ?_, fun i u h => ⟨u, h⟩, rfl⟩
      rcases hb with ⟨q1, q2⟩ | ⟨q1, q2⟩
      · rcases q1 with q1 | q1
        · exact absurd q1 q2
        · subst q1; exact .inl hn
      · exact absurd q1 q2
    refine ⟨W.ice c', hE, ⟨r.len, fun i x hx => ?_, r.apart, ⟨r.m.len, r.m.nod, fun n b hb => ?_, fun b hb => ?_⟩⟩, .inr rfl, upd_same⟩
    · obtain ⟨y, h1, h2⟩ := r.slt i x hx
      refine ⟨y, h1, ?_⟩
      cases x with
      | no => trivial
      | val u => obtain ⟨v, e, q⟩ := h2; exact ⟨v, e, RepV.mono Wd.le_ice kk _ q⟩
      | clo us => exact CloOk.mono Wd.le_ice kk h2
      | own u =>
        obtain ⟨p, e, f, n, c⟩ := h2
        refine ⟨p, e, fun z => ?_, n, c.mono Wd.le_ice kk fun o ho => keep p o ho fun z => by subst z; exact n pm⟩
        rcases z with z | z
        · exact f z
        · subst z; subst e
          exact cow ⟨i, u, hx, h1⟩
    · obtain ⟨q1, u, q2, q3⟩ := r.m.mem n b hb
      refine ⟨fun z => ?_, u, q2, ?_⟩
      · rcases z with z | z
        · exact q1 z
        · subst z; exact cal (List.mem_of_getElem? hb)
      · by_cases hba : b = a
        · subst hba
          obtain rfl := inj n hb
          rw [hm] at q2
          cases q2
          simp only [Cont]
          refine ⟨ea, ps', by rw [upd_ne nPc]; exact upd_same, ht, fun pos cv hcv => ?_⟩
          rcases hcs' pos cv hcv with z | z
          · obtain ⟨c, e1, e2, e3⟩ := hcs pos cv z
            exact ⟨c, e1, .inl e2, kk.fz c _ e2 e3⟩
          · exact ⟨c', z, .inr rfl, upd_same⟩
        · exact q3.mono Wd.le_ice kk fun o ho => keep b o ho hba
    · rcases hb with hb | hb
      · obtain ⟨o, e⟩ := r.m.sm b hb
        exact ⟨o, kk.fz b o hb e⟩
      · subst hb; exact ⟨_, upd_same⟩
end
/-! ### the lambda called, in the def that was handed it -/
section
variable {X : Cx} {pins : List (Addr × Obj)} {σ : L2.St} {H HZ : Hp} {s s1 : Shared}
theorem act_S {CXg : CXT} {Eg : XK} {Ng : List Str} {qg : Str} {sg : Scope} {g f c' : Addr} {cdg pm ctv : Value} {params : Arguments} {body : Expr} {scope : Scope} {k i : Nat} {a : Str} {pn : List (Addr × Obj)} {xe : Value → Shared → Prop} {W : WX} {tb : XK → TE} {p1 p2 : Pos}
    (I : Inv X pins σ H s) (L : LamS X.env.scope scope) (hf : s.heap.get? f = some (PySem.W.kla_obj "<lambda>" (X.env.qual ++ "<lambda>") params body scope (cloFrom X.env.cells scope.names []) pm c' ctv)) (hfn : H f = none) (hfr : f ∉ frs X.stack)
    (hbind : bindArgs (PySem.W.kla_fn "<lambda>" (X.env.qual ++ "<lambda>") params body scope (cloFrom X.env.cells scope.names []) pm (.ref c') ctv) ⟨[], []⟩ = pure [])
    (tk : Takes ((cxOf CXg X.prog X.w X.K X.mg X.base Ng qg sg g cdg X.A X.stack s H Eg).tr pn xe) W) (hr : Room (k + 1) (X.A.deeper (envOfC qg sg s.heap.objs.size g cdg)))
    (hbody : ∀ (E : XK) (A : Around) (outer : List Env) (s : Shared) (H : Hp), Room k (A.deeper (lamEnv X scope s.heap.objs.size f c')) → PE (lamCx X A outer s H E scope f c') body (tb E))
    (hN : Ng[i]? = some a) (hv : Vis sg a) (hd : (a == ("__debug__" : Str)) = false) (hcd : (a == ("__classdict__" : Str)) = false) :
    PE ((cxOf CXg X.prog X.w X.K X.mg X.base Ng qg sg g cdg X.A X.stack s H Eg).tr pn xe) (.Call (.Name a p1) [] [] p2)
      (fun σZ HZ Q => σZ[i]? = some (some (.ref f)) ∧ HZ c' = some (CodeO c' (X.env.qual ++ "<lambda>")) ∧ tb (WE W σZ) σ HZ Q) := by
  refine ⟨fun pinsZ sZ σZ HZ Q IZ ⟨hs, hc, ht⟩ => ?_⟩
  refine wpAny_Call_Name_kw (thn ((pe_var (pos := p1) (i := i) hN hv hd hcd).run pinsZ sZ σZ HZ (fun v H1 => v = .ref f ∧ H1 = HZ) IZ ⟨.ref f, hs, rfl, rfl⟩) fun u s1 ⟨v, H1, I1, r1, ev, eH⟩ => ?_)
  subst ev eH
  obtain rfl : u = Value.ref f := r1
  have fAt : s1.heap.get? f = some (PySem.W.kla_obj "<lambda>" (X.env.qual ++ "<lambda>") params body scope (cloFrom X.env.cells scope.names []) pm c' ctv) := I1.base.keep f _ hf hfn hfr (fun z => nomatch (show f ∈ ([] : List Addr) from z))
  refine PySem.W.callWith_F0 ⟨_, _, _, _, fAt⟩ ?_
  obtain ⟨⟨oc, vs, t, hoc, hdc, hvc⟩, _, _⟩ := I1.hok c' _ hc
  have run : codeAny (model X.prog X.w) (X.A.deeper (envOfC qg sg s.heap.objs.size g cdg)) (.call (.ref f) ⟨[], []⟩) (CR (L2.CX X.prog X.w) (envOfC qg sg s.heap.objs.size g cdg :: X.stack) X.prog X.w H1 s1 Q (WE W σZ)) s1 := by
    refine PySem.W.kla_callFunE hr.depth fAt rfl L.co L.gen rfl ⟨c', oc, vs, t, rfl, hoc, hdc, hvc⟩ ?_
    rw [hbind]
    refine wpAny_pure (wpAny_newFunctionEnv (fun y hy => (L.own y hy).2) (fun y hy => absurd hy (by simp)) (fun h₁ hns hsb => ⟨I1.nolimit.fresh _ hsb, ?_⟩) L.kind)
    have kp : ∀ b o, s1.heap.get? b = some o → h₁.get? b = some o := fun b o e => hsb.extBut b o (Nat.ne_of_lt (Heap.lt_size e)) (Heap.get?_push_of_some _ e)
    have J : Inv (lamCx X (X.A.deeper (envOfC qg sg s.heap.objs.size g cdg)) (envOfC qg sg s.heap.objs.size g cdg :: X.stack) s1 H1 (WE W σZ) scope f c') [] σ H1 { s1 with heap := h₁, toks := s1.toks + ([] : List (Str × Value)).length } :=
      lam_start2 I L I1.env0 hr.hd I1.base hns kp
    exact PySem.W.kla_codeExpr (wpAny_mono ((hbody (WE W σZ) _ _ s1 H1 (hr.deeper _)).run [] _ _ H1 Q J ht) (fun v s' ⟨w', H', J', rv, q⟩ => ⟨w', H', J'.os, J'.bare, J'.base, J'.hok, rv, q⟩) fun e s' hq => hq)
  refine wpAny_call (codeAny_mono run fun r s' hq => ?_)
  cases r with
  | error e => exact passAt tk σZ pinsZ H1 s1 e s' I1 hq
  | ok fl =>
    cases fl with
    | ret u => exact I1.after hq
    | next => exact False.elim hq
    | brk => exact False.elim hq
    | cont => exact False.elim hq
end
def noPar (a : Arguments) : Bool := a.posonlyargs.isEmpty && a.args.isEmpty && a.vararg.isNone && a.kwonlyargs.isEmpty && a.kw_defaults.isEmpty && a.kwarg.isNone && a.defaults.isEmpty
theorem noPar_is {a : Arguments} (h : noPar a = true) : a = ⟨[], [], none, [], [], none, []⟩ := by
  obtain ⟨a1, a2, a3, a4, a5, a6, a7⟩ := a
  unfold noPar at h
  simp only [Bool.and_eq_true, List.isEmpty_iff, Option.isNone_iff_eq_none] at h
  obtain ⟨⟨⟨⟨⟨⟨rfl, rfl⟩, rfl⟩, rfl⟩, rfl⟩, rfl⟩, rfl⟩ := h
  rfl
/-! what the lambda holds, at its slots -/
theorem lookS_get {s : Sta} : ∀ {is : List Nat} {us : List U}, lookS s is = some us → ∀ {j : Nat} {u : U}, (is.zip us).lookup j = some u → slot s j = .val u
  | [], us, h, j, u, e => by simp at e
  | i :: is, us, h, j, u, e => by
    simp only [lookS] at h
    split at h
    · rename_i u0 us0 h1 h2
      cases h
      rw [List.zip_cons_cons, List.lookup_cons] at e
      split at e
      · rename_i q
        cases e
        rw [eq_of_beq q]; exact h1
      · exact lookS_get h2 e
    · cases h
theorem lookS_len {s : Sta} : ∀ {is : List Nat} {us : List U}, lookS s is = some us → us.length = is.length
  | [], us, h => by simp only [lookS] at h; cases h; rfl
  | i :: is, us, h => by
    simp only [lookS] at h
    split at h
    · rename_i u0 us0 h1 h2
      cases h
      rw [List.length_cons, List.length_cons, lookS_len h2]
    · cases h
section
variable {G : Nms} {W W' : Wd} {s : Sta} {σ : L2.St} {H H' : Hp} {m : List U}
theorem lookS_rep (r : RelFr G W s σ H) : ∀ {is : List Nat} {us : List U}, lookS s is = some us → ∃ vs : List V, RepVs G W H us vs ∧ ∀ j v, (is.zip vs).lookup j = some v → σ[j]? = some (some v)
  | [], us, h => by simp only [lookS] at h; cases h; exact ⟨[], by simp only [RepVs], fun j v e => by simp at e⟩
  | i :: is, us, h => by
    simp only [lookS] at h
    split at h
    · rename_i u0 us0 h1 h2
      cases h
      obtain ⟨v, q1, q2⟩ := r.valAt h1
      obtain ⟨vs, q3, q4⟩ := lookS_rep r h2
      refine ⟨v :: vs, by simp only [RepVs]; exact ⟨v, vs, rfl, q2, q3⟩, fun j w e => ?_⟩
      rw [List.zip_cons_cons, List.lookup_cons] at e
      split at e
      · rename_i q
        cases e
        rw [eq_of_beq q]; exact q1
      · exact q4 j w e
    · cases h
theorem zip_rep : ∀ {is : List Nat} {us : List U} {vs : List V} {j : Nat} {u : U}, RepVs G W H us vs → (is.zip us).lookup j = some u → ∃ v, (is.zip vs).lookup j = some v ∧ RepV G W H u v
  | [], us, vs, j, u, _, e => by simp at e
  | i :: is, [], vs, j, u, _, e => by simp at e
  | i :: is, u0 :: us, vs, j, u, h, e => by
    simp only [RepVs] at h
    obtain ⟨v, r, rfl, h1, h2⟩ := h
    rw [List.zip_cons_cons, List.lookup_cons] at e ⊢
    split at e
    · cases e
      exact ⟨v, rfl, h1⟩
    · exact zip_rep h2 e
/-- the frame of the names that the lambda holds -/
theorem capR_fr {n : Nat} {is : List Nat} {us : List U} {vs : List V} (hn : n = σ.length) (rv : RepVs G W H us vs) (hσ : ∀ j v, (is.zip vs).lookup j = some v → σ[j]? = some (some v)) (rm : RelSh G W m H) : RelFr G W ⟨capR n is us, m⟩ σ H := by
  have hg : ∀ j x, (capR n is us)[j]? = some x → j < n ∧ x = match (is.zip us).lookup j with | some u => .val u | none => .no := fun j x e => by
    unfold capR at e
    rw [List.getElem?_map] at e
    by_cases hj : j < n
    · rw [List.getElem?_eq_getElem (by simpa using hj), List.getElem_range] at e
      exact ⟨hj, (Option.some.inj e).symm⟩
    · rw [List.getElem?_eq_none (by simpa using Nat.le_of_not_lt hj)] at e
      cases e
  have no : ∀ j u, (capR n is us)[j]? = some (Slt.own u) → False := fun j u e => by
    obtain ⟨_, q⟩ := hg j _ e
    split at q <;> cases q
  refine ⟨by simp [capR, hn], fun j x hx => ?_, fun i j u u' a _ h1 _ _ _ => no i u h1, rm⟩
  obtain ⟨hj, q⟩ := hg j x hx
  have hj' : j < σ.length := by omega
  cases e : (is.zip us).lookup j with
  | none =>
    rw [e] at q
    subst q
    exact ⟨_, List.getElem?_eq_getElem hj', trivial⟩
  | some u =>
    rw [e] at q
    subst q
    obtain ⟨v, q1, q2⟩ := zip_rep rv e
    exact ⟨some v, hσ j v q1, v, rfl, q2⟩
end
section
variable {C : SC} {G : Nms} {g : Gst} {X : Cx} {sc : Scope} {Wx : WX} {σ : L2.St} {H : Hp} {k : Nat} {pos p lpos : Pos}
/-- the lambda's body stands in a context of its own -/
theorem Full.lamb (D : Full C G g k X sc Wx) {A : Around} {outer : List Env} {s : Shared} {H : Hp} {E : XK} {scope : Scope} {f c' : Addr} (hr : Room k (A.deeper (lamEnv X scope s.heap.objs.size f c'))) :
    Full C.inLam G g k (lamCx X A outer s H E scope f c') scope (fun cls d _ H => E cls d H) := by
  have tk : Takes (lamCx X A outer s H E scope f c') (fun cls d _ H => E cls d H) := takes_of rfl rfl rfl rfl
  exact ⟨⟨D.good.s0.inLam, ⟨D.good.of.P, D.good.of.w, D.good.of.K, by have := hr.un; show (A.deeper (lamEnv X scope s.heap.objs.size f c')).units + 150 < cLine; omega⟩, D.good.N, rfl, rfl⟩, hr, D.calls, D.makes, D.meths, fun σ => passAt tk σ, (fun z => by cases z), (fun t z => by cases z), D.lams⟩
/-- f(lambda: body) -/
theorem se_callL (D : Full C G g k X sc Wx) {x : Str} {f tid : Nat} {m : ME} {is : List Nat} {params : Arguments} {body : Expr} {scope : Scope} (hx : glB sc x = true) (hf : C.lms.lookup x = some f) (ht : C.tid = some tid) (hL : lamSB sc scope = true) (hp : noPar params = true)
    (hb : ∀ (A : Around) (outer : List Env) (s : Shared) (H : Hp) (E : XK) (f c' : Addr), Room k (A.deeper (lamEnv X scope s.heap.objs.size f c')) → PE (lamCx X A outer s H E scope f c') body (tE G (fun cls d _ H => E cls d H) g m)) :
    PE X (.Call (.Name x p) [.Lambda params body scope lpos] [] pos) (tE G Wx g (.callL f tid m is)) := by
  obtain ⟨g1, g2⟩ := glB_gl D.good hx
  obtain ⟨ga, Ng, sg, cdg, qg, a, h1, h2, h3, h4, h5, h6, run⟩ := D.lams x f hf
  obtain ⟨hr2, c, hcode, TB, hq⟩ := D.mkr tid ht
  obtain rfl := noPar_is hp
  have L : LamS X.env.scope scope := by rw [D.good.scp]; exact lamS_by hL
  refine ⟨fun pins s0 σ H Q I ⟨W, s, r, h⟩ => ?_⟩
  have e0 : evalE g (.callL f tid m is) s = (match lookS s is with
      | some us => (match s.m[tid]? with
        | some (.fn q) => if q == tid then rc s.r (g.callL f us (fun us mem => resOf (evalE g m ⟨capR s.r.length is us, mem⟩)) s.m) else .stuck
        | _ => .stuck)
      | none => .stuck) := by
    conv => lhs; unfold evalE
    try rfl
  rw [e0] at h
  cases el : lookS s is with
  | none => rw [el] at h; exact h.elim
  | some us =>
  rw [el] at h
  simp only at h
  have hm : s.m[tid]? = some (.fn tid) := by
    cases em : s.m[tid]? with
    | none => rw [em] at h; exact h.elim
    | some u =>
      rw [em] at h
      cases u with
      | fn q =>
        simp only at h
        by_cases z : (q == tid) = true
        · rw [eq_of_beq z]
        · rw [if_neg z] at h; exact h.elim
      | _ => exact h.elim
  rw [hm] at h
  simp only [beq_self_eq_true, if_true] at h
  obtain ⟨vs, rvs, hσ⟩ := lookS_rep r el
  -- the table
  have tl : tid < W.al.length := by rw [← r.m.len]; exact (List.getElem?_eq_some_iff.mp hm).1
  obtain ⟨P, hPal⟩ : ∃ P, W.al[tid]? = some P := ⟨_, List.getElem?_eq_getElem tl⟩
  obtain ⟨_, u, hu, hcont⟩ := r.m.mem tid P hPal
  rw [hm] at hu
  cases hu
  simp only [Cont] at hcont
  obtain ⟨eP, ps, hP, hT, hcs⟩ := hcont
  rw [← eP] at TB
  refine wpAny_Call_Name_kw (ld_glob I g1 h1 ?_ g2)
  refine PySem.W.callWith_K (h₀ := X.base) I.ok.mod.kin h2 ?_ (by rfl) (by rfl)
  show wpAny _ _ (spliced ((false, eval (.Lambda ⟨[], [], none, [], [], none, []⟩ body scope lpos) X.env) :: backTo pos (starEach [] X.env))) _ _ s0
  refine Calls.spliced_cons (lam_obj I TB hcode hP hT (fun pos cv hc => by rw [hq]; obtain ⟨c, e1, _, e3⟩ := hcs pos cv hc; exact ⟨c, e1, e3⟩) rfl (L.has I.ok) fun lf c' pm' ctv H1 s' I1 mk hof hfn hfr => ?_)
  refine Calls.spliced_nil ⟨I1.kIn, ?_⟩
  rw [hq] at mk
  obtain ⟨W1, E1, r1, fz1, co1⟩ := made_fr r hm hP eP hcs mk
  have h := h.shift E1
  have rvs1 : RepVs G W1 H1 us vs := RepVs.ext E1 rvs
  have hlen : s.r.length = σ.length := r.len
  have sP : X.prog = G.P := D.good.of.P
  have sw : X.w = G.w := D.good.of.w
  have rc0 : codeAny (model G.P G.w) X.A (.call (.ref ga) ⟨[.ref lf], []⟩) (CR (L2.CX G.P G.w) X.stack G.P G.w H1 s' Q (WE Wx σ)) s' := by
    refine run X.A X.stack s' H1 Q (WE Wx σ) lf c' (G.tq tid) vs us s.m (fun us mem => resOf (evalE g m ⟨capR s.r.length is us, mem⟩)) W1 D.room (by have := I1.env0; rw [sP, sw] at this; exact this) I1.kIn (fun pn xe Wz p1 p2 tk => ?_) r1.m fz1 co1 rvs1 ?_
    · rw [← sP, ← sw] at tk ⊢
      have hrz : Room (k + 1) (X.A.deeper (envOfC qg sg s'.heap.objs.size ga cdg)) := hr2.deeper _
      have act := act_S (k := k) (i := 0) (p1 := p1) (p2 := p2) (tb := fun E => tE G (fun cls d _ H => E cls d H) g m) I1 L hof hfn hfr (by rfl) tk hrz (fun E A outer s H hr => hb A outer s H E lf c' hr) h3 h4 h5 h6
      refine PEi act fun σZ HZ QZ ⟨WZ, sZ, rZ, q⟩ => ?_
      have q : tAt (G.lam lf c' (G.tq tid) vs) Wz (match slot sZ 0 with
        | .clo us => rc sZ.r (resOf (evalE g m ⟨capR s.r.length is us, sZ.m⟩))
        | _ => .stuck) WZ sZ σZ HZ (RV (G.lam lf c' (G.tq tid) vs)) QZ := q
      cases es : slot sZ 0 with
      | clo us' =>
        rw [es] at q
        simp only at q
        have h0 : sZ.r[0]? = some (Slt.clo us') := by
          unfold slot at es
          rw [List.getD_eq_getElem?_getD] at es
          cases e : sZ.r[0]? with
          | none => rw [e] at es; cases es
          | some y => rw [e] at es; exact congrArg some es
        obtain ⟨y, y1, y2⟩ := rZ.slt 0 _ h0
        obtain ⟨z1, z2, z3, z4⟩ := y2
        refine ⟨by rw [y1, z1]; rfl, by rw [hq]; exact z3, ?_⟩
        -- the lambda's own frame
        have z4' : RepVs G WZ HZ us' vs := RepVs.lam us' |>.mp z4
        have rmZ : RelSh G WZ sZ.m HZ := RelSh.lam.mp rZ.m
        refine ⟨WZ, ⟨capR s.r.length is us', sZ.m⟩, capR_fr hlen z4' hσ rmZ, ?_⟩
        have key : ∀ {W' : Wd} {s2 : Sta} {H' : Hp}, Ext ⟨capR s.r.length is us', sZ.m⟩ s2 σ WZ W' HZ H' → RelFr G W' s2 σ H' → Ext sZ ⟨sZ.r, s2.m⟩ σZ WZ W' HZ H' ∧ RelFr (G.lam lf c' (G.tq tid) vs) W' ⟨sZ.r, s2.m⟩ σZ H' := fun {W' s2 H'} e2 r2 => by
          have noOwn : ∀ a, ¬ Ownd (⟨capR s.r.length is us', sZ.m⟩ : Sta) σ a := fun a ⟨i, u, q1, _⟩ => by
            have q1 : (capR s.r.length is us')[i]? = some (Slt.own u) := q1
            unfold capR at q1
            rw [List.getElem?_map] at q1
            cases e : (List.range s.r.length)[i]? with
            | none => rw [e] at q1; cases q1
            | some j =>
              rw [e] at q1
              have q1 : (match (is.zip us').lookup j with | some u => Slt.val u | none => .no) = Slt.own u := Option.some.inj q1
              split at q1 <;> cases q1
          have eM : ExtM WZ W' HZ H' := ⟨e2.le, e2.kp, fun a o q1 q2 => e2.fr a o q1 q2 (noOwn a), fun a ha => by
            rcases e2.new a ha with q | q | q
            · exact .inl q
            · exact absurd q (noOwn a)
            · exact .inr q⟩
          obtain ⟨q1, q2⟩ := callFr (G := G.lam lf c' (G.tq tid) vs) rZ eM (RelSh.lam.mpr r2.m)
          exact ⟨q2, q1⟩
        cases ev : evalE g m ⟨capR s.r.length is us', sZ.m⟩ with
        | stuck => rw [ev] at q; exact q
        | ok u s2 =>
          rw [ev] at q
          intro W' H' b e2 r2 rr
          obtain ⟨q1, q2⟩ := key e2 r2
          exact q W' H' b q1 q2 ((RepV.lam u).mpr rr)
        | exc u s2 =>
          rw [ev] at q
          intro W' H' cls d e2 r2 rr
          obtain ⟨q1, q2⟩ := key e2 r2
          exact q W' H' cls d q1 q2 rr
      | _ => rw [es] at q; exact (show False from q).elim
    · cases ec : g.callL f us (fun us mem => resOf (evalE g m ⟨capR s.r.length is us, mem⟩)) s.m with
      | ok u m' =>
        rw [ec] at h
        intro W' H' v e rm rv
        obtain ⟨q1, q2⟩ := callFr r1 e rm
        exact h W' H' v q2 q1 rv
      | exc u m' =>
        rw [ec] at h
        intro W' H' cls d e rm rx
        obtain ⟨q1, q2⟩ := callFr r1 e rm
        exact h W' H' cls d q2 q1 rx
      | stuck => rw [ec] at h; exact h
  rw [← sP, ← sw] at rc0
  refine wpAny_call (codeAny_mono rc0 fun r2 s2 hq2 => ?_)
  cases r2 with
  | error e => exact D.pass σ pins H1 s' e s2 I1 hq2
  | ok fl =>
    cases fl with
    | ret u => exact I1.after hq2
    | next => exact False.elim hq2
    | brk => exact False.elim hq2
    | cont => exact False.elim hq2
end
end MP
set_option maxRecDepth 100000
set_option maxHeartbeats 4000000
/-! R2t: new objects by operations; the check of an expression. -/
namespace MP
open PySem PySem.Spec PyProof.Rows L2
def newOp : Opr → Bool
  | .lst | .mul | .lstOf | .sorted | .lstR1 | .lstR2 => true
  | .dict _ => true
  | _ => false
def dictArgs (n : Nat) (e : Expr) : Option (List Expr) :=
  match e with
  | .Dict ks vs _ => match n, ks, vs with
    | 0, [], [] => some []
    | 1, [some k], [v] => some [k, v]
    | _, _, _ => none
  | _ => none
def opArgs2 (C : SC) (sc : Scope) (o : Opr) (e : Expr) : Option (List Expr) := match o with
  | .dict n => dictArgs n e
  | _ => opArgs C sc o e
section
variable {C : SC} {G : Nms} {g : Gst} {X : Cx} {sc : Scope} {Wx : WX}
theorem tE_of_tN {m : ME} {e : Expr} (hLD : ∀ s u s', evalE g m s = .ok u s' → isLD u = true) (h : PE X e (tN G Wx g m)) : PE X e (tE G Wx g m) :=
  PEi h fun σ H Q q => by
    obtain ⟨W, s, r, q⟩ := q
    refine ⟨W, s, r, ?_⟩
    unfold newOf
    cases ev : evalE g m s with
    | stuck => rw [ev] at q; exact q
    | exc x s' => rw [ev] at q; exact q
    | ok u s' =>
      rw [ev] at q
      simp only [Rs.bind]
      rw [if_pos (hLD s u s' ev)]
      intro W' H' v e1 r1 hv
      obtain ⟨p, rfl, f, n, o, hn, c⟩ := hv
      exact freeze q e1 r1 n o hn c (hLD s u s' ev)
theorem mkDic_LD : ∀ (r : List U) (ks vs : List U) (u : U), mkDic r ks vs = some u → isLD u = true
  | [], ks, vs, u, h => by simp only [mkDic] at h; cases h; rfl
  | [_], _, _, _, h => by simp [mkDic] at h
  | k :: v :: r, ks, vs, u, h => by
    simp only [mkDic] at h
    split at h
    · exact mkDic_LD r _ _ u h
    · cases h
theorem dict_LD {n : Nat} {us : List U} {u : U} (h : opSem g (.dict n) us = some u) : isLD u = true := by
  have h : (if us.length == 2 * n then mkDic us [] [] else none) = some u := h
  split at h
  · exact mkDic_LD _ _ _ _ h
  · cases h
theorem slice_new {o : Opr} {a b : Expr} {es : List Expr} (h : sliceArgs o a b = some es) (hn : newOp o = true) : False := by
  unfold sliceArgs at h
  split at h <;> first | (cases h; done) | (split at h <;> first | (rename_i ho; subst ho; cases hn; done) | (cases h; done))
theorem op_soundN (D : Good C G g X sc) {o : Opr} {e : Expr} {es : List Expr} {ms : List ME} (hn : newOp o = true) (h : opArgs2 C sc o e = some es) (ha : Paired (PX G Wx g X) ms es) (hE : Paired (fun m e => PE X e (tE G Wx g m)) ms es) (hst : es.all notStar = true) : PE X e (tN G Wx g (.op o ms)) := by
  unfold opArgs2 at h
  split at h
  · rename_i n
    unfold dictArgs at h
    split at h
    · split at h
      · cases h; cases hE
        exact sd_nil
      · cases h
        obtain ⟨m1, m2, rfl, a1, a2⟩ := paired2 hE
        exact sd_one D.of a1 a2
      · cases h
    · cases h
  · unfold opArgs at h
    split at h
    · split at h
      · rename_i hb
        cases h
        obtain ⟨m1, m2, rfl, a1, a2⟩ := paired2 ha
        have hb := of_decide_eq_true hb
        cases o <;> first | (cases hn; done) | (exfalso; revert hb; simp [binOf]; done) | skip
        simp only [binOf, Option.some.injEq] at hb
        subst hb
        exact sn_mulE D.of a1 a2
      · cases h
    · split at h
      · rename_i hb
        simp only [Bool.and_eq_true, decide_eq_true_eq] at hb
        obtain ⟨_, rfl⟩ := hb
        cases hn
      · cases h
    · split at h
      · split at h
        · rename_i hb
          simp only [Bool.and_eq_true, decide_eq_true_eq] at hb
          exfalso
          have := hb.1
          cases o <;> first | (cases hn; done) | (revert this; simp [cmpOf]; done)
        · split at h
          · rename_i hb
            simp only [Bool.and_eq_true, decide_eq_true_eq] at hb
            obtain ⟨⟨_, rfl⟩, _⟩ := hb
            cases hn
          · cases h
      · cases h
    · split at h
      · rename_i hb
        simp only [Bool.and_eq_true, decide_eq_true_eq] at hb
        obtain ⟨rfl, _⟩ := hb
        cases hn
      · exact (slice_new h hn).elim
    · split at h
      · rename_i hb
        obtain rfl := of_decide_eq_true hb
        cases hn
      · cases h
    · split at h
      · rename_i hb
        obtain rfl := of_decide_eq_true hb
        cases h
        exact sn_lst (paE_of hE hst)
      · cases h
    · split at h
      · unfold callArgs at h
        split at h
        · cases hn
        · split at h
          · rename_i n k hf
            split at h
            · rename_i hb
              simp only [Bool.and_eq_true, beq_iff_eq] at hb
              cases h
              refine sn_fun D ?_ hf hb.1.1 hb.1.2 hb.2 ha
              cases o <;> first | (cases hn; done) | (exfalso; revert hf; simp [funOf]; done) | exact .inl rfl | exact .inr rfl
            · cases h
          · split at h
            · rename_i n m k hf
              split at h
              · split at h
                · rename_i hb
                  simp only [Bool.and_eq_true, beq_iff_eq] at hb
                  cases h
                  refine sn_nest D ?_ hf hb.1.1.1 hb.1.1.2 hb.1.2 hb.2 ha
                  cases o <;> first | (cases hn; done) | (exfalso; revert hf; simp [nestOf]; done) | exact .inl rfl | exact .inr rfl
                · cases h
              · cases h
            · cases h
      · split at h
        · rename_i hb
          simp only [Bool.and_eq_true, decide_eq_true_eq] at hb
          obtain ⟨⟨⟨rfl, _⟩, _⟩, _⟩ := hb
          cases hn
        · cases h
      · cases h
    · split at h
      · cases hn
      · cases h
    · cases h
theorem op_sound2 (D : Good C G g X sc) {o : Opr} {e : Expr} {es : List Expr} {ms : List ME} (h : opArgs2 C sc o e = some es) (ha : Paired (PX G Wx g X) ms es) (hE : Paired (fun m e => PE X e (tE G Wx g m)) ms es) (hst : es.all notStar = true) : PE X e (tE G Wx g (.op o ms)) := by
  cases o with
  | dict n => exact tE_of_tN (fun s u s' e => let ⟨us, e⟩ := op_out e; dict_LD e) (op_soundN D rfl h ha hE hst)
  | _ => exact op_sound D h ha hE hst
end

/-! the check -/
def varB (C : SC) (sc : Scope) (i : Nat) : Expr → Bool
  | .Name x _ => decide (C.N[i]? = some x) && visB sc x && !(x == ("__debug__" : Str)) && !(x == ("__classdict__" : Str))
  | _ => false
/-- may stand as a test -/
def condE : Expr → Bool
  | .IfExp _ _ _ _ => false
  | _ => true
def ownP (C : SC) (own : List Nat) : List (Str × Nat) := own.map fun i => (C.N.getD i ⟨#[]⟩, i)
def loB (scope : Scope) (x : Str) : Bool := match scope.names.lookup x with
  | some .local => true
  | some .cell => true
  | _ => false
mutual
def chkE (C : SC) : ME → Scope → Expr → Bool
  | .var i, sc, e => varB C sc i e
  | .mv i, sc, e => varB C sc i e
  | .lit u, _, e => litOk u e
  | .glo n u, sc, e => match e with
    | .Name x _ => glB sc x && C.glo.any fun z => z.1 == x && z.2.1 == n && sameU z.2.2 u
    | _ => false
  | .op o ms, sc, e => match opArgs2 C sc o e with
    | some es => es.all notStar && chkEs C ms sc es
    | none => false
  | .and ms, sc, e => match e with
    | .BoolOp .And es _ => !es.isEmpty && es.all notStar && es.all condE && chkEs C ms sc es
    | _ => false
  | .or ms, sc, e => match e with
    | .BoolOp .Or es _ => !es.isEmpty && es.all notStar && es.all condE && chkEs C ms sc es
    | _ => false
  | .not m, sc, e => match e with
    | .UnaryOp .Not f _ => condE f && chkE C m sc f
    | _ => false
  | .ifx c a b, sc, e => match e with
    | .IfExp x y z _ => condE x && chkE C c sc x && chkE C a sc y && chkE C b sc z
    | _ => false
  | .chain o o' a b c, sc, e => match e with
    | .Compare x ops bs _ => (match ops, bs with
      | [p, q], [y, z] => decide (cmpOf o = some p) && decide (cmpOf o' = some q) && !lastMarks [p, q] [y, z] && chkE C a sc x && chkE C b sc y && chkE C c sc z
      | _, _ => false)
    | _ => false
  | .call f ms, sc, e => match e with
    | .Call (.Name x _) es [] _ => glB sc x && (decide (C.fn.lookup x = some f) || (decide (C.mks.lookup x = some f) && !es.isEmpty)) && es.all notStar && chkEs C ms sc es
    | _ => false
  | .callL f tid m is, sc, e => match e with
    | .Call (.Name x _) es [] _ => (match es with
      | [.Lambda params body scope _] => glB sc x && decide (C.lms.lookup x = some f) && decide (C.tid = some tid) && LamX.lamSB sc scope && noPar params && chkE C.inLam m scope body
      | _ => false)
    | _ => false
  | .callv i ms, sc, e => match e with
    | .Call (.Name x _) [] [] _ => C.cv && decide (i = 0) && ms.isEmpty && decide (C.N[0]? = some x)
    | _ => false
  | .meth mo mi ms, sc, e => match e with
    | .Call (.Attribute r name apos) es [] cpos => decide (C.mth.lookup name = some mi) && notBare r && es.all notStar && decide (es.length < 30) && (apos.endLine == cpos.line) && chkE C mo sc r && chkEs C ms sc es
    | _ => false
  | .mut o m ms, sc, e => match e with
    | .Call (.Attribute r name apos) es [] cpos => (match mopOf o with
      | some (n, k) => name == Str.ofString n && es.length == k && es.all notStar && notBare r && (apos.endLine == cpos.line) && chkE C m sc r && chkEs C ms sc es
      | none => false)
    | _ => false
  | .share m, sc, e => newM m && plainC e && chkE C m sc e
  | .comp m t k its own cond, sc, e => match e with
    | .ListComp elt gens scope _ => (match gens with
      | [⟨tg, iter, ifs, as⟩] => decide (as = 0) && chkT C.N (loB scope) t tg && (asgT t).all (fun j => own.contains j) && (match itArgs sc k tg iter with
          | some es => es.all notStar && chkEs C its sc es
          | none => false) && blkC C.N sc scope (ownP C own) && chkO C.noCv cond (relS scope sc) ifs && chkE C.noCv m (relS scope sc) elt
      | _ => false)
    | _ => false
def chkEs (C : SC) : List ME → Scope → List Expr → Bool
  | [], _, [] => true
  | m :: ms, sc, e :: es => chkE C m sc e && chkEs C ms sc es
  | _, _, _ => false
def chkO (C : SC) : Option ME → Scope → List Expr → Bool
  | none, _, [] => true
  | some m, sc, [e] => condE e && chkE C m sc e
  | _, _, _ => false
def newM : ME → Bool
  | .op o _ => newOp o
  | .comp _ _ _ _ _ _ => true
  | _ => false
end
end MP
set_option maxRecDepth 100000
set_option maxHeartbeats 4000000
/-! R2u: a checked expression does what the small program says. -/
namespace MP
open PySem PySem.Spec PyProof.Rows L2
def SE (G : Nms) (Wx : WX) (g : Gst) (X : Cx) (m : ME) (e : Expr) : Prop := PE X e (tE G Wx g m) ∧ PE X e (tArg G Wx g m) ∧ (newM m = true → PE X e (tN G Wx g m)) ∧ (condE e = true → PT X e (tCond G Wx g m))
section
variable {C : SC} {G : Nms} {g : Gst} {X : Cx} {sc : Scope} {Wx : WX} {k : Nat}
theorem SE.mk' {m : ME} {e : Expr} (h : PE X e (tE G Wx g m)) (hv : isVar m = false) (hN : newM m = true → PE X e (tN G Wx g m)) (hT : PE X e (tArg G Wx g m) → condE e = true → PT X e (tCond G Wx g m)) : SE G Wx g X m e :=
  have ha : PE X e (tArg G Wx g m) := PEi h fun σ H Q q => tArg_tE hv q
  ⟨h, ha, hN, hT ha⟩
theorem varB_is (D : Good C G g X sc) {i : Nat} {e : Expr} (h : varB C sc i e = true) : ∃ x p, e = .Name x p ∧ X.N[i]? = some x ∧ Vis X.env.scope x ∧ (x == ("__debug__" : Str)) = false ∧ (x == ("__classdict__" : Str)) = false := by
  cases e <;> first | cases h | skip
  rename_i x p
  simp only [varB, Bool.and_eq_true, decide_eq_true_eq, Bool.not_eq_true'] at h
  refine ⟨x, p, rfl, by rw [D.N]; exact h.1.1.1, ?_, h.1.2, h.2⟩
  have hv := h.1.1.2
  unfold visB at hv
  unfold Vis
  rw [D.scp]
  split at hv
  · exact .inl (by assumption)
  · exact .inr (.inl (by assumption))
  · exact .inr (.inr (by assumption))
  · cases hv
theorem op_cond (D : Good C G g X sc) {o : Opr} {e : Expr} {es : List Expr} {ms : List ME} (h : opArgs2 C sc o e = some es) (ha : Paired (PX G Wx g X) ms es) (hp : PE X e (tArg G Wx g (.op o ms))) : PT X e (tCond G Wx g (.op o ms)) := by
  by_cases hc : plainC e = true
  · exact pt_gen D.of hc hp
  · unfold opArgs2 at h
    split at h
    · unfold dictArgs at h
      split at h
      · exact absurd rfl hc
      · cases h
    · unfold opArgs at h
      split at h <;> first | exact absurd rfl hc | skip
      · split at h
        · rename_i hb
          simp only [Bool.and_eq_true, decide_eq_true_eq] at hb
          obtain ⟨rfl, _⟩ := hb
          exact absurd rfl hc
        · cases h
      · split at h
        · split at h
          · rename_i hb
            simp only [Bool.and_eq_true, decide_eq_true_eq, Bool.not_eq_true'] at hb
            cases h
            obtain ⟨m1, m2, rfl, a1, a2⟩ := paired2 ha
            exact st_cmp D.of hb.1 hb.2 a1 a2
          · split at h
            · rename_i hb
              simp only [Bool.and_eq_true, decide_eq_true_eq] at hb
              obtain ⟨⟨rfl, rfl⟩, hn⟩ := hb
              cases h
              obtain ⟨m1, rfl, a1⟩ := paired1 ha
              exact st_isN D.of hn a1
            · cases h
        · cases h
      · cases h
theorem SE.px {ms : List ME} {es : List Expr} (h : Paired (SE G Wx g X) ms es) : Paired (PX G Wx g X) ms es := by
  induction h with
  | nil => exact .nil
  | cons a _ ih => exact .cons a.2.1 ih
theorem SE.pe {ms : List ME} {es : List Expr} (h : Paired (SE G Wx g X) ms es) : Paired (fun m e => PE X e (tE G Wx g m)) ms es := by
  induction h with
  | nil => exact .nil
  | cons a _ ih => exact .cons a.1 ih
theorem SE.pt {ms : List ME} {es : List Expr} (h : Paired (SE G Wx g X) ms es) (hc : es.all condE = true) : Paired (fun m e => PT X e (tCond G Wx g m)) ms es := by
  induction h with
  | nil => exact .nil
  | cons a _ ih =>
    simp only [List.all_cons, Bool.and_eq_true] at hc
    exact .cons (a.2.2.2 hc.1) (ih hc.2)
theorem ownP_snd (C : SC) (own : List Nat) : (ownP C own).map (·.2) = own := by
  unfold ownP
  rw [List.map_map]
  have : (fun i : Nat => ((C.N.getD i ⟨#[]⟩, i) : Str × Nat).2) = id := by funext i; rfl
  show own.map (fun i : Nat => ((C.N.getD i ⟨#[]⟩, i) : Str × Nat).2) = own
  rw [this, List.map_id]
theorem loB_ok {scope : Scope} {x : Str} (h : loB scope x = true) : scope.names.lookup x = some .local ∨ scope.names.lookup x = some .cell := by
  unfold loB at h
  split at h
  · exact .inl (by assumption)
  · exact .inr (by assumption)
  · cases h
end
section
variable {G : Nms} {g : Gst} {k : Nat}
mutual
theorem sE : ∀ (m : ME) {C : SC} {X : Cx} {sc : Scope} {Wx : WX} (e : Expr), Full C G g k X sc Wx → chkE C m sc e = true → SE G Wx g X m e
  | .var i, C, X, sc, Wx, e, D, h => by
    simp only [chkE] at h
    obtain ⟨x, p, rfl, h1, h2, h3, h4⟩ := varB_is D.good h
    have ha : PE X (.Name x p) (tArg G Wx g (.var i)) := arg_var h1 h2 h3 h4
    exact ⟨ex_var h1 h2 h3 h4, ha, fun z => by simp [newM] at z, fun _ => pt_gen D.good.of rfl ha⟩
  | .mv i, C, X, sc, Wx, e, D, h => by
    simp only [chkE] at h
    obtain ⟨x, p, rfl, h1, h2, h3, h4⟩ := varB_is D.good h
    exact SE.mk' (ex_mv h1 h2 h3 h4) rfl (fun z => by simp [newM] at z) fun ha _ => pt_gen D.good.of rfl ha
  | .lit u, C, X, sc, Wx, e, D, h => by
    simp only [chkE] at h
    refine SE.mk' (se_lit h) rfl (fun z => by simp [newM] at z) fun ha _ => pt_gen D.good.of ?_ ha
    unfold litOk at h
    split at h <;> first | rfl | cases h
  | .glo n u, C, X, sc, Wx, e, D, h => by
    simp only [chkE] at h
    split at h
    · rename_i x p
      simp only [Bool.and_eq_true, List.any_eq_true, beq_iff_eq] at h
      obtain ⟨h1, ⟨y, n', u'⟩, hm, ⟨rfl, rfl⟩, hs⟩ := h
      obtain rfl := sameU_eq _ _ hs
      exact SE.mk' (se_glo D.good h1 hm) rfl (fun z => by simp [newM] at z) fun ha _ => pt_gen D.good.of rfl ha
    · cases h
  | .op o ms, C, X, sc, Wx, e, D, h => by
    simp only [chkE] at h
    cases eo : opArgs2 C sc o e with
    | none => rw [eo] at h; cases h
    | some es =>
      rw [eo] at h
      simp only [Bool.and_eq_true] at h
      have ih := sEs ms es D h.2
      exact SE.mk' (op_sound2 D.good eo (SE.px ih) (SE.pe ih) h.1) rfl (fun z => op_soundN D.good (by simpa only [newM] using z) eo (SE.px ih) (SE.pe ih) h.1) fun ha _ => op_cond D.good eo (SE.px ih) ha
  | .and ms, C, X, sc, Wx, e, D, h => by
    simp only [chkE] at h
    split at h
    · rename_i es p
      simp only [Bool.and_eq_true, Bool.not_eq_true'] at h
      have ih := sEs ms es D h.2
      have hne : es ≠ [] := fun z => by rw [z] at h; simp at h
      exact SE.mk' (se_and (SE.pe ih) hne) rfl (fun z => by simp [newM] at z) fun _ _ => (sw_and (SE.pt ih h.1.2) hne).pt
    · cases h
  | .or ms, C, X, sc, Wx, e, D, h => by
    simp only [chkE] at h
    split at h
    · rename_i es p
      simp only [Bool.and_eq_true, Bool.not_eq_true'] at h
      have ih := sEs ms es D h.2
      have hne : es ≠ [] := fun z => by rw [z] at h; simp at h
      exact SE.mk' (se_or (SE.pe ih) hne) rfl (fun z => by simp [newM] at z) fun _ _ => (sw_or (SE.pt ih h.1.2) hne).pt
    · cases h
  | .not m, C, X, sc, Wx, e, D, h => by
    simp only [chkE] at h
    split at h
    · rename_i f p
      simp only [Bool.and_eq_true] at h
      have ih := sE m f D h.2
      exact SE.mk' (se_not D.good.of ih.2.1) rfl (fun z => by simp [newM] at z) fun _ _ => st_not (ih.2.2.2 h.1)
    · cases h
  | .ifx c a b, C, X, sc, Wx, e, D, h => by
    simp only [chkE] at h
    split at h
    · rename_i x y z p
      simp only [Bool.and_eq_true] at h
      have i1 := sE c x D h.1.1.2
      have i2 := sE a y D h.1.2
      have i3 := sE b z D h.2
      exact SE.mk' (se_ifx (i1.2.2.2 h.1.1.1) i2.1 i3.1) rfl (fun z => by simp [newM] at z) fun _ z => by simp [condE] at z
    · cases h
  | .chain o o' a b c, C, X, sc, Wx, e, D, h => by
    simp only [chkE] at h
    split at h
    · split at h
      · rename_i p q y z
        simp only [Bool.and_eq_true, decide_eq_true_eq, Bool.not_eq_true'] at h
        have i1 := sE a _ D h.1.1.2
        have i2 := sE b _ D h.1.2
        have i3 := sE c _ D h.2
        exact SE.mk' (se_chain D.good.of h.1.1.1.1.1 h.1.1.1.1.2 h.1.1.1.2 i1.1 i2.1 i3.1).1 rfl (fun z => by simp [newM] at z) fun _ _ => (se_chain D.good.of h.1.1.1.1.1 h.1.1.1.1.2 h.1.1.1.2 i1.1 i2.1 i3.1).2
      · cases h
    · cases h
  | .call f ms, C, X, sc, Wx, e, D, h => by
    simp only [chkE] at h
    split at h
    · rename_i x p es p2
      simp only [Bool.and_eq_true, Bool.or_eq_true, decide_eq_true_eq, Bool.not_eq_true'] at h
      have ih := sEs ms es D h.2
      obtain ⟨⟨⟨h1, h2⟩, h3⟩, h4⟩ := h
      rcases h2 with h2 | ⟨h2, h5⟩
      · cases es with
        | nil =>
          cases ih
          exact SE.mk' (se_call0 D h1 h2) rfl (fun z => by simp [newM] at z) fun ha _ => pt_gen D.good.of rfl ha
        | cons e1 es => exact SE.mk' (se_call D h1 h2 h3 (SE.pe ih)) rfl (fun z => by simp [newM] at z) fun ha _ => pt_gen D.good.of rfl ha
      · cases es with
        | nil => simp at h5
        | cons e1 es => exact SE.mk' (se_make D h1 h2 h3 (SE.pe ih)) rfl (fun z => by simp [newM] at z) fun ha _ => pt_gen D.good.of rfl ha
    · cases h
  | .callv i ms, C, X, sc, Wx, e, D, h => by
    simp only [chkE] at h
    split at h
    · simp only [Bool.and_eq_true, decide_eq_true_eq, List.isEmpty_iff] at h
      obtain ⟨⟨⟨h1, rfl⟩, rfl⟩, h2⟩ := h
      exact SE.mk' (D.clos h1 _ _ _ h2) rfl (fun z => by simp [newM] at z) fun ha _ => pt_gen D.good.of rfl ha
    · cases h
  | .meth mo mi ms, C, X, sc, Wx, e, D, h => by
    simp only [chkE] at h
    split at h
    · rename_i r name apos es cpos
      simp only [Bool.and_eq_true, decide_eq_true_eq] at h
      obtain ⟨⟨⟨⟨⟨⟨h1, h2⟩, h3⟩, h4⟩, h5⟩, h6⟩, h7⟩ := h
      exact SE.mk' (se_meth D h1 (D.good.s0.mno _ _ h1) h2 h3 h4 (sE mo r D h6).1 (SE.pe (sEs ms es D h7)) (by simpa using h5)) rfl (fun z => by simp [newM] at z) fun ha _ => pt_gen D.good.of rfl ha
    · cases h
  | .callL f tid m is, C, X, sc, Wx, e, D, h => by
    simp only [chkE] at h
    split at h
    · split at h
      · rename_i params body scope lpos
        simp only [Bool.and_eq_true, decide_eq_true_eq] at h
        obtain ⟨⟨⟨⟨⟨h1, h2⟩, h3⟩, h4⟩, h5⟩, h6⟩ := h
        exact SE.mk' (se_callL D h1 h2 h3 h4 h5 fun A outer s H E f c' hr => (sE m body (D.lamb hr) h6).1) rfl (fun z => by simp [newM] at z) fun ha _ => pt_gen D.good.of rfl ha
      · cases h
    · cases h
  | .mut o m ms, C, X, sc, Wx, e, D, h => by
    simp only [chkE] at h
    split at h
    · rename_i r name apos es cpos
      cases hm : mopOf o with
      | none => rw [hm] at h; cases h
      | some nk =>
        obtain ⟨n, kk⟩ := nk
        rw [hm] at h
        simp only [Bool.and_eq_true, beq_iff_eq] at h
        have i1 := sE m r D h.1.2
        have ih := sEs ms es D h.2
        exact SE.mk' (se_mut D.good.of hm h.1.1.1.1.1.1 h.1.1.1.1.1.2 h.1.1.1.1.2 h.1.1.1.2 (by simpa using h.1.1.2) i1.2.1 (SE.pe ih)) rfl (fun z => by simp [newM] at z) fun ha _ => pt_gen D.good.of rfl ha
    · cases h
  | .share m, C, X, sc, Wx, e, D, h => by
    simp only [chkE, Bool.and_eq_true] at h
    have i1 := sE m e D h.2
    have h1 : PE X e (tE G Wx g (.share m)) := PEi (i1.2.2.1 h.1.1) fun σ H Q q => tE_share q
    exact SE.mk' h1 rfl (fun z => by simp [newM] at z) fun ha hc => pt_gen D.good.of h.1.2 ha
  | .comp m t kk its own cond, C, X, sc, Wx, e, D, h => by
    simp only [chkE] at h
    split at h
    · rename_i elt gens scope p
      split at h
      · rename_i tg iter ifs as
        simp only [Bool.and_eq_true, decide_eq_true_eq] at h
        obtain ⟨⟨⟨⟨⟨⟨h1, h2⟩, h3⟩, h4⟩, h5⟩, h6⟩, h7⟩ := h
        subst h1
        cases hi : itArgs sc kk tg iter with
        | none => rw [hi] at h4; cases h4
        | some es =>
        rw [hi] at h4
        simp only [Bool.and_eq_true] at h4
        have ih := sEs its es D h4.2
        obtain ⟨pi, hset⟩ := pi_walk (tg := tg) D.good hi (SE.px ih)
        have nd : X.N.Nodup := by rw [D.good.N]; exact D.good.s0.nd
        have hasg : ∀ j ∈ asgT t, j ∈ own := fun j hj => by
          have := List.all_eq_true.mp h3 j hj
          simpa using this
        have blk : BlkOk X.N X.env.scope scope (ownP C own) := by
          rw [D.good.N, D.good.scp]; exact blkOk_by h5
        have F : ∀ (s : Shared) (H : Hp) (C' : Addr) (cl : List (Str × Addr)) (fp : List Addr), Full C.noCv G g k (X.blk s H scope (compEnvC scope cl C' X.env) fp) (relS scope sc) WF := fun s H C' cl fp => D.blk s H scope C' cl fp
        have pg : ∀ (s : Shared) (H : Hp) (C' : Addr) (cl : List (Str × Addr)) (fp : List Addr), PG (X.blk s H scope (compEnvC scope cl C' X.env) fp) tg (gT X.K t) := fun s H C' cl fp => by
          have Fx := F s H C' cl fp
          refine pg_T (X := X.blk s H scope (compEnvC scope cl C' X.env) fp) (lo := loB scope) Fx.good.calm nd (fun x hx => ?_) t tg (by show chkT X.N _ _ _ = true; rw [D.good.N]; exact h2)
          have hrel : (X.blk s H scope (compEnvC scope cl C' X.env) fp).env.scope = relS scope X.env.scope := rfl
          rw [hrel]
          rcases loB_ok hx with q | q
          · have := lookup_relS_keep (sc := X.env.scope) (by simp) q
            exact ⟨.inl this, .inr this⟩
          · have := lookup_relS_keep (sc := X.env.scope) (by simp) q
            exact ⟨.inr this, .inl (by show (scope.names.lookup x == some .cell) = true; rw [q]; rfl)⟩
        have pe := pe_lc (pos := p) D.good.calm nd pi blk pg (fun s H C' cl fp => sO cond ifs (F s H C' cl fp) h6) (fun s H C' cl fp => (sE m elt (F s H C' cl fp) h7).1) hset
        rw [ownP_snd] at pe
        exact SE.mk' (PEi pe fun σ H Q q => comp_tLc D.good.of.K hasg (.inl q)) rfl (fun _ => PEi pe fun σ H Q q => comp_tLc D.good.of.K hasg (.inr q)) fun ha _ => pt_gen D.good.of rfl ha
      · cases h
    · cases h
theorem sEs : ∀ (ms : List ME) {C : SC} {X : Cx} {sc : Scope} {Wx : WX} (es : List Expr), Full C G g k X sc Wx → chkEs C ms sc es = true → Paired (SE G Wx g X) ms es
  | [], C, X, sc, Wx, [], D, _ => .nil
  | m :: ms, C, X, sc, Wx, e :: es, D, h => by
    simp only [chkEs, Bool.and_eq_true] at h
    exact .cons (sE m e D h.1) (sEs ms es D h.2)
  | [], C, X, sc, Wx, _ :: _, D, h => by simp [chkEs] at h
  | _ :: _, C, X, sc, Wx, [], D, h => by simp [chkEs] at h
theorem sO : ∀ (c : Option ME) {C : SC} {X : Cx} {sc : Scope} (es : List Expr), Full C G g k X sc WF → chkO C c sc es = true → PTs X es (tt G g c)
  | none, C, X, sc, [], D, _ => pts_nil
  | some m, C, X, sc, [e], D, h => by
    simp only [chkO, Bool.and_eq_true] at h
    exact pts_one ((sE m e D h.2).2.2.2 h.1)
  | none, C, X, sc, _ :: _, D, h => by simp [chkO] at h
  | some _, C, X, sc, [], D, h => by simp [chkO] at h
  | some _, C, X, sc, _ :: _ :: _, D, h => by simp [chkO] at h
end
end
end MP
set_option maxRecDepth 100000
set_option maxHeartbeats 4000000
/-! R3a: what a statement may change; statements' readings. -/
namespace MP
open PySem PySem.Spec PyProof.Rows L2
/-- what a statement may change: it assigns the names of A -/
structure ExS (A : List Nat) (s s' : Sta) (σ σ' : L2.St) (W W' : Wd) (H H' : Hp) : Prop where
  le : W.le W'
  kp : Kp W H H'
  fr : ∀ a o, H a = some o → a ∉ W.al → ¬ Ownd s σ a → H' a = some o
  new : ∀ a, ((W'.fz a ∧ ¬ W.fz a) ∨ (a ∈ W'.al ∧ a ∉ W.al)) → H a = none ∨ Ownd s σ a ∨ a ∈ W.al
  own : ∀ a, Ownd s' σ' a → H a = none ∨ Ownd s σ a ∨ a ∈ W.al
  keep : ∀ j, j ∉ A → σ'[j]? = σ[j]?
  len : s'.r.length = s.r.length
section
variable {A B : List Nat} {s s1 s2 : Sta} {σ σ1 σ2 : L2.St} {W W1 W2 : Wd} {H H1 H2 : Hp}
theorem Ext.toS (e : Ext s s1 σ W W1 H H1) : ExS A s s1 σ σ W W1 H H1 := ⟨e.le, e.kp, e.fr, e.new, fun a h => .inr (.inl (h.mono e.own)), fun _ _ => rfl, e.len⟩
theorem ExS.refl : ExS A s s σ σ W W H H := (Ext.refl s σ W H).toS
theorem ExS.none (e : ExS A s s1 σ σ1 W W1 H H1) {x : Addr} (h1 : H1 x = Option.none) : H x = Option.none ∨ Ownd s σ x ∨ x ∈ W.al := by
  cases q : H x with
  | none => exact .inl rfl
  | some o =>
    by_cases h2 : x ∈ W.al
    · exact .inr (.inr h2)
    · by_cases h3 : Ownd s σ x
      · exact .inr (.inl h3)
      · have z := e.fr x o q h2 h3
        rw [h1] at z; cases z
theorem ExS.al (e : ExS A s s1 σ σ1 W W1 H H1) {x : Addr} (h : x ∈ W1.al) : H x = Option.none ∨ Ownd s σ x ∨ x ∈ W.al := by
  by_cases h2 : x ∈ W.al
  · exact .inr (.inr h2)
  · exact e.new x (.inr ⟨h, h2⟩)
theorem ExS.trans (a : ExS A s s1 σ σ1 W W1 H H1) (b : ExS A s1 s2 σ1 σ2 W1 W2 H1 H2) : ExS A s s2 σ σ2 W W2 H H2 := by
  have lift : ∀ {x}, (H1 x = Option.none ∨ Ownd s1 σ1 x ∨ x ∈ W1.al) → H x = Option.none ∨ Ownd s σ x ∨ x ∈ W.al := fun h => by
    rcases h with h | h | h
    · exact a.none h
    · exact a.own _ h
    · exact a.al h
  refine ⟨a.le.trans b.le, a.kp.trans a.le b.kp, fun x o h h1 h2 => b.fr x o (a.fr x o h h1 h2) (fun z => ?_) (fun z => ?_), fun x h => ?_, fun x h => lift (b.own x h), fun j hj => (b.keep j hj).trans (a.keep j hj), b.len.trans a.len⟩
  · rcases a.al z with q | q | q
    · rw [h] at q; cases q
    · exact h2 q
    · exact h1 q
  · rcases a.own x z with q | q | q
    · rw [h] at q; cases q
    · exact h2 q
    · exact h1 q
  · rcases h with ⟨h1, h2⟩ | ⟨h1, h2⟩
    · by_cases h3 : W1.fz x
      · exact a.new x (.inl ⟨h3, h2⟩)
      · exact lift (b.new x (.inl ⟨h1, h3⟩))
    · by_cases h3 : x ∈ W1.al
      · exact a.new x (.inr ⟨h3, h2⟩)
      · exact lift (b.new x (.inr ⟨h1, h3⟩))
theorem ExS.sub (e : ExS A s s1 σ σ1 W W1 H H1) (h : ∀ j ∈ A, j ∈ B) : ExS B s s1 σ σ1 W W1 H H1 := ⟨e.le, e.kp, e.fr, e.new, e.own, fun j hj => e.keep j fun z => hj (h j z), e.len⟩
end
/-- what is wanted behind a statement -/
def tX (G : Nms) (Wx : WX) (A : List Nat) (D : Ends) (r : Rs Fl) (W : Wd) (s : Sta) (σ : L2.St) (H : Hp) : Prop := match r with
  | .ok fl s' => ∀ W' σ' H', ExS A s s' σ σ' W W' H H' → RelFr G W' s' σ' H' → (match fl with
    | .next => D.nx σ' H'
    | .brk => D.bk σ' H'
    | .cont => D.ct σ' H'
    | .ret u => ∀ v, RepV G W' H' u v → D.rt v H')
  | .exc e s' => ∀ W' σ' H' cls d, ExS A s s' σ σ' W W' H H' → RelFr G W' s' σ' H' → ExcOk G W' H' e cls d → Wx cls d σ' H'
  | .stuck => False
section
variable {G : Nms} {Wx : WX} {g : Gst} {A B : List Nat} {D : Ends} {s s1 s2 : Sta} {σ σ1 σ2 : L2.St} {W W1 W2 : Wd} {H H1 H2 : Hp}
theorem tX.shift {r : Rs Fl} (e : ExS A s s1 σ σ1 W W1 H H1) (h : tX G Wx A D r W s σ H) : tX G Wx A D r W1 s1 σ1 H1 := by
  cases r with
  | ok fl s' => exact fun W' σ' H' e' r' => h W' σ' H' (e.trans e') r'
  | exc x s' => exact fun W' σ' H' cls d e' r' => h W' σ' H' cls d (e.trans e') r'
  | stuck => exact h
theorem tX.sub {r : Rs Fl} (h : tX G Wx B D r W s σ H) (hs : ∀ j ∈ A, j ∈ B) : tX G Wx A D r W s σ H := by
  cases r with
  | ok fl s' => exact fun W' σ' H' e' r' => h W' σ' H' (e'.sub hs) r'
  | exc x s' => exact fun W' σ' H' cls d e' r' => h W' σ' H' cls d (e'.sub hs) r'
  | stuck => exact h
/-- an expression ahead -/
theorem tX.bindE {α β : Type} {f : Sta → Rs α} {k : α → Sta → Rs Fl} (R : L2.St → Wd → Sta → Hp → α → β → Prop) (r : RelFr G W s σ H) (h : tX G Wx A D ((f s).bind k) W s σ H) :
    tR G Wx f R σ H fun b H1 => ∃ a W1 s1, RelFr G W1 s1 σ H1 ∧ R σ W1 s1 H1 a b ∧ tX G Wx A D (k a s1) W1 s1 σ H1 := by
  refine ⟨W, s, r, ?_⟩
  cases e : f s with
  | stuck => rw [e] at h; exact h
  | exc x s' => rw [e] at h; exact fun W' H' cls d e' r' hx => h W' σ H' cls d e'.toS r' hx
  | ok a s' =>
    rw [e] at h
    exact fun W' H' b e' r' rr => ⟨a, W', s', r', rr, h.shift e'.toS⟩
end
end MP
set_option maxRecDepth 100000
set_option maxHeartbeats 4000000
/-! R3b: simple statements, suites, if. -/
namespace MP
open PySem PySem.Spec PyProof.Rows L2
mutual
/-- the slots that a statement may fill -/
def asgS : MS → List Nat
  | .set t _ => asgT t
  | .own i _ => [i]
  | .par i j _ _ => [i, j]
  | .aug i _ _ => [i]
  | .ife _ a b => asgSs a ++ asgSs b
  | .whil _ b => asgSs b
  | .forr t _ _ b => asgT t ++ asgSs b
  | .tri b hs => asgSs b ++ asgHs hs
  | _ => []
def asgSs : List MS → List Nat
  | [] => []
  | m :: ms => asgS m ++ asgSs ms
def asgHs : List (Nat × Option Nat × List MS) → List Nat
  | [] => []
  | (_, n, b) :: hs => (match n with | some i => [i] | none => []) ++ asgSs b ++ asgHs hs
end
def tS (G : Nms) (Wx : WX) (g : Gst) (m : MS) : TS := fun D σ H => ∃ W s, RelFr G W s σ H ∧ tX G Wx (asgS m) D (execS g m s) W s σ H
def tSs (G : Nms) (Wx : WX) (g : Gst) (ms : List MS) : TS := fun D σ H => ∃ W s, RelFr G W s σ H ∧ tX G Wx (asgSs ms) D (execs g ms s) W s σ H
theorem PSi {X : Cx} {st : Stmt} {t t' : TS} (h : PS X st t) (hi : ∀ D σ H, t' D σ H → t D σ H) : PS X st t' := ⟨fun pins s σ H D I q => h.run pins s σ H D I (hi D σ H q)⟩
theorem PSsi {X : Cx} {st : List Stmt} {t t' : TS} (h : PSs X st t) (hi : ∀ D σ H, t' D σ H → t D σ H) : PSs X st t' := ⟨fun pins s σ H D I q => h.run pins s σ H D I (hi D σ H q)⟩
section
variable {C : SC} {G : Nms} {Wx : WX} {g : Gst} {X : Cx} {A B : List Nat} {D : Ends} {s s1 s2 : Sta} {σ σ1 σ2 : L2.St} {W W1 W2 : Wd} {H H1 H2 : Hp} {pos : Pos}
theorem pss_nil' : PSs X [] (tSs G Wx g []) := PSsi pss_nil fun D σ H ⟨W, s, r, h⟩ => by
  unfold execs at h
  exact h W σ H .refl r
theorem seq_of {m : MS} {ms : List MS} (h : tSs G Wx g (m :: ms) D σ H) : tSeq (tS G Wx g m) (tSs G Wx g ms) D σ H := by
  obtain ⟨W, s, r, h⟩ := h
  unfold execs at h
  refine ⟨W, s, r, ?_⟩
  have sub1 : ∀ j ∈ asgS m, j ∈ asgSs (m :: ms) := fun j hj => by simp only [asgSs, List.mem_append]; exact .inl hj
  have sub2 : ∀ j ∈ asgSs ms, j ∈ asgSs (m :: ms) := fun j hj => by simp only [asgSs, List.mem_append]; exact .inr hj
  cases e : execS g m s with
  | stuck => rw [e] at h; exact h
  | exc x s' => rw [e] at h; exact fun W' σ' H' cls d e' r' hx => h W' σ' H' cls d (e'.sub sub1) r' hx
  | ok fl s' =>
    rw [e] at h
    simp only [Rs.bind] at h
    intro W' σ' H' e' r'
    cases fl with
    | next => exact ⟨W', s', r', (h.shift (e'.sub sub1)).sub sub2⟩
    | brk => exact h W' σ' H' (e'.sub sub1) r'
    | cont => exact h W' σ' H' (e'.sub sub1) r'
    | ret u => exact h W' σ' H' (e'.sub sub1) r'
theorem pss_cons' {st : Stmt} {sts : List Stmt} {m : MS} {ms : List MS} (h1 : PS X st (tS G Wx g m)) (h2 : PSs X sts (tSs G Wx g ms)) : PSs X (st :: sts) (tSs G Wx g (m :: ms)) :=
  PSsi (pss_cons h1 h2) fun D σ H h => seq_of h
/-- no comprehension -/
def notComp : Expr → Bool
  | .ListComp _ _ _ _ => false
  | .SetComp _ _ _ _ => false
  | .DictComp _ _ _ _ _ => false
  | _ => true
theorem sw_no {e : Expr} {t : Option Expr} {l : Nat} {env : Env} (h : notComp e = true) : swapsWith e t l env = pure false := by
  cases e <;> first | rfl | cases h
theorem ss_expr {e : Expr} {m : ME} (hc : notComp e = true) (h : PE X e (tE G Wx g m)) : PS X (.Expr e pos) (tS G Wx g (.expr m)) :=
  PSi (ps_expr h (sw_no hc)) fun D σ H ⟨W, s, r, q⟩ => by
    have e0 : execS g (.expr m) s = (evalE g m s).bind fun _ s => .ok .next s := by conv => lhs; unfold execS
    rw [e0] at q
    refine tR_mono (tX.bindE (fun _ => RV G) r q) fun v H1 ⟨a, W1, s1, r1, ra, k⟩ => k W1 σ H1 .refl r1
theorem ss_ret {e : Expr} {m : ME} (h : PE X e (tE G Wx g m)) : PS X (.Return (some e) pos) (tS G Wx g (.ret m)) :=
  PSi (ps_ret h) fun D σ H ⟨W, s, r, q⟩ => by
    have e0 : execS g (.ret m) s = (evalE g m s).bind fun u s => .ok (.ret u) s := by conv => lhs; unfold execS
    rw [e0] at q
    refine tR_mono (tX.bindE (fun _ => RV G) r q) fun v H1 ⟨a, W1, s1, r1, ra, k⟩ => k W1 σ H1 .refl r1 v ra
theorem ss_pass : PS X (.Pass pos) (tS G Wx g .pass) := PSi ps_pass fun D σ H ⟨W, s, r, q⟩ => by
  unfold execS at q
  exact q W σ H .refl r
theorem ss_brk : PS X (.Break pos) (tS G Wx g .brk) := PSi ps_break fun D σ H ⟨W, s, r, q⟩ => by
  unfold execS at q
  exact q W σ H .refl r
theorem ss_cont : PS X (.Continue pos) (tS G Wx g .cont) := PSi ps_continue fun D σ H ⟨W, s, r, q⟩ => by
  unfold execS at q
  exact q W σ H .refl r
theorem ss_if {c : Expr} {a b : List Stmt} {m : ME} {ma mb : List MS} (hc : PT X c (tCond G Wx g m)) (ha : PSs X a (tSs G Wx g ma)) (hb : PSs X b (tSs G Wx g mb)) : PS X (.If c a b pos) (tS G Wx g (.ife m ma mb)) :=
  PSi (ps_if hc ha hb) fun D σ H ⟨W, s, r, q⟩ => by
    have e0 : execS g (.ife m ma mb) s = (condOf (fun s => evalE g m s) m s).bind fun x s => if x then execs g ma s else execs g mb s := by conv => lhs; unfold execS
    rw [e0] at q
    have sub1 : ∀ j ∈ asgSs ma, j ∈ asgS (.ife m ma mb) := fun j hj => by simp only [asgS, List.mem_append]; exact .inl hj
    have sub2 : ∀ j ∈ asgSs mb, j ∈ asgS (.ife m ma mb) := fun j hj => by simp only [asgS, List.mem_append]; exact .inr hj
    refine tR_mono (tX.bindE (fun _ => RB) r q) fun b H1 ⟨x, W1, s1, r1, ra, k⟩ => ?_
    have ra : x = b := ra
    subst ra
    cases x with
    | true => exact ⟨W1, s1, r1, tX.sub k sub1⟩
    | false => exact ⟨W1, s1, r1, tX.sub k sub2⟩
end
end MP
set_option maxRecDepth 100000
set_option maxHeartbeats 4000000
/-! R3c: names set. -/
namespace MP
open PySem PySem.Spec PyProof.Rows L2
section
variable {C : SC} {G : Nms} {Wx : WX} {g : Gst} {X : Cx} {A B : List Nat} {D : Ends} {s s1 s2 : Sta} {σ σ1 σ2 : L2.St} {W W1 W2 : Wd} {H H1 H2 : Hp} {pos : Pos}
def notTups : Expr → Expr → Bool
  | .Tuple _ _ _, .Tuple _ _ _ => false
  | .List _ _, _ => false
  | _, _ => true
theorem stores_no {tg e : Expr} {env : Env} (h : notTups tg e = true) : swappedStores [tg] e env = pure none := by
  cases tg <;> first | rfl | (cases h; done) | (cases e <;> first | rfl | cases h)
/-- a tuple of names, one of which at least is no local -/
def notLocB (sc : Scope) : Expr → Bool
  | .Name id _ => !decide (sc.names.lookup id = some .local)
  | _ => true
def noSwapB (sc : Scope) : Expr → Bool
  | .Tuple ts _ _ => ts.any (notLocB sc)
  | _ => false
theorem fm_less {α β : Type} {f : α → Option β} : ∀ {l : List α}, (l.filterMap f).length ≤ l.length ∧ ((∃ x ∈ l, f x = none) → (l.filterMap f).length < l.length)
  | [] => ⟨Nat.le_refl _, fun ⟨x, hx, _⟩ => by simp at hx⟩
  | a :: l => by
    obtain ⟨h1, h2⟩ := fm_less (f := f) (l := l)
    rw [List.filterMap_cons]
    cases e : f a with
    | none => exact ⟨by show (l.filterMap f).length ≤ l.length + 1; omega, fun _ => by show (l.filterMap f).length < l.length + 1; omega⟩
    | some b =>
      refine ⟨by show (l.filterMap f).length + 1 ≤ l.length + 1; omega, fun ⟨x, hx, hn⟩ => ?_⟩
      rcases List.mem_cons.mp hx with z | z
      · subst z; rw [e] at hn; cases hn
      · have := h2 ⟨x, z, hn⟩
        show (l.filterMap f).length + 1 < l.length + 1
        omega
theorem stores_cell {tg e : Expr} {env : Env} (h : noSwapB env.scope tg = true) : swappedStores [tg] e env = pure none := by
  cases tg <;> first | (cases h; done) | skip
  rename_i ts k p
  simp only [noSwapB, List.any_eq_true] at h
  obtain ⟨t, ht, hn⟩ := h
  unfold swappedStores
  cases e <;> first | rfl | skip
  rename_i vs k2 p2
  simp only
  split
  · rfl
  · split
    · rfl
    · have hl := (fm_less (l := ts) (f := fun
          | .Name id pos => if env.kindOf id == some .local && pos.line == (ts.head?.map (·.pos.line)).getD 0 then some id else none
          | _ => none)).2 ⟨t, ht, by
            cases t <;> first | rfl | skip
            rename_i id pos
            simp only [notLocB, Bool.not_eq_true', decide_eq_false_iff_not] at hn
            have : (env.kindOf id == some .local) = false := by
              unfold Env.kindOf
              cases hk : env.scope.names.lookup id with
              | none => rfl
              | some kk => rw [hk] at hn; cases kk <;> first | rfl | exact absurd rfl hn
            simp only [this, Bool.false_and, Bool.false_eq_true, if_false]⟩
      rw [if_pos (by
        rw [Bool.or_eq_true]
        left
        simp only [bne_iff_ne, ne_eq]
        exact Nat.ne_of_lt hl)]
theorem bind_ExS {t : Tg} {u : U} (hb : bindT t u s = some s1) (keep : ∀ j, j ∉ asgT t → σ1[j]? = σ[j]?) (own : ∀ a, Ownd s1 σ1 a → Ownd s σ a) : ExS (asgT t) s s1 σ σ1 W W H H :=
  ⟨.refl W, .refl W H, fun _ _ h _ _ => h, fun a h => by rcases h with ⟨h1, h2⟩ | ⟨h1, h2⟩ <;> exact absurd h1 h2, fun a h => .inr (.inl (own a h)), keep, bindT_len hb⟩
theorem ss_setG' {tg e : Expr} {t : Tg} {m : ME} (hK : X.K = G.K) (hc : swapsWithSole [tg] e pos.line X.env = pure false) (hw : swappedStores [tg] e X.env = pure none) (he : PE X e (tE G Wx g m)) (hg : PG X tg (gT X.K t)) (h1 : (assignEach [tg] X.env).map (·.2) = [assign tg X.env]) : PS X (.Assign [tg] e pos) (tS G Wx g (.set t m)) :=
  PSi (ps_asg he hg hc hw h1) fun D σ H ⟨W, s, r, q⟩ => by
    have e0 : execS g (.set t m) s = (evalE g m s).bind fun u s => match bindT t u s with | some s => .ok .next s | none => .stuck := by
      conv => lhs; unfold execS
      try rfl
    rw [e0] at q
    refine tR_mono (tX.bindE (fun _ => RV G) r q) fun v H1 ⟨u, W1, s1, r1, ra, k⟩ => ?_
    cases hb : bindT t u s1 with
    | none => rw [hb] at k; exact k.elim
    | some s2 =>
      rw [hb] at k
      exact gT_ok X.K hK t u s1 s2 v σ _ hb r1 ra fun σ' r' keep _ mo => k W1 σ' H1 (by simpa only [asgS] using bind_ExS hb keep mo.2) r'
theorem ss_setG {tg e : Expr} {t : Tg} {m : ME} (hK : X.K = G.K) (hc : swapsWithSole [tg] e pos.line X.env = pure false) (hw : notTups tg e = true) (he : PE X e (tE G Wx g m)) (hg : PG X tg (gT X.K t)) (h1 : (assignEach [tg] X.env).map (·.2) = [assign tg X.env]) : PS X (.Assign [tg] e pos) (tS G Wx g (.set t m)) :=
  ss_setG' hK hc (stores_no hw) he hg h1
theorem ss_set {tg e : Expr} {t : Tg} {m : ME} (hK : X.K = G.K) (hc : notComp e = true) (hw : notTups tg e = true) (he : PE X e (tE G Wx g m)) (hg : PG X tg (gT X.K t)) (h1 : (assignEach [tg] X.env).map (·.2) = [assign tg X.env]) : PS X (.Assign [tg] e pos) (tS G Wx g (.set t m)) :=
  ss_setG hK (show swapsWithSole [tg] e _ X.env = pure false from sw_no hc) hw he hg h1
theorem RelFr.setOwn (r : RelFr G W s σ H) {i : Nat} (hi : i < s.r.length) {u : U} {p : Addr} (f : ¬ W.fz p) (n : p ∉ W.al) (o : ¬ Ownd s σ p) (c : Cont G W H p u) : RelFr G W (s.put i (.own u)) (σ.set i (some (.ref p))) H := by
  have hi' : i < σ.length := by rw [← r.len]; exact hi
  refine ⟨?_, fun j x hj => ?_, fun j k u1 u2 a jk h1 h2 a1 a2 => ?_, r.m⟩
  · show (s.r.set i _).length = _
    rw [List.length_set, List.length_set]; exact r.len
  · rw [slot_put _ _ _ _ hi] at hj
    rw [List.getElem?_set]
    split at hj
    · rename_i e; subst e
      cases hj
      rw [if_pos rfl, if_pos hi']
      exact ⟨_, rfl, p, rfl, f, n, c⟩
    · rename_i e
      rw [if_neg e]
      exact r.slt j x hj
  · rw [slot_put _ _ _ _ hi] at h1 h2
    rw [List.getElem?_set] at a1 a2
    split at h1
    · rename_i e1; subst e1
      rw [if_pos rfl, if_pos hi'] at a1
      have ha : p = a := by
        have := Option.some.inj (Option.some.inj a1)
        injection this
      subst ha
      split at h2
      · rename_i e2; exact jk e2
      · rename_i e2
        rw [if_neg e2] at a2
        exact o ⟨k, u2, h2, a2⟩
    · rename_i e1
      rw [if_neg e1] at a1
      split at h2
      · rename_i e2; subst e2
        rw [if_pos rfl, if_pos hi'] at a2
        have ha : p = a := by
          have := Option.some.inj (Option.some.inj a2)
          injection this
        subst ha
        exact o ⟨j, u1, h1, a1⟩
      · rename_i e2
        rw [if_neg e2] at a2
        exact r.apart j k u1 u2 a jk h1 h2 a1 a2
theorem ss_own {x : Str} {px : Pos} {e : Expr} {i : Nat} {m : ME} (hi : i < X.N.length) (hl : ∀ {pins σ H s}, Inv X pins σ H s → σ.length = X.N.length) (hc : notComp e = true) (he : PE X e (tN G Wx g m)) (hg : PG X (.Name x px) (gName i)) : PS X (.Assign [.Name x px] e pos) (tS G Wx g (.own i m)) := by
  have hp := ps_asg (pos := pos) he hg (show swapsWith e (some (.Name x px)) pos.line X.env = pure false from sw_no hc) (stores_no (tg := .Name x px) (by cases e <;> rfl))
  refine ⟨fun pins s0 σ H D I ⟨W, s, r, q⟩ => hp.run pins s0 σ H D I ?_⟩
  have e0 : execS g (.own i m) s = (newOf (evalE g m s)).bind fun u s => .ok .next (s.put i (.own u)) := by conv => lhs; unfold execS
  rw [e0] at q
  refine ⟨W, s, r, ?_⟩
  cases ev : newOf (evalE g m s) with
  | stuck => rw [ev] at q; exact q
  | exc x s' => rw [ev] at q; exact fun W' H' cls d e' r' hx => q W' σ H' cls d e'.toS r' hx
  | ok u s1 =>
    rw [ev] at q
    intro W1 H1 v e1 r1 hv
    obtain ⟨p, rfl, f, n, o, hn, c⟩ := hv
    have hlen : i < s1.r.length := by rw [r1.len, hl I]; exact hi
    refine q W1 (σ.set i (some (.ref p))) H1 ⟨e1.le, e1.kp, e1.fr, e1.new, fun a ha => ?_, fun j hj => ?_, ?_⟩ (r1.setOwn hlen f n o c)
    · obtain ⟨j, u', h1, h2⟩ := ha
      rw [slot_put _ _ _ _ hlen] at h1
      split at h1
      · rename_i e; subst e
        have hi' : i < σ.length := by rw [← r1.len]; exact hlen
        rw [List.getElem?_set, if_pos rfl, if_pos hi'] at h2
        have := Option.some.inj (Option.some.inj h2)
        injection this with this
        subst this
        exact hn
      · rename_i e
        rw [List.getElem?_set_ne e] at h2
        exact .inr (.inl (Ownd.mono e1.own ⟨j, u', h1, h2⟩))
    · simp only [asgS, List.mem_singleton] at hj
      rw [List.getElem?_set_ne (fun z => hj z.symm)]
    · show (s1.r.set i _).length = _
      rw [List.length_set]; exact e1.len
end
end MP
set_option maxRecDepth 100000
set_option maxHeartbeats 4000000
/-! R3d: while. -/
namespace MP
open PySem PySem.Spec PyProof.Rows L2
section
variable {C : SC} {G : Nms} {Wx : WX} {g : Gst} {X : Cx} {A B : List Nat} {D : Ends} {s s1 s2 : Sta} {σ σ1 σ2 : L2.St} {W W1 W2 : Wd} {H H1 H2 : Hp} {pos : Pos}
theorem ss_while {c : Expr} {body : List Stmt} {m : ME} {mb : List MS} (po : PassesOwn (model X.prog X.w) X.A X.env X.xe) (hc : PT X c (tCond G Wx g m)) (hb : PSs X body (tSs G Wx g mb)) : PS X (.While c body [] pos) (tS G Wx g (.whil m mb)) :=
  PSi (ps_while po hc hb) fun D σ H ⟨W, s, r, q⟩ => by
    have e0 : execS g (.whil m mb) s = turnsW (fun s => condOf (fun s => evalE g m s) m s) (fun s => execs g mb s) g.turns s := by conv => lhs; unfold execS
    rw [e0] at q
    refine ⟨fun n σ H => ∃ W s, RelFr G W s σ H ∧ tX G Wx (asgSs mb) D (turnsW (fun s => condOf (fun s => evalE g m s) m s) (fun s => execs g mb s) n s) W s σ H, ⟨g.turns, W, s, r, q⟩, ?_⟩
    rintro n σ H ⟨W, s, r, q⟩
    cases n with
    | zero => exact (show False from q).elim
    | succ n =>
      have q : tX G Wx (asgSs mb) D ((condOf (fun s => evalE g m s) m s).bind fun b s => if b then (execs g mb s).bind fun fl s => (match fl with
        | .next => turnsW (fun s => condOf (fun s => evalE g m s) m s) (fun s => execs g mb s) n s
        | .cont => turnsW (fun s => condOf (fun s => evalE g m s) m s) (fun s => execs g mb s) n s
        | .brk => .ok .next s
        | .ret u => .ok (.ret u) s) else .ok .next s) W s σ H := q
      refine tR_mono (tX.bindE (fun _ => RB) r q) fun b H1 ⟨x, W1, s1, r1, ra, k⟩ => ?_
      have ra : x = b := ra
      subst ra
      cases x with
      | false => exact k W1 σ H1 .refl r1
      | true =>
        rw [if_pos rfl] at k ⊢
        refine ⟨fun σ H => ∃ W s, RelFr G W s σ H ∧ tX G Wx (asgSs mb) D (turnsW (fun s => condOf (fun s => evalE g m s) m s) (fun s => execs g mb s) n s) W s σ H, fun σ' H' h => ⟨n, Nat.lt_succ_self n, h⟩, W1, s1, r1, ?_⟩
        cases e : execs g mb s1 with
        | stuck => rw [e] at k; exact k
        | exc x s' => rw [e] at k; exact k
        | ok fl s' =>
          rw [e] at k
          simp only [Rs.bind] at k
          intro W' σ' H' e' r'
          cases fl with
          | next => exact ⟨W', s', r', k.shift e'⟩
          | cont => exact ⟨W', s', r', k.shift e'⟩
          | brk => exact k W' σ' H' e' r'
          | ret u => exact k W' σ' H' e' r'
end
end MP
set_option maxRecDepth 100000
set_option maxHeartbeats 4000000
/-! R3e: for. -/
namespace MP
open PySem PySem.Spec PyProof.Rows L2
section
variable {C : SC} {G : Nms} {Wx : WX} {g : Gst} {X : Cx} {A B : List Nat} {D : Ends} {s s1 s2 : Sta} {σ σ1 σ2 : L2.St} {W W1 W2 : Wd} {H H1 H2 : Hp} {pos : Pos}
theorem arg_own {f : Sta → Rs U} {m : ME} {j : Nat} (h : argOf f m s = .ok (.own j) s1) : m = .var j := by
  unfold argOf at h
  split at h
  · rename_i i e
    cases h
    unfold isOwn at e
    split at e
    · split at e
      · cases e; rfl
      · cases e
    · cases e
  · cases e : f s with
    | ok u s2 => rw [e] at h; cases h
    | exc _ _ => rw [e] at h; cases h
    | stuck => rw [e] at h; cases h
theorem avs_own : ∀ {its : List ME} {avs : List AV} {s s1 : Sta} {j : Nat}, evalAs g its s = .ok avs s1 → AV.own j ∈ avs → ME.var j ∈ its
  | [], avs, s, s1, j, h, hj => by unfold evalAs at h; cases h; simp at hj
  | m :: ms, avs, s, s1, j, h, hj => by
    unfold evalAs at h
    cases e1 : argOf (fun s => evalE g m s) m s with
    | stuck => rw [e1] at h; cases h
    | exc _ _ => rw [e1] at h; cases h
    | ok a s2 =>
      rw [e1] at h
      simp only [Rs.bind] at h
      cases e2 : evalAs g ms s2 with
      | stuck => rw [e2] at h; cases h
      | exc _ _ => rw [e2] at h; cases h
      | ok as s3 =>
        rw [e2] at h
        simp only at h
        cases h
        rcases List.mem_cons.mp hj with z | z
        · subst z
          rw [arg_own e1]
          exact List.mem_cons_self
        · exact List.mem_cons_of_mem _ (avs_own e2 z)
theorem ras_S {W' : Wd} {H' : Hp} {s' : Sta} {σ' : L2.St} (l : W.le W') (k : Kp W H H') (keep : ∀ j, j ∉ A → σ'[j]? = σ[j]?) : ∀ {avs : List AV} {vs : List V}, (∀ j, AV.own j ∈ avs → j ∉ A) → RAs G σ W s H avs vs → RAs G σ' W' s' H' avs vs
  | [], [], _, _ => .nil
  | a :: as, v :: vs, h, .cons ra rt => by
    refine .cons ?_ (ras_S l k keep (fun j hj => h j (List.mem_cons_of_mem _ hj)) rt)
    cases a with
    | v u => exact RepV.mono l k _ ra
    | own j => exact (keep j (h j List.mem_cons_self)).trans ra
  | [], _ :: _, _, h => by cases h
  | _ :: _, [], _, h => by cases h
def forF (g : Gst) (t : Tg) (b : List MS) (avs : List AV) (s0 : Sta) (x : U) (s1 : Sta) : Rs Fl := match bindT t x s1 with
  | some s2 => (execs g b s2).bind fun fl s3 => if stillIs s0 s3 avs then .ok fl s3 else .stuck
  | none => .stuck
theorem ss_for {tg iter : Expr} {body : List Stmt} {t : Tg} {k : Nat} {its : List ME} {mb : List MS} (hK : X.K = G.K) (po : PassesOwn (model X.prog X.w) X.A X.env X.xe) (hc : X.calm = true) (hi : PI X tg iter (tI G Wx g k its)) (hg : PG X tg (gT X.K t)) (hb : PSs X body (tSs G Wx g mb))
    (hs : ∀ x, foldedSetIterable iter X.env x = pure x) (hno : ∀ j, ME.var j ∈ its → j ∉ asgT t ++ asgSs mb) : PS X (.For tg iter body [] pos) (tS G Wx g (.forr t k its mb)) :=
  PSi (ps_for po hc hi hg hb hs) fun D σ H ⟨W, s, r, q⟩ => by
    have e0 : execS g (.forr t k its mb) s = (evalAs g its s).bind fun avs s0 => match walkA k avs s0 with
      | some xs => turnsF (forF g t mb avs s0) xs s0
      | none => .stuck := by
      conv => lhs; unfold execS
      try rfl
    rw [e0] at q
    have hA : asgS (.forr t k its mb) = asgT t ++ asgSs mb := by simp only [asgS]
    rw [hA] at q
    generalize hAA : asgT t ++ asgSs mb = A at q hno
    have subT : ∀ j ∈ asgT t, j ∈ A := fun j hj => by rw [← hAA]; exact List.mem_append_left _ hj
    have subB : ∀ j ∈ asgSs mb, j ∈ A := fun j hj => by rw [← hAA]; exact List.mem_append_right _ hj
    refine ⟨W, s, r, ?_⟩
    cases ea : evalAs g its s with
    | stuck => rw [ea] at q; exact q
    | exc x s' => rw [ea] at q; exact fun W' H' cls d e' r' hx => q W' σ H' cls d e'.toS r' hx
    | ok avs s0 =>
    rw [ea] at q
    intro W0 H0 vs e1 r0 ra
    have hfree : ∀ j, AV.own j ∈ avs → j ∉ A := fun j hj => hno j (avs_own ea hj)
    have q := tX.shift e1.toS q
    simp only [Rs.bind] at q
    cases hw : walkA k avs s0 with
    | none => rw [hw] at q; exact q.elim
    | some xs =>
    rw [hw] at q
    simp only at q
    refine ⟨W0, s0, avs, xs, r0, ra, hw, fun J hJ => ?_⟩
    have hok := (walk_get hw).1
    refine ⟨fun i m σ H => m = xs.length - i ∧ i ≤ xs.length ∧ ∃ Wi si, RelFr G Wi si σ H ∧ tX G Wx A D (turnsF (forF g t mb avs s0) (xs.drop i) si) Wi si σ H ∧ RAs G σ Wi si H avs vs ∧ avs.all (AV.ok si) = true ∧ avs.map (AV.get si) = avs.map (AV.get s0),
      ⟨xs.length, by simp, Nat.zero_le _, W0, s0, r0, by simpa using q, ra, hok, rfl⟩, ?_⟩
    rintro i m σ H ⟨rfl, hi, Wi, si, r, q, ras, hoki, hgeti⟩
    have jj := hJ i Wi si σ H r ras hoki hgeti
    by_cases hlt : i < xs.length
    · right
      obtain ⟨go, yl⟩ := jj.2 _ (List.getElem?_eq_getElem hlt)
      refine ⟨go, fun σ H => ∃ Wi si, RelFr G Wi si σ H ∧ tX G Wx A D (turnsF (forF g t mb avs s0) (xs.drop (i + 1)) si) Wi si σ H ∧ RAs G σ Wi si H avs vs ∧ avs.all (AV.ok si) = true ∧ avs.map (AV.get si) = avs.map (AV.get s0),
        fun σ' H' h => ⟨xs.length - (i + 1), by omega, rfl, hlt, h⟩, fun x H' hy => ?_⟩
      obtain ⟨hH', rx⟩ := yl x H' hy
      have hup : Kp Wi H H' ∧ RelFr G Wi si σ H' ∧ Ext si si σ Wi Wi H H' := by
        rcases hH' with rfl | ⟨T, o, hTn, rfl⟩
        · exact ⟨.refl _ _, r, .refl _ _ _ _⟩
        · exact ⟨kp_upd hTn, r.upd hTn, .upd hTn⟩
      obtain ⟨k1, r', E1⟩ := hup
      rw [List.drop_eq_getElem_cons hlt] at q
      have q : tX G Wx A D ((forF g t mb avs s0 xs[i] si).bind fun fl s => match fl with
        | .next => turnsF (forF g t mb avs s0) (xs.drop (i + 1)) s
        | .cont => turnsF (forF g t mb avs s0) (xs.drop (i + 1)) s
        | .brk => .ok .next s
        | .ret u => .ok (.ret u) s) Wi si σ H := q
      unfold forF at q
      cases hb : bindT t xs[i] si with
      | none => simp only [hb] at q; exact (show False from q).elim
      | some sb =>
      simp only [hb] at q
      refine gT_ok X.K hK t _ si sb x σ _ hb r' rx fun σ2 rb kσ lσ mo => ⟨Wi, sb, rb, ?_⟩
      have E2 : ExS A si sb σ σ2 Wi Wi H H' := (E1.toS).trans ((bind_ExS hb kσ mo.2).sub subT)
      cases ee : execs g mb sb with
      | stuck => rw [ee] at q; exact q
      | exc x s' => rw [ee] at q; exact fun W' σ' H'' cls d e' r'' hx => q W' σ' H'' cls d (E2.trans (e'.sub subB)) r'' hx
      | ok fl s3 =>
        rw [ee] at q
        simp only [Rs.bind] at q
        by_cases hst : stillIs s0 s3 avs = true
        · rw [if_pos hst] at q
          simp only at q
          obtain ⟨so1, so2⟩ := still_get hok hst
          intro W' σ' H'' e' r''
          have E3 := E2.trans (e'.sub subB)
          cases fl with
          | next => exact ⟨W', s3, r'', q.shift E3, ras_S E3.le E3.kp E3.keep hfree ras, so1, so2⟩
          | cont => exact ⟨W', s3, r'', q.shift E3, ras_S E3.le E3.kp E3.keep hfree ras, so1, so2⟩
          | brk => exact q W' σ' H'' E3 r''
          | ret u => exact q W' σ' H'' E3 r''
        · rw [if_neg hst] at q; exact (show False from q).elim
    · left
      have hi' : i = xs.length := by omega
      subst hi'
      refine ⟨jj.1 (Nat.le_refl _), ?_⟩
      rw [List.drop_length] at q
      exact q Wi σ H .refl r
end
end MP
set_option maxRecDepth 100000
set_option maxHeartbeats 4000000
/-! R3f: items set; x op= y. -/
namespace MP
open PySem PySem.Spec PyProof.Rows L2
section
variable {C : SC} {G : Nms} {Wx : WX} {g : Gst} {X : Cx} {A B : List Nat} {D : Ends} {s s1 s2 : Sta} {σ σ1 σ2 : L2.St} {W W1 W2 : Wd} {H H1 H2 : Hp} {pos : Pos}
theorem tX.bindX {α β : Type} {f : Sta → Rs α} {k : α → Sta → Rs Fl} (R : L2.St → Wd → Sta → Hp → α → β → Prop) (r : RelFr G W s σ H) (h : tX G Wx A D ((f s).bind k) W s σ H) :
    tR G Wx f R σ H fun b H1 => ∃ a W1 s1, Ext s s1 σ W W1 H H1 ∧ RelFr G W1 s1 σ H1 ∧ R σ W1 s1 H1 a b ∧ tX G Wx A D (k a s1) W1 s1 σ H1 := by
  refine ⟨W, s, r, ?_⟩
  cases e : f s with
  | stuck => rw [e] at h; exact h
  | exc x s' => rw [e] at h; exact fun W' H' cls d e' r' hx => h W' σ H' cls d e'.toS r' hx
  | ok a s' =>
    rw [e] at h
    exact fun W' H' b e' r' rr => ⟨a, W', s', e', r', rr, h.shift e'.toS⟩
theorem ss_setIx (O : Of G X) {o i e : Expr} {p : Pos} {mc mi me : ME} (hc : notComp e = true) (ho : PE X o (tArg G Wx g mc)) (hi : PE X i (tE G Wx g mi)) (he : PE X e (tE G Wx g me)) (hp : plainIx i = true) (hw : notTups (.Subscript o i p) e = true) :
    PS X (.Assign [.Subscript o i p] e pos) (tS G Wx g (.setIx mc mi me)) := by
  have hg : PG X (.Subscript o i p) (gSub (tArg G Wx g mc) (tE G Wx g mi) (tSetU G)) := pg_sub ho hi (pset_U O) (by intro v; cases i <;> first | rfl | cases hp)
  refine PSi (ps_asg he hg (show swapsWith e (some (.Subscript o i p)) pos.line X.env = pure false from sw_no hc) (stores_no hw) (by rfl)) fun D σ H ⟨W, s, r, q⟩ => ?_
  have e0 : execS g (.setIx mc mi me) s = (evalE g me s).bind fun u s => (argOf (fun s => evalE g mc s) mc s).bind fun av s => (evalE g mi s).bind fun k s =>
      match mutSem .setIx (av.get s) [k, u] with
      | some (c', _) => match setC s av c' with
        | some s => .ok .next s
        | none => .stuck
      | none => .stuck := by
    conv => lhs; unfold execS
    try rfl
  rw [e0] at q
  refine tR_mono (tX.bindX (fun _ => RV G) r q) fun v H1 ⟨u, W1, s1, e1, r1, ru, k1⟩ => ?_
  refine tR_mono (tX.bindX (fun σ => RA G σ) r1 k1) fun ov H2 ⟨av, W2, s2, e2, r2, ra, k2⟩ => ?_
  refine tR_mono (tX.bindX (fun _ => RV G) r2 k2) fun iv H3 ⟨kk, W3, s3, e3, r3, rk, k3⟩ => ?_
  cases em : mutSem .setIx (av.get s3) [kk, u] with
  | none => rw [em] at k3; exact k3.elim
  | some z =>
    obtain ⟨c', u0⟩ := z
    rw [em] at k3
    simp only at k3
    cases es : setC s3 av c' with
    | none => rw [es] at k3; exact k3.elim
    | some s4 =>
      rw [es] at k3
      exact ⟨W3, s3, σ, av, kk, u, c', u0, s4, r3, ra.ext e3, rk, RepV.ext e3 (RepV.ext e2 ru), em, es, fun H' r' e' => k3 W3 σ H' e'.toS r'⟩
/-- x op= e, x a value -/
theorem ss_aug (O : Of G X) {x : Str} {p : Pos} {e : Expr} {i : Nat} {o : Opr} {op : Operator} {m : ME} (nd : X.N.Nodup) (hN : X.N[i]? = some x) (hx : Loc X.env.scope x) (hf : X.fn x = true ∨ X.env.scope.names.lookup x = some .local) (ho : augOp o = some op) (he : PE X e (tE G Wx g m)) :
    PS X (.AugAssign (.Name x p) op e pos) (fun D σ H => ∃ W s, RelFr G W s σ H ∧ (∃ u, slot s i = .val u) ∧ tX G Wx (asgS (.aug i o m)) D (execS g (.aug i o m) s) W s σ H) :=
  PSi (ps_aug nd hN hx he (pip_U (G := G) ho) hf) fun D σ H ⟨W, s, r, ⟨u, hu⟩, q⟩ => by
    have e0 : execS g (.aug i o m) s = (evalE g m s).bind fun y s => (opAug o u y s).bind fun u s => .ok .next (s.put i (.val u)) := by
      conv => lhs; unfold execS
      rw [hu]
    rw [e0] at q
    obtain ⟨v, hv, rv⟩ := r.valAt hu
    refine ⟨v, hv, tR_mono (tX.bindX (fun _ => RV G) r q) fun y H1 ⟨uy, W1, s1, e1, r1, ry, k1⟩ => ?_⟩
    refine ⟨Wx, W1, s1, σ, u, uy, r1, .inl (RepV.ext e1 rv), .inl ry, ?_⟩
    cases eo : opAug o u uy s1 with
    | stuck => rw [eo] at k1; exact k1
    | exc x s' => rw [eo] at k1; exact fun W' H' cls d e' r' hx => k1 W' σ H' cls d e'.toS r' hx
    | ok w s2 =>
      rw [eo] at k1
      intro W' H' z e' r' rz
      have k2 := tX.shift e'.toS k1
      exact k2 W' (σ.set i (some z)) H' (by simpa only [asgS, asgT] using (bind_ExS (t := .one i) (u := w) (s := s2) (s1 := s2.put i (.val w)) (by simp only [bindT]) (fun j hj => by
        simp only [asgT, List.mem_singleton] at hj
        rw [List.getElem?_set_ne (fun q => hj q.symm)]) (fun a ha => ownd_set r' ha) : ExS (asgT (.one i)) s2 _ σ _ W' W' H' H')) (r'.set i rz)
end
end MP
set_option maxRecDepth 100000
set_option maxHeartbeats 4000000
/-! R3g: o[i] op= e. -/
namespace MP
open PySem PySem.Spec PyProof.Rows L2
section
variable {C : SC} {G : Nms} {Wx : WX} {g : Gst} {X : Cx} {A B : List Nat} {D : Ends} {s s1 s2 : Sta} {σ σ1 σ2 : L2.St} {W W1 W2 : Wd} {H H1 H2 : Hp} {pos : Pos}
theorem ss_augIx (O : Of G X) {o i e : Expr} {p : Pos} {mc mi me : ME} {oo : Opr} {op : Operator} (hop : augOp oo = some op) (ho : PE X o (tArg G Wx g mc)) (hi : PE X i (tE G Wx g mi)) (he : PE X e (tE G Wx g me)) (hp : plainIx i = true) :
    PS X (.AugAssign (.Subscript o i p) op e pos) (tS G Wx g (.augIx mc mi oo me)) := by
  refine PSi (ps_augS ho hi (pget_U (g := g) O) he (pip_U (G := G) hop) (pset_U O) (by intro ov iv new; cases i <;> first | rfl | cases hp)) fun D σ H ⟨W, s, r, q⟩ => ?_
  have e0 : execS g (.augIx mc mi oo me) s = (argOf (fun s => evalE g mc s) mc s).bind fun av s => (evalE g mi s).bind fun k s =>
      match opSem g .ix [av.get s, k] with
      | some x => (evalE g me s).bind fun y s => (opAug oo x y s).bind fun u s => match mutSem .setIx (av.get s) [k, u] with
        | some (c', _) => match setC s av c' with
          | some s => .ok .next s
          | none => .stuck
        | none => .stuck
      | none => .stuck := by
    conv => lhs; unfold execS
    try rfl
  rw [e0] at q
  refine tR_mono (tX.bindX (fun σ => RA G σ) r q) fun ov H1 ⟨av, W1, s1, e1, r1, ra, k1⟩ => ?_
  refine tR_mono (tX.bindX (fun _ => RV G) r1 k1) fun iv H2 ⟨kk, W2, s2, e2, r2, rk, k2⟩ => ?_
  cases ex : opSem g .ix [av.get s2, kk] with
  | none => rw [ex] at k2; exact k2.elim
  | some x =>
  rw [ex] at k2
  simp only at k2
  by_cases hok : av.ok s2 = true
  · refine ⟨Wx, W2, s2, σ, [av.get s2, kk], x, r2, .cons (crep_of r2 (ra.ext e2) hok) (.cons (.inl rk) .nil), ex, ?_⟩
    intro W3 H3 z e3 r3 rz
    have k2 := tX.shift e3.toS k2
    refine tR_mono (tX.bindX (fun _ => RV G) r3 k2) fun y H4 ⟨uy, W4, s4, e4, r4, ry, k4⟩ => ?_
    refine ⟨Wx, W4, s4, σ, x, uy, r4, .inl (RepV.ext e4 rz), .inl ry, ?_⟩
    cases eo : opAug oo x uy s4 with
    | stuck => rw [eo] at k4; exact k4
    | exc x s' => rw [eo] at k4; exact fun W' H' cls d e' r' hx => k4 W' σ H' cls d e'.toS r' hx
    | ok w s5 =>
      rw [eo] at k4
      intro W5 H5 nv e5 r5 rn
      have k5 := tX.shift e5.toS k4
      simp only [Rs.bind] at k5
      cases em : mutSem .setIx (av.get s5) [kk, w] with
      | none => rw [em] at k5; exact k5.elim
      | some z =>
        obtain ⟨c', u0⟩ := z
        rw [em] at k5
        simp only at k5
        cases es : setC s5 av c' with
        | none => rw [es] at k5; exact k5.elim
        | some s6 =>
          rw [es] at k5
          exact ⟨W5, s5, σ, av, kk, w, c', u0, s6, r5, (((ra.ext e2).ext e3).ext e4).ext e5, RepV.ext e5 (RepV.ext e4 (RepV.ext e3 rk)), rn, em, es, fun H' r' e' => k5 W5 σ H' e'.toS r'⟩
  · exfalso
    cases av with
    | v u => exact hok rfl
    | own j =>
      have : (AV.own j).get s2 = .non := by
        show (match slot s2 j with | .own u => u | _ => U.non) = .non
        cases e : slot s2 j with
        | own u =>
          exact absurd (show (match slot s2 j with | .own _ => true | _ => false) = true by rw [e]) hok
        | no => rfl
        | val u => rfl
        | clo us => rfl
      rw [this] at ex
      cases ex
end
end MP
set_option maxRecDepth 100000
set_option maxHeartbeats 4000000
/-! R3h: name = [.. for ..]. -/
namespace MP
open PySem PySem.Spec PyProof.Rows L2
section
variable {C : SC} {G : Nms} {Wx : WX} {g : Gst} {X : Cx} {sc : Scope} {k : Nat} {pos : Pos}
theorem comp_parts (D : Full C G g k X sc Wx) {m : ME} {t : Tg} {kk : Nat} {its : List ME} {own : List Nat} {cond : Option ME} {elt : Expr} {gens : List Comprehension} {scope : Scope} {p : Pos} (h : chkE C (.comp m t kk its own cond) sc (.ListComp elt gens scope p) = true) :
    ∃ tg iter ifs, gens = [⟨tg, iter, ifs, 0⟩] ∧ PI X tg iter (tI G Wx g kk its) ∧ BlkOk X.N X.env.scope scope (ownP C own) ∧
      (∀ (s : Shared) (H : Hp) (C' : Addr) (cl : List (Str × Addr)) (fp : List Addr), PG (X.blk s H scope (compEnvC scope cl C' X.env) fp) tg (gT X.K t)) ∧
      (∀ (s : Shared) (H : Hp) (C' : Addr) (cl : List (Str × Addr)) (fp : List Addr), PTs (X.blk s H scope (compEnvC scope cl C' X.env) fp) ifs (tt G g cond)) ∧
      (∀ (s : Shared) (H : Hp) (C' : Addr) (cl : List (Str × Addr)) (fp : List Addr), PE (X.blk s H scope (compEnvC scope cl C' X.env) fp) elt (tE G WF g m)) ∧
      (∀ x, foldedSetIterable iter X.env x = pure x) ∧ ∀ j ∈ asgT t, j ∈ own := by
  simp only [chkE] at h
  split at h
  · rename_i tg iter ifs as
    simp only [Bool.and_eq_true, decide_eq_true_eq] at h
    obtain ⟨⟨⟨⟨⟨⟨h1, h2⟩, h3⟩, h4⟩, h5⟩, h6⟩, h7⟩ := h
    subst h1
    cases hi : itArgs sc kk tg iter with
    | none => rw [hi] at h4; cases h4
    | some es =>
    rw [hi] at h4
    simp only [Bool.and_eq_true] at h4
    have ih := sEs its es D h4.2
    obtain ⟨pi, hset⟩ := pi_walk (tg := tg) D.good hi (SE.px ih)
    have nd : X.N.Nodup := by rw [D.good.N]; exact D.good.s0.nd
    have F : ∀ (s : Shared) (H : Hp) (C' : Addr) (cl : List (Str × Addr)) (fp : List Addr), Full C.noCv G g k (X.blk s H scope (compEnvC scope cl C' X.env) fp) (relS scope sc) WF := fun s H C' cl fp => D.blk s H scope C' cl fp
    refine ⟨tg, iter, ifs, rfl, pi, by rw [D.good.N, D.good.scp]; exact blkOk_by h5, fun s H C' cl fp => ?_, fun s H C' cl fp => sO cond ifs (F s H C' cl fp) h6, fun s H C' cl fp => (sE m elt (F s H C' cl fp) h7).1, hset, fun j hj => by simpa using List.all_eq_true.mp h3 j hj⟩
    have Fx := F s H C' cl fp
    refine pg_T (X := X.blk s H scope (compEnvC scope cl C' X.env) fp) (lo := loB scope) Fx.good.calm nd (fun x hx => ?_) t tg (by show chkT X.N _ _ _ = true; rw [D.good.N]; exact h2)
    have hrel : (X.blk s H scope (compEnvC scope cl C' X.env) fp).env.scope = relS scope X.env.scope := rfl
    rw [hrel]
    rcases loB_ok hx with q | q
    · have := lookup_relS_keep (sc := X.env.scope) (by simp) q
      exact ⟨.inl this, .inr this⟩
    · have := lookup_relS_keep (sc := X.env.scope) (by simp) q
      exact ⟨.inr this, .inl (by show (scope.names.lookup x == some .cell) = true; rw [q]; rfl)⟩
  · cases h
/-- is it stored within the comprehension? -/
def lcIn (sc : Scope) (y : Str) (py : Pos) (scope : Scope) (pos : Pos) : Bool := decide (sc.names.lookup y = some .local) && (py.line == pos.line) && !(scope.names.any fun (n, k) => n == y && (k == .local || k == .cell))
theorem sw_out {env : Env} {y : Str} {py p : Pos} {elt : Expr} {gens : List Comprehension} {scope : Scope} {l : Nat} (hk : env.scope.kind = .function) (h : lcIn env.scope y py scope p = false) : swapsWith (.ListComp elt gens scope p) (some (.Name y py)) l env = pure false := by
  have hb : env.blockKind = .function := by unfold Env.blockKind; rw [hk]; rfl
  have e : (env.blockKind == .function && env.kindOf y == some .local && py.line == (Expr.ListComp elt gens scope p).pos.line && !(scope.names.any fun (n, k) => n == y && (k == .local || k == .cell))) = false := by
    rw [hb]
    have e2 : (env.kindOf y == some .local) = decide (env.scope.names.lookup y = some .local) := by
      unfold Env.kindOf
      cases env.scope.names.lookup y with
      | none => rfl
      | some k => cases k <;> rfl
    rw [e2]
    have e3 : ((ScopeKind.function == ScopeKind.function) && decide (env.scope.names.lookup y = some .local)) = decide (env.scope.names.lookup y = some .local) := by
      rw [show (ScopeKind.function == ScopeKind.function) = true from rfl, Bool.true_and]
    rw [e3]
    exact h
  unfold swapsWith
  simp only
  exact congrArg pure e
theorem ss_setLc (D : Full C G g k X sc Wx) (hk : sc.kind = .function) {y : Str} {py p spos : Pos} {i : Nat} {m : ME} {t : Tg} {kk : Nat} {its : List ME} {own : List Nat} {cond : Option ME} {elt : Expr} {gens : List Comprehension} {scope : Scope}
    (hy : X.N[i]? = some y) (hin : lcIn sc y py scope p = true) (h : chkE C (.comp m t kk its own cond) sc (.ListComp elt gens scope p) = true) :
    PS X (.Assign [.Name y py] (.ListComp elt gens scope p) spos) (tS G Wx g (.set (.one i) (.comp m t kk its own cond))) := by
  obtain ⟨tg, iter, ifs, rfl, pi, blk, pg, pts, pe, hset, hasg⟩ := comp_parts D h
  have nd : X.N.Nodup := by rw [D.good.N]; exact D.good.s0.nd
  simp only [lcIn, Bool.and_eq_true, decide_eq_true_eq, Bool.not_eq_true'] at hin
  have hyl : X.env.scope.names.lookup y = some .local := by rw [D.good.scp]; exact hin.1.1
  have hkk : X.env.scope.kind = .function := by rw [D.good.scp]; exact hk
  have ps := ps_setLc (i := i) (spos := spos) D.good.calm nd hy hyl (sw_true hkk hyl hin.1.2 hin.2) pi blk pg pts pe hset
  rw [ownP_snd] at ps
  refine PSi ps fun D' σ H ⟨W, s, r, q⟩ => ?_
  have e0 : execS g (.set (.one i) (.comp m t kk its own cond)) s = (evalE g (.comp m t kk its own cond) s).bind fun u s => .ok .next (s.put i (.val u)) := by
    conv => lhs; unfold execS
    try rfl
  rw [e0] at q
  refine comp_tLc D.good.of.K hasg (.inl ?_)
  refine tR_mono (tX.bindE (fun _ => RV G) r q) fun v H1 ⟨u, W1, s1, r1, ra, k1⟩ => ?_
  exact k1 W1 (σ.set i (some v)) H1 (by simpa only [asgS, asgT] using (bind_ExS (t := .one i) (u := u) (s := s1) (s1 := s1.put i (.val u)) (by simp only [bindT]) (fun j hj => by
    simp only [asgT, List.mem_singleton] at hj
    rw [List.getElem?_set_ne (fun q => hj q.symm)]) (fun a ha => ownd_set r1 ha) : ExS (asgT (.one i)) s1 _ σ _ W1 W1 H1 H1)) (r1.set i ra)
end
end MP
set_option maxRecDepth 100000
set_option maxHeartbeats 4000000
/-! R3i: raise X('..'). -/
namespace MP
open PySem PySem.Spec PyProof.Rows L2
/-- an own exception's class, as raise asks for it -/
def RaiseOk (G : Nms) (K : PySem.W.Frag) (mg : Str → Option Value) (x : Str) (c : Nat) : Prop := ∃ (bmB : List Value) (B newId initId : String), ExcBaseFacts B newId initId bmB ∧ PySem.W.excIn K (G.cA c) bmB newId = true ∧ mg x = some (.ref (G.cA c)) ∧ PySem.W.keepIn K (.ref (G.cA c)) = true ∧
  PySem.W.subIn K (.ref (G.cA c)) (.type "BaseException") = some true ∧ PySem.W.typeIn K (.ref (G.cA c)) = some (.type "type")
theorem pmk_own0 {X : Cx} {C : Addr} {bmB : List Value} {B newId initId : String} {x : Str} {p pos : Pos} (F : ExcBaseFacts B newId initId bmB) (q : PySem.W.excIn X.K C bmB newId = true) (gC : X.mg x = some (.ref C)) (kC : PySem.W.keepIn X.K (.ref C) = true) (r : Raises X (.ref C)) (hg : Gl X x)
    (hdb : (x == ("__debug__" : Str)) = false := by decide) : PMk X (.Call (.Name x p) [] [] pos) (fun _ H Q => Q (.ref C) none H) := by
  intro pins s σ H Q I h
  refine wpAny_Call_Name_kw (ld_glob I hg gC ?_ hdb)
  refine PySem.W.callWith_K0 I.kIn kC ?_
  obtain ⟨bm, N, nm, qn, bs, hdct, sn, sub, ab, col, dd, k0, k1, k2, k3, k5, mN, hC, hN, hni, T⟩ := exc_obj I.kIn q
  refine wpAny_call_exc_subT F T hC hN hni (fun h' e hm => ?_) (by show 0 ≤ sizeLine; rw [sizeLine_eq]; omega)
  exact mk_of I hm r h (I.hok.gone hm.new)
section
variable {C : SC} {G : Nms} {Wx : WX} {g : Gst} {X : Cx} {pos p p2 p3 : Pos} {sc : Scope}
theorem ss_raise (D : Good C G g X sc) {x m : Str} {j c : Nat} (tk : Takes X Wx) (hx : glB sc x = true) (hr : RaiseOk G X.K X.mg x c) : PS X (.Raise (some (.Call (.Name x p) [.Constant (.str m) j p2] [] p3)) none pos) (tS G Wx g (.raise c [])) := by
  obtain ⟨bmB, B, newId, initId, F, q, gC, kC, h1, h2⟩ := hr
  obtain ⟨g1, g2⟩ := glB_gl D hx
  refine PSi (ps_raise D.calm tk (pmk_own F q gC kC (raises_own h1 h2) g1 g2)) fun D' σ H ⟨W, s, r, k⟩ => ?_
  have e0 : execS g (.raise c []) s = (evalEs g [] s).bind fun us s => .exc (.exc c us) s := by conv => lhs; unfold execS
  rw [e0] at k
  have e1 : evalEs g [] s = .ok [] s := by unfold evalEs; rfl
  rw [e1] at k
  exact k W σ H (.ref (G.cA c)) none .refl r ⟨c, rfl, rfl, rfl⟩
theorem ss_raise0 (D : Good C G g X sc) {x : Str} {c : Nat} (tk : Takes X Wx) (hx : glB sc x = true) (hr : RaiseOk G X.K X.mg x c) : PS X (.Raise (some (.Call (.Name x p) [] [] p3)) none pos) (tS G Wx g (.raise c [])) := by
  obtain ⟨bmB, B, newId, initId, F, q, gC, kC, h1, h2⟩ := hr
  obtain ⟨g1, g2⟩ := glB_gl D hx
  refine PSi (ps_raise D.calm tk (pmk_own0 F q gC kC (raises_own h1 h2) g1 g2)) fun D' σ H ⟨W, s, r, k⟩ => ?_
  have e0 : execS g (.raise c []) s = (evalEs g [] s).bind fun us s => .exc (.exc c us) s := by conv => lhs; unfold execS
  rw [e0] at k
  have e1 : evalEs g [] s = .ok [] s := by unfold evalEs; rfl
  rw [e1] at k
  exact k W σ H (.ref (G.cA c)) none .refl r ⟨c, rfl, rfl, rfl⟩
end
end MP
set_option maxRecDepth 100000
set_option maxHeartbeats 4000000
/-! R3l: x op= e, x a value or a list of its own. -/
namespace MP
open PySem PySem.Spec PyProof.Rows L2
section
variable {C : SC} {G : Nms} {Wx : WX} {g : Gst} {X : Cx} {A B : List Nat} {D : Ends} {s s1 s2 : Sta} {σ σ1 σ2 : L2.St} {W W1 W2 : Wd} {H H1 H2 : Hp} {pos : Pos}
theorem arg_of_E {m : ME} {u : U} (h : evalE g m s = .ok u s1) : argOf (fun s => evalE g m s) m s = .ok (.v u) s1 := by
  unfold argOf
  cases eo : isOwn s m with
  | none => simp only [h, Rs.bind]
  | some i =>
    exfalso
    unfold isOwn at eo
    split at eo
    · split at eo
      · rename_i he
        unfold evalE at h
        simp only [he] at h
        cases h
      · cases eo
    · cases eo
theorem arg_of_Ex {m : ME} {x : U} (h : evalE g m s = .exc x s1) : argOf (fun s => evalE g m s) m s = .exc x s1 := by
  unfold argOf
  cases eo : isOwn s m with
  | none => simp only [h, Rs.bind]
  | some i =>
    exfalso
    unfold isOwn at eo
    split at eo
    · split at eo
      · rename_i he
        unfold evalE at h
        simp only [he] at h
        cases h
      · cases eo
    · cases eo
def rAugA (G : Nms) (o : Opr) : R2 := fun x y H Q => rAug G o x y H Q ∨ (o = .add ∧ rExt2 x y H Q)
theorem pip_A {o : Opr} {op : Operator} (ho : augOp o = some op) : OpR X (inplaceOp op) (rAugA G o) := by
  intro pins s σ H x y v u Q I rx ry h
  rcases h with h | ⟨rfl, h⟩
  · exact pip_U ho pins s σ H x y v u Q I rx ry h
  · cases ho
    exact iop_ext pins s σ H x y v u Q I rx ry h
theorem ss_augA {x : Str} {p : Pos} {e : Expr} {i : Nat} {o : Opr} {op : Operator} {m : ME} (nd : X.N.Nodup) (hN : X.N[i]? = some x) (hx : Loc X.env.scope x) (hf : X.fn x = true ∨ X.env.scope.names.lookup x = some .local) (ho : augOp o = some op) (he : PE X e (tArg G Wx g m)) :
    PS X (.AugAssign (.Name x p) op e pos) (tS G Wx g (.aug i o m)) :=
  PSi (ps_aug nd hN hx he (pip_A (G := G) ho) hf) fun D σ H ⟨W, s, r, q⟩ => by
    cases hs : slot s i with
    | no =>
      have e0 : execS g (.aug i o m) s = .stuck := by
        conv => lhs; unfold execS
        rw [hs]
      rw [e0] at q
      exact q.elim
    | clo us =>
      have e0 : execS g (.aug i o m) s = .stuck := by
        conv => lhs; unfold execS
        rw [hs]
      rw [e0] at q
      exact q.elim
    | val u =>
      have e0 : execS g (.aug i o m) s = (evalE g m s).bind fun y s => (opAug o u y s).bind fun u s => .ok .next (s.put i (.val u)) := by
        conv => lhs; unfold execS
        rw [hs]
      rw [e0] at q
      obtain ⟨v, hv, rv⟩ := r.valAt hs
      refine ⟨v, hv, W, s, r, ?_⟩
      cases ev : evalE g m s with
      | stuck => rw [ev] at q; exact q.elim
      | exc z s' =>
        rw [ev] at q
        rw [arg_of_Ex ev]
        exact fun W' H' cls d e' r' hx => q W' σ H' cls d e'.toS r' hx
      | ok uy s1 =>
        rw [ev] at q
        rw [arg_of_E ev]
        intro W1 H1 y e1 r1 ry
        have k1 := tX.shift e1.toS q
        have ry : RepV G W1 H1 uy y := ry
        refine .inl ⟨Wx, W1, s1, σ, u, uy, r1, .inl (RepV.ext e1 rv), .inl ry, ?_⟩
        simp only [Rs.bind] at k1
        cases eo : opAug o u uy s1 with
        | stuck => rw [eo] at k1; exact k1
        | exc x s' => rw [eo] at k1; exact fun W' H' cls d e' r' hx => k1 W' σ H' cls d e'.toS r' hx
        | ok w s2 =>
          rw [eo] at k1
          intro W' H' z e' r' rz
          have k2 := tX.shift e'.toS k1
          exact k2 W' (σ.set i (some z)) H' (by simpa only [asgS, asgT] using (bind_ExS (t := .one i) (u := w) (s := s2) (s1 := s2.put i (.val w)) (by simp only [bindT]) (fun j hj => by
            simp only [asgT, List.mem_singleton] at hj
            rw [List.getElem?_set_ne (fun q => hj q.symm)]) (fun a ha => ownd_set r' ha) : ExS (asgT (.one i)) s2 _ σ _ W' W' H' H')) (r'.set i rz)
    | own u =>
      by_cases hadd : o = .add
      · subst hadd
        have e0 : execS g (.aug i .add m) s = (argOf (fun s => evalE g m s) m s).bind fun av s => if av.ok s then (mutF .extend (.own i) [av.get s] s).bind fun _ s => .ok .next s else .stuck := by
          conv => lhs; unfold execS
          rw [hs]
          rfl
        rw [e0] at q
        obtain ⟨hsl, p0, hp0, _⟩ := r.ownAt hs
        refine ⟨_, hp0, ?_⟩
        refine tR_mono (tX.bindX (fun σ => RA G σ) r q) fun y H1 ⟨av, W1, s1, e1, r1, ra, k1⟩ => ?_
        by_cases hok : av.ok s1 = true
        · rw [if_pos hok] at k1
          unfold mutF at k1
          cases em : mutSem .extend ((AV.own i).get s1) [av.get s1] with
          | none => rw [em] at k1; exact k1.elim
          | some z =>
            obtain ⟨c', u0⟩ := z
            rw [em] at k1
            simp only at k1
            cases es : setC s1 (.own i) c' with
            | none => rw [es] at k1; exact k1.elim
            | some s2 =>
              rw [es] at k1
              have k1 : tX G Wx (asgS (.aug i .add m)) D (.ok .next s2) W1 s1 σ H1 := k1
              obtain ⟨p, hp, hf, c, done⟩ := mut_at r1 (av := .own i) (v := V.ref p0) hp0 es (mut_some em)
              cases hp
              have cr := crep_of r1 ra hok
              change muExtend ((AV.own i).get s1) [av.get s1] = some (c', u0) at em
              unfold muExtend at em
              split at em
              · rename_i xs ys eq1 eq2
                simp only [List.cons.injEq, and_true] at eq2
                rw [eq1] at c
                rw [eq2] at cr
                split at em
                · rename_i hl
                  cases em
                  obtain ⟨vs, h1, h2⟩ := cont_lst c
                  obtain ⟨b, ws, rfl, h3, h4⟩ := cr.lst
                  obtain ⟨kp, cc⟩ := lst_put hf c (h2.append h4)
                  obtain ⟨d1, d2⟩ := done _ kp cc
                  refine .inr ⟨rfl, p0, b, vs, ws, rfl, rfl, h1, h3, by rw [← RepVs.length h2, ← RepVs.length h4]; exact le_line hl, ?_⟩
                  have same : σ.set i (some (V.ref p0)) = σ := by
                    apply List.ext_getElem?
                    intro j
                    rw [List.getElem?_set]
                    split
                    · rename_i e; subst e
                      rw [if_pos (List.getElem?_eq_some_iff.mp hp0).1, hp0]
                    · rfl
                  show D.nx (σ.set i (some (V.ref p0))) _
                  rw [same]
                  exact k1 W1 σ _ d2.toS d1
                · cases em
              · cases em
        · rw [if_neg hok] at k1; exact (show False from k1).elim
      · have e0 : execS g (.aug i o m) s = .stuck := by
          conv => lhs; unfold execS
          rw [hs]
          simp [hadd]
        rw [e0] at q
        exact q.elim
end
end MP
set_option maxRecDepth 100000
set_option maxHeartbeats 4000000
/-! R3m: x, y = a, b. -/
namespace MP
open PySem PySem.Spec PyProof.Rows L2
def locB (sc : Scope) (x : Str) : Bool := decide (sc.names.lookup x = some .local)
/-- two names on one line, two values that are no constants -/
def parB (C : SC) (sc : Scope) (i j : Nat) : Expr → Expr → Bool
  | .Tuple [.Name x px, .Name y py] _ _, .Tuple [a, b] _ _ => decide (C.N[i]? = some x) && decide (C.N[j]? = some y) && decide (i ≠ j) && !(x == y) && locB sc x && locB sc y && decide (px.line = py.line) &&
      notStar a && notStar b && !(foldedForSure 8 a && foldedForSure 8 b) && !(constantsAlone 8 a && constantsAlone 8 b)
  | _, _ => false
section
variable {C : SC} {G : Nms} {Wx : WX} {g : Gst} {X : Cx} {A B : List Nat} {D : Ends} {s s1 s2 : Sta} {σ σ1 σ2 : L2.St} {W W1 W2 : Wd} {H H1 H2 : Hp} {pos : Pos} {sc : Scope}
theorem swap_two {x y : Str} {px py pt : Pos} {kt k2 pt2} {a b : Expr} {env : Env} (hk : env.scope.kind = .function) (lx : env.scope.names.lookup x = some .local) (ly : env.scope.names.lookup y = some .local) (hxy : (x == y) = false) (hl : px.line = py.line)
    (sa : notStar a = true) (sb : notStar b = true) (hf : (foldedForSure 8 a && foldedForSure 8 b) = false) (hc : (constantsAlone 8 a && constantsAlone 8 b) = false) :
    swappedStores [.Tuple [.Name x px, .Name y py] kt pt] (.Tuple [a, b] k2 pt2) env = pure (some [x, y]) := by
  have hb : env.blockKind = .function := by unfold Env.blockKind; rw [hk]; rfl
  have kx : (env.kindOf x == some .local) = true := by unfold Env.kindOf; rw [lx]; rfl
  have ky : (env.kindOf y == some .local) = true := by unfold Env.kindOf; rw [ly]; rfl
  have e1 : ([a, b].any fun | .Starred .. => true | _ => false) = false := by
    clear hf hc
    cases a <;> first | (cases sa; done) | (cases b <;> first | rfl | cases sb)
  have e2 : ([x, y].eraseDups.length != 2) = false := by
    have hyx : (y == x) = false := by
      cases q : (y == x) with
      | false => rfl
      | true => rw [beq_iff_eq] at q; subst q; rw [beq_self_eq_true] at hxy; cases hxy
    rw [List.eraseDups_cons, List.filter_cons, hyx]
    rfl
  have e3 : [a, b].all (foldedForSure 8) = false := by simpa using hf
  have e4 : [a, b].all (constantsAlone 8) = false := by simpa using hc
  have e5 : ([Expr.Name x px, Expr.Name y py].filterMap fun | .Name id pos => if env.kindOf id == some .local && pos.line == ([Expr.Name x px, Expr.Name y py].head?.map (·.pos.line)).getD 0 then some id else none | _ => none) = [x, y] := by
    have e6 : ([Expr.Name x px, Expr.Name y py].head?.map (·.pos.line)).getD 0 = px.line := rfl
    simp only [List.filterMap_cons, List.filterMap_nil, e6, kx, ky, hl, beq_self_eq_true, Bool.and_self, if_true]
  have e7 : ∀ l : List Str, l = [x, y] → (l.length != 2 || l.eraseDups.length != l.length) = false := fun l h => by
    subst h
    simp only [List.length_cons, List.length_nil]
    rw [e2]
    rfl
  unfold swappedStores
  simp only [hb, List.length_cons, List.length_nil]
  refine (if_neg (by decide)).trans ((if_neg (Bool.eq_false_iff.mp e1)).trans ((if_neg (Bool.eq_false_iff.mp (e7 _ e5))).trans ((if_neg (Bool.eq_false_iff.mp e3)).trans ((if_neg (Bool.eq_false_iff.mp e4)).trans ?_))))
  exact congrArg (fun l => pure (some l)) e5
theorem ss_par {x y : Str} {px py pt : Pos} {kt k2 pt2} {a b : Expr} {i j : Nat} {ma mb : ME} (hc : X.calm = true) (nd : X.N.Nodup) (hi : X.N[i]? = some x) (hj : X.N[j]? = some y) (hij : i ≠ j) (lx : X.env.scope.names.lookup x = some .local) (ly : X.env.scope.names.lookup y = some .local)
    (hab : PA X [a, b] (tEs G Wx g [ma, mb])) (hw : swappedStores [.Tuple [.Name x px, .Name y py] kt pt] (.Tuple [a, b] k2 pt2) X.env = pure (some [x, y])) :
    PS X (.Assign [.Tuple [.Name x px, .Name y py] kt pt] (.Tuple [a, b] k2 pt2) pos) (tS G Wx g (.par i j ma mb)) :=
  PSi (ps_par hc nd hi hj hij lx ly hab hw) fun D σ H ⟨W, s, r, q⟩ => by
    have e0 : execS g (.par i j ma mb) s = (evalEs g [ma, mb] s).bind fun us s => .ok .next ((s.put j (.val (us.getD 1 .non))).put i (.val (us.getD 0 .non))) := by
      conv => lhs; unfold execS
      simp only [evalEs]
      cases evalE g ma s with
      | stuck => rfl
      | exc e s => rfl
      | ok u s =>
        simp only [Rs.bind]
        cases evalE g mb s with
        | stuck => rfl
        | exc e s => rfl
        | ok u s => rfl
    rw [e0] at q
    have ln : ∀ us s', evalEs g [ma, mb] s = .ok us s' → us.length = 2 := fun us s' h => by
      simp only [evalEs] at h
      cases ea : evalE g ma s with
      | stuck => rw [ea] at h; cases h
      | exc e s => rw [ea] at h; cases h
      | ok u s =>
        rw [ea] at h
        simp only [Rs.bind] at h
        cases eb : evalE g mb s with
        | stuck => rw [eb] at h; cases h
        | exc e s => rw [eb] at h; cases h
        | ok u s => rw [eb] at h; cases h; rfl
    refine ⟨W, s, r, ?_⟩
    cases ee : evalEs g [ma, mb] s with
    | stuck => rw [ee] at q; exact q
    | exc e s' => rw [ee] at q; exact fun W' H' cls d e' r' hx => q W' σ H' cls d e'.toS r' hx
    | ok us s' =>
      rw [ee] at q
      have l2 := ln us s' ee
      obtain ⟨u1, u2, rfl⟩ : ∃ u1 u2, us = [u1, u2] := by
        match us, l2 with
        | [a, b], _ => exact ⟨a, b, rfl⟩
      intro W' H' vs e' r' hv
      simp only [Rs.bind, List.getD_cons_zero, List.getD_cons_succ] at q
      have hv : RepVs G W' H' [u1, u2] vs := hv
      simp only [RepVs] at hv
      obtain ⟨v1, r1, rfl, h1, v2, r2, rfl, h2, rfl⟩ := hv
      refine ⟨v1, v2, rfl, ?_⟩
      have k := tX.shift e'.toS q
      have c1 : (s'.put j (.val u2)).put i (.val u1) = (s'.put i (.val u1)).put j (.val u2) := by
        unfold Sta.put
        simp only
        rw [List.set_comm _ _ (fun z => hij z.symm)]
      rw [c1] at k
      have x1 : ExS (asgS (.par i j ma mb)) s' (s'.put i (.val u1)) σ (σ.set i (some v1)) W' W' H' H' := ExS.sub (bind_ExS (t := .one i) (u := u1) (s := s') (s1 := s'.put i (.val u1)) (by simp only [bindT]) (fun l hl => by
        simp only [asgT, List.mem_singleton] at hl
        rw [List.getElem?_set_ne (fun z => hl z.symm)]) fun a ha => ownd_set r' ha) (by intro l hl; simp only [asgT, asgS, List.mem_singleton, List.mem_cons, List.not_mem_nil, or_false] at hl ⊢; exact .inl hl)
      have rr := r'.set i h1
      have x2 : ExS (asgS (.par i j ma mb)) (s'.put i (.val u1)) ((s'.put i (.val u1)).put j (.val u2)) (σ.set i (some v1)) ((σ.set i (some v1)).set j (some v2)) W' W' H' H' := ExS.sub (bind_ExS (t := .one j) (u := u2) (s := s'.put i (.val u1)) (s1 := (s'.put i (.val u1)).put j (.val u2)) (by simp only [bindT]) (fun l hl => by
        simp only [asgT, List.mem_singleton] at hl
        rw [List.getElem?_set_ne (fun z => hl z.symm)]) fun a ha => ownd_set rr ha) (by intro l hl; simp only [asgT, asgS, List.mem_singleton, List.mem_cons, List.not_mem_nil, or_false] at hl ⊢; exact .inr hl)
      exact k W' _ H' (x1.trans x2) (rr.set j h2)
end
end MP
set_option maxRecDepth 100000
set_option maxHeartbeats 4000000
/-! R3n: try: .. except C as n: y = n: the exception is kept. -/
namespace MP
open PySem PySem.Spec PyProof.Rows L2
section
variable {X : Cx} {pins : List (Addr × Obj)} {σ : L2.St} {H : Hp} {s : Shared}
/-- an object that is not tracked is tracked -/
theorem track {a : Addr} {ho : HO} (I : Inv X pins σ H s) (na : H a = none) (nL : a ≠ X.env.locals) (nP : ∀ p ∈ X.pn ++ pins, p.1 ≠ a) (nC : ∀ x c, X.env.cells.lookup x = some c → c ≠ a) (nS : ∀ o, X.s_0.heap.get? a = some o → a ∈ X.ex)
    (hO : ObjOk X.prog X.w (upd H a ho) s.heap a ho) : Inv X pins σ (upd H a ho) s := by
  have other : ∀ b o, H b = some o → upd H a ho b = some o := fun b o e => by
    rw [upd_ne (fun z => by rw [z, na] at e; cases e)]; exact e
  refine ⟨I.ok, I.os, I.bare, ⟨I.base.keep, I.base.slot, ?_, I.base.there, ?_, ?_, ?_⟩, I.loc, I.cell, ?_, ?_, ?_, ?_, I.len⟩
  · intro b o e n hx
    rw [upd_ne (fun z => hx (by rw [z]; exact nS o (by rw [← z]; exact e)))]
    exact I.base.free b o e n hx
  · exact fun b xs e => other _ _ (I.base.tups b xs e)
  · exact fun b o u e => other _ _ (I.base.frzs b o u e)
  · exact fun b ps e => let ⟨more, q⟩ := I.base.tbls b ps e; ⟨more, other _ _ q⟩
  · rw [upd_ne (fun z => nL z.symm)]; exact I.free
  · exact fun x c e => by rw [upd_ne (nC x c e)]; exact I.freeC x c e
  · intro p hp
    obtain ⟨q1, q2, q3⟩ := I.pin p hp
    exact ⟨q1, by rw [upd_ne (nP p hp)]; exact q2, q3⟩
  · intro b ob e
    by_cases hb : b = a
    · subst hb
      rw [upd_same] at e
      cases e
      exact hO
    · rw [upd_ne hb] at e
      exact (I.hok b ob e).stay (fun _ _ _ q => q) (fun c hc => other _ _ hc) fun c xs hc => other _ _ hc
theorem excO_ok {P : Program} {w : World} {K : Hp} {h : Heap} {a : Addr} {cls : Value} {d : Option Addr} {oe : Obj} {vs : Array Value} (e : h.get? a = some oe) (hz : Zc cls d oe) (hd : oe.data = .fields vs) : ObjOk P w K h a (ExcO cls d a) :=
  ⟨⟨oe, vs, e, hz, hd⟩, ⟨oe, e⟩, fun h1 h2 ⟨o, ws, e1, z1, d1⟩ k => ⟨o, ws, k o e1, z1, d1⟩⟩
end
/-- what the clause wishes: slot i is the clause's name, j the name that keeps -/
def wKeep (K : PySem.W.Frag) (c : Value) (i j : Nat) (Wout : WX) (D : Ends) : WX := fun cls d σ H =>
  ∃ b, PySem.W.exmOne K cls c = some b ∧ (b = true → ∀ a, H a = none → D.nx ((σ.set j (some (.ref a))).set i none) (upd H a (ExcO cls d a))) ∧ (b = false → Wout cls d σ H)
section
variable {X : Cx} {x n y : Str} {c : Value} {i j : Nat} {body : List Stmt} {np p1 p2 p3 pos pos' : Pos} {tb : WX → TS} {Wout : WX}
theorem ground_none {B : Heap} {l : List Env} {a L : Addr} {Z : Obj → Prop} {h : Heap} (k : Sky B l a Z L h) : B.get? a = none := by
  rcases k with k | k | k
  · exact k.2.1
  · exact k.2.1
  · exact k.2.1
theorem ps_keep (hs : X.stack = X.env :: X.outer) (hf : X.env.frame = some X.env.locals) (hN : X.N.Nodup) (hi : X.N[i]? = some n) (hj : X.N[j]? = some y) (hij : i ≠ j) (ln : X.env.kindOf n = some .local) (ly : X.env.kindOf y = some .local)
    (d1 : (n == ("__debug__" : Str)) = false) (d2 : (n == ("__classdict__" : Str)) = false) (hc : Names X x c) (tk : Takes X Wout)
    (hb : ∀ (W : WX) (pn : List (Addr × Obj)) (xe : Value → Shared → Prop), Takes (X.tr pn xe) W → PassesOwn (model X.prog X.w) X.A X.env xe → PSs (X.tr pn xe) body (tb W)) :
    PS X (.Try body [.ExceptHandler (some (.Name x np)) (some n) [.Assign [.Name y p1] (.Name n p2) p3] pos'] [] [] pos) (fun D σ H => tb (wKeep X.K c i j Wout D) D σ H) := by
  constructor
  intro pins s σ H D I hwish
  have hok := I.ok
  have fr0 : X.A.frames = some (X.env :: X.outer) := by rw [hok.frames, hs]
  apply wpAny_Try_except
  have body_run := (hb (wKeep X.K c i j Wout D) (X.pn ++ pins) (fun v t => wpAny (model X.prog X.w) X.A (noteFrame v X.env)
      (fun _ t2 => wpAny (model X.prog X.w) X.A (setFlight v none)
        (fun _ t3 => wpAny (model X.prog X.w) X.A (handleBy v X.env [.ExceptHandler (some (.Name x np)) (some n) [.Assign [.Name y p1] (.Name n p2) p3] pos']) (SP X pins D) X.xe t3) X.xe t2) X.xe t)
    (fun v t caught => ?_) PassesOwn.looking).run [] s σ H D (I.toTry _) hwish
  · refine wpAny_mono body_run (fun f t q => ?_) (fun _ _ q => q)
    cases f <;> simp only [SP] at q ⊢
    · obtain ⟨σ1, H1, I1, q1⟩ := q
      exact wpAny_execs_nil ⟨σ1, H1, I1.ofTry hok, q1⟩
    · obtain ⟨σ1, H1, I1, q1⟩ := q
      exact ⟨σ1, H1, I1.ofTry hok, q1⟩
    · obtain ⟨σ1, H1, I1, q1⟩ := q
      exact ⟨σ1, H1, I1.ofTry hok, q1⟩
    · obtain ⟨z, σ1, H1, I1, r1, q1⟩ := q
      exact ⟨z, σ1, H1, I1.ofTry hok, r1, q1⟩
  · obtain ⟨a, B, t0, pins0, σ1, H1, cls, d, ev, J0, gr, up, sky, na, eos, eag, b, hexm, wyes, wno⟩ := caught
    subst ev
    have J : Inv X pins σ1 H1 t0 := J0.ofTry hok
    have gr : ∀ b o, t0.heap.get? b = some o → b ∉ frs X.stack → B.get? b = some o := gr
    have sky1 : Sky B (X.env :: X.outer) a (Zc cls d) X.env.locals t.heap := by rw [← hs]; exact sky
    have hB := ground_none sky1
    refine Sky.land Zc.steady fr0 hf sky1 ?_
    intro h3 fl up3
    have J3 : Inv X pins σ1 H1 { t with heap := h3 } := J.landed gr fl.1 (up.trans up3) eos eag
    obtain ⟨o3, vs3, g3, z3, k3⟩ := fl.there
    have notFrame : a ∉ frs (X.env :: X.outer) := fun hm => by
      obtain ⟨_, o', g', nd'⟩ := fl.2.2.1.mem hm
      rw [g3] at g'
      cases g'
      exact nd' _ k3
    have aL : a ≠ X.env.locals := fun z => notFrame (List.mem_filterMap.mpr ⟨X.env, by simp, by rw [hf, z]⟩)
    have aF : a ∉ X.fs := fun hm => by
      obtain ⟨e1, m1, m2⟩ := List.mem_filterMap.mp hm
      exact notFrame (List.mem_filterMap.mpr ⟨e1, by simp [m1], m2⟩)
    have absent : t0.heap.get? a = none := by
      cases q : t0.heap.get? a with
      | none => rfl
      | some o =>
        have := gr a o q (by rw [hs]; exact notFrame)
        rw [hB] at this
        cases this
    have aP : ∀ p ∈ X.pn ++ pins, p.1 ≠ a := fun p hp z => by
      have := (J.pin p hp).1
      rw [z, absent] at this
      cases this
    have aC : ∀ x c, X.env.cells.lookup x = some c → c ≠ a := fun x c e z => by
      obtain ⟨v, hv⟩ := J.cell x c e
      obtain ⟨o, ho, _⟩ := hv
      rw [z, absent] at ho
      cases ho
    have aS : ∀ o, X.s_0.heap.get? a = some o → a ∈ X.ex := fun o e => by
      by_cases hx : a ∈ X.ex
      · exact hx
      · obtain ⟨o', e'⟩ := J.base.there a o e hx
        rw [absent] at e'
        cases e'
    have J3s := J3.suite g3 k3 na aL aF
    apply wpAny_handleBy_cons (codeAny_handlers_test ?_) (by intro q; cases q)
    have clsOf : PySem.W.Looks (model X.prog X.w) h3 (typeOf (.ref a)) cls := fun A Q E s k q => wpAny_typeOf_ref (k _ _ g3) (by rw [z3.1]; exact q)
    have isIt := PySem.W.exm_one (M := model X.prog X.w) J3.kIn clsOf hexm
    have evTest : ∀ {Q : Value → Shared → Prop} {E : Value → Shared → Prop}, Q c { t with heap := h3 } → wpAny (model X.prog X.w) (X.A.mark (some (.ref a))) (eval (.Name x np) X.env) Q E { t with heap := h3 } := by
      intro Q E q
      obtain ⟨hg, hd, hm | ⟨hm, hv, hn⟩⟩ := hc
      · exact ld_glob (X := X.suite a ((a, o3) :: (X.pn ++ pins))) J3s hg hm q hd
      · exact ld_blt (X := X.suite a ((a, o3) :: (X.pn ++ pins))) J3s hg hm hv q hn hd
    apply evTest
    apply isIt.here
    cases b with
    | true =>
      apply codeAny_handlers_suite_as
      refine HandSPX.lands_againZ fl (fun h4 fl4 up4 => ?_)
      have J4 : Inv X pins σ1 H1 { t with heap := h4 } := J.landed gr fl4.1 ((up.trans up3).trans up4) eos eag
      obtain ⟨o4, vs4, g4, z4, k4⟩ := fl4.there
      have J4s := J4.suite g4 k4 na aL aF
      have suite : PSs (X.suite a ((a, o4) :: (X.pn ++ pins))) [.Assign [.Name y p1] (.Name n p2) p3] (tSeq (tAsg (tVar i) (gName j)) tNext) :=
        pss_cons (ps_set (X := X.suite a ((a, o4) :: (X.pn ++ pins))) hN hj (.inl ly) (pe_var (X := X.suite a ((a, o4) :: (X.pn ++ pins))) hi (.inl ln) d1 d2) rfl (.inr ly)) pss_nil
      refine store_ok (X := X.suite a ((a, o4) :: (X.pn ++ pins))) (v := .ref a) J4s hN hi (.inl ln) rfl (fun t5 I5 => ?_) (.inr ln)
      have iσ : i < σ1.length := by rw [J4.len]; exact (List.getElem?_eq_some_iff.mp hi).1
      have run := suite.run [] t5 _ H1 { nx := fun σ' H' => σ' = (σ1.set i (some (.ref a))).set j (some (.ref a)) ∧ H' = H1, bk := fun _ _ => False, ct := fun _ _ => False, rt := fun _ _ => False } I5
        ⟨.ref a, by rw [List.getElem?_set_self iσ], rfl, rfl⟩
      refine wpAny_mono run (fun f t6 q => ?_) (fun _ _ z => False.elim z)
      cases f with
      | next =>
        obtain ⟨σ6, H6, I6, e1, e2⟩ := q
        subst e1 e2
        refine gone_ok (X := X.suite a ((a, o4) :: (X.pn ++ pins))) I6 hN hi ln (fun t7 I7 => ?_)
        obtain ⟨w1, w2, _⟩ := I7.pin (a, o4) (by simp)
        have I8 : Inv X pins (((σ1.set i (some (.ref a))).set j (some (.ref a))).set i none) H6 t7 := I7.unsuite hok
        have e3 : (((σ1.set i (some (V.ref a))).set j (some (V.ref a))).set i none) = (σ1.set j (some (V.ref a))).set i none := by
          rw [List.set_comm _ _ hij, List.set_set]
        rw [e3] at I8
        exact ⟨_, _, track I8 na aL aP aC aS (excO_ok w1 z4 k4), wyes rfl a na⟩
      | brk => obtain ⟨_, _, _, z⟩ := q; exact z.elim
      | cont => obtain ⟨_, _, _, z⟩ := q; exact z.elim
      | ret u => obtain ⟨_, _, _, _, _, z⟩ := q; exact z.elim
    | false =>
      show wpAny _ X.A (handleBy (.ref a) X.env []) _ _ _
      apply wpAny_handleBy_nil
      obtain ⟨_, _, _, oe, vs, T, oT, ts', he, hz, hd, h1, hr⟩ := id fl
      unfold PySem.passOn
      apply wpAny_bind
      apply wpAny_field he hd h1
      have nn : ¬ ((Value.ref T == Value.none) = true) := by simp
      rw [if_neg nn]
      have fin : wpAny (model X.prog X.w) X.A (setFlight (.ref a) X.env.frame) (fun _ t4 => wpAny (model X.prog X.w) X.A (throw (.ref a) : Sem Flow) (SP X pins D) X.xe t4) X.xe { t with heap := h3 } := by
        rw [hf]
        refine HandSPX.setFlight_upZ fl (fun h4 hh4 up4 => wpAny_throw (tk _ _ ?_))
        exact ⟨a, B, t0, pins, σ1, H1, cls, d, rfl, J, gr, (up.trans up3).trans up4, .inr (.inr (by rw [hs]; exact hh4)), na, eos, eag, wno rfl⟩
      first
        | exact wpAny_bind (wpAny_pure (wpAny_bind fin))
        | exact wpAny_bind fin
end
end MP
set_option maxRecDepth 100000
set_option maxHeartbeats 4000000
/-! R3o: the statement try .. except C as n: y = n. -/
namespace MP
open PySem PySem.Spec PyProof.Rows L2
section
variable {C : SC} {G : Nms} {Wx : WX} {g : Gst} {X : Cx} {sc : Scope} {x n y : Str} {i j cc : Nat} {body : List Stmt} {mb : List MS} {np p1 p2 p3 pos pos' : Pos} {k : Nat}
theorem excFr {W : Wd} {s : Sta} {σ : L2.St} {H : Hp} {a : Addr} (r : RelFr G W s σ H) (na : H a = none) (o : HO) : Kp W H (upd H a o) ∧ RelFr G ⟨W.al, fun b => W.fz b ∨ b = a⟩ s σ (upd H a o) := by
  have ne : ∀ b u, H b = some u → upd H a o b = some u := fun b u h => by rw [upd_ne (fun z => by rw [z, na] at h; cases h)]; exact h
  have le : W.le ⟨W.al, fun b => W.fz b ∨ b = a⟩ := ⟨⟨[], by simp⟩, fun b h => .inl h⟩
  have kp : Kp W H (upd H a o) := ⟨fun b u _ h => ne b u h, fun b xs h => ne b _ h, fun b u v h => ne b _ h⟩
  have nf : ∀ b u, H b = some u → ¬ W.fz b → ¬ (W.fz b ∨ b = a) := fun b u h1 h2 h3 => by
    rcases h3 with h3 | h3
    · exact h2 h3
    · rw [h3, na] at h1; cases h1
  refine ⟨kp, r.len, fun l z hz => ?_, r.apart, ⟨r.m.len, r.m.nod, fun n b hb => ?_, fun b hb => ?_⟩⟩
  · obtain ⟨w, h1, h2⟩ := r.slt l z hz
    refine ⟨w, h1, ?_⟩
    cases z with
    | no => trivial
    | val u => obtain ⟨v, q1, q2⟩ := h2; exact ⟨v, q1, RepV.mono le kp _ q2⟩
    | clo us => exact CloOk.mono le kp h2
    | own u =>
      obtain ⟨p, q1, q2, q3, q4⟩ := h2
      obtain ⟨u', hu⟩ := q4.some
      exact ⟨p, q1, nf p u' hu q2, q3, q4.mono le kp fun o' ho' => ne p o' ho'⟩
  · obtain ⟨h1, u, h2, h3⟩ := r.m.mem n b hb
    obtain ⟨u', hu⟩ := h3.some
    exact ⟨nf b u' hu h1, u, h2, h3.mono le kp fun o' ho' => ne b o' ho'⟩
  · rcases hb with hb | hb
    · obtain ⟨u, hu⟩ := r.m.sm b hb
      exact ⟨u, ne b u hu⟩
    · rw [hb]; exact ⟨o, upd_same⟩
theorem ss_keep (D0 : Good C G g X sc) (hs : X.stack = X.env :: X.outer) (hf : X.env.frame = some X.env.locals) (hi : X.N[i]? = some n) (hj : X.N[j]? = some y) (hij : i ≠ j) (ln : X.env.kindOf n = some .local) (ly : X.env.kindOf y = some .local)
    (d1 : (n == ("__debug__" : Str)) = false) (d2 : (n == ("__classdict__" : Str)) = false) (hx : glB sc x = true) (hcc : C.cls.lookup x = some cc) (hci : cc ∈ C.isi) (tk : Takes X Wx)
    (hb : ∀ (W : WX) (pn : List (Addr × Obj)) (xe : Value → Shared → Prop), Takes (X.tr pn xe) W → PassesOwn (model X.prog X.w) X.A X.env xe → PSs (X.tr pn xe) body (tSs G W g mb)) :
    PS X (.Try body [.ExceptHandler (some (.Name x np)) (some n) [.Assign [.Name y p1] (.Name n p2) p3] pos'] [] [] pos) (tS G Wx g (.tri mb [(cc, some i, [.set (.one j) (.var i)])])) := by
  obtain ⟨g1, g2⟩ := glB_gl D0 hx
  have nd : X.N.Nodup := by rw [D0.N]; exact D0.s0.nd
  have hli : ∀ {pins σ H s}, Inv X pins σ H s → σ.length = X.N.length := fun I => I.len
  have hp := ps_keep (c := .ref (G.cA cc)) (np := np) (pos := pos) (p1 := p1) (p2 := p2) (p3 := p3) (pos' := pos') hs hf nd hi hj hij ln ly d1 d2 (show Names X x (.ref (G.cA cc)) from ⟨g1, g2, .inl (D0.s0.cls x cc hcc)⟩) tk hb
  refine ⟨fun pins s0 σ H D I ⟨W, s, r, q⟩ => hp.run pins s0 σ H D I ?_⟩
  have e0 : execS g (.tri mb [(cc, some i, [.set (.one j) (.var i)])]) s = (match execs g mb s with | .exc e s => handle g [(cc, some i, [.set (.one j) (.var i)])] e s | r => r) := by
    conv => lhs; unfold execS
    try rfl
  rw [e0] at q
  have sub : ∀ l ∈ asgSs mb, l ∈ asgS (.tri mb [(cc, some i, [.set (.one j) (.var i)])]) := fun l hl => by simp only [asgS, List.mem_append]; exact .inl hl
  refine ⟨W, s, r, ?_⟩
  cases ee : execs g mb s with
  | stuck => rw [ee] at q; exact q
  | ok fl s' =>
    rw [ee] at q
    exact fun W' σ' H' e' r' => q W' σ' H' (e'.sub sub) r'
  | exc e s' =>
    rw [ee] at q
    intro W' σ' H' cls d e' r' hx'
    obtain ⟨c1, rfl, rfl, rfl⟩ := hx'
    simp only [handle, isX] at q
    by_cases hm : (g.excs.contains c1 && g.excs.contains cc) = true
    · rw [if_pos hm] at q
      have hm' : c1 ∈ g.excs := by simp only [Bool.and_eq_true] at hm; simpa using hm.1
      have hm2 : cc ∈ g.excs := by simp only [Bool.and_eq_true] at hm; simpa using hm.2
      refine ⟨g.sub c1 cc, D0.of.K ▸ D0.s0.kit.exM c1 hm' cc hci hm2, fun hb => ?_, fun hb => ?_⟩
      · intro a na
        rw [hb] at q
        simp only at q
        have hlen : s'.r.length = X.N.length := by rw [e'.len, r.len, hli I]
        have hil : i < s'.r.length := by rw [hlen]; exact (List.getElem?_eq_some_iff.mp hi).1
        have hjl : j < s'.r.length := by rw [hlen]; exact (List.getElem?_eq_some_iff.mp hj).1
        -- what the suite does
        have ex : execs g [.set (.one j) (.var i)] (s'.put i (.val (.exc c1 []))) = .ok .next ((s'.put i (.val (.exc c1 []))).put j (.val (.exc c1 []))) := by
          have hsl : slot (s'.put i (.val (.exc c1 []))) i = .val (.exc c1 []) := by
            unfold slot Sta.put
            simp [hil]
          unfold execs execS
          conv => lhs; unfold evalE
          rw [hsl]
          simp only [Rs.bind, bindT]
          unfold execs
          rfl
        rw [ex] at q
        simp only [Rs.bind] at q
        have c1' : ((s'.put i (.val (.exc c1 []))).put j (.val (.exc c1 []))).put i .no = (s'.put j (.val (.exc c1 []))).put i .no := by
          unfold Sta.put
          simp only
          congr 1
          rw [List.set_comm _ _ hij, List.set_set]
        rw [c1'] at q
        -- the world with the exception
        let W2 : Wd := ⟨W'.al, fun b => W'.fz b ∨ b = a⟩
        have le : W'.le W2 := ⟨⟨[], by simp [W2]⟩, fun b h => .inl h⟩
        obtain ⟨kp, r2⟩ := excFr r' na (ExcO (.ref (G.cA c1)) none a)
        have rv : RepV G W2 (upd H' a (ExcO (.ref (G.cA c1)) none a)) (.exc c1 []) (.ref a) := by
          simp only [RepV]
          exact ⟨a, rfl, .inr rfl, trivial, upd_same⟩
        have r3 := r2.set j rv
        have r4 := r3.wipe [i]
        refine q W2 _ _ ?_ r4
        have e1 : ExS (asgS (.tri mb [(cc, some i, [.set (.one j) (.var i)])])) s s' σ σ' W W' H H' := e'.sub sub
        refine e1.trans ⟨le, kp, fun b o h _ _ => ?_, fun b h => ?_, fun b h => ?_, fun l hl => ?_, ?_⟩
        · rw [upd_ne (fun z => by rw [z, na] at h; cases h)]; exact h
        · rcases h with ⟨h1 | h1, h2⟩ | ⟨h1, h2⟩
          · exact absurd h1 h2
          · rw [h1]; exact .inl na
          · exact absurd h1 h2
        · exact .inr (.inl (ownd_set r2 (ownd_wipe (vs := [i]) h)))
        · simp only [asgS, asgSs, asgHs, asgT, List.mem_append, List.mem_cons, List.not_mem_nil, or_false, not_or] at hl
          show ((σ'.set j (some (V.ref a))).set i none)[l]? = _
          rw [List.getElem?_set_ne (fun z => hl.2.1 z.symm), List.getElem?_set_ne (fun z => hl.2.2 z.symm)]
        · show ((s'.r.set j _).set i _).length = _
          simp
      · rw [hb] at q
        simp only [handle] at q
        exact q W' σ' H' (.ref (G.cA c1)) none (e'.sub sub) r' ⟨c1, rfl, rfl, rfl⟩
    · rw [if_neg hm] at q
      exact q.elim
end
end MP
set_option maxRecDepth 100000
set_option maxHeartbeats 4000000
/-! R3p: a field of an instance is set. -/
namespace MP
open PySem PySem.Spec PyProof.Rows L2
section
theorem putF_keys (f : Str) (v : V) : ∀ fs : List (Str × V), ∀ y ∈ (putF f v fs).map (·.1), y = f ∨ y ∈ fs.map (·.1)
  | [], y, h => by left; simpa [putF] using h
  | (k, x) :: r, y, h => by
    rw [show putF f v ((k, x) :: r) = (if k = f then (k, v) :: r else (k, x) :: putF f v r) from rfl] at h
    by_cases hk : k = f
    · rw [if_pos hk] at h
      right; simpa using h
    · rw [if_neg hk] at h
      simp only [List.map_cons, List.mem_cons] at h
      rcases h with h | h
      · right; simp [h]
      · rcases putF_keys f v r y h with q | q
        · exact .inl q
        · right; exact List.mem_cons_of_mem _ q
theorem putF_nd (f : Str) (v : V) : ∀ fs : List (Str × V), (fs.map (·.1)).Nodup → ((putF f v fs).map (·.1)).Nodup
  | [], _ => by simp [putF]
  | (k, x) :: r, h => by
    rw [show putF f v ((k, x) :: r) = (if k = f then (k, v) :: r else (k, x) :: putF f v r) from rfl]
    simp only [List.map_cons, List.nodup_cons] at h
    by_cases hk : k = f
    · rw [if_pos hk]
      simp only [List.map_cons, List.nodup_cons]
      exact h
    · rw [if_neg hk]
      simp only [List.map_cons, List.nodup_cons]
      refine ⟨fun z => ?_, putF_nd f v r h.2⟩
      rcases putF_keys f v r k z with q | q
      · exact hk q
      · exact h.1 q
theorem nd_inj {α : Type} : ∀ {l : List α} {i j : Nat} (_ : l.Nodup) (hi : i < l.length) (hj : j < l.length), l[i] = l[j] → i = j
  | a :: l, 0, 0, _, _, _, _ => rfl
  | a :: l, 0, j + 1, h, _, hj, e => by
    simp only [List.nodup_cons] at h
    exact absurd (by rw [show a = l[j]'(by simpa using hj) from e]; exact List.getElem_mem _) h.1
  | a :: l, i + 1, 0, h, hi, _, e => by
    simp only [List.nodup_cons] at h
    exact absurd (by rw [show a = l[i]'(by simpa using hi) from e.symm]; exact List.getElem_mem _) h.1
  | a :: l, i + 1, j + 1, h, hi, hj, e => by
    simp only [List.nodup_cons] at h
    have := nd_inj (i := i) (j := j) h.2 (by simpa using hi) (by simpa using hj) (by simpa using e)
    omega
theorem nd_len {α : Type} [DecidableEq α] : ∀ {l m : List α}, l.Nodup → (∀ x ∈ l, x ∈ m) → l.length ≤ m.length
  | [], m, _, _ => Nat.zero_le _
  | a :: l, m, h, hs => by
    simp only [List.nodup_cons] at h
    have ha : a ∈ m := hs a List.mem_cons_self
    have := nd_len (l := l) (m := m.erase a) h.2 fun x hx => by
      have hne : x ≠ a := fun z => h.1 (z ▸ hx)
      exact (List.mem_erase_of_ne hne).mpr (hs x (List.mem_cons_of_mem _ hx))
    rw [List.length_erase_of_mem ha] at this
    have hp : 0 < m.length := List.length_pos_of_mem ha
    rw [List.length_cons]
    omega
variable {C : SC} {G : Nms} {Wx : WX} {g : Gst} {X : Cx} {sc : Scope} {A B : List Nat} {D : Ends} {s s1 s2 : Sta} {σ σ1 σ2 : L2.St} {W W1 W2 : Wd} {H H1 H2 : Hp} {pos : Pos}
theorem kp_mutI {p C0 dx : Addr} {fvs : List (Str × V)} {o' : HO} (f : ¬ W.fz p) (h : H p = some (.ins C0 dx fvs)) : Kp W H (L2.upd H p o') := by
  refine ⟨fun a o ha ho => ?_, fun a xs ho => ?_, fun a o u ho => ?_⟩
  · rw [upd_ne fun z => by subst z; exact f ha]; exact ho
  · rw [upd_ne fun z => by subst z; rw [h] at ho; cases ho]; exact ho
  · rw [upd_ne fun z => by subst z; rw [h] at ho; cases ho]; exact ho
theorem RepFs.set {u : U} {y : V} (hr : RepV G W H u y) : ∀ {fs : List U} {ws : List (Option V)} (_ : RepFs G W H fs ws) (k : Nat), RepFs G W H (fs.set k u) (ws.set k (some y))
  | [], ws, h, k => by simp only [RepFs] at h; subst h; simp only [List.set_nil, RepFs]
  | f :: fs, ws, h, 0 => by
    have h' : ∃ w r, ws = w :: r ∧ RepFs G W H fs r := by
      cases f <;> simp only [RepFs] at h <;> first
        | (obtain ⟨v, r, rfl, h1, h2⟩ := h; exact ⟨_, r, rfl, h2⟩)
        | (obtain ⟨r, rfl, h2⟩ := h; exact ⟨_, r, rfl, h2⟩)
    obtain ⟨w, r, rfl, h2⟩ := h'
    simp only [List.set_cons_zero]
    cases u <;> simp only [RepFs] <;> first
      | exact ⟨y, r, rfl, hr, h2⟩
      | (exfalso; simp only [RepV] at hr)
  | f :: fs, ws, h, k + 1 => by
    cases f <;> simp only [RepFs] at h <;> first
      | (obtain ⟨v, r, rfl, h1, h2⟩ := h
         simp only [List.set_cons_succ, RepFs]
         exact ⟨v, _, rfl, h1, RepFs.set hr h2 k⟩)
      | (obtain ⟨r, rfl, h2⟩ := h
         simp only [List.set_cons_succ, RepFs]
         exact ⟨_, rfl, RepFs.set hr h2 k⟩)
theorem RepFs.length : ∀ {fs : List U} {ws : List (Option V)}, RepFs G W H fs ws → fs.length = ws.length
  | [], ws, h => by simp only [RepFs] at h; subst h; rfl
  | f :: fs, ws, h => by
    cases f <;> simp only [RepFs] at h <;> first
      | (obtain ⟨v, r, rfl, h1, h2⟩ := h; rw [List.length_cons, List.length_cons, RepFs.length h2])
      | (obtain ⟨r, rfl, h2⟩ := h; rw [List.length_cons, List.length_cons, RepFs.length h2])
theorem FldOk.put (O : ClassOk G g) {c n k : Nat} {x : Str} {y : V} {fvs : List (Str × V)} {ws : List (Option V)} (h : FldOk G c fvs ws) (hk : G.at_ c n = some k) (hx : G.aL[n]? = some x) (hl : k < ws.length) : FldOk G c (putF x y fvs) (ws.set k (some y)) := by
  refine ⟨fun n' k' h' => ?_, fun z hz => ?_, putF_nd x y fvs h.nd⟩
  · obtain ⟨x', e1, e2⟩ := h.at_ n' k' h'
    refine ⟨x', e1, ?_⟩
    rw [lookup_putF]
    by_cases hn : n' = n
    · subst hn
      rw [hx] at e1; cases e1
      rw [hk] at h'; cases h'
      rw [if_pos rfl, List.getElem?_set, if_pos rfl, if_pos hl]
      rfl
    · have hne : x' ≠ x := fun z => hn (by
        subst z
        have h1 := (List.getElem?_eq_some_iff.mp e1)
        have h2 := (List.getElem?_eq_some_iff.mp hx)
        obtain ⟨l1, g1⟩ := h1
        obtain ⟨l2, g2⟩ := h2
        exact nd_inj O.nd l1 l2 (g1.trans g2.symm))
      have hkk : k ≠ k' := fun z => hn (by subst z; exact O.inj c n' n k h' hk)
      rw [if_neg hne, List.getElem?_set_ne hkk]
      exact e2
  · rcases putF_keys x y fvs z hz with q | q
    · subst q
      exact List.mem_of_getElem? hx
    · exact h.sub z q
theorem ss_setFld (D0 : Good C G g X sc) {o e : Expr} {p : Pos} {f : Nat} {x : Str} {mo me : ME} (hx : C.att.lookup x = some f) (hc : notComp e = true) (ho : PE X o (tArg G Wx g mo)) (he : PE X e (tE G Wx g me)) :
    PS X (.Assign [.Attribute o x p] e pos) (tS G Wx g (.setFld mo f me)) := by
  refine PSi (ps_fld ho he (sw_no hc)) fun D σ H ⟨W, s, r, q⟩ => ?_
  have e0 : execS g (.setFld mo f me) s = (evalE g me s).bind fun u s => (argOf (fun s => evalE g mo s) mo s).bind fun av s => match setFldC g s av f u with
    | some s => .ok .next s
    | none => .stuck := by
    conv => lhs; unfold execS
    try rfl
  rw [e0] at q
  refine tR_mono (tX.bindX (fun _ => RV G) r q) fun y H1 ⟨u, W1, s1, e1, r1, ru, k1⟩ => ?_
  refine tR_mono (tX.bindX (fun σ => RA G σ) r1 k1) fun ov H2 ⟨av, W2, s2, e2, r2, ra, k2⟩ => ?_
  have ru2 := RepV.ext e2 ru
  unfold setFldC at k2
  cases eg : av.get s2 with
  | obj c fs =>
    rw [eg] at k2
    simp only at k2
    cases hk : g.attr c f with
    | none => rw [hk] at k2; exact k2.elim
    | some k =>
      rw [hk] at k2
      simp only at k2
      by_cases hl : k < fs.length
      · rw [if_pos hl] at k2
        cases es : setC s2 av (.obj c (fs.set k u)) with
        | none => rw [es] at k2; exact k2.elim
        | some s3 =>
          rw [es] at k2
          obtain ⟨pp, ex, hfz, hcont, hup⟩ := mut_at r2 ra es (by rw [eg]; exact fun z => by cases z)
          rw [eg] at hcont
          simp only [MP.Cont] at hcont
          obtain ⟨dx, fvs, h1, ws, h2, h3⟩ := hcont
          have O := D0.s0.co
          have hxL := D0.s0.att x f hx
          rw [O.attr] at hk
          have hkp : Kp W2 H2 (L2.upd H2 pp (.ins (G.cA c) dx (putF x y fvs))) := kp_mutI hfz h1
          have hlen : fvs.length ≤ G.aL.length := by
            have := nd_len h3.nd h3.sub
            rwa [List.length_map] at this
          obtain ⟨q1, q2⟩ := hup (.ins (G.cA c) dx (putF x y fvs)) hkp (by
            simp only [MP.Cont]
            exact ⟨dx, _, upd_same, _, RepFs.set (RepV.mono (.refl W2) hkp _ ru2) (RepFs.mono (.refl W2) hkp _ h2) k, h3.put O hk hxL (by rw [← RepFs.length h2]; exact hl)⟩)
          refine ⟨pp, _, dx, fvs, ex, h1, by rw [D0.of.K]; exact O.cls c f k hk, by rw [D0.of.K]; exact O.noa c f k x hk hxL, by have := O.few; omega, ?_⟩
          exact k2 W2 σ _ q2.toS q1
      · rw [if_neg hl] at k2; exact k2.elim
  | _ => rw [eg] at k2; exact k2.elim
end
end MP
set_option maxRecDepth 100000
set_option maxHeartbeats 4000000
/-! R3q: try with several except clauses, each with a plain suite. -/
namespace MP
open PySem PySem.Spec PyProof.Rows L2
/-- a suite's statements: a constant is set, told -/
def simS (C : SC) (sc : Scope) : MS → Stmt → Bool
  | .set (.one i) (.lit u), .Assign [.Name y _] v _ => decide (C.N[i]? = some y) && (match sc.names.lookup y with | some .local => true | some .cell => true | _ => false) && litOk u v && notComp v
  | .ret (.lit u), .Return (some v) _ => litOk u v
  | .pass, .Pass _ => true
  | _, _ => false
def simSs (C : SC) (sc : Scope) : List MS → List Stmt → Bool
  | [], [] => true
  | m :: ms, s :: ss => simS C sc m s && simSs C sc ms ss
  | _, _ => false
def hdB (C : SC) (sc : Scope) : Nat × Option Nat × List MS → ExceptHandler → Bool
  | (cc, none, ms), .ExceptHandler (some (.Name x _)) none (b :: ss) _ => glB sc x && decide (C.cls.lookup x = some cc) && C.isi.contains cc && simSs C sc ms (b :: ss)
  | _, _ => false
def hdsB (C : SC) (sc : Scope) : List (Nat × Option Nat × List MS) → List ExceptHandler → Bool
  | [], [] => true
  | h :: hs, e :: es => hdB C sc h e && hdsB C sc hs es
  | _, _ => false
section
variable {C : SC} {G : Nms} {Wx : WX} {g : Gst} {X Y : Cx} {sc : Scope} {pos : Pos}
theorem sim_ok (hK : Y.K = G.K) (nd : Y.N.Nodup) (hN : Y.N = C.N) (hsc : Y.env.scope = sc) (hfn : ∀ x, Y.fn x = true) : ∀ (m : MS) (st : Stmt), simS C sc m st = true → PS Y st (tS G WF g m)
  | .set t me, st, h => by
    unfold simS at h
    split at h
    · rename_i i u y py v p heq
      cases heq
      simp only [Bool.and_eq_true, decide_eq_true_eq] at h
      obtain ⟨⟨⟨h1, h2⟩, h3⟩, h4⟩ := h
      have hl : Loc Y.env.scope y := by
        rw [hsc]
        split at h2
        · exact .inl (by assumption)
        · exact .inr (by assumption)
        · cases h2
      exact ss_set hK h4 (by cases v <;> rfl) (se_lit h3) (show PG Y (.Name y py) (gName i) from pg_name nd (by rw [hN]; exact h1) hl (.inl (hfn y))) rfl
    · rename_i heq; exact absurd heq (fun z => by cases z)
    · rename_i heq; exact absurd heq (fun z => by cases z)
    · cases h
  | .ret me, st, h => by
    unfold simS at h
    split at h
    · rename_i heq; exact absurd heq (fun z => by cases z)
    · rename_i heq
      cases heq
      exact ss_ret (se_lit h)
    · rename_i heq; exact absurd heq (fun z => by cases z)
    · cases h
  | .pass, st, h => by
    unfold simS at h
    split at h
    · rename_i heq; exact absurd heq (fun z => by cases z)
    · rename_i heq; exact absurd heq (fun z => by cases z)
    · exact ss_pass
    · cases h
  | .own _ _, st, h => by simp [simS] at h
  | .par _ _ _ _, st, h => by simp [simS] at h
  | .aug _ _ _, st, h => by simp [simS] at h
  | .augIx _ _ _ _, st, h => by simp [simS] at h
  | .setFld _ _ _, st, h => by simp [simS] at h
  | .setIx _ _ _, st, h => by simp [simS] at h
  | .expr _, st, h => by simp [simS] at h
  | .ife _ _ _, st, h => by simp [simS] at h
  | .whil _ _, st, h => by simp [simS] at h
  | .forr _ _ _ _, st, h => by simp [simS] at h
  | .brk, st, h => by simp [simS] at h
  | .cont, st, h => by simp [simS] at h
  | .raise _ _, st, h => by simp [simS] at h
  | .tri _ _, st, h => by simp [simS] at h
theorem sims_ok (hK : Y.K = G.K) (nd : Y.N.Nodup) (hN : Y.N = C.N) (hsc : Y.env.scope = sc) (hfn : ∀ x, Y.fn x = true) : ∀ (ms : List MS) (ss : List Stmt), simSs C sc ms ss = true → PSs Y ss (tSs G WF g ms)
  | [], [], _ => pss_nil'
  | m :: ms, s :: ss, h => by
    simp only [simSs, Bool.and_eq_true] at h
    exact pss_cons' (sim_ok hK nd hN hsc hfn m s h.1) (sims_ok hK nd hN hsc hfn ms ss h.2)
  | [], _ :: _, h => by simp [simSs] at h
  | _ :: _, [], h => by simp [simSs] at h
/-- the clauses' readings -/
def hdL (G : Nms) (g : Gst) (hs : List (Nat × Option Nat × List MS)) : List (Value × (Addr → Value → Option Addr → TS)) := hs.map fun h => (.ref (G.cA h.1), fun _ _ _ => tSs G WF g h.2.2)
theorem hds_ok (D0 : Good C G g X sc) (hfn : ∀ x, X.fn x = true) : ∀ (hs : List (Nat × Option Nat × List MS)) (es : List ExceptHandler), hdsB C sc hs es = true → HdsOk X es (hdL G g hs)
  | [], [], _ => .nil
  | (cc, n, ms) :: hs, e :: es, h => by
    simp only [hdsB, Bool.and_eq_true] at h
    obtain ⟨h1, h2⟩ := h
    unfold hdB at h1
    split at h1 <;> first | (cases h1; done) | skip
    rename_i cc' ms' x px b ss p' heq
    cases heq
    simp only [Bool.and_eq_true, decide_eq_true_eq] at h1
    obtain ⟨⟨⟨q1, q2⟩, q3⟩, q4⟩ := h1
    obtain ⟨g1, g2⟩ := glB_gl D0 q1
    refine .cons (show Names X x (.ref (G.cA cc)) from ⟨g1, g2, .inl (D0.s0.cls x cc q2)⟩) (fun a oe cls d pn _ _ => ?_) (hds_ok D0 hfn hs es h2)
    exact sims_ok (C := C) (Y := X.suite a ((a, oe) :: pn)) (show X.K = G.K from D0.of.K) (by show X.N.Nodup; rw [D0.N]; exact D0.s0.nd) (show X.N = C.N from D0.N) (show X.env.scope = sc from D0.scp) hfn ms (b :: ss) q4
  | [], _ :: _, h => by simp [hdsB] at h
  | _ :: _, [], h => by simp [hdsB] at h
/-- the clauses, one behind another -/
theorem many_w (D0 : Good C G g X sc) {A : List Nat} {D : Ends} {W : Wd} {s : Sta} {σ : L2.St} {H : Hp} {c1 : Nat} : ∀ (hs : List (Nat × Option Nat × List MS)) (es : List ExceptHandler), hdsB C sc hs es = true → (∀ j ∈ asgHs hs, j ∈ A) → RelFr G W s σ H →
    tX G Wx A D (handle g hs (.exc c1 []) s) W s σ H → wMany X.K Wx D (hdL G g hs) (.ref (G.cA c1)) none σ H
  | [], [], _, _, r, q => by
    simp only [handle] at q
    exact q W σ H _ _ .refl r ⟨c1, rfl, rfl, rfl⟩
  | (cc, n, ms) :: hs, e :: es, h, hA, r, q => by
    simp only [hdsB, Bool.and_eq_true] at h
    obtain ⟨h1, h2⟩ := h
    have hn : n = none ∧ cc ∈ C.isi := by
      unfold hdB at h1
      split at h1 <;> first | (cases h1; done) | skip
      rename_i heq
      cases heq
      simp only [Bool.and_eq_true, List.contains_eq_mem, decide_eq_true_eq] at h1
      exact ⟨rfl, h1.1.2⟩
    obtain ⟨rfl, hci⟩ := hn
    simp only [handle, isX] at q
    by_cases hm : (g.excs.contains c1 && g.excs.contains cc) = true
    · rw [if_pos hm] at q
      have hm' : c1 ∈ g.excs := by simp only [Bool.and_eq_true] at hm; simpa using hm.1
      have hm2 : cc ∈ g.excs := by simp only [Bool.and_eq_true] at hm; simpa using hm.2
      refine ⟨g.sub c1 cc, by rw [D0.of.K]; exact D0.s0.kit.exM c1 hm' cc hci hm2, fun hb => ?_, fun hb => ?_⟩
      · intro a na
        rw [hb] at q
        simp only at q
        refine ⟨W, s, r, ?_⟩
        have sub : ∀ j ∈ asgSs ms, j ∈ A := fun j hj => hA j (by simp only [asgHs, List.mem_append]; exact .inl (.inr hj))
        have q2 := tX.sub q sub
        -- no exception leaves a plain suite
        cases ee : execs g ms s with
        | stuck => rw [ee] at q2; exact q2
        | ok fl s' => rw [ee] at q2; exact q2
        | exc e s' =>
          exfalso
          have key : ∀ (ms : List MS) (ss : List Stmt) (s : Sta) e s', simSs C sc ms ss = true → execs g ms s = .exc e s' → False := by
            intro ms
            induction ms with
            | nil => intro ss s e s' _ h; unfold execs at h; cases h
            | cons m ms ih =>
              intro ss s e s' hs h
              cases ss with
              | nil => simp [simSs] at hs
              | cons st ss =>
                simp only [simSs, Bool.and_eq_true] at hs
                unfold execs at h
                have hno : ∀ e s', execS g m s ≠ .exc e s' := by
                  intro e s' h
                  have h0 := hs.1
                  unfold simS at h0
                  split at h0 <;> first | (cases h0; done) | skip
                  · unfold execS at h
                    unfold evalE at h
                    simp only [Rs.bind, bindT] at h
                    cases h
                  · unfold execS at h
                    unfold evalE at h
                    simp only [Rs.bind] at h
                    cases h
                  · unfold execS at h
                    cases h
                cases e1 : execS g m s with
                | stuck => rw [e1] at h; cases h
                | exc e2 s2 => exact hno _ _ e1
                | ok fl s2 =>
                  rw [e1] at h
                  simp only [Rs.bind] at h
                  cases fl with
                  | next => exact ih ss s2 e s' hs.2 h
                  | brk => cases h
                  | cont => cases h
                  | ret u => cases h
          have hsim : ∃ ss, simSs C sc ms ss = true := by
            unfold hdB at h1
            split at h1 <;> first | (cases h1; done) | skip
            rename_i heq
            cases heq
            simp only [Bool.and_eq_true] at h1
            exact ⟨_, h1.2⟩
          obtain ⟨ss, hss⟩ := hsim
          exact key ms ss s e s' hss ee
      · rw [hb] at q
        simp only at q
        exact many_w D0 hs es h2 (fun j hj => hA j (by simp only [asgHs, List.mem_append]; exact .inr hj)) r q
    · rw [if_neg hm] at q
      exact (show False from q).elim
  | [], _ :: _, h, _, _, _ => by simp [hdsB] at h
  | _ :: _, [], h, _, _, _ => by simp [hdsB] at h
theorem ss_many {body : List Stmt} {h₀ : ExceptHandler} {hds : List ExceptHandler} {mb : List MS} {hs : List (Nat × Option Nat × List MS)} (D0 : Good C G g X sc) (hfn : ∀ x, X.fn x = true) (hst : X.stack = X.env :: X.outer) (hf : X.env.frame = some X.env.locals) (tk : Takes X Wx)
    (hh : hdsB C sc hs (h₀ :: hds) = true) (hb : ∀ (W : WX) (pn : List (Addr × Obj)) (xe : Value → Shared → Prop), Takes (X.tr pn xe) W → PassesOwn (model X.prog X.w) X.A X.env xe → PSs (X.tr pn xe) body (tSs G W g mb)) :
    PS X (.Try body (h₀ :: hds) [] [] pos) (tS G Wx g (.tri mb hs)) :=
  PSi (ps_try_many hst hf tk hb (hds_ok D0 hfn hs (h₀ :: hds) hh)) fun D σ H ⟨W, s, r, q⟩ => by
    have e0 : execS g (.tri mb hs) s = (match execs g mb s with | .exc e s => handle g hs e s | r => r) := by
      conv => lhs; unfold execS
      try rfl
    rw [e0] at q
    have sub : ∀ l ∈ asgSs mb, l ∈ asgS (.tri mb hs) := fun l hl => by simp only [asgS, List.mem_append]; exact .inl hl
    refine ⟨W, s, r, ?_⟩
    cases ee : execs g mb s with
    | stuck => rw [ee] at q; exact q
    | ok fl s' =>
      rw [ee] at q
      exact fun W' σ' H' e' r' => q W' σ' H' (e'.sub sub) r'
    | exc e s' =>
      rw [ee] at q
      intro W' σ' H' cls d e' r' hx'
      obtain ⟨c1, rfl, rfl, rfl⟩ := hx'
      exact many_w D0 hs (h₀ :: hds) hh (fun j hj => by simp only [asgS, List.mem_append]; exact .inr hj) r' (q.shift (e'.sub sub))
end
end MP
set_option maxRecDepth 100000
set_option maxHeartbeats 4000000
/-! R3j: the check of a statement. -/
namespace MP
open PySem PySem.Spec PyProof.Rows L2
def raiseB (C : SC) (sc : Scope) (c : Nat) : Expr → Bool
  | .Call f es ks _ => match f, es, ks with
    | .Name x _, [.Constant v _ _], [] => (match v with
      | .str _ => glB sc x && decide (C.exs.lookup x = some c)
      | _ => false)
    | .Name x _, [], [] => glB sc x && decide (C.exs.lookup x = some c)
    | _, _, _ => false
  | _ => false
/-- name = [.. for ..], stored within -/
def setLcB (C : SC) (sc : Scope) (t : Tg) (tg v : Expr) : Bool := match t, tg, v with
  | .one i, .Name y py, .ListComp _ _ scope p => decide (C.N[i]? = some y) && lcIn sc y py scope p
  | _, _, _ => false
/-- .. stored behind it -/
def setOutB (C : SC) (sc : Scope) (t : Tg) (tg v : Expr) : Bool := match t, tg, v with
  | .one i, .Name y py, .ListComp _ _ scope p => !lcIn sc y py scope p
  | _, _, _ => false
def isComp : ME → Bool
  | .comp _ _ _ _ _ _ => true
  | _ => false
/-- except C as n: y = n -/
def keepB (C : SC) (sc : Scope) : List (Nat × Option Nat × List MS) → ExceptHandler → Bool
  | [(cc, some i, [.set (.one j) (.var l)])], .ExceptHandler (some (.Name x _)) (some n) [.Assign [.Name y _] (.Name z _) _] _ => decide (l = i) && z == n && decide (C.N[i]? = some n) && decide (C.N[j]? = some y) && decide (i ≠ j) && locB sc n && locB sc y &&
      !(n == ("__debug__" : Str)) && !(n == ("__classdict__" : Str)) && glB sc x && decide (C.cls.lookup x = some cc) && C.isi.contains cc
  | _, _ => false
mutual
def chkS (C : SC) (sc : Scope) : MS → Stmt → Bool
  | .set t m, st => match st with
    | .Assign [tg] v _ => if isComp m then (setLcB C sc t tg v || (setOutB C sc t tg v && chkT C.N (loB sc) t tg)) && chkE C m sc v else notComp v && (notTups tg v || noSwapB sc tg) && chkT C.N (loB sc) t tg && chkE C m sc v
    | _ => false
  | .own i m, st => match st with
    | .Assign [.Name x _] v _ => notComp v && decide (C.N[i]? = some x) && loB sc x && newM m && chkE C m sc v
    | _ => false
  | .augIx mc mi o me, st => match st with
    | .AugAssign (.Subscript a b _) op v _ => decide (augOp o = some op) && plainIx b && chkE C mc sc a && chkE C mi sc b && chkE C me sc v
    | _ => false
  | .setIx mc mi me, st => match st with
    | .Assign [.Subscript a b _] v _ => notComp v && plainIx b && chkE C mc sc a && chkE C mi sc b && chkE C me sc v
    | _ => false
  | .expr m, st => match st with
    | .Expr v _ => notComp v && chkE C m sc v
    | _ => false
  | .ret m, st => match st with
    | .Return (some v) _ => chkE C m sc v
    | _ => false
  | .ife c a b, st => match st with
    | .If x p q _ => condE x && chkE C c sc x && chkSs C sc a p && chkSs C sc b q
    | _ => false
  | .whil c b, st => match st with
    | .While x p q _ => q.isEmpty && condE x && chkE C c sc x && chkSs C sc b p
    | _ => false
  | .forr t k its b, st => match st with
    | .For tg iter p q _ => q.isEmpty && chkT C.N (loB sc) t tg && (match itArgs sc k tg iter with
        | some es => es.all notStar && chkEs C its sc es
        | none => false) && its.all (fun m => match m with | .var j => !(asgT t ++ asgSs b).contains j | _ => true) && chkSs C sc b p
    | _ => false
  | .brk, st => match st with
    | .Break _ => true
    | _ => false
  | .cont, st => match st with
    | .Continue _ => true
    | _ => false
  | .pass, st => match st with
    | .Pass _ => true
    | _ => false
  | .raise c as, st => match st with
    | .Raise (some v) none _ => as.isEmpty && raiseB C sc c v
    | _ => false
  | .aug i o m, st => match st with
    | .AugAssign (.Name x _) op v _ => decide (C.N[i]? = some x) && loB sc x && decide (augOp o = some op) && chkE C m sc v
    | _ => false
  | .par i j a b, st => match st with
    | .Assign [tg] v _ => parB C sc i j tg v && (match v with
      | .Tuple [x, y] _ _ => chkE C a sc x && chkE C b sc y
      | _ => false)
    | _ => false
  | .setFld mo f me, st => match st with
    | .Assign [.Attribute o x _] v _ => notComp v && decide (C.att.lookup x = some f) && chkE C mo sc o && chkE C me sc v
    | _ => false
  | .tri b hs, st => match st with
    | .Try body (h :: hds) [] [] _ => ((hds.isEmpty && keepB C sc hs h) || hdsB C sc hs (h :: hds)) && chkSs C sc b body
    | _ => false
def chkSs (C : SC) (sc : Scope) : List MS → List Stmt → Bool
  | [], [] => true
  | m :: ms, s :: ss => chkS C sc m s && chkSs C sc ms ss
  | _, _ => false
end
end MP
set_option maxRecDepth 100000
set_option maxHeartbeats 4000000
/-! R3k: a checked statement does what the small program says. -/
namespace MP
open PySem PySem.Spec PyProof.Rows L2
structure FullS (C : SC) (G : Nms) (g : Gst) (k : Nat) (X : Cx) (sc : Scope) (Wx : WX) : Prop where
  full : Full C G g k X sc Wx
  kind : sc.kind = .function
  fnc : ∀ x, X.fn x = true
  po : PassesOwn (model X.prog X.w) X.A X.env X.xe
  tk : Takes X Wx
  clov : C.cv = true → ∀ a p1 p2 pn xe W, C.N[0]? = some a → Takes (X.tr pn xe) W → PE (X.tr pn xe) (.Call (.Name a p1) [] [] p2) (tE G W g (.callv 0 []))
  rs : ∀ x c, C.exs.lookup x = some c → RaiseOk G X.K X.mg x c
  stk : X.stack = X.env :: X.outer
  frm : X.env.frame = some X.env.locals
section
variable {C : SC} {G : Nms} {g : Gst} {X : Cx} {sc : Scope} {Wx : WX} {k : Nat}
theorem FullS.lo (D : FullS C G g k X sc Wx) : ∀ x, loB sc x = true → Loc X.env.scope x ∧ (X.fn x = true ∨ X.env.scope.names.lookup x = some .local) := fun x h => by
  rw [D.full.good.scp]
  exact ⟨loB_ok h, .inl (D.fnc x)⟩
theorem FullS.nd (D : FullS C G g k X sc Wx) : X.N.Nodup := by rw [D.full.good.N]; exact D.full.good.s0.nd
theorem each_one {N : List Str} {lo : Str → Bool} {t : Tg} {e : Expr} (h : chkT N lo t e = true) : (assignEach [e] X.env).map (·.2) = [assign e X.env] := by rw [each_cons h]; rfl
theorem FullS.tr (D : FullS C G g k X sc Wx) {W : WX} {pn : List (Addr × Obj)} {xe : Value → Shared → Prop} (tk : Takes (X.tr pn xe) W) (po : PassesOwn (model X.prog X.w) X.A X.env xe) : FullS C G g k (X.tr pn xe) sc W :=
  ⟨⟨⟨D.full.good.s0, ⟨D.full.good.of.P, D.full.good.of.w, D.full.good.of.K, D.full.good.of.un⟩, D.full.good.N, D.full.good.scp, D.full.good.calm⟩, D.full.room, D.full.calls, D.full.makes, D.full.meths, fun σ => passAt tk σ, (fun z a p1 p2 ha => D.clov z a p1 p2 pn xe W ha tk), D.full.mkr, D.full.lams⟩, D.kind, D.fnc, po, tk, (fun z a p1 p2 pn' xe' W' ha tk' => D.clov z a p1 p2 pn' xe' W' ha tk'), D.rs, D.stk, D.frm⟩
mutual
theorem sS : ∀ (m : MS) (st : Stmt) (X : Cx) (Wx : WX) (D : FullS C G g k X sc Wx), chkS C sc m st = true → PS X st (tS G Wx g m)
  | .set t m, st, X, Wx, D, h => by
    simp only [chkS] at h
    split at h
    · rename_i tg v pos
      split at h
      · rename_i hm
        simp only [Bool.and_eq_true] at h
        cases m <;> first | (cases hm; done) | skip
        obtain ⟨h1, h2⟩ := h
        simp only [Bool.or_eq_true, Bool.and_eq_true] at h1
        rcases h1 with h1 | ⟨h1, h3⟩
        · unfold setLcB at h1
          split at h1
          · simp only [Bool.and_eq_true, decide_eq_true_eq] at h1
            exact ss_setLc D.full D.kind (by rw [D.full.good.N]; exact h1.1) h1.2 h2
          · cases h1
        · unfold setOutB at h1
          split at h1
          · rename_i i y py elt gens scope p
            have hT : chkT X.N (loB sc) (.one i) (.Name y py) = true := by rw [D.full.good.N]; exact h3
            refine ss_setG D.full.good.of.K (sw_out (l := pos.line) (by rw [D.full.good.scp]; exact D.kind) (by rw [D.full.good.scp]; simpa using h1)) rfl (sE _ _ D.full h2).1 (pg_T D.full.good.calm D.nd D.lo (.one i) (.Name y py) hT) (each_one hT)
          · cases h1
      · simp only [Bool.and_eq_true] at h
        have hT : chkT X.N (loB sc) t tg = true := by rw [D.full.good.N]; exact h.1.2
        have hst : swappedStores [tg] v X.env = pure none := by
          have h2 := h.1.1.2
          rw [Bool.or_eq_true] at h2
          rcases h2 with h2 | h2
          · exact stores_no h2
          · exact stores_cell (by rw [D.full.good.scp]; exact h2)
        exact ss_setG' D.full.good.of.K (show swapsWithSole [tg] v _ X.env = pure false from sw_no h.1.1.1) hst (sE m v D.full h.2).1 (pg_T D.full.good.calm D.nd D.lo t tg hT) (each_one hT)
    · cases h
  | .own i m, st, X, Wx, D, h => by
    simp only [chkS] at h
    split at h
    · rename_i x p v pos
      simp only [Bool.and_eq_true, decide_eq_true_eq] at h
      have hi : X.N[i]? = some x := by rw [D.full.good.N]; exact h.1.1.1.2
      obtain ⟨l1, l2⟩ := D.lo x h.1.1.2
      exact ss_own (List.getElem?_eq_some_iff.mp hi).1 (fun I => I.len) h.1.1.1.1 ((sE m v D.full h.2).2.2.1 h.1.2) (pg_name D.nd hi l1 l2)
    · cases h
  | .augIx mc mi o me, st, X, Wx, D, h => by
    simp only [chkS] at h
    split at h
    · simp only [Bool.and_eq_true, decide_eq_true_eq] at h
      exact ss_augIx D.full.good.of h.1.1.1.1 (sE mc _ D.full h.1.1.2).2.1 (sE mi _ D.full h.1.2).1 (sE me _ D.full h.2).1 h.1.1.1.2
    · cases h
  | .setIx mc mi me, st, X, Wx, D, h => by
    simp only [chkS] at h
    split at h
    · simp only [Bool.and_eq_true] at h
      exact ss_setIx D.full.good.of h.1.1.1.1 (sE mc _ D.full h.1.1.2).2.1 (sE mi _ D.full h.1.2).1 (sE me _ D.full h.2).1 h.1.1.1.2 (by rename_i v _; cases v <;> rfl)
    · cases h
  | .expr m, st, X, Wx, D, h => by
    simp only [chkS] at h
    split at h
    · simp only [Bool.and_eq_true] at h
      exact ss_expr h.1 (sE m _ D.full h.2).1
    · cases h
  | .ret m, st, X, Wx, D, h => by
    simp only [chkS] at h
    split at h
    · exact ss_ret (sE m _ D.full h).1
    · cases h
  | .ife c a b, st, X, Wx, D, h => by
    simp only [chkS] at h
    split at h
    · simp only [Bool.and_eq_true] at h
      exact ss_if ((sE c _ D.full h.1.1.2).2.2.2 h.1.1.1) (sSs a _ X Wx D h.1.2) (sSs b _ X Wx D h.2)
    · cases h
  | .whil c b, st, X, Wx, D, h => by
    simp only [chkS] at h
    split at h
    · rename_i x p q pos
      simp only [Bool.and_eq_true, List.isEmpty_iff] at h
      obtain ⟨⟨⟨rfl, h1⟩, h2⟩, h3⟩ := h
      exact ss_while D.po ((sE c _ D.full h2).2.2.2 h1) (sSs b _ X Wx D h3)
    · cases h
  | .forr t kk its b, st, X, Wx, D, h => by
    simp only [chkS] at h
    split at h
    · rename_i tg iter p q pos
      simp only [Bool.and_eq_true, List.isEmpty_iff] at h
      obtain ⟨⟨⟨⟨rfl, h1⟩, h2⟩, h3⟩, h4⟩ := h
      cases hi : itArgs sc kk tg iter with
      | none => rw [hi] at h2; cases h2
      | some es =>
        rw [hi] at h2
        simp only [Bool.and_eq_true] at h2
        have ih := sEs its es D.full h2.2
        obtain ⟨pi, hset⟩ := pi_walk (tg := tg) D.full.good hi (SE.px ih)
        have hT : chkT X.N (loB sc) t tg = true := by rw [D.full.good.N]; exact h1
        refine ss_for D.full.good.of.K D.po D.full.good.calm pi (pg_T D.full.good.calm D.nd D.lo t tg hT) (sSs b _ X Wx D h4) hset fun j hj => ?_
        have := List.all_eq_true.mp h3 _ hj
        simpa using this
    · cases h
  | .brk, st, X, Wx, D, h => by
    simp only [chkS] at h
    split at h
    · exact ss_brk
    · cases h
  | .cont, st, X, Wx, D, h => by
    simp only [chkS] at h
    split at h
    · exact ss_cont
    · cases h
  | .pass, st, X, Wx, D, h => by
    simp only [chkS] at h
    split at h
    · exact ss_pass
    · cases h
  | .raise c as, st, X, Wx, D, h => by
    simp only [chkS] at h
    split at h
    · rename_i v pos
      simp only [Bool.and_eq_true, List.isEmpty_iff] at h
      obtain ⟨rfl, h⟩ := h
      unfold raiseB at h
      split at h
      · split at h
        · split at h
          · simp only [Bool.and_eq_true, decide_eq_true_eq] at h
            exact ss_raise D.full.good D.tk h.1 (D.rs _ _ h.2)
          · cases h
        · simp only [Bool.and_eq_true, decide_eq_true_eq] at h
          exact ss_raise0 D.full.good D.tk h.1 (D.rs _ _ h.2)
        · cases h
      · cases h
    · cases h
  | .par i j a b, st, X, Wx, D, h => by
    simp only [chkS] at h
    split at h
    · rename_i tg v pos
      simp only [Bool.and_eq_true] at h
      obtain ⟨h1, h2⟩ := h
      unfold parB at h1
      split at h1
      · simp only [Bool.and_eq_true, decide_eq_true_eq, Bool.not_eq_true'] at h1 h2
        obtain ⟨⟨⟨⟨⟨⟨⟨⟨⟨⟨q1, q2⟩, q3⟩, q4⟩, q5⟩, q6⟩, q7⟩, q8⟩, q9⟩, q10⟩, q11⟩ := h1
        have lx := of_decide_eq_true q5
        have ly := of_decide_eq_true q6
        rw [← D.full.good.scp] at lx ly
        refine ss_par D.full.good.calm D.nd (by rw [D.full.good.N]; exact q1) (by rw [D.full.good.N]; exact q2) q3 lx ly (paE_of (.cons (sE a _ D.full h2.1).1 (.cons (sE b _ D.full h2.2).1 .nil)) (by simp [q8, q9])) (swap_two (by rw [D.full.good.scp]; exact D.kind) lx ly q4 q7 q8 q9 q10 q11)
      · cases h1
    · cases h
  | .aug i o m, st, X, Wx, D, h => by
    simp only [chkS] at h
    split at h
    · rename_i x p op v pos
      simp only [Bool.and_eq_true, decide_eq_true_eq] at h
      obtain ⟨l1, l2⟩ := D.lo x h.1.1.2
      exact ss_augA D.nd (by rw [D.full.good.N]; exact h.1.1.1) l1 l2 h.1.2 (sE m v D.full h.2).2.1
    · cases h
  | .setFld mo f me, st, X, Wx, D, h => by
    simp only [chkS] at h
    split at h
    · simp only [Bool.and_eq_true, decide_eq_true_eq] at h
      exact ss_setFld D.full.good h.1.1.2 h.1.1.1 (sE mo _ D.full h.1.2).2.1 (sE me _ D.full h.2).1
    · cases h
  | .tri b hs, st, X, Wx, D, h => by
    simp only [chkS] at h
    split at h
    · rename_i body hh hds pos
      simp only [Bool.and_eq_true, Bool.or_eq_true, List.isEmpty_iff] at h
      obtain ⟨h1, h2⟩ := h
      rcases h1 with ⟨rfl, h1⟩ | h1
      · unfold keepB at h1
        split at h1
        · simp only [Bool.and_eq_true, decide_eq_true_eq, Bool.not_eq_true', beq_iff_eq] at h1
          obtain ⟨⟨⟨⟨⟨⟨⟨⟨⟨⟨⟨q1, q2⟩, q3⟩, q4⟩, q5⟩, q6⟩, q7⟩, q8⟩, q9⟩, q10⟩, q11⟩, q12⟩ := h1
          subst q1 q2
          have ln := of_decide_eq_true q6
          have ly := of_decide_eq_true q7
          rw [← D.full.good.scp] at ln ly
          exact ss_keep D.full.good D.stk D.frm (by rw [D.full.good.N]; exact q3) (by rw [D.full.good.N]; exact q4) q5 ln ly q8 q9 q10 q11 (by simpa using q12) D.tk fun W pn xe tk po => sSs b body _ W (FullS.tr (W := W) (pn := pn) (xe := xe) D tk po) h2
        · cases h1
      · exact ss_many D.full.good D.fnc D.stk D.frm D.tk h1 fun W pn xe tk po => sSs b body _ W (FullS.tr (W := W) (pn := pn) (xe := xe) D tk po) h2
    · cases h
theorem sSs : ∀ (ms : List MS) (ss : List Stmt) (X : Cx) (Wx : WX) (D : FullS C G g k X sc Wx), chkSs C sc ms ss = true → PSs X ss (tSs G Wx g ms)
  | [], [], X, Wx, D, _ => pss_nil'
  | m :: ms, s :: ss, X, Wx, D, h => by
    simp only [chkSs, Bool.and_eq_true] at h
    exact pss_cons' (sS m s X Wx D h.1) (sSs ms ss X Wx D h.2)
  | [], _ :: _, X, Wx, D, h => by simp [chkSs] at h
  | _ :: _, [], X, Wx, D, h => by simp [chkSs] at h
end
end
end MP
set_option maxRecDepth 100000
set_option maxHeartbeats 4000000
/-! R4a: a def's entry. -/
namespace MP
open PySem PySem.Spec PyProof.Rows L2
section
variable {G : Nms} {W : Wd} {H : Hp} {us m : List U} {vs : List V}
theorem start_fr {N : List Str} {n : Nat} (hn : n = N.length) (hl : us.length ≤ n) (rv : RepVs G W H us vs) (rm : RelSh G W m H) : RelFr G W ⟨slots0 us n, m⟩ (L2.start N vs) H := by
  have hlen := RepVs.length rv
  refine ⟨?_, fun i x hx => ?_, fun i j u u' a ij h1 h2 _ _ => ?_, rm⟩
  · show (us.map Slt.val ++ List.replicate (n - us.length) Slt.no).length = (vs.map some ++ List.replicate (N.length - vs.length) none).length
    simp only [List.length_append, List.length_map, List.length_replicate]
    omega
  · have hx : (us.map Slt.val ++ List.replicate (n - us.length) Slt.no)[i]? = some x := hx
    show ∃ y, (vs.map some ++ List.replicate (N.length - vs.length) none)[i]? = some y ∧ _
    by_cases hi : i < us.length
    · rw [List.getElem?_append_left (by simpa using hi), List.getElem?_map] at hx
      rw [List.getElem?_append_left (by simp; omega), List.getElem?_map]
      have hu := List.getElem?_eq_getElem hi
      obtain ⟨v, h1, h2⟩ := RepVs.get rv hu
      rw [hu] at hx
      cases hx
      rw [h1]
      exact ⟨_, rfl, v, rfl, h2⟩
    · rw [List.getElem?_append_right (by simp; omega)] at hx
      have hx' := List.getElem?_eq_some_iff.mp hx
      obtain ⟨h1, h2⟩ := hx'
      simp only [List.length_replicate, List.length_map] at h1
      rw [List.getElem_replicate] at h2
      subst h2
      refine ⟨none, ?_, trivial⟩
      rw [List.getElem?_append_right (by simp; omega), List.getElem?_replicate]
      simp only [List.length_map]
      rw [if_pos (by omega)]
  · exfalso
    have h1 : (us.map Slt.val ++ List.replicate (n - us.length) Slt.no)[i]? = some (Slt.own u) := h1
    by_cases hi : i < us.length
    · rw [List.getElem?_append_left (by simpa using hi), List.getElem?_map, List.getElem?_eq_getElem hi] at h1
      cases h1
    · rw [List.getElem?_append_right (by simp; omega)] at h1
      obtain ⟨_, h2⟩ := List.getElem?_eq_some_iff.mp h1
      rw [List.getElem_replicate] at h2
      cases h2
end
end MP
set_option maxRecDepth 100000
set_option maxHeartbeats 4000000
/-! R4b: what an __init__ promises; a new instance from it. -/
namespace MP
open PySem PySem.Spec PyProof.Rows L2
section
variable {C : SC} {G : Nms} {g : Gst} {mg : Str → Option Value} {base : Heap} {k : Nat}
theorem fullS_of {qual : Str} {scope : Scope} {f : Addr} {cdv : Value} {A : Around} {outer : List Env} {s : Shared} {H : Hp} {E : XK} (s0 : St0 C G g mg) (hk : scope.kind = .function) (hr : Room (k + 2) (A.deeper (envOfC qual scope s.heap.objs.size f cdv)))
    (clov : C.cv = true → ∀ a p1 p2 pn xe W, C.N[0]? = some a → Takes ((cxOf (L2.CX G.P G.w) G.P G.w G.K mg base C.N qual scope f cdv A outer s H E).tr pn xe) W → PE ((cxOf (L2.CX G.P G.w) G.P G.w G.K mg base C.N qual scope f cdv A outer s H E).tr pn xe) (.Call (.Name a p1) [] [] p2) (tE G W g (.callv 0 [])))
    (mkr : ∀ t, C.tid = some t → ∃ c, cdv = .ref c ∧ LamX.TabB base mg c (G.tA t) ∧ (qual ++ ".<locals>.") ++ "<lambda>" = G.tq t)
    (lams : ∀ x f, C.lms.lookup x = some f → LamOk G g G.K mg base k x f)
    (calls : ∀ x f, C.fn.lookup x = some f → CallOk G g G.K mg base k x f) (makes : ∀ x f, C.mks.lookup x = some f → MakeOk G g G.K mg base k x f)
    (meths : ∀ name mi c f, C.mth.lookup name = some mi → g.mt c mi = some f → MethOk G g G.K mg base k c name f) (rs : ∀ x c, C.exs.lookup x = some c → RaiseOk G G.K mg x c) :
    FullS C G g k (cxOf (L2.CX G.P G.w) G.P G.w G.K mg base C.N qual scope f cdv A outer s H E) scope (fun cls d _ H => E cls d H) := by
  have tk : Takes (cxOf (L2.CX G.P G.w) G.P G.w G.K mg base C.N qual scope f cdv A outer s H E) (fun cls d _ H => E cls d H) := takes_of rfl rfl rfl rfl
  exact ⟨⟨⟨s0, ⟨rfl, rfl, rfl, by have := hr.un; show (A.deeper (envOfC qual scope s.heap.objs.size f cdv)).units + 150 < cLine; omega⟩, rfl, rfl, rfl⟩, hr.mono (by omega), calls, makes, meths, fun σ => passAt tk σ, fun z a p1 p2 ha => clov z a p1 p2 _ _ _ ha tk, fun t ht => ⟨hr, mkr t ht⟩, lams⟩, hk, fun _ => rfl, passes_of rfl, tk, clov, rs, rfl, rfl⟩
theorem no_own {us m : List U} {n : Nat} {σ : L2.St} {a : Addr} : ¬ Ownd ⟨slots0 us n, m⟩ σ a := fun ⟨i, u, h, _⟩ => by
  have h1 : (us.map Slt.val ++ List.replicate (n - us.length) Slt.no)[i]? = some (Slt.own u) := h
  by_cases hi : i < us.length
  · rw [List.getElem?_append_left (by simpa using hi), List.getElem?_map, List.getElem?_eq_getElem hi] at h1
    cases h1
  · rw [List.getElem?_append_right (by simp; omega)] at h1
    obtain ⟨_, h2⟩ := List.getElem?_eq_some_iff.mp h1
    rw [List.getElem_replicate] at h2
    cases h2
theorem ExS.toM {A : List Nat} {us m : List U} {n : Nat} {s' : Sta} {σ σ' : L2.St} {W W' : Wd} {H H' : Hp} (e : ExS A ⟨slots0 us n, m⟩ s' σ σ' W W' H H') : ExtM W W' H H' :=
  ⟨e.le, e.kp, fun a o h1 h2 => e.fr a o h1 h2 no_own, fun a h => by
    rcases e.new a h with q | q | q
    · exact .inl q
    · exact absurd q no_own
    · exact .inr q⟩
/-- what an __init__ may change: its instance at x, too -/
structure ExtX (x : Addr) (W W' : Wd) (H H' : Hp) : Prop where
  le : W.le W'
  kp : Kp W H H'
  fr : ∀ a o, H a = some o → a ∉ W.al → a ≠ x → H' a = some o
  new : ∀ a, ((W'.fz a ∧ ¬ W.fz a) ∨ (a ∈ W'.al ∧ a ∉ W.al)) → H a = none ∨ a = x ∨ a ∈ W.al
/-- an __init__'s promise -/
def spN (G : Nms) (g : Gst) (d : MDef) (c n : Nat) : Sp := fun vs H Q E => ∃ (W : Wd) (us m : List U) (x dx : Addr) (vs' : List V), vs = .ref x :: vs' ∧ RelSh G W m H ∧ RepVs G W H us vs' ∧ ¬ W.fz x ∧ x ∉ W.al ∧ H x = some (.ins (G.cA c) dx []) ∧ match runInit g d c n us m with
  | .ok u m' => ∀ W' H', ExtX x W W' H H' → RelSh G W' m' H' → ¬ W'.fz x → x ∉ W'.al → Cont G W' H' x u → Q .non H'
  | .exc e m' => ∀ W' H' cls d, ExtX x W W' H H' → RelSh G W' m' H' → ExcOk G W' H' e cls d → E cls d H'
  | .stuck => False
variable {W : Wd} {H : Hp} {us m : List U} {vs : List V}
theorem holes_rep : ∀ nf : Nat, RepFs G W H (List.replicate nf .hole) (List.replicate nf none)
  | 0 => by simp only [List.replicate_zero, RepFs]
  | nf + 1 => by simp only [List.replicate_succ, RepFs]; exact ⟨_, rfl, holes_rep nf⟩
/-- a frame's start, the instance's own name first -/
theorem start_frN {N : List Str} {n c nf : Nat} {x dx : Addr} (O : ClassOk G g) (hn : n = N.length) (hl : us.length + 1 ≤ n) (rv : RepVs G W H us vs) (rm : RelSh G W m H) (f : ¬ W.fz x) (nl : x ∉ W.al) (hx : H x = some (.ins (G.cA c) dx [])) :
    RelFr G W ⟨.own (.obj c (List.replicate nf .hole)) :: slots0 us (n - 1), m⟩ (L2.start N (.ref x :: vs)) H := by
  have hlen := RepVs.length rv
  have r0 := start_fr (N := N.tail) (n := n - 1) (by rw [List.length_tail]; omega) (by omega) rv rm
  have hσ : L2.start N (.ref x :: vs) = some (.ref x) :: L2.start N.tail vs := by
    show (V.ref x :: vs).map some ++ List.replicate (N.length - (vs.length + 1)) none = some (.ref x) :: (vs.map some ++ List.replicate (N.tail.length - vs.length) none)
    rw [List.length_tail, List.map_cons, List.cons_append, show N.length - 1 - vs.length = N.length - (vs.length + 1) by omega]
  rw [hσ]
  refine ⟨?_, fun i y hy => ?_, fun i j u u' a ij h1 h2 a1 a2 => ?_, rm⟩
  · have := r0.len
    show (slots0 us (n - 1)).length + 1 = (L2.start N.tail vs).length + 1
    have h' : (slots0 us (n - 1)).length = (L2.start N.tail vs).length := this
    omega
  · cases i with
    | zero =>
      have hy : some (Slt.own (.obj c (List.replicate nf .hole))) = some y := by simpa using hy
      cases hy
      refine ⟨some (.ref x), rfl, x, rfl, f, nl, ?_⟩
      simp only [MP.Cont]
      refine ⟨dx, [], hx, List.replicate nf none, ?_, ⟨fun n' k' h' => ?_, by simp, by simp⟩⟩
      · exact holes_rep nf
      · have := O.lt c n' k' h'
        refine ⟨_, List.getElem?_eq_getElem this, ?_⟩
        show none = _
        rw [List.getElem?_replicate]
        split <;> rfl
    | succ i =>
      have hy : (slots0 us (n - 1))[i]? = some y := by simpa using hy
      obtain ⟨z, h1, h2⟩ := r0.slt i y hy
      exact ⟨z, by simpa using h1, h2⟩
  · have key : ∀ i u, (Slt.own (.obj c (List.replicate nf .hole)) :: slots0 us (n - 1))[i]? = some (Slt.own u) → i = 0 := fun i u h => by
      cases i with
      | zero => rfl
      | succ i =>
        exfalso
        have h : (slots0 us (n - 1))[i]? = some (Slt.own u) := by simpa using h
        exact no_own (us := us) (m := m) (n := n - 1) (σ := List.replicate (i + 1) (some (V.ref x))) (a := x) ⟨i, u, h, by simp [List.getElem?_replicate]⟩
    exact ij ((key i u h1).trans (key j u' h2).symm)
theorem ownN {c nf n : Nat} {σ : L2.St} {x a : Addr} (hσ : σ[0]? = some (some (V.ref x))) (h : Ownd ⟨.own (.obj c (List.replicate nf .hole)) :: slots0 us n, m⟩ σ a) : a = x := by
  obtain ⟨i, u, h1, h2⟩ := h
  cases i with
  | zero =>
    rw [hσ] at h2
    cases h2
    rfl
  | succ i =>
    exfalso
    have h : (slots0 us n)[i]? = some (Slt.own u) := by simpa using h1
    exact no_own (us := us) (m := m) (n := n) (σ := List.replicate (i + 1) (some (V.ref x))) (a := x) ⟨i, u, h, by simp [List.getElem?_replicate]⟩
theorem ExS.toX {A : List Nat} {c nf n : Nat} {s' : Sta} {σ σ' : L2.St} {W W' : Wd} {H H' : Hp} {x : Addr} (hσ : σ[0]? = some (some (V.ref x))) (e : ExS A ⟨.own (.obj c (List.replicate nf .hole)) :: slots0 us n, m⟩ s' σ σ' W W' H H') : ExtX x W W' H H' :=
  ⟨e.le, e.kp, fun a o h1 h2 h3 => e.fr a o h1 h2 fun z => h3 (ownN hσ z), fun a h => by
    rcases e.new a h with q | q | q
    · exact .inl q
    · exact .inr (.inl (ownN hσ q))
    · exact .inr (.inr q)⟩
/-- an instance's content, never changed any more -/
theorem rep_of_cont {W : Wd} {H : Hp} {p : Addr} {cc : Nat} {fs : List U} (c : Cont G W H p (.obj cc fs)) : RepV G (W.ice p) H (.obj cc fs) (.ref p) := by
  have c' : Cont G (W.ice p) H p (.obj cc fs) := c.mono Wd.le_ice (.refl W H) fun _ h => h
  obtain ⟨dx, fvs, q1, q2⟩ : ∃ dx fvs, H p = some (.ins (G.cA cc) dx fvs) ∧ ∃ ws, RepFs G (W.ice p) H fs ws ∧ FldOk G cc fvs ws := by simpa only [MP.Cont] using c'
  simp only [RepV]
  exact ⟨p, dx, fvs, rfl, .inr rfl, q1, q2⟩
theorem RelSh.more {W : Wd} {m : List U} {H : Hp} {p : Addr} {u : U} (r : RelSh G W m H) (f : ¬ W.fz p) (n : p ∉ W.al) (c : Cont G W H p u) : RelSh G (W.more p) (m ++ [u]) H := by
  refine ⟨?_, ?_, fun k a hm => ?_, r.sm⟩
  · show (m ++ [u]).length = (W.al ++ [p]).length
    rw [List.length_append, List.length_append, r.len]; rfl
  · show (W.al ++ [p]).Nodup
    rw [List.nodup_append]
    refine ⟨r.nod, by simp, fun a ha b hb => ?_⟩
    have : b = p := by simpa using hb
    subst this
    exact fun z => n (z ▸ ha)
  · have hm : (W.al ++ [p])[k]? = some a := hm
    by_cases hlt : k < W.al.length
    · rw [List.getElem?_append_left hlt] at hm
      obtain ⟨z1, u', z2, z3⟩ := r.mem k a hm
      refine ⟨z1, u', ?_, z3.mono Wd.le_more (.refl W H) fun _ h => h⟩
      rw [List.getElem?_append_left (by rw [r.len]; exact hlt)]
      exact z2
    · rw [List.getElem?_append_right (by omega)] at hm
      have h0 : k - W.al.length = 0 := by
        have := (List.getElem?_eq_some_iff.mp hm).1
        simp at this; omega
      rw [h0] at hm
      have hp : p = a := by simpa using hm
      subst hp
      refine ⟨f, u, ?_, c.mono Wd.le_more (.refl W H) fun _ h => h⟩
      rw [List.getElem?_append_right (by rw [r.len]; omega), r.len, h0]
      rfl
theorem runInit_obj {d : MDef} {c n : Nat} {us m m' : List U} {u : U} (h : runInit g d c n us m = .ok u m') : ∃ c' fs, u = .obj c' fs := by
  unfold runInit at h
  split at h
  · split at h
    · split at h
      · cases h; exact ⟨_, _, rfl⟩
      · cases h
    · cases h
    · cases h
    · cases h
  · cases h
/-- from the making's promise to that of __init__ -/
theorem spN_of {mk c n kind : Nat} {d : MDef} {g1 : Gst} {vs : List V} {H : Hp} {Q : VK} {E : XK} (hcall : ∀ us m, g1.call mk us m = match runInit g d c n us m with
    | .ok u m => if kind == 1 then .ok u m else .ok (.ref m.length) (m ++ [u])
    | r => r) (h : spI G g1 mk vs H Q E) (x dx : Addr) (hx : H x = none) (hdx : H dx = none) (hne : dx ≠ x) :
    spN G g d c n (.ref x :: vs) (L2.upd (L2.upd H dx (.own x)) x (.ins (G.cA c) dx [])) (fun v H2 => v = .non ∧ Q (.ref x) H2) E := by
  obtain ⟨W, us, m, rm, rv, h⟩ := h
  have hx1 : L2.upd H dx (.own x) x = none := by rw [upd_ne hne.symm]; exact hx
  have k1 : Kp W H (L2.upd H dx (.own x)) := kp_upd hdx
  have k2 : Kp W (L2.upd H dx (.own x)) (L2.upd (L2.upd H dx (.own x)) x (.ins (G.cA c) dx [])) := kp_upd hx1
  have kk := k1.trans (.refl W) k2
  have fx : ¬ W.fz x := fun z => by obtain ⟨o, e⟩ := rm.sm x z; rw [hx] at e; cases e
  have ax : x ∉ W.al := fun z => by obtain ⟨o, e⟩ := rm.al_some z; rw [hx] at e; cases e
  have adx : dx ∉ W.al := fun z => by obtain ⟨o, e⟩ := rm.al_some z; rw [hdx] at e; cases e
  refine ⟨W, us, m, x, dx, vs, rfl, (rm.upd hdx).upd hx1, RepVs.mono (.refl W) kk us rv, fx, ax, upd_same, ?_⟩
  rw [hcall] at h
  have keep : ∀ a o, H a = some o → L2.upd (L2.upd H dx (.own x)) x (.ins (G.cA c) dx []) a = some o := fun a o e => by
    rw [upd_ne (ne_of_none e hx), upd_ne (ne_of_none e hdx)]; exact e
  have back : ∀ {W' : Wd} {H' : Hp}, ExtX x W W' (L2.upd (L2.upd H dx (.own x)) x (.ins (G.cA c) dx [])) H' → ExtM W W' H H' := fun e =>
    ⟨e.le, kk.trans (.refl W) e.kp, fun a o h1 h2 => e.fr a o (keep a o h1) h2 (ne_of_none h1 hx), fun a ha => by
      rcases e.new a ha with q | q | q
      · left
        cases e2 : H a with
        | none => rfl
        | some o => rw [keep a o e2] at q; cases q
      · subst q; exact .inl hx
      · exact .inr q⟩
  cases er : runInit g d c n us m with
  | stuck => rw [er] at h; exact h
  | exc e m' =>
    rw [er] at h
    exact fun W' H' cls dd e' r' hh => h W' H' cls dd (back e') r' hh
  | ok u m' =>
    rw [er] at h
    intro W' H' e' r' f' n' c'
    refine ⟨rfl, ?_⟩
    obtain ⟨c0, fs0, rfl⟩ := runInit_obj er
    have eM := back e'
    by_cases hk : (kind == 1) = true
    · simp only [hk, if_true] at h
      obtain ⟨o, ho⟩ := c'.some
      refine h (W'.ice x) H' (.ref x) ⟨eM.le.trans Wd.le_ice, eM.kp, eM.fr, fun a ha => ?_⟩ (r'.ice n' ho) (rep_of_cont c')
      rcases ha with ⟨q1, q2⟩ | q1
      · rcases q1 with q1 | q1
        · exact eM.new a (.inl ⟨q1, q2⟩)
        · subst q1; exact .inl hx
      · exact eM.new a (.inr q1)
    · simp only [hk, if_false, Bool.false_eq_true] at h
      refine h (W'.more x) H' (.ref x) ⟨eM.le.trans Wd.le_more, eM.kp, eM.fr, fun a ha => ?_⟩ (r'.more f' n' c') ?_
      · rcases ha with q1 | ⟨q1, q2⟩
        · exact eM.new a (.inl q1)
        · rcases List.mem_append.mp q1 with z | z
          · exact eM.new a (.inr ⟨z, q2⟩)
          · have : a = x := by simpa using z
            subst this; exact .inl hx
      · simp only [RepV]
        refine ⟨x, ?_, rfl⟩
        show (W'.al ++ [x])[m'.length]? = _
        rw [r'.len, List.getElem?_append_right (Nat.le_refl _)]
        simp
end
end MP
set_option maxRecDepth 100000
set_option maxHeartbeats 4000000
/-! R4c: all defs, methods and classes of a program. -/
namespace MP
open PySem PySem.Spec PyProof.Rows L2
/-- a def: its name, where it stands, its number, what it does, its names, its text -/
structure PD where
  nm : Str
  ql : Str
  at_ : Str × Option Str
  f : Nat
  d : MDef
  N : List Str
  st : Stmt
  /-- the number of its table of code objects, where it makes lambdas -/
  tid : Option Nat
def PD.ps (q : PD) : List Str := q.N.take q.d.params
/-- an own class of instances: its name and number, what makes one, how many fields, 1 or 2, its __init__ -/
structure CD where
  x : Str
  c : Nat
  mkn : Nat
  n : Nat
  kind : Nat
  q : PD
/-- a program's table -/
structure PT0 where
  p : Prg
  defs : List PD
  mds : List PD
  inits : List CD
  cls : List (Str × Nat)
  exs : List (Str × Nat)
  fn : List (Str × Nat)
  glo : List (Str × Nat × U)
  isi : List Nat
  mth : List (Str × Nat)
  aL : List Str
  attT : List ((Nat × Nat) × Nat)
  mtT : List ((Nat × Nat) × Nat)
  /-- defs that are called with lambdas -/
  lms : List PD
  /-- defs that make lambdas: where they stand, their names -/
  mkT : List ((Str × Option Str) × Str)
def PT0.mks (T : PT0) : List (Str × Nat) := T.inits.map fun z => (z.x, z.mkn)
def PT0.lmN (T : PT0) : List (Str × Nat) := T.lms.map fun q => (q.nm, q.f)
def PT0.sc (T : PT0) (N : List Str) (cv : Bool) (tid : Option Nat) : SC := ⟨N, T.cls, T.fn, T.glo, T.isi, T.exs, T.mks, T.mth, T.aL.zipIdx, T.lmN, cv, tid⟩
def lamQ (ql : Str) : Str := (ql ++ ".<locals>.") ++ "<lambda>"
def tidOk (T : PT0) (q : PD) : Bool := match q.tid with
  | none => true
  | some t => decide (T.mkT[t]? = some (q.at_, q.ql))
def okNo : Option (Nat × Nat × Nat × Nat) → Bool
  | none => true
  | some _ => false
/-- the look at a def -/
def PD.ok (T : PT0) (q : PD) : Bool := okNo (T.p.ctor q.f) && decide (q.d.slots = q.N.length) && decide (q.d.params ≤ q.d.slots) && C8.scC q.N q.ps (defScope q.st) && chkSs (T.sc q.N false q.tid) (defScope q.st) q.d.body (defBody q.st) && tidOk T q
/-- the look at a def that is called with a lambda -/
def PD.okL (T : PT0) (q : PD) : Bool := decide (q.d.params = 1) && decide (q.d.slots = q.N.length) && decide (q.d.params ≤ q.d.slots) && C8.scC q.N q.ps (defScope q.st) && chkSs (T.sc q.N true none) (defScope q.st) q.d.body (defBody q.st) && (match q.N with
  | a :: _ => visB (defScope q.st) a && !(a == ("__debug__" : Str)) && !(a == ("__classdict__" : Str))
  | [] => false)
/-- the look at an __init__ -/
def CD.ok (T : PT0) (z : CD) : Bool := decide (T.p.ctor z.mkn = some (z.c, z.n, z.q.f, z.kind)) && decide (z.q.d.slots = z.q.N.length) && decide (z.q.d.params ≤ z.q.d.slots) && decide (1 ≤ z.q.d.params) && C8.scC z.q.N z.q.ps (defScope z.q.st) && chkSs (T.sc z.q.N false none) (defScope z.q.st) z.q.d.body (defBody z.q.st) && !(asgSs z.q.d.body).contains 0
theorem scope_by {N P : List Str} {sc : Scope} (h : C8.scC N P sc = true) : FnScope N P sc := C8.fnScope_by h
section
variable {T : PT0} {G : Nms} {mg : Str → Option Value} {base : Heap}
/-- a def at its place -/
def FnD (G : Nms) (q : PD) : Prop := ∃ fd, FunD G.K q.nm q.ql (defArgs q.st) (defBody q.st) (defScope q.st) [] [] (G.fA q.f) fd ∧ Binds G.K fd q.ps []
/-- the tables of those that make lambdas -/
def TbOk (T : PT0) (G : Nms) (mg : Str → Option Value) (base : Heap) : Prop := ∀ t z, T.mkT[t]? = some z → G.tA t = (He.cT G.K z.1).2 ∧ G.tq t = lamQ z.2 ∧ LamX.TabB base mg (He.cT G.K z.1).1 (He.cT G.K z.1).2
/-- a level of calls -/
structure LvOk (T : PT0) (G : Nms) (mg : Str → Option Value) (base : Heap) (n : Nat) : Prop where
  calls : ∀ x f, T.fn.lookup x = some f → CallOk G (stOf T.p n) G.K mg base (4 * n + 1) x f
  makes : ∀ x f, T.mks.lookup x = some f → MakeOk G (stOf T.p n) G.K mg base (4 * n + 1) x f
  meths : ∀ name mi c f, T.mth.lookup name = some mi → T.p.meth c mi = some f → MethOk G (stOf T.p n) G.K mg base (4 * n + 1) c name f
  lams : ∀ x f, T.lmN.lookup x = some f → LamOk G (stOf T.p n) G.K mg base (4 * n + 1) x f
theorem st_mt (p : Prg) (n : Nat) : (stOf p n).mt = p.meth := by cases n <;> rfl
/-- the maker's code object and its table -/
theorem mkr_of (tb : TbOk T G mg base) {q : PD} (ht : tidOk T q = true) (hfA : G.fA q.f = He.fAd G.K q.at_) {oc : Value} {od : Option Addr} {osl : Array (Option Value)} {fd : FuncData} {cdv : Value} (lk : G.K.lookup (G.fA q.f) = some ⟨oc, od, .func fd, osl⟩) (hc : PySem.W.codeIn G.K cdv q.ql = true) (hfd : fd.code = cdv) :
    ∀ t, q.tid = some t → ∃ c, cdv = .ref c ∧ LamX.TabB base mg c (G.tA t) ∧ (q.ql ++ ".<locals>.") ++ "<lambda>" = G.tq t := fun t h => by
  unfold tidOk at ht
  rw [h] at ht
  have ht := of_decide_eq_true ht
  obtain ⟨e1, e2, e3⟩ := tb t _ ht
  obtain ⟨c, rfl⟩ := He.codeIn_ref hc
  refine ⟨c, rfl, ?_, e2.symm⟩
  rw [hfA] at lk
  have := He.codeOf_eq lk hfd
  rw [e1]
  have e4 : (He.cT G.K q.at_).1 = c := this
  rw [← e4]
  exact e3
theorem def_ok2 {q : PD} {n : Nat} {fd : FuncData} (hd : T.p.def_ q.f = some q.d) (ho : q.ok T = true) (hfA : G.fA q.f = He.fAd G.K q.at_) (F : FunD G.K q.nm q.ql (defArgs q.st) (defBody q.st) (defScope q.st) [] [] (G.fA q.f) fd)
    (s0 : ∀ cv tid, St0 (T.sc q.N cv tid) G (stOf T.p n) mg) (lv : LvOk T G mg base n) (tb : TbOk T G mg base) (rs : ∀ x c, T.exs.lookup x = some c → RaiseOk G G.K mg x c) :
    FnOk G.P G.w G.K mg base (L2.CX G.P G.w) (4 * n + 4) (G.fA q.f) fd q.ps (spI G (stOf T.p (n + 1)) q.f) := by
  unfold PD.ok at ho
  simp only [Bool.and_eq_true, decide_eq_true_eq] at ho
  obtain ⟨⟨⟨⟨⟨h1, h2⟩, h3⟩, h4⟩, h5⟩, h6⟩ := ho
  have hct : T.p.ctor q.f = none := by
    cases e : T.p.ctor q.f with
    | none => rfl
    | some z => rw [e] at h1; cases h1
  have S := scope_by h4
  have hpl : q.ps.length = q.d.params := by unfold PD.ps; rw [List.length_take]; omega
  have hcall : ∀ us m, (stOf T.p (n + 1)).call q.f us m = runDef (stOf T.p n) q.d us m := fun us m => by
    show (match T.p.ctor q.f with | some (c, k, i, kind) => _ | none => match T.p.def_ q.f with | some d => runDef (stOf T.p n) d us m | none => .stuck) = _
    rw [hct, hd]
  obtain ⟨oc, od, dV, kV, doc, pm, an, cdv, ct, osl, rfl, lk, hcd, _, _⟩ := F.ex
  have hmk := mkr_of tb h6 hfA lk hcd rfl
  refine fn_of (k := 4 * n + 3) lk hcd S (fun vs H Q E h => ?_) fun A outer s H vs Q E hr h => ?_
  · obtain ⟨W, us, m, rm, rv, h⟩ := h
    rw [hcall] at h
    unfold runDef at h
    have := RepVs.length rv
    by_cases hl : us.length = q.d.params
    · omega
    · rw [if_neg (by simpa using hl)] at h; exact h.elim
  · obtain ⟨W, us, m, rm, rv, h⟩ := h
    rw [hcall] at h
    unfold runDef at h
    by_cases hl : us.length = q.d.params
    · rw [if_pos (by simpa using hl)] at h
      have D := fullS_of (C := T.sc q.N false q.tid) (qual := q.ql) (cdv := cdv) (f := G.fA q.f) (E := E) (H := H) (outer := outer) (k := 4 * n + 1) (s0 false q.tid) S.kind hr (fun z => by cases z) hmk lv.lams lv.calls lv.makes (fun name mi c f h1 h2 => lv.meths name mi c f h1 (by rw [st_mt] at h2; exact h2)) rs
      refine ⟨_, sSs q.d.body (defBody q.st) _ _ D h5, W, ⟨slots0 us q.d.slots, m⟩, start_fr h2 (by omega) rv rm, ?_⟩
      cases ee : execs (stOf T.p n) q.d.body ⟨slots0 us q.d.slots, m⟩ with
      | stuck => rw [ee] at h; exact h
      | exc e s' => rw [ee] at h; exact fun W' σ' H' cls dd e' r' hx => h W' H' cls dd e'.toM r'.m hx
      | ok fl s' =>
        rw [ee] at h
        intro W' σ' H' e' r'
        cases fl with
        | next => exact h W' H' .non e'.toM r'.m (by simp only [RepV])
        | ret u => exact fun v hv => h W' H' v e'.toM r'.m hv
        | brk => exact h.elim
        | cont => exact h.elim
    · rw [if_neg (by simpa using hl)] at h; exact h.elim
theorem init_ok {z : CD} {n : Nat} {fd : FuncData} (hd : T.p.def_ z.q.f = some z.q.d) (ho : z.ok T = true) (F : FunD G.K z.q.nm z.q.ql (defArgs z.q.st) (defBody z.q.st) (defScope z.q.st) [] [] (G.fA z.q.f) fd)
    (s0 : ∀ cv tid, St0 (T.sc z.q.N cv tid) G (stOf T.p n) mg) (lv : LvOk T G mg base n) (rs : ∀ x c, T.exs.lookup x = some c → RaiseOk G G.K mg x c) :
    FnOk G.P G.w G.K mg base (L2.CX G.P G.w) (4 * n + 4) (G.fA z.q.f) fd z.q.ps (spN G (stOf T.p n) z.q.d z.c z.n) := by
  unfold CD.ok at ho
  simp only [Bool.and_eq_true, decide_eq_true_eq, Bool.not_eq_true'] at ho
  obtain ⟨⟨⟨⟨⟨⟨h1, h2⟩, h3⟩, h3b⟩, h4⟩, h5⟩, h6⟩ := ho
  have S := scope_by h4
  have hpl : z.q.ps.length = z.q.d.params := by unfold PD.ps; rw [List.length_take]; omega
  refine F.ok (k := 4 * n + 3) S (fun vs H Q E h => ?_) fun cdv A outer s H vs Q E hr h => ?_
  · obtain ⟨W, us, m, x, dx, vs', rfl, rm, rv, f, nl, hx, h⟩ := h
    unfold runInit at h
    have := RepVs.length rv
    by_cases hl : us.length + 1 = z.q.d.params
    · rw [List.length_cons]; omega
    · rw [if_neg (by simpa using hl)] at h; exact h.elim
  · obtain ⟨W, us, m, x, dx, vs', rfl, rm, rv, f, nl, hx, h⟩ := h
    unfold runInit at h
    by_cases hl : us.length + 1 = z.q.d.params
    · rw [if_pos (by simpa using hl)] at h
      have D := fullS_of (C := T.sc z.q.N false none) (qual := z.q.ql) (cdv := cdv) (f := G.fA z.q.f) (E := E) (H := H) (outer := outer) (k := 4 * n + 1) (s0 false none) S.kind hr (fun z => by cases z) (fun t z => by cases z) lv.lams lv.calls lv.makes (fun name mi c f h1 h2 => lv.meths name mi c f h1 (by rw [st_mt] at h2; exact h2)) rs
      have hσ : (L2.start z.q.N (.ref x :: vs'))[0]? = some (some (V.ref x)) := rfl
      refine ⟨_, sSs z.q.d.body (defBody z.q.st) _ _ D h5, W, _, start_frN (c := z.c) (nf := z.n) (s0 false none).co h2 (by omega) rv rm f nl hx, ?_⟩
      cases ee : execs (stOf T.p n) z.q.d.body ⟨.own (.obj z.c (List.replicate z.n .hole)) :: slots0 us (z.q.d.slots - 1), m⟩ with
      | stuck => rw [ee] at h; exact h
      | exc e s' => rw [ee] at h; exact fun W' σ' H' cls dd e' r' hx => h W' H' cls dd (e'.toX hσ) r'.m hx
      | ok fl s' =>
        rw [ee] at h
        intro W' σ' H' e' r'
        cases fl with
        | next =>
          simp only at h
          cases es : slot s' 0 with
          | own u =>
            rw [es] at h
            obtain ⟨_, p, q1, q2, q3, q4⟩ := r'.ownAt es
            rw [e'.keep 0 (by simpa using h6), hσ] at q1
            cases q1
            cases u with
            | obj c fs => exact h W' H' (e'.toX hσ) r'.m q2 q3 q4
            | _ => exact h.elim
          | no => rw [es] at h; exact h.elim
          | val u => rw [es] at h; exact h.elim
          | clo us => rw [es] at h; exact h.elim
        | ret u => exact h.elim
        | brk => exact h.elim
        | cont => exact h.elim
    · rw [if_neg (by simpa using hl)] at h; exact h.elim
/-- a def that is called with a lambda -/
theorem lam_ok {q : PD} {n : Nat} {fd : FuncData} (hd : T.p.def_ q.f = some q.d) (ho : q.okL T = true) (F : FunD G.K q.nm q.ql (defArgs q.st) (defBody q.st) (defScope q.st) [] [] (G.fA q.f) fd) (B : Binds G.K fd q.ps []) (hm : mg q.nm = some (.ref (G.fA q.f)))
    (s0 : ∀ (G' : Nms), (∃ f c qq vs, G' = G.lam f c qq vs) → ∀ (g : Gst), (∃ φ, g = { stOf T.p n with clo := φ }) → St0 (T.sc q.N true none) G' g mg)
    (lv : ∀ (G' : Nms), (∃ f c qq vs, G' = G.lam f c qq vs) → LvOk T G' mg base n) (rs : ∀ (G' : Nms), (∃ f c qq vs, G' = G.lam f c qq vs) → ∀ x c, T.exs.lookup x = some c → RaiseOk G' G.K mg x c) :
    LamOk G (stOf T.p (n + 1)) G.K mg base (4 * n + 5) q.nm q.f := by
  unfold PD.okL at ho
  simp only [Bool.and_eq_true, decide_eq_true_eq] at ho
  obtain ⟨⟨⟨⟨⟨h1, h2⟩, h3⟩, h4⟩, h5⟩, h6⟩ := ho
  have S := scope_by h4
  obtain ⟨oc, od, dV, kV, doc, pm, an, cdv, ct, osl, rfl, lk, hcd, _, _⟩ := F.ex
  cases hN : q.N with
  | nil => rw [hN] at h6; cases h6
  | cons a N' =>
  rw [hN] at h6
  simp only [Bool.and_eq_true, Bool.not_eq_true'] at h6
  have hps : q.ps = [a] := by unfold PD.ps; rw [hN, h1]; rfl
  have hvis : Vis (defScope q.st) a := by
    have hv := h6.1.1
    unfold visB at hv
    unfold Vis
    split at hv
    · exact .inl (by assumption)
    · exact .inr (.inl (by assumption))
    · exact .inr (.inr (by assumption))
    · cases hv
  refine ⟨G.fA q.f, q.N, defScope q.st, cdv, q.ql, a, hm, F.kp, by rw [hN]; rfl, hvis, h6.1.2, h6.2, ?_⟩
  intro A outer s H Q E lf lc lq lv' us m φ W hr e0 hK act rm fz co rv h
  have hcall : (stOf T.p (n + 1)).callL q.f us φ m = runL (stOf T.p n) q.d us φ m := by
    show (match T.p.def_ q.f with | some d => runL (stOf T.p n) d us φ m | none => .stuck) = _
    rw [hd]
  rw [hcall] at h
  unfold runL at h
  rw [if_pos (by simpa using h1)] at h
  have hG : ∃ f c qq vs, G.lam lf lc lq lv' = G.lam f c qq vs := ⟨_, _, _, _, rfl⟩
  refine LamX.run_ofS (k := 4 * n + 4) (N := q.N) (ps := [a]) (us := [.ref lf]) (vs := [.ref lf]) lk hcd (by rw [← hps]; exact S) hr e0 (by have := B s [.ref lf] hK (by rw [hps]; rfl); rw [hps] at this; exact this) (.cons rfl .nil) rfl fun hr' => ?_
  have D := fullS_of (C := T.sc q.N true none) (G := G.lam lf lc lq lv') (g := { stOf T.p n with clo := φ }) (mg := mg) (base := base) (qual := q.ql) (cdv := cdv) (f := G.fA q.f) (E := E) (H := H) (outer := outer) (k := 4 * n + 1) (A := A) (s := s) (s0 _ hG _ ⟨φ, rfl⟩) S.kind (hr'.mono (by omega))
    (fun _ a' p1 p2 pn xe Wx ha' tk => by
      have ha' : q.N[0]? = some a' := ha'
      rw [hN] at ha'
      cases ha'
      exact PEi (act pn xe Wx p1 p2 tk) fun σ H Q hh => by
        obtain ⟨W, s, r, hh⟩ := hh
        refine ⟨W, s, r, ?_⟩
        have e0 : evalE { stOf T.p n with clo := φ } (.callv 0 []) s = (match slot s 0 with | .clo us => rc s.r (φ us s.m) | _ => .stuck) := by
          conv => lhs; unfold evalE
          try rfl
        rw [e0] at hh
        exact hh)
    (fun t z => by cases z) (lv _ hG).lams (lv _ hG).calls (lv _ hG).makes (fun name mi c f h1 h2 => by
      have h2 : (stOf T.p n).mt c mi = some f := h2
      rw [st_mt] at h2
      have M := (lv _ hG).meths name mi c f h1 h2
      exact ⟨M.cls, M.at_, M.fn⟩) (rs _ hG)
  have hstart : RelFr (G.lam lf lc lq lv') W ⟨.clo us :: slots0 [] (q.d.slots - 1), m⟩ (L2.start q.N [.ref lf]) H := by
    have hlen : (slots0 [] (q.d.slots - 1)) = List.replicate (q.d.slots - 1) Slt.no := by simp [slots0]
    refine ⟨?_, fun i x hx => ?_, fun i j u u' b _ q1 _ _ _ => ?_, RelSh.lam.mpr rm⟩
    · show (slots0 [] (q.d.slots - 1)).length + 1 = ([V.ref lf].map some ++ List.replicate (q.N.length - 1) none).length
      rw [hlen]
      simp; omega
    · show ∃ y, ([V.ref lf].map some ++ List.replicate (q.N.length - 1) none)[i]? = some y ∧ _
      cases i with
      | zero =>
        cases hx
        exact ⟨_, rfl, rfl, fz, co, (RepVs.lam us).mpr rv⟩
      | succ i =>
        have hx : (slots0 [] (q.d.slots - 1))[i]? = some x := by simpa using hx
        rw [hlen, List.getElem?_replicate] at hx
        split at hx
        · cases hx
          refine ⟨none, ?_, trivial⟩
          simp only [List.map_cons, List.map_nil, List.cons_append, List.nil_append, List.getElem?_cons_succ, List.getElem?_replicate]
          rw [if_pos (by omega)]
        · cases hx
    · cases i with
      | zero => cases q1
      | succ i =>
        have q1 : (slots0 [] (q.d.slots - 1))[i]? = some (Slt.own u) := by simpa using q1
        rw [hlen, List.getElem?_replicate] at q1
        split at q1 <;> cases q1
  have nown : ∀ b, ¬ Ownd ⟨.clo us :: slots0 [] (q.d.slots - 1), m⟩ (L2.start q.N [.ref lf]) b := fun b ⟨i, u, q1, _⟩ => by
    cases i with
    | zero => cases q1
    | succ i =>
      have q1 : (slots0 [] (q.d.slots - 1))[i]? = some (Slt.own u) := by simpa using q1
      have hlen : (slots0 [] (q.d.slots - 1)) = List.replicate (q.d.slots - 1) Slt.no := by simp [slots0]
      rw [hlen, List.getElem?_replicate] at q1
      split at q1 <;> cases q1
  have toM : ∀ {s' : Sta} {σ' : L2.St} {W' : Wd} {H' : Hp}, ExS (asgSs q.d.body) ⟨.clo us :: slots0 [] (q.d.slots - 1), m⟩ s' (L2.start q.N [.ref lf]) σ' W W' H H' → ExtM W W' H H' := fun e =>
    ⟨e.le, e.kp, fun a o h1 h2 => e.fr a o h1 h2 (nown a), fun a h => by
      rcases e.new a h with q | q | q
      · exact .inl q
      · exact absurd q (nown a)
      · exact .inr q⟩
  refine ⟨_, sSs q.d.body (defBody q.st) _ _ D h5, W, _, hstart, ?_⟩
  cases ee : execs { stOf T.p n with clo := φ } q.d.body ⟨.clo us :: slots0 [] (q.d.slots - 1), m⟩ with
  | stuck => rw [ee] at h; exact h
  | exc e s' => rw [ee] at h; exact fun W' σ' H' cls dd e' r' hx => h W' H' cls dd (toM e') (RelSh.lam.mp r'.m) hx
  | ok fl s' =>
    rw [ee] at h
    intro W' σ' H' e' r'
    cases fl with
    | next => exact h W' H' .non (toM e') (RelSh.lam.mp r'.m) (by simp only [RepV])
    | ret u => exact fun v hv => h W' H' v (toM e') (RelSh.lam.mp r'.m) ((RepV.lam u).mp hv)
    | brk => exact h.elim
    | cont => exact h.elim
/-- what the head tells of a program -/
structure HdOk (T : PT0) (G : Nms) (mg : Str → Option Value) : Prop where
  fn : ∀ x f, T.fn.lookup x = some f → ∃ q ∈ T.defs, q.nm = x ∧ q.f = f
  fnD : ∀ q ∈ T.defs, FnD G q ∧ mg q.nm = some (.ref (G.fA q.f))
  mdD : ∀ q ∈ T.mds, FnD G q
  lmD : ∀ q ∈ T.lms, FnD G q ∧ mg q.nm = some (.ref (G.fA q.f))
  mt : ∀ name mi c f, T.mth.lookup name = some mi → T.p.meth c mi = some f → Cls G.K (G.cA c) ∧ Meth G.K (G.cA c) name (G.fA f) ∧ ∃ q ∈ T.mds, q.f = f
  inD : ∀ z ∈ T.inits, FnD G z.q ∧ mg z.x = some (.ref (G.cA z.c)) ∧ Mk G.K (G.cA z.c) (G.fA z.q.f)
  hd : ∀ q, (q ∈ T.defs ∨ q ∈ T.mds ∨ (∃ z ∈ T.inits, z.q = q) ∨ q ∈ T.lms) → T.p.def_ q.f = some q.d
  fa : ∀ q, (q ∈ T.defs ∨ q ∈ T.mds ∨ (∃ z ∈ T.inits, z.q = q) ∨ q ∈ T.lms) → G.fA q.f = He.fAd G.K q.at_
  ok1 : ∀ q ∈ T.defs, q.ok T = true
  ok2 : ∀ q ∈ T.mds, q.ok T = true
  ok3 : ∀ z ∈ T.inits, z.ok T = true
  ok4 : ∀ q ∈ T.lms, q.okL T = true
  s0 : ∀ q, (q ∈ T.defs ∨ q ∈ T.mds ∨ (∃ z ∈ T.inits, z.q = q) ∨ q ∈ T.lms) → ∀ n cv tid, St0 (T.sc q.N cv tid) G (stOf T.p n) mg
  rs : ∀ x c, T.exs.lookup x = some c → RaiseOk G G.K mg x c
theorem mks_mem {x : Str} {f : Nat} (h : T.mks.lookup x = some f) : ∃ z ∈ T.inits, z.x = x ∧ z.mkn = f := by
  have := lookup_memK h
  unfold PT0.mks at this
  obtain ⟨z, hz, e⟩ := List.mem_map.mp this
  cases e
  exact ⟨z, hz, rfl, rfl⟩
theorem lmN_mem {x : Str} {f : Nat} (h : T.lmN.lookup x = some f) : ∃ q ∈ T.lms, q.nm = x ∧ q.f = f := by
  have := lookup_memK h
  unfold PT0.lmN at this
  obtain ⟨z, hz, e⟩ := List.mem_map.mp this
  cases e
  exact ⟨z, hz, rfl, rfl⟩
theorem St0.lam {C : SC} {g : Gst} {f c : Addr} {q : Str} {vs : List V} (h : St0 C G g mg) : St0 C (G.lam f c q vs) g mg :=
  ⟨h.nd, ⟨h.kit.own, h.kit.exO, h.kit.exT, h.kit.exC, h.kit.obO, h.kit.obT, h.kit.obC, h.kit.exM⟩, h.nob, h.cls, ⟨h.co.attr, h.co.nd, h.co.few, h.co.lt, h.co.inj, h.co.cls, h.co.noa⟩, h.att, h.mno, fun x n u hm => let ⟨v, w, h1, h2, h3⟩ := h.glo x n u hm; ⟨v, w, h1, h2, fun W H => (RepV.lam u).mpr (h3 W H)⟩⟩
theorem St0.clo {C : SC} {g : Gst} {φ : List U → List U → RC} (h : St0 C G g mg) : St0 C G { g with clo := φ } mg :=
  ⟨h.nd, ⟨h.kit.own, h.kit.exO, h.kit.exT, h.kit.exC, h.kit.obO, h.kit.obT, h.kit.obC, h.kit.exM⟩, h.nob, h.cls, ⟨h.co.attr, h.co.nd, h.co.few, h.co.lt, h.co.inj, h.co.cls, h.co.noa⟩, h.att, h.mno, h.glo⟩
theorem HdOk.lam (h : HdOk T G mg) {f c : Addr} {q : Str} {vs : List V} : HdOk T (G.lam f c q vs) mg :=
  ⟨h.fn, h.fnD, h.mdD, h.lmD, h.mt, h.inD, h.hd, h.fa, h.ok1, h.ok2, h.ok3, h.ok4, fun q hq n cv tid => (h.s0 q hq n cv tid).lam, h.rs⟩
theorem spI_0 {p : Prg} {f : Nat} {vs : List V} {H : Hp} {Q : VK} {E : XK} (h : spI G (stOf p 0) f vs H Q E) : False := by
  obtain ⟨_, _, _, _, _, z⟩ := h
  exact z.elim
theorem lv_ok : ∀ (n : Nat) {G : Nms}, HdOk T G mg → TbOk T G mg base → LvOk T G mg base n
  | 0, G, hd, tb => by
    refine ⟨fun x f h => ?_, fun x f h => ?_, fun name mi c f h1 h2 => ?_, fun x f h => ?_⟩
    · obtain ⟨q, hq, rfl, rfl⟩ := hd.fn x f h
      obtain ⟨⟨fd, F, B⟩, hm⟩ := hd.fnD q hq
      exact ⟨fd, q.ps, hm, F.kp, B, ⟨fun vs H Q E z => (spI_0 z).elim, fun A outer s H args us vs Q E _ _ _ _ z => (spI_0 z).elim⟩⟩
    · obtain ⟨z, hz, rfl, rfl⟩ := mks_mem h
      obtain ⟨⟨fd, F, B⟩, hm, M⟩ := hd.inD z hz
      exact ⟨_, _, fd, z.q.ps, 0, fun _ _ _ _ => False, Nat.le_refl _, hm, M, B, ⟨fun vs H Q E z => z.elim, fun A outer s H args us vs Q E _ _ _ _ z => z.elim⟩, fun vs H Q E z => (spI_0 z).elim⟩
    · obtain ⟨c1, c2, q, hq, rfl⟩ := hd.mt name mi c f h1 h2
      obtain ⟨fd, F, B⟩ := hd.mdD q hq
      exact ⟨c1, c2, fd, q.ps, B, ⟨fun vs H Q E z => (spI_0 z).elim, fun A outer s H args us vs Q E _ _ _ _ z => (spI_0 z).elim⟩⟩
    · obtain ⟨q, hq, rfl, rfl⟩ := lmN_mem h
      obtain ⟨⟨fd, F, B⟩, hm⟩ := hd.lmD q hq
      have ho := hd.ok4 q hq
      unfold PD.okL at ho
      simp only [Bool.and_eq_true, decide_eq_true_eq] at ho
      cases hN : q.N with
      | nil => have := ho.2; rw [hN] at this; cases this
      | cons a N' =>
        have h6 := ho.2
        rw [hN] at h6
        simp only [Bool.and_eq_true, Bool.not_eq_true'] at h6
        have hvis : Vis (defScope q.st) a := by
          have hv := h6.1.1
          unfold visB at hv
          unfold Vis
          split at hv
          · exact .inl (by assumption)
          · exact .inr (.inl (by assumption))
          · exact .inr (.inr (by assumption))
          · cases hv
        exact ⟨G.fA q.f, q.N, defScope q.st, .none, q.ql, a, hm, F.kp, by rw [hN]; rfl, hvis, h6.1.2, h6.2, fun A outer s H Q E lf lc lq lv us m φ W _ _ _ _ _ _ _ _ z => False.elim z⟩
  | n + 1, G, hd, tb => by
    have ih := lv_ok n hd tb
    refine ⟨fun x f h => ?_, fun x f h => ?_, fun name mi c f h1 h2 => ?_, fun x f h => ?_⟩
    · obtain ⟨q, hq, rfl, rfl⟩ := hd.fn x f h
      obtain ⟨⟨fd, F, B⟩, hm⟩ := hd.fnD q hq
      exact ⟨fd, q.ps, hm, F.kp, B, (def_ok2 (hd.hd q (.inl hq)) (hd.ok1 q hq) (hd.fa q (.inl hq)) F (hd.s0 q (.inl hq) n) ih tb hd.rs).mono (by omega)⟩
    · obtain ⟨z, hz, rfl, rfl⟩ := mks_mem h
      obtain ⟨⟨fd, F, B⟩, hm, M⟩ := hd.inD z hz
      have hm' : z.q ∈ T.defs ∨ z.q ∈ T.mds ∨ (∃ y ∈ T.inits, y.q = z.q) ∨ z.q ∈ T.lms := .inr (.inr (.inl ⟨z, hz, rfl⟩))
      refine ⟨_, _, fd, z.q.ps, 4 * n + 4, _, by omega, hm, M, B, init_ok (hd.hd z.q hm') (hd.ok3 z hz) F (hd.s0 z.q hm' n) ih hd.rs, fun vs H Q E hh x dx hx hdx hne => spN_of (mk := z.mkn) (kind := z.kind) (g1 := stOf T.p (n + 1)) (fun us m => ?_) hh x dx hx hdx hne⟩
      have ho := hd.ok3 z hz
      unfold CD.ok at ho
      simp only [Bool.and_eq_true, decide_eq_true_eq] at ho
      have hc := ho.1.1.1.1.1.1
      show (match T.p.ctor z.mkn with
        | some (c, k, i, kind) => (match T.p.def_ i with
          | some d => (match runInit (stOf T.p n) d c k us m with
            | .ok u m => if kind == 1 then RC.ok u m else RC.ok (.ref m.length) (m ++ [u])
            | r => r)
          | none => RC.stuck)
        | none => (match T.p.def_ z.mkn with
          | some d => runDef (stOf T.p n) d us m
          | none => RC.stuck)) = _
      rw [hc]
      simp only [hd.hd z.q hm']
      try (cases runInit (stOf T.p n) z.q.d z.c z.n us m <;> rfl)
    · obtain ⟨c1, c2, q, hq, rfl⟩ := hd.mt name mi c f h1 h2
      obtain ⟨fd, F, B⟩ := hd.mdD q hq
      exact ⟨c1, c2, fd, q.ps, B, (def_ok2 (hd.hd q (.inr (.inl hq))) (hd.ok2 q hq) (hd.fa q (.inr (.inl hq))) F (hd.s0 q (.inr (.inl hq)) n) ih tb hd.rs).mono (by omega)⟩
    · obtain ⟨q, hq, rfl, rfl⟩ := lmN_mem h
      obtain ⟨⟨fd, F, B⟩, hm⟩ := hd.lmD q hq
      have hm' : q ∈ T.defs ∨ q ∈ T.mds ∨ (∃ y ∈ T.inits, y.q = q) ∨ q ∈ T.lms := .inr (.inr (.inr hq))
      exact lam_ok (hd.hd q hm') (hd.ok4 q hq) F B hm (fun G' ⟨f, c, qq, vs, e⟩ g ⟨φ, e2⟩ => by subst e e2; exact ((hd.s0 q hm' n true none).lam).clo) (fun G' ⟨f, c, qq, vs, e⟩ => by subst e; exact lv_ok n hd.lam tb) fun G' ⟨f, c, qq, vs, e⟩ => by subst e; exact hd.rs
end
end MP
set_option maxRecDepth 100000
set_option maxHeartbeats 4000000
/-! R5a: the head's facts; the law's end. -/
namespace MP
open PySem PySem.Spec PyProof.Rows L2
/-- all defs, methods, __init__s -/
def PT0.all (T : PT0) : List PD := T.defs ++ (T.mds ++ (T.inits.map (·.q) ++ T.lms))
def PT0.fN (T : PT0) (f : Nat) : Str × Option Str := ((T.all.map fun q => (q.f, q.at_)).lookup f).getD (⟨#[]⟩, none)
def PT0.cN (T : PT0) (c : Nat) : Str := ((T.cls.map fun z => (z.2, z.1)).lookup c).getD ⟨#[]⟩
/-- whose table it is; the lambda's name that it tells -/
def PT0.tD (T : PT0) (i : Nat) : Str × Option Str := (T.mkT.map (·.1)).getD i (⟨#[]⟩, none)
def PT0.tN (T : PT0) (i : Nat) : Str := lamQ ((T.mkT.map (·.2)).getD i ⟨#[]⟩)
/-- the memory as the law begins: the tables -/
def PT0.m0 (T : PT0) : List U := (List.range T.mkT.length).map U.fn
def tabAs (T : PT0) (K : PySem.W.Frag) : List Addr := T.mkT.map fun z => (He.cT K z.1).2
def mkN (P : Program) (w : World) (K : PySem.W.Frag) (T : PT0) : Nms :=
  { P := P, w := w, K := K, fA := fun f => He.fAd K (T.fN f), cA := fun c => He.ga K (T.cN c), aL := T.aL, at_ := T.p.attr, tA := fun i => (He.cT K (T.tD i)).2, tq := fun i => T.tN i, lf := 0, lc := 0, lq := ⟨#[]⟩, lv := [] }
/-- what isinstance and except ask, looked at -/
def excChk (K : PySem.W.Frag) (D : Addr) : Bool :=
  decide (PySem.W.findIn K (.ref D) "__getattribute__" = some (some (.builtin "BaseException.__getattribute__"))) && decide (PySem.W.findIn K (.ref D) "__getattr__" = some none) && decide (PySem.W.subIn K (.ref D) (.type "BaseException") = some true) &&
  PySem.W.hasDictIn K D && decide (PySem.W.findIn K (.ref D) "__class__" = some (some (.builtin "object.__class__"))) && decide (PySem.W.specialIn K (.builtin "object.__class__") "__get__" = some (some (.builtin "getset_descriptor.__get__"))) &&
  decide (PySem.W.takesIn K (.builtin "object.__class__") = some true) && decide (PySem.W.mroIn K D (.type "object") = some true)
theorem excChk_ok {K : PySem.W.Frag} {D : Addr} (h : excChk K D = true) : ExcC K D := by
  unfold excChk at h
  simp only [Bool.and_eq_true, decide_eq_true_eq] at h
  obtain ⟨⟨⟨⟨⟨⟨⟨h1, h2⟩, h3⟩, h4⟩, h5⟩, h6⟩, h7⟩, h8⟩ := h
  exact ⟨h1, h2, h3, h4, h5, h6, h7, h8⟩
def insChk (K : PySem.W.Frag) (D : Addr) : Bool :=
  decide (PySem.W.findIn K (.ref D) "__class__" = some (some (.builtin "object.__class__"))) && decide (PySem.W.specialIn K (.builtin "object.__class__") "__get__" = some (some (.builtin "getset_descriptor.__get__"))) &&
  decide (PySem.W.takesIn K (.builtin "object.__class__") = some true) && decide (PySem.W.mroIn K D (.type "object") = some true)
def kitChk (p : Prg) (isi : List Nat) (cN : Nat → Str) (K : PySem.W.Frag) : Bool :=
  (isi.all fun c => baseT.all fun t => decide (PySem.W.kitOne K (.type t) (.ref (He.ga K (cN c))) = some false)) &&
  (p.excs.all fun d => isi.all fun c => decide (PySem.W.kitOne K (.ref (He.ga K (cN d))) (.ref (He.ga K (cN c))) = some (p.sub d c))) &&
  (p.excs.all fun d => kindT.all fun n => decide (PySem.W.kitOne K (.ref (He.ga K (cN d))) (.type n) = some false)) &&
  (p.excs.all fun d => excChk K (He.ga K (cN d))) &&
  (p.objs.all fun d => isi.all fun c => decide (PySem.W.kitOne K (.ref (He.ga K (cN d))) (.ref (He.ga K (cN c))) = some (p.sub d c))) &&
  (p.objs.all fun d => kindT.all fun n => decide (PySem.W.kitOne K (.ref (He.ga K (cN d))) (.type n) = some false)) &&
  (p.objs.all fun d => insChk K (He.ga K (cN d))) &&
  (p.excs.all fun d => isi.all fun c => !p.excs.contains c || decide (PySem.W.exmOne K (.ref (He.ga K (cN d))) (.ref (He.ga K (cN c))) = some (p.sub d c)))
theorem st_excs (p : Prg) (n : Nat) : (stOf p n).excs = p.excs := by cases n <;> rfl
theorem st_objs (p : Prg) (n : Nat) : (stOf p n).objs = p.objs := by cases n <;> rfl
theorem st_attr (p : Prg) (n : Nat) : (stOf p n).attr = p.attr := by cases n <;> rfl
theorem st_sub (p : Prg) (n : Nat) : (stOf p n).sub = p.sub := by cases n <;> rfl
section
variable {P : Program} {w : World} {K : PySem.W.Frag} {T : PT0}
theorem kit_of (h : kitChk T.p T.isi T.cN K = true) (hc : ∀ d ∈ T.p.objs, Cls K (He.ga K (T.cN d))) (n : Nat) : KitOk (mkN P w K T) (stOf T.p n) T.isi := by
  unfold kitChk at h
  simp only [Bool.and_eq_true, List.all_eq_true, decide_eq_true_eq] at h
  obtain ⟨⟨⟨⟨⟨⟨⟨h1, h2⟩, h3⟩, h4⟩, h6⟩, h7⟩, h8⟩, h5⟩ := h
  refine ⟨fun c hc t ht => h1 c hc t ht, fun d hd c hc => ?_, fun d hd n hn => ?_, fun d hd => ?_, fun d hd c hc => ?_, fun d hd n hn => ?_, fun d hd => ?_, fun d hd c hc he => ?_⟩
  · rw [st_excs] at hd; rw [st_sub]; exact h2 d hd c hc
  · rw [st_excs] at hd; exact h3 d hd n hn
  · rw [st_excs] at hd; exact excChk_ok (h4 d hd)
  · rw [st_objs] at hd; rw [st_sub]; exact h6 d hd c hc
  · rw [st_objs] at hd; exact h7 d hd n hn
  · rw [st_objs] at hd
    have := h8 d hd
    unfold insChk at this
    simp only [Bool.and_eq_true, decide_eq_true_eq] at this
    exact ⟨hc d hd, this.1.1.1, this.1.1.2, this.1.2, this.2⟩
  · rw [st_excs] at hd he; rw [st_sub]
    rcases Bool.or_eq_true _ _ ▸ h5 d hd c hc with z | z
    · exfalso
      simp only [Bool.not_eq_true', List.contains_eq_mem, decide_eq_false_iff_not] at z
      exact z he
    · exact of_decide_eq_true z
theorem raise_of {mg : Str → Option Value} {x : Str} {c : Nat} (hc : T.cN c = x) (hg : mg x = some (.ref (He.ga K x))) (h : (He.Fa.exc x).ok K = true) : RaiseOk (mkN P w K T) K mg x c := by
  subst hc
  obtain ⟨h1, h2, h3, h4⟩ := He.exc_ok h
  exact ⟨He.veBase, "ValueError", "ValueError.__new__", "ValueError.__init__", PySem.F.excBase_ValueError, h1, hg, h2, h3, h4⟩
end
theorem scr_rep {G : Nms} {W : Wd} {H : Hp} : ∀ ns : List Int, RepVs G W H (ns.map U.int) (ns.map V.int)
  | [] => by simp only [List.map_nil, RepVs]
  | n :: ns => by
    simp only [List.map_cons, RepVs]
    exact ⟨_, _, rfl, by simp only [RepV], scr_rep ns⟩
theorem sp_law {P : Program} {w : World} {K : PySem.W.Frag} {T : PT0} {g : Gst} {f : Nat} {H : Hp} {a : Addr} {ns : List Int} (hnd : (tabAs T K).Nodup) (hH : ∀ z ∈ T.mkT, H (He.cT K z.1).2 = some (.tbl #[])) (hS : SqL K H a (ns.map V.int)) {m' : List U} (h : g.call f [.scr (ns.map U.int)] T.m0 = .ok (.bl true) m') :
    spI (mkN P w K T) g f [.ref a] H (fun v _ => v = .bl true) fun _ _ _ => False := by
  have hS' : Scr K ⟨tabAs T K, fun b => b = a ∧ H a = some (.lst (ns.map V.int))⟩ H a (ns.map V.int) := by
    rcases hS with (h1 | ⟨o, h1⟩) | h1
    · exact .inr (.inl ⟨⟨rfl, h1⟩, h1⟩)
    · exact .inl ⟨o, h1⟩
    · exact .inr (.inr h1)
  refine ⟨⟨tabAs T K, fun b => b = a ∧ H a = some (.lst (ns.map V.int))⟩, [.scr (ns.map U.int)], T.m0, ⟨by simp [PT0.m0, tabAs], hnd, fun n b hb => ?_, fun b hb => ?_⟩, ?_, ?_⟩
  rotate_left
  · obtain ⟨rfl, hb⟩ := hb
    exact ⟨_, hb⟩
  rotate_left 2
  · have hb : (tabAs T K)[n]? = some b := hb
    unfold tabAs at hb
    rw [List.getElem?_map] at hb
    cases e : T.mkT[n]? with
    | none => rw [e] at hb; cases hb
    | some z =>
      rw [e] at hb
      have hb : (He.cT K z.1).2 = b := Option.some.inj hb
      subst hb
      have hz := hH z (List.mem_of_getElem? e)
      refine ⟨fun q => ?_, .fn n, ?_, ?_⟩
      · have := q.2
        rw [← q.1, hz] at this
        cases this
      · unfold PT0.m0
        have hn := (List.getElem?_eq_some_iff.mp e).1
        rw [List.getElem?_map, List.getElem?_eq_getElem (by simpa using hn), List.getElem_range]
        rfl
      · simp only [Cont]
        refine ⟨?_, #[], hz, True.intro, fun pos cv hc => ?_⟩
        · show _ = (He.cT K (T.tD n)).2
          unfold PT0.tD
          rw [List.getD_eq_getElem?_getD, List.getElem?_map, e]
          rfl
        · have hc : codeAmong pos [] = some cv := hc
          simp [codeAmong] at hc
  · simp only [RepVs]
    refine ⟨_, _, rfl, ?_, rfl⟩
    simp only [RepV]
    exact ⟨a, _, rfl, hS', scr_rep ns⟩
  · rw [h]
    intro W' H' v _ _ rv
    simp only [RepV] at rv
    exact rv
end MP
set_option maxRecDepth 100000
set_option maxHeartbeats 4000000
/-! R5b: from the head's facts to the law. -/
namespace MP
open PySem PySem.Spec PyProof.Rows L2
def PD.toD (q : PD) : He.DefD := ⟨q.at_, q.nm, q.ql, defArgs q.st, defBody q.st, defScope q.st, [], []⟩
def intU : U → Int
  | .int i => i
  | _ => 0
def isInt : U → Bool
  | .int _ => true
  | _ => false
def PT0.aN (T : PT0) (n : Nat) : Str := T.aL.getD n ⟨#[]⟩
/-- the method of a class by a number, and its name -/
def PT0.mtN (T : PT0) : List (Str × Str) := T.mtT.flatMap fun e => (T.mth.filter fun z => z.2 == e.1.2).map fun z => (T.cN e.1.1, z.1)
/-- the facts that are asked of the head -/
def PT0.fa (T : PT0) : List He.Fa := T.defs.map (fun q => .glo q.nm) ++ (T.cls.map (fun z => .glo z.1) ++ (T.exs.map (fun z => .exc z.1) ++ (T.glo.map (fun z => .int z.1 (intU z.2.2)) ++ (bnames.map (fun n => .free (Str.ofString n)) ++
  (T.inits.map (fun z => .cls z.x) ++ (T.inits.map (fun z => .mkr z.x) ++ (T.attT.map (fun e => .noat (T.cN e.1.1) (T.aN e.1.2)) ++ (T.mtN.map (fun e => .meth e.1 e.2) ++ T.lms.map fun q => .glo q.nm))))))))
def PT0.dfn (T : PT0) : List He.DefD := T.all.map PD.toD
/-- the look at the table -/
def PT0.ok (T : PT0) : Bool :=
  (T.defs.all fun q => decide (q.at_ = (q.nm, none)) && q.ok T) && (T.mds.all fun q => q.ok T) && (T.lms.all fun q => decide (q.at_ = (q.nm, none)) && q.okL T) && (T.inits.all fun z => z.ok T && decide (T.cN z.c = z.x) && decide (z.q.at_ = (z.x, some ("__init__" : Str))) && T.cls.contains (z.x, z.c)) &&
  (T.all.all fun q => decide (T.fN q.f = q.at_)) && (T.cls.all fun z => decide (T.cN z.2 = z.1)) && (T.exs.all fun z => T.cls.contains z) && (T.glo.all fun z => isInt z.2.2) &&
  (T.fn.all fun z => T.defs.any fun q => decide (q.nm = z.1) && decide (q.f = z.2)) &&
  (T.mtT.all fun e => T.mth.all fun z => !(z.2 == e.1.2) || (T.inits.any (fun y => decide (y.c = e.1.1)) && T.mds.any fun q => decide (q.f = e.2) && decide (q.at_ = (T.cN e.1.1, some z.1)))) &&
  decide T.aL.Nodup && decide (T.aL.length ≤ 900) && (T.attT.all fun e => decide (e.1.2 < T.aL.length) && T.inits.any (fun y => decide (y.c = e.1.1)) && T.attT.all fun e' => !(e.1.1 == e'.1.1 && e.2 == e'.2) || e.1.2 == e'.1.2) &&
  (T.mth.all fun z => !(T.aL.contains z.1)) && (T.p.objs.all fun c => T.inits.any fun y => decide (y.c = c))
/-- each def stands in the program by its number -/
def PT0.Stands (T : PT0) : Prop := ∀ q ∈ T.all, T.p.def_ q.f = some q.d
def PT0.Tabs (T : PT0) : Prop := T.p.attr = (fun c a => T.attT.lookup (c, a)) ∧ T.p.meth = (fun c m => T.mtT.lookup (c, m))
/-- how arguments bind -/
def PT0.BindAll (T : PT0) : Prop := ∀ q ∈ T.all, ∀ (K : PySem.W.Frag) (f : Addr) (fd : FuncData), FunD K q.nm q.ql (defArgs q.st) (defBody q.st) (defScope q.st) [] [] f fd → ∀ us : List Value, us.length = q.ps.length → ∀ s : Shared, BindsTo s fd ⟨us, []⟩ (q.ps.zip us)
theorem lookup_mem {α β : Type} [BEq α] [LawfulBEq α] : ∀ {l : List (α × β)} {x : α} {y : β}, l.lookup x = some y → (x, y) ∈ l
  | [], x, y, h => by cases h
  | (a, b) :: l, x, y, h => by
    rw [List.lookup_cons] at h
    split at h
    · rename_i e
      cases h
      have := eq_of_beq e
      subst this
      exact List.mem_cons_self
    · exact List.mem_cons_of_mem _ (lookup_mem h)
theorem zipIdx_get {α : Type} [BEq α] [LawfulBEq α] {l : List α} {x : α} {n : Nat} (h : l.zipIdx.lookup x = some n) : l[n]? = some x := by
  have := lookup_mem h
  rw [List.mem_zipIdx_iff_getElem?] at this
  exact this
theorem zipIdx_mem {α : Type} [BEq α] [LawfulBEq α] {l : List α} {x : α} {n : Nat} (h : l[n]? = some x) (nd : l.Nodup) : x ∈ l := List.mem_of_getElem? h
section
variable {T : PT0} {P : Program} {w : World} {K : PySem.W.Frag} {mg : Str → Option Value} {h : Heap}
theorem PD.nd {q : PD} (ho : q.ok T = true) : q.N.Nodup := by
  unfold PD.ok at ho
  simp only [Bool.and_eq_true, decide_eq_true_eq] at ho
  exact (scope_by ho.1.1.2).nd
theorem PD.ndL {q : PD} (ho : q.okL T = true) : q.N.Nodup := by
  unfold PD.okL at ho
  simp only [Bool.and_eq_true, decide_eq_true_eq] at ho
  exact (scope_by ho.1.1.2).nd
theorem CD.nd {z : CD} (ho : z.ok T = true) : z.q.N.Nodup := by
  unfold CD.ok at ho
  simp only [Bool.and_eq_true, decide_eq_true_eq] at ho
  exact (scope_by ho.1.1.2).nd
theorem head_of (hT : T.ok = true) (hS : T.Stands) (hA : T.Tabs) (hB : T.BindAll) (KX : K.In h) (hns : h.Ns mainGlobals mg) (c : He.SaysD T.fa T.dfn K) (hk : kitChk T.p T.isi T.cN K = true) {ql : PD} (hl : ql ∈ T.defs) {x : Str} (hx : ql.ps = [x]) (n : Nat) :
    ∃ fd, (mkN P w K T).fA ql.f = He.ga K ql.nm ∧ mg ql.nm = some (.ref (He.ga K ql.nm)) ∧ (∀ (s : Shared) (u : Value), BindsTo s fd ⟨[u], []⟩ [(x, u)]) ∧
      ∀ base : Heap, (∀ z ∈ T.mkT, LamX.TabB base mg (He.cT K z.1).1 (He.cT K z.1).2) → FnOk P w K mg base (L2.CX P w) (4 * n + 4) (He.ga K ql.nm) fd [x] (spI (mkN P w K T) (stOf T.p (n + 1)) ql.f) := by
  have hTs := hT
  unfold PT0.ok at hT
  simp only [Bool.and_eq_true, List.all_eq_true, decide_eq_true_eq, List.any_eq_true, List.contains_eq_mem, Bool.not_eq_true', Bool.or_eq_true, beq_iff_eq, decide_eq_false_iff_not] at hT
  obtain ⟨⟨⟨⟨⟨⟨⟨⟨⟨⟨⟨⟨⟨⟨t1, t2⟩, t2b⟩, t3⟩, t4⟩, t5⟩, t6⟩, t7⟩, t8⟩, t9⟩, t10⟩, t11⟩, t12⟩, t13⟩, t14⟩ := hT
  have inA : ∀ q, (q ∈ T.defs ∨ q ∈ T.mds ∨ (∃ z ∈ T.inits, z.q = q) ∨ q ∈ T.lms) → q ∈ T.all := fun q hq => by
    unfold PT0.all
    rcases hq with hq | hq | ⟨z, hz, rfl⟩ | hq
    · exact List.mem_append_left _ hq
    · exact List.mem_append_right _ (List.mem_append_left _ hq)
    · exact List.mem_append_right _ (List.mem_append_right _ (List.mem_append_left _ (List.mem_map.mpr ⟨z, hz, rfl⟩)))
    · exact List.mem_append_right _ (List.mem_append_right _ (List.mem_append_right _ hq))
  have fA : ∀ q ∈ T.all, (mkN P w K T).fA q.f = He.fAd K q.at_ := fun q hq => by
    show He.fAd K (T.fN q.f) = _
    rw [t4 q hq]
  have memF : ∀ f, f ∈ T.fa → (f : He.Fa).ok K = true := fun f hf => c.facts hf
  have fDef : ∀ q ∈ T.defs, (mkN P w K T).fA q.f = He.ga K q.nm := fun q hq => by
    rw [fA q (inA q (.inl hq)), (t1 q hq).1]; rfl
  have g1 : ∀ q ∈ T.defs, mg q.nm = some (.ref (He.ga K q.nm)) := fun q hq => He.glo_ok KX hns (memF (.glo q.nm) (by unfold PT0.fa; simp only [List.mem_append, List.mem_map]; exact .inl ⟨q, hq, rfl⟩))
  have g2 : ∀ z ∈ T.cls, mg z.1 = some (.ref (He.ga K z.1)) := fun z hz => He.glo_ok KX hns (memF (.glo z.1) (by unfold PT0.fa; simp only [List.mem_append, List.mem_map]; exact .inr (.inl ⟨z, hz, rfl⟩)))
  have gCls : ∀ z ∈ T.inits, Cls K (He.ga K (T.cN z.c)) := fun z hz => by
    rw [(t3 z hz).1.1.2]
    exact He.cls_ok (memF (.cls z.x) (by unfold PT0.fa; simp only [List.mem_append, List.mem_map]; exact .inr (.inr (.inr (.inr (.inr (.inl ⟨z, hz, rfl⟩)))))))
  have gMk : ∀ z ∈ T.inits, Mk K (He.ga K z.x) (He.ma K (He.ga K z.x) "__init__") := fun z hz => He.mkr_ok (memF (.mkr z.x) (by unfold PT0.fa; simp only [List.mem_append, List.mem_map]; exact .inr (.inr (.inr (.inr (.inr (.inr (.inl ⟨z, hz, rfl⟩))))))))
  have gNo : ∀ e ∈ T.attT, NoAttr K (He.ga K (T.cN e.1.1)) (T.aN e.1.2) := fun e he => He.noat_ok (memF (.noat (T.cN e.1.1) (T.aN e.1.2)) (by unfold PT0.fa; simp only [List.mem_append, List.mem_map]; exact .inr (.inr (.inr (.inr (.inr (.inr (.inr (.inl ⟨e, he, rfl⟩)))))))))
  have gMt : ∀ e ∈ T.mtN, Meth K (He.ga K e.1) e.2 (He.ma K (He.ga K e.1) e.2) := fun e he => He.meth_ok (memF (.meth e.1 e.2) (by unfold PT0.fa; simp only [List.mem_append, List.mem_map]; exact .inr (.inr (.inr (.inr (.inr (.inr (.inr (.inr (.inl ⟨e, he, rfl⟩))))))))))
  have atT : ∀ cc a k, T.p.attr cc a = some k → ((cc, a), k) ∈ T.attT := fun cc a k e => by
    rw [hA.1] at e
    exact lookup_mem e
  have aNx : ∀ {n : Nat} {x : Str}, T.aL[n]? = some x → T.aN n = x := fun {n x} e => by
    unfold PT0.aN
    rw [List.getD_eq_getElem?_getD, e]; rfl
  have co : ∀ n, ClassOk (mkN P w K T) (stOf T.p n) := fun n => by
    refine ⟨st_attr _ _, t10, t11, fun cc a k e => (t12 _ (atT cc a k e)).1.1, fun cc a a' k e e' => ?_, fun cc a k e => ?_, fun cc a k x e ex => ?_⟩
    · rcases (t12 _ (atT cc a k e)).2 _ (atT cc a' k e') with q | q
      · simp at q
      · exact q
    · obtain ⟨y, hy, hc⟩ := (t12 _ (atT cc a k e)).1.2
      have hc : y.c = cc := hc
      rw [← hc]
      exact gCls y hy
    · have := gNo _ (atT cc a k e)
      rw [aNx ex] at this
      exact this
  have hobj : ∀ d ∈ T.p.objs, Cls K (He.ga K (T.cN d)) := fun d hd => by
    obtain ⟨y, hy, hc⟩ := t14 d hd
    rw [← hc]
    exact gCls y hy
  have ndq : ∀ q, (q ∈ T.defs ∨ q ∈ T.mds ∨ (∃ z ∈ T.inits, z.q = q) ∨ q ∈ T.lms) → q.N.Nodup := fun q hq => by
    rcases hq with hq | hq | ⟨z, hz, rfl⟩ | hq
    · exact PD.nd (t1 q hq).2
    · exact PD.nd (t2 q hq)
    · exact CD.nd (t3 z hz).1.1.1
    · exact PD.ndL (t2b q hq).2
  have s0 : ∀ q, (q ∈ T.defs ∨ q ∈ T.mds ∨ (∃ z ∈ T.inits, z.q = q) ∨ q ∈ T.lms) → ∀ n cv tid, St0 (T.sc q.N cv tid) (mkN P w K T) (stOf T.p n) mg := fun q hq n cv tid => by
    refine ⟨ndq q hq, kit_of hk hobj n, fun b hb => He.free_ok KX hns (memF (.free (Str.ofString b)) ?_), fun x cc e => ?_, co n, fun x n e => zipIdx_get e, fun x n e => ?_, fun x m u hm => ?_⟩
    · unfold PT0.fa; simp only [List.mem_append, List.mem_map]; exact .inr (.inr (.inr (.inr (.inl ⟨b, hb, rfl⟩))))
    · have m := lookup_mem (show T.cls.lookup x = some cc from e)
      show mg x = some (.ref (He.ga K (T.cN cc)))
      rw [t5 _ m]
      exact g2 _ m
    · exact t13 _ (lookup_mem (show T.mth.lookup x = some n from e))
    · have hm : (x, m, u) ∈ T.glo := hm
      have hi := t7 _ hm
      cases u with
      | int i =>
        obtain ⟨t, ht⟩ := He.int_ok KX hns (memF (.int x i) (by unfold PT0.fa; simp only [List.mem_append, List.mem_map]; exact .inr (.inr (.inr (.inl ⟨_, hm, rfl⟩)))))
        exact ⟨.int i, _, ht, ⟨t, rfl⟩, fun W H => by simp only [RepV]⟩
      | _ => cases hi
  have rs : ∀ x cc, T.exs.lookup x = some cc → RaiseOk (mkN P w K T) K mg x cc := fun x cc e => by
    have m := lookup_mem e
    exact raise_of (t5 _ (t6 _ m)) (g2 _ (t6 _ m)) (memF (.exc x) (by unfold PT0.fa; simp only [List.mem_append, List.mem_map]; exact .inr (.inr (.inl ⟨_, m, rfl⟩))))
  have fnD0 : ∀ q ∈ T.all, ∃ fd, FunD K q.nm q.ql (defArgs q.st) (defBody q.st) (defScope q.st) [] [] (He.fAd K q.at_) fd := fun q hq => by
    obtain ⟨fd, F⟩ := c.defs (d := q.toD) (by unfold PT0.dfn; exact List.mem_map.mpr ⟨q, hq, rfl⟩)
    exact ⟨fd, F⟩
  have fnD : ∀ q, (q ∈ T.defs ∨ q ∈ T.mds ∨ (∃ z ∈ T.inits, z.q = q) ∨ q ∈ T.lms) → FnD (mkN P w K T) q := fun q hq => by
    obtain ⟨fd, F⟩ := fnD0 q (inA q hq)
    refine ⟨fd, ?_, fun s us _ hl => ?_⟩
    · rw [fA q (inA q hq)]; exact F
    · rw [List.append_nil] at hl ⊢
      exact hB q (inA q hq) K _ fd F us hl s
  have hfn : ∀ x f, T.fn.lookup x = some f → ∃ q ∈ T.defs, q.nm = x ∧ q.f = f := fun x f e => by
    obtain ⟨q, hq, h1, h2⟩ := t8 _ (lookup_mem e)
    exact ⟨q, hq, h1, h2⟩
  have hmt : ∀ name mi cc f, T.mth.lookup name = some mi → T.p.meth cc mi = some f → Cls K ((mkN P w K T).cA cc) ∧ Meth K ((mkN P w K T).cA cc) name ((mkN P w K T).fA f) ∧ ∃ q ∈ T.mds, q.f = f := fun name mi cc f e1 e2 => by
    rw [hA.2] at e2
    have m1 := lookup_mem e1
    have m2 := lookup_mem e2
    rcases t9 _ m2 _ m1 with q | ⟨⟨y, hy, hc⟩, q, hq, h1, h2⟩
    · exact absurd (show mi = mi from rfl) (by simpa using q)
    · have hc : y.c = cc := hc
      have h1 : q.f = f := h1
      have h2 : q.at_ = (T.cN cc, some name) := h2
      refine ⟨?_, ?_, q, hq, h1⟩
      · show Cls K (He.ga K (T.cN cc))
        rw [← hc]
        exact gCls y hy
      · have e3 := fA q (inA q (.inr (.inl hq)))
        rw [h1, h2] at e3
        rw [e3]
        exact gMt (T.cN cc, name) (by
          unfold PT0.mtN
          simp only [List.mem_flatMap, List.mem_map, List.mem_filter]
          exact ⟨_, m2, _, ⟨m1, by simp⟩, rfl⟩)
  have hd : HdOk T (mkN P w K T) mg := by
    refine ⟨hfn, fun q hq => ⟨fnD q (.inl hq), ?_⟩, fun q hq => fnD q (.inr (.inl hq)), fun q hq => ⟨fnD q (.inr (.inr (.inr hq))), ?_⟩, hmt, fun z hz => ⟨fnD z.q (.inr (.inr (.inl ⟨z, hz, rfl⟩))), ?_, ?_⟩, fun q hq => hS q (inA q hq), fun q hq => fA q (inA q hq), fun q hq => (t1 q hq).2, t2, fun z hz => (t3 z hz).1.1.1, fun q hq => (t2b q hq).2, s0, rs⟩
    · rw [fDef q hq]; exact g1 q hq
    · rw [fA q (inA q (.inr (.inr (.inr hq)))), (t2b q hq).1]
      exact He.glo_ok KX hns (memF (.glo q.nm) (by unfold PT0.fa; simp only [List.mem_append, List.mem_map]; exact .inr (.inr (.inr (.inr (.inr (.inr (.inr (.inr (.inr ⟨q, hq, rfl⟩))))))))))
    · show mg z.x = some (.ref (He.ga K (T.cN z.c)))
      rw [(t3 z hz).1.1.2]
      exact g2 _ (t3 z hz).2
    · have e3 := fA z.q (inA z.q (.inr (.inr (.inl ⟨z, hz, rfl⟩))))
      rw [e3, (t3 z hz).1.2]
      show Mk K (He.ga K (T.cN z.c)) (He.ma K (He.ga K z.x) "__init__")
      rw [(t3 z hz).1.1.2]
      exact gMk z hz
  obtain ⟨fd, F⟩ := fnD0 ql (inA ql (.inl hl))
  rw [(t1 ql hl).1] at F
  refine ⟨fd, fDef ql hl, g1 ql hl, fun s u => ?_, fun base hTB => ?_⟩
  · have := hB ql (inA ql (.inl hl)) K _ fd F [u] (by rw [hx]; rfl) s
    rw [hx] at this
    exact this
  · have tb : TbOk T (mkN P w K T) mg base := fun t z hz => by
      refine ⟨?_, ?_, hTB z (List.mem_of_getElem? hz)⟩
      · show (He.cT K (T.tD t)).2 = _
        unfold PT0.tD
        rw [List.getD_eq_getElem?_getD, List.getElem?_map, hz]
        rfl
      · show T.tN t = _
        unfold PT0.tN
        rw [List.getD_eq_getElem?_getD, List.getElem?_map, hz]
        rfl
    have := def_ok2 (G := mkN P w K T) (mg := mg) (base := base) (n := n) (hS ql (inA ql (.inl hl))) (t1 ql hl).2 (fA ql (inA ql (.inl hl))) (by rw [fDef ql hl]; exact F) (s0 ql (.inl hl) n) (lv_ok n hd tb) tb rs
    rw [fDef ql hl, hx] at this
    exact this
end
end MP
set_option maxRecDepth 100000
set_option maxHeartbeats 0
namespace HK86
open PySem PySem.Spec PyProof.Rows L2 MP
def top (i : Nat) : Stmt := PySem.Challenge.pw_letterhand_k86_long_words_alike.main.body.getD i (.Pass ⟨0, 0, 0, 0⟩)
def clsBody : Stmt → List Stmt
  | .ClassDef _ _ _ b _ _ _ _ _ _ _ => b
  | _ => []
def mtd (i j : Nat) : Stmt := (clsBody (top i)).getD j (.Pass ⟨0, 0, 0, 0⟩)
def q_turns_is_whole : PD := ⟨"is_whole", "is_whole", ("is_whole", none), 0, MPE.K86.d_turns_is_whole, ["thing"], top 11, none⟩
def q_turns_is_between : PD := ⟨"is_between", "is_between", ("is_between", none), 1, MPE.K86.d_turns_is_between, ["thing", "least", "most"], top 12, none⟩
def q_turns_is_turn : PD := ⟨"is_turn", "is_turn", ("is_turn", none), 2, MPE.K86.d_turns_is_turn, ["thing", "letter"], top 13, none⟩
def q_turns_still_turn : PD := ⟨"still_turn", "still_turn", ("still_turn", none), 42, MPE.K86.d_turns_still_turn, ["many"], top 14, none⟩
def q_turns_undone : PD := ⟨"undone", "undone", ("undone", none), 27, MPE.K86.d_turns_undone, ["turn", "letter"], top 15, none⟩
def q_words_is_word : PD := ⟨"is_word", "is_word", ("is_word", none), 43, MPE.K86.d_words_is_word, ["book", "thing", "step"], top 18, none⟩
def q_words_sure_word : PD := ⟨"sure_word", "sure_word", ("sure_word", none), 44, MPE.K86.d_words_sure_word, ["book", "thing"], top 19, none⟩
def q_words_shortened : PD := ⟨"shortened", "shortened", ("shortened", none), 45, MPE.K86.d_words_shortened, ["steps", "found", "step"], top 20, none⟩
def q_rows_turn_by : PD := ⟨"turn_by", "turn_by", ("turn_by", none), 46, MPE.K86.d_rows_turn_by, ["book", "steps", "turn", "step", "more", "letter"], top 22, none⟩
def q_rows_behind_one : PD := ⟨"behind_one", "behind_one", ("behind_one", none), 47, MPE.K86.d_rows_behind_one, ["book", "steps", "letter", "onward", "step"], top 23, none⟩
def q_tables_gone_over : PD := ⟨"gone_over", "gone_over", ("gone_over", none), 48, MPE.K86.d_tables_gone_over, ["book", "steps", "still", "met", "rows", "at", "here", "turn", "letter", "other", "changed", "there"], top 26, none⟩
def q_tables_parted : PD := ⟨"parted", "parted", ("parted", none), 49, MPE.K86.d_tables_parted, ["book", "one", "other", "first", "step", "back"], top 27, none⟩
def q_tables_alike : PD := ⟨"alike", "alike", ("alike", none), 50, MPE.K86.d_tables_alike, ["book", "one", "other"], top 28, none⟩
def q_book_is_hand : PD := ⟨"is_hand", "is_hand", ("is_hand", none), 51, MPE.K86.d_book_is_hand, ["thing", "many", "hands", "step"], top 31, none⟩
def q_book_are_hands : PD := ⟨"are_hands", "are_hands", ("are_hands", none), 52, MPE.K86.d_book_are_hands, ["thing", "many", "one"], top 32, none⟩
def q_law__law_state : PD := ⟨"_law_state", "_law_state", ("_law_state", none), 16, MPE.K86.d_law__law_state, ["_law_script", "_law_k", "_law_cell", "_law_found", "_law_primes", "_law_prime", "_law_one"], top 35, none⟩
def q_law__law_next : PD := ⟨"_law_next", "_law_next", ("_law_next", none), 17, MPE.K86.d_law__law_next, ["_law_state_here", "_law_most", "_law_found"], top 36, none⟩
def q_law__law_counter : PD := ⟨"_law_counter", "_law_counter", ("_law_counter", none), 53, MPE.K86.d_law__law_counter, ["_law_state_here", "_law_many", "_law_left", "_law_k", "_law_ring", "_law_turn", "_law_letter", "_law_onward"], top 37, none⟩
def q_law__law_row : PD := ⟨"_law_row", "_law_row", ("_law_row", none), 54, MPE.K86.d_law__law_row, ["_law_many", "_law_more", "_law_row_here"], top 38, none⟩
def q_law__law_refused : PD := ⟨"_law_refused", "_law_refused", ("_law_refused", none), 55, MPE.K86.d_law__law_refused, ["_law_work", "_law_caught"], top 39, none⟩
def q_law_law : PD := ⟨"law", "law", ("law", none), 26, MPE.K86.d_law_law, ["_law_script", "_law_k", "_law_state_here", "_law_size", "_law_less", "_law_sign", "_law_many", "_law_book", "_law_one", "_law_other", "_law_due", "_law_longer"], top 40, some 0⟩
def q_book_Book___init__ : PD := ⟨"__init__", "Book.__init__", ("Book", some "__init__"), 56, MPE.K86.d_book_Book___init__, ["self", "many", "hands"], mtd 33 0, none⟩
def q_book_Book_letters : PD := ⟨"letters", "Book.letters", ("Book", some "letters"), 59, MPE.K86.d_book_Book_letters, ["self"], mtd 33 3, none⟩
def q_book_Book_has_step : PD := ⟨"has_step", "Book.has_step", ("Book", some "has_step"), 62, MPE.K86.d_book_Book_has_step, ["self", "thing"], mtd 33 7, none⟩
def q_book_Book_has_letter : PD := ⟨"has_letter", "Book.has_letter", ("Book", some "has_letter"), 63, MPE.K86.d_book_Book_has_letter, ["self", "thing"], mtd 33 8, none⟩
def q_book_Book_turn : PD := ⟨"turn", "Book.turn", ("Book", some "turn"), 64, MPE.K86.d_book_Book_turn, ["self", "step", "turn"], mtd 33 9, none⟩
def q_book_Book_onward : PD := ⟨"onward", "Book.onward", ("Book", some "onward"), 65, MPE.K86.d_book_Book_onward, ["self", "step", "letter", "turn", "onward"], mtd 33 10, none⟩
def clsT : List (Str × Nat) := ([("HandError", 0), ("NoBook", 8), ("NoWord", 9), ("NoRow", 6), ("NoNumber", 7), ("TooMany", 3), ("Book", 10)] : List (Str × Nat))
def exsT : List (Str × Nat) := ([("HandError", 0), ("NoBook", 8), ("NoWord", 9), ("NoRow", 6), ("NoNumber", 7), ("TooMany", 3)] : List (Str × Nat))
def fnT : List (Str × Nat) := ([("is_whole", 0), ("is_between", 1), ("is_turn", 2), ("still_turn", 42), ("undone", 27), ("is_word", 43), ("sure_word", 44), ("shortened", 45), ("turn_by", 46), ("behind_one", 47), ("gone_over", 48), ("parted", 49), ("alike", 50), ("is_hand", 51), ("are_hands", 52), ("_law_state", 16)] : List (Str × Nat)) ++ ([("_law_next", 17), ("_law_counter", 53), ("_law_row", 54), ("law", 26)] : List (Str × Nat))
def mthT : List (Str × Nat) := ([("letters", 3), ("has_step", 7), ("has_letter", 8), ("turn", 9), ("onward", 10)] : List (Str × Nat))
def aLT : List Str := (["many", "pairs"] : List Str)
def T : PT0 := ⟨MPE.K86.prog, [q_turns_is_whole, q_turns_is_between, q_turns_is_turn, q_turns_still_turn, q_turns_undone, q_words_is_word, q_words_sure_word, q_words_shortened, q_rows_turn_by, q_rows_behind_one, q_tables_gone_over, q_tables_parted, q_tables_alike, q_book_is_hand, q_book_are_hands, q_law__law_state, q_law__law_next, q_law__law_counter, q_law__law_row, q_law_law], [q_book_Book_letters, q_book_Book_has_step, q_book_Book_has_letter, q_book_Book_turn, q_book_Book_onward], [⟨"Book", 10, 66, 2, 1, q_book_Book___init__⟩], clsT, exsT, fnT, [("LEAST_MANY", 0, .int 2), ("MOST_MANY", 1, .int 4), ("MOST_STEPS", 4, .int 100), ("MOST_WORDS", 5, .int 100), ("MOST_HANDS", 6, .int 6)], [9, 10], mthT, aLT, MPE.K86.attT, MPE.K86.mtT, [q_law__law_refused], [(("law", none), "law")]⟩
theorem tOk : T.ok = true := by decide +kernel
theorem stands : T.Stands := by
  intro q hq
  simp only [PT0.all, T, List.map_cons, List.map_nil, List.mem_append, List.mem_cons, List.not_mem_nil, or_false, false_or] at hq
  rcases hq with (rfl | rfl | rfl | rfl | rfl | rfl | rfl | rfl | rfl | rfl | rfl | rfl | rfl | rfl | rfl | rfl | rfl | rfl | rfl | rfl) | (rfl | rfl | rfl | rfl | rfl) | (rfl) | (rfl) <;> rfl
theorem tabs : T.Tabs := ⟨rfl, rfl⟩
theorem binds : T.BindAll := by
  intro q hq
  simp only [PT0.all, T, List.map_cons, List.map_nil, List.mem_append, List.mem_cons, List.not_mem_nil, or_false, false_or] at hq
  rcases hq with (rfl | rfl | rfl | rfl | rfl | rfl | rfl | rfl | rfl | rfl | rfl | rfl | rfl | rfl | rfl | rfl | rfl | rfl | rfl | rfl) | (rfl | rfl | rfl | rfl | rfl) | (rfl) | (rfl)
  · exact fun K f fd F us hl s => FunD.bindsA (ps := q_turns_is_whole.ps) F (fun _ _ _ _ _ _ us hl => match us, hl with | [_], _ => rfl) s us hl
  · exact fun K f fd F us hl s => FunD.bindsA (ps := q_turns_is_between.ps) F (fun _ _ _ _ _ _ us hl => match us, hl with | [_, _, _], _ => rfl) s us hl
  · exact fun K f fd F us hl s => FunD.bindsA (ps := q_turns_is_turn.ps) F (fun _ _ _ _ _ _ us hl => match us, hl with | [_], _ => rfl) s us hl
  · exact fun K f fd F us hl s => FunD.bindsA (ps := q_turns_still_turn.ps) F (fun _ _ _ _ _ _ us hl => match us, hl with | [_], _ => rfl) s us hl
  · exact fun K f fd F us hl s => FunD.bindsA (ps := q_turns_undone.ps) F (fun _ _ _ _ _ _ us hl => match us, hl with | [_], _ => rfl) s us hl
  · exact fun K f fd F us hl s => FunD.bindsA (ps := q_words_is_word.ps) F (fun _ _ _ _ _ _ us hl => match us, hl with | [_, _], _ => rfl) s us hl
  · exact fun K f fd F us hl s => FunD.bindsA (ps := q_words_sure_word.ps) F (fun _ _ _ _ _ _ us hl => match us, hl with | [_, _], _ => rfl) s us hl
  · exact fun K f fd F us hl s => FunD.bindsA (ps := q_words_shortened.ps) F (fun _ _ _ _ _ _ us hl => match us, hl with | [_], _ => rfl) s us hl
  · exact fun K f fd F us hl s => FunD.bindsA (ps := q_rows_turn_by.ps) F (fun _ _ _ _ _ _ us hl => match us, hl with | [_, _], _ => rfl) s us hl
  · exact fun K f fd F us hl s => FunD.bindsA (ps := q_rows_behind_one.ps) F (fun _ _ _ _ _ _ us hl => match us, hl with | [_, _, _], _ => rfl) s us hl
  · exact fun K f fd F us hl s => FunD.bindsA (ps := q_tables_gone_over.ps) F (fun _ _ _ _ _ _ us hl => match us, hl with | [_, _], _ => rfl) s us hl
  · exact fun K f fd F us hl s => FunD.bindsA (ps := q_tables_parted.ps) F (fun _ _ _ _ _ _ us hl => match us, hl with | [_, _, _], _ => rfl) s us hl
  · exact fun K f fd F us hl s => FunD.bindsA (ps := q_tables_alike.ps) F (fun _ _ _ _ _ _ us hl => match us, hl with | [_, _, _], _ => rfl) s us hl
  · exact fun K f fd F us hl s => FunD.bindsA (ps := q_book_is_hand.ps) F (fun _ _ _ _ _ _ us hl => match us, hl with | [_, _, _], _ => rfl) s us hl
  · exact fun K f fd F us hl s => FunD.bindsA (ps := q_book_are_hands.ps) F (fun _ _ _ _ _ _ us hl => match us, hl with | [_, _], _ => rfl) s us hl
  · exact fun K f fd F us hl s => FunD.bindsA (ps := q_law__law_state.ps) F (fun _ _ _ _ _ _ us hl => match us, hl with | [_, _], _ => rfl) s us hl
  · exact fun K f fd F us hl s => FunD.bindsA (ps := q_law__law_next.ps) F (fun _ _ _ _ _ _ us hl => match us, hl with | [_, _], _ => rfl) s us hl
  · exact fun K f fd F us hl s => FunD.bindsA (ps := q_law__law_counter.ps) F (fun _ _ _ _ _ _ us hl => match us, hl with | [_, _], _ => rfl) s us hl
  · exact fun K f fd F us hl s => FunD.bindsA (ps := q_law__law_row.ps) F (fun _ _ _ _ _ _ us hl => match us, hl with | [_, _], _ => rfl) s us hl
  · exact fun K f fd F us hl s => FunD.bindsA (ps := q_law_law.ps) F (fun _ _ _ _ _ _ us hl => match us, hl with | [_], _ => rfl) s us hl
  · exact fun K f fd F us hl s => FunD.bindsA (ps := q_book_Book_letters.ps) F (fun _ _ _ _ _ _ us hl => match us, hl with | [_], _ => rfl) s us hl
  · exact fun K f fd F us hl s => FunD.bindsA (ps := q_book_Book_has_step.ps) F (fun _ _ _ _ _ _ us hl => match us, hl with | [_, _], _ => rfl) s us hl
  · exact fun K f fd F us hl s => FunD.bindsA (ps := q_book_Book_has_letter.ps) F (fun _ _ _ _ _ _ us hl => match us, hl with | [_, _], _ => rfl) s us hl
  · exact fun K f fd F us hl s => FunD.bindsA (ps := q_book_Book_turn.ps) F (fun _ _ _ _ _ _ us hl => match us, hl with | [_, _], _ => rfl) s us hl
  · exact fun K f fd F us hl s => FunD.bindsA (ps := q_book_Book_onward.ps) F (fun _ _ _ _ _ _ us hl => match us, hl with | [_, _, _], _ => rfl) s us hl
  · exact fun K f fd F us hl s => FunD.bindsA (ps := q_book_Book___init__.ps) F (fun _ _ _ _ _ _ us hl => match us, hl with | [_, _, _], _ => rfl) s us hl
  · exact fun K f fd F us hl s => FunD.bindsA (ps := q_law__law_refused.ps) F (fun _ _ _ _ _ _ us hl => match us, hl with | [_], _ => rfl) s us hl
abbrev R : PySem.W.OpenRow := PySem.W.OpenLaw.row PySem.Challenge.rw_letterhand_k86_long_words_alike
def ex (K : PySem.W.Frag) : Bool := kitChk T.p T.isi T.cN K && decide ((tabAs T K).Nodup)
abbrev hk : PySem.W.Hook := He.hookX 5 T.fa T.dfn [] (T.mkT.map (·.1)) ex
def ob (s : PySem.W.SharedT) : He.AlX := He.obsX 5 T.fa T.dfn [] (T.mkT.map (·.1)) ex (HandSHeadRun.getT s)
theorem ob_eq (s : PySem.W.SharedT) : ob s = hk.obs s.abs := He.obsX_eq (HandSHeadRun.getT_eq s)
def loose : List PySem.Str := (["_wall", "HandError", "NoBook", "NoWord", "NoRow", "NoNumber", "TooMany", "LEAST_MANY", "MOST_MANY", "is_whole", "is_between", "is_turn", "still_turn", "undone", "MOST_STEPS", "is_word", "sure_word", "shortened", "turn_by", "behind_one"] : List PySem.Str) ++ (["MOST_WORDS", "gone_over", "parted", "alike", "MOST_HANDS", "is_hand", "are_hands", "Book", "_law_state", "_law_next", "_law_counter", "_law_row", "_law_refused"] : List PySem.Str)
theorem run (w : World) : HandSHeadRun.RunEq R (PySem.W.view R.prog [40]) hk ob 4000 loose w := by
  intro os
  kernel_rfl
open PySem PySem.W PySem.Calls PyProof.Rows
/-- the law by what the small program answers -/
theorem law_of (main : ∀ ns : List Int, ns.length ≤ 63 → (∀ z ∈ ns, Builtin.Int.intBits z ≤ 1048576) → ∃ m', (stOf MPE.K86.prog 12).call 26 [.scr (ns.map U.int)] [.fn 0] = .ok (.bl true) m') : PySem.Challenge.rw_letterhand_k86_long_words_alike.Holds := by
  w_on; o_law
  refine HandSHeadRun.head_any (r := R) (q := view R.prog [40]) (H := hk) (ob := ob) (M := 4000) (loose := loose) (d := HandSHeadRun.topDef R.prog 40) (kwd := []) ob_eq
    (by kernel_rfl) (fun s => by kernel_rfl) run (by kernel_rfl) (by kernel_rfl) (by kernel_rfl) (by rfl) (by first | assumption | decide +kernel) (by decide +kernel) ⟨rfl, rfl, rfl, rfl, rfl, by decide +kernel⟩ ?hw ?hc
  case hw => w_witness2
  case hc =>
    refine LamX.walk_ofTsE (l := PySem.Challenge.rw_letterhand_k86_long_words_alike) (n := 63) (k := 4 * 12) (CX := fun w => L2.CX PySem.Challenge.rw_letterhand_k86_long_words_alike.prog w) (x := "_law_script") rfl (by decide) (by kernel_rfl) ⟨rfl, by decide, by decide⟩ ?F (fun w H s e s' ⟨_, _, _, _, _, _, _, _, _, _, _, _, z⟩ => z)
    rintro w mg fa h ⟨K, KX, c⟩ G hmg0
    have hmg : mg ("law" : PySem.Str) = some (.ref fa) := by
      have e : (HandSHeadRun.topDef R.prog 40).name = ("law" : PySem.Str) := by kernel_rfl
      rw [← e]
      exact hmg0
    have cm := c.more
    unfold ex at cm
    simp only [Bool.and_eq_true, decide_eq_true_eq] at cm
    obtain ⟨fd, h1, h2, h3, h4⟩ := head_of (P := PySem.Challenge.rw_letterhand_k86_long_words_alike.prog) (w := w) tOk stands tabs binds KX G c.t.d cm.1 (ql := q_law_law) (by simp [T]) (x := "_law_script") rfl 11
    have e := hmg.symm.trans h2
    cases e
    have inT : ∀ z ∈ T.mkT, z.1 ∈ T.mkT.map (·.1) := fun z hz => List.mem_map.mpr ⟨z, hz, rfl⟩
    refine ⟨K, KX, fd, T.mkT.map (fun z => He.cT K z.1), _, fun p hp => ?_, fun p hp => ?_, fun p hp => ?_, h3, fun H a ns hl hb hH hS => let ⟨m', q⟩ := main ns hl hb; sp_law cm.2 (fun z hz => hH _ (List.mem_map.mpr ⟨z, hz, rfl⟩)) hS q, fun base _ _ hT => h4 base fun z hz => hT _ (List.mem_map.mpr ⟨z, hz, rfl⟩)⟩
    · obtain ⟨z, hz, rfl⟩ := List.mem_map.mp hp
      exact c.empty _ (inT z hz)
    · obtain ⟨z, hz, rfl⟩ := List.mem_map.mp hp
      exact c.out _ (inT z hz)
    · obtain ⟨z, hz, rfl⟩ := List.mem_map.mp hp
      exact codeHd_of_K KX (c.hd _ (inT z hz))
end HK86
theorem PySem.Challenge.cw_letterhand_k86_long_words_alike_holds : PySem.Challenge.rw_letterhand_k86_long_words_alike.Holds := by
  exact HK86.law_of fun ns hl _ => MPE.K86.main ns hl
