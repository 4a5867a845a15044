import PyProof.Rows.All
import PySem.Challenge.RW_sweptfield_k90_odd_boards_refused
import HandS.ForMost
import HandS.Exc
import KE.KeyNested
import KE.DataEq
import KE.DataCmp
import KE.SortData
import KE.DataMinMax
import KE.DataAny
import KE.DataFind
import KE.DataIsa
import KE.KDictWalk
import HandS.Walk
import HandS.Flow
import HandS.TupAny
import HandS.WideBits
import HandS.IsInst
import HandS.CallLocal
import HandS.CallSlots
import HandS.ExcOwn
import KE.KDictCopyH
import KE.KEqDict
import PyProof.DictTruth
import KE.KDictSum
import PyProof.IsiPairs
import PyProof.ReprRoads
import HandS.Ends
import KE.KExcSuper
import HandS.ExcInit
import HandS.ExcField
import KE.KExcIs
import HandS.DictComp
import HandS.Conv
import HandS.Style
import HandS.Codes
import HandS.HeadEnd
import HandS.HeadHook2
import HandS.Head2
import PyProof.ReprLen
set_option linter.all false
section
set_option maxRecDepth 100000
set_option autoImplicit false
/-! SwA: the values, states and expressions of the mini language, and what they mean. -/
namespace Sw
open PySem

/-- a value as a tree; cell n: the n-th thing of the store (a list, a dict, an object that is changed in place) -/
inductive W where
  | non | bl (b : Bool) | int (i : Int) | str (x : Str)
  | tup (xs : List W) | lst (xs : List W) | dic (ks vs : List W)
  | cell (n : Nat) | fn (x : Str) | cls (x : Str) | exc (c : Str) (v : W) | ty (n : String)
  | ins (c : Str) (fs : List Str) (vs : List W)
  | lok (w : W)
  deriving Inhabited

abbrev Store := List W
abbrev EnvW := List (Option W)

inductive Out (α : Type) where
  | ok (a : α) (st : Store)
  | exc (c : Str) (v : W) (st : Store)
  | stuck

namespace Out
def bind {α β : Type} (o : Out α) (f : α → Store → Out β) : Out β := match o with
  | .ok a st => f a st
  | .exc c v st => .exc c v st
  | .stuck => .stuck
@[simp] theorem bind_ok {α β : Type} (a : α) (st : Store) (f : α → Store → Out β) : (Out.ok a st).bind f = f a st := rfl
@[simp] theorem bind_exc {α β : Type} (c : Str) (v : W) (st : Store) (f : α → Store → Out β) : (Out.exc c v st : Out α).bind f = .exc c v st := rfl
@[simp] theorem bind_stuck {α β : Type} (f : α → Store → Out β) : (Out.stuck : Out α).bind f = .stuck := rfl
theorem bind_assoc {α β γ : Type} (o : Out α) (f : α → Store → Out β) (h : β → Store → Out γ) : (o.bind f).bind h = o.bind fun a st => (f a st).bind h := by cases o <;> rfl
/-- a value that may be missing -/
def opt {α : Type} (o : Option α) (st : Store) : Out α := match o with
  | some a => .ok a st
  | none => .stuck
@[simp] theorem opt_some {α : Type} (a : α) (st : Store) : Out.opt (some a) st = .ok a st := rfl
@[simp] theorem opt_none {α : Type} (st : Store) : Out.opt (none : Option α) st = .stuck := rfl
end Out

/-! ### data -/
/-- the greatest length of a list -/
def sz : Nat := 16777216
mutual
/-- plain data (no cell, no def, no class, no dict), at most so deep -/
def pl : Nat → W → Bool
  | _, .non => true
  | _, .bl _ => true
  | _, .int _ => true
  | _, .str _ => true
  | 0, .tup _ => false
  | n + 1, .tup xs => pls n xs
  | 0, .lst _ => false
  | n + 1, .lst xs => pls n xs
  | _, .dic _ _ => false
  | _, .cell _ => false
  | _, .fn _ => false
  | _, .cls _ => false
  | _, .exc _ _ => false
  | _, .ty _ => false
  | _, .ins _ _ _ => false
  | _, .lok _ => false
def pls : Nat → List W → Bool
  | _, [] => true
  | n, x :: xs => pl n x && pls n xs
end
mutual
/-- the same with dicts -/
def pd : Nat → W → Bool
  | _, .non => true
  | _, .bl _ => true
  | _, .int _ => true
  | _, .str _ => true
  | 0, .tup _ => false
  | n + 1, .tup xs => pds n xs
  | 0, .lst _ => false
  | n + 1, .lst xs => pds n xs
  | 0, .dic _ _ => false
  | n + 1, .dic ks vs => ks.length == vs.length && pds n ks && pds n vs
  | _, .cell _ => false
  | _, .fn _ => false
  | _, .cls _ => false
  | _, .exc _ _ => false
  | _, .ty _ => false
  | _, .ins _ _ _ => false
  | _, .lok _ => false
def pds : Nat → List W → Bool
  | _, [] => true
  | n, x :: xs => pd n x && pds n xs
end
mutual
/-- what a key is -/
def keyOf : W → Option NestedKey
  | .non => some .none
  | .bl b => some (.num (if b = true then 1 else 0))
  | .int i => some (.num i)
  | .str x => some (.text x)
  | .tup xs => (keysOf xs).map .tup
  | _ => none
def keysOf : List W → Option (List NestedKey)
  | [] => some []
  | x :: xs => match keyOf x, keysOf xs with
    | some k, some ks => some (k :: ks)
    | _, _ => none
end
/-- a dict's value at a key -/
def look (k : NestedKey) : List W → List W → Option W
  | x :: ks, v :: vs => if keyOf x = some k then some v else look k ks vs
  | _, _ => none
/-- a dict with a key's value put in -/
def put (k : NestedKey) (w v : W) : List W → List W → List W × List W
  | x :: ks, u :: vs => if keyOf x = some k then (x :: ks, v :: vs) else ((x :: (put k w v ks vs).1), (u :: (put k w v ks vs).2))
  | _, _ => ([w], [v])
mutual
def toPy : W → PyData
  | .non => .none
  | .bl b => .bool b
  | .int i => .int i
  | .str x => .str x
  | .tup xs => .tuple (toPys xs)
  | .lst xs => .list (toPys xs)
  | .dic ks vs => .dict ((toPys ks).zip (toPys vs))
  | _ => .none
def toPys : List W → List PyData
  | [] => []
  | x :: xs => toPy x :: toPys xs
end
/-- Python's == on plain data -/
def eqW (x y : W) : Bool := PyData.eqv (toPy x) (toPy y)
/-- is x among them -/
def memW (x : W) (ys : List W) : Bool := ys.any fun y => eqW y x

/-! ### the store -/
/-- a thing that is being walked -/
def unl : W → W
  | .lok w => unl w
  | w => w
/-- what stands behind a value: a cell's content -/
def see (st : Store) : W → W
  | .cell n => unl (st.getD n .non)
  | w => w
/-- a value with its cells written out, n levels -/
def deep : Nat → Store → W → W
  | 0, _, w => w
  | n + 1, st, .cell m => deep n st (unl (st.getD m .non))
  | n + 1, st, .tup xs => .tup (xs.map (deep n st))
  | n + 1, st, .lst xs => .lst (xs.map (deep n st))
  | n + 1, st, .dic ks vs => .dic ks (vs.map (deep n st))
  | _, _, w => w
abbrev deeps (n : Nat) (st : Store) (ws : List W) : List W := ws.map (deep n st)
def mapO (g : W → Option W) : List W → Option (List W)
  | [] => some []
  | x :: xs => match g x, mapO g xs with
    | some y, some ys => some (y :: ys)
    | _, _ => none
/-- cells are walked: they are locked, and let go -/
def lockS (st : Store) : List Nat → Store
  | [] => st
  | n :: ns => lockS (st.set n (.lok (st.getD n .non))) ns
def unlok : W → W
  | .lok w => w
  | w => w
def unlockS (st : Store) : List Nat → Store
  | [] => st
  | n :: ns => let st' := unlockS st ns; st'.set n (unlok (st'.getD n .non))
/-- plain data behind a value -/
def data (st : Store) (w : W) : Option W := if pl 20 w then some w else if pl 20 (deep 20 st w) then some (deep 20 st w) else none
def dataD (st : Store) (w : W) : Option W := if pd 20 w then some w else if pd 20 (deep 20 st w) then some (deep 20 st w) else none
/-- a key -/
def keyW (w : W) : Option NestedKey := if pl 20 w then (keyOf w).bind fun q => if q.depth ≤ 8 then some q else none else none
def asSeq (st : Store) (w : W) : Option (List W) := match see st w with
  | .lst xs => some xs
  | .tup xs => some xs
  | _ => none
def asL (st : Store) (w : W) : Option (List W) := match see st w with
  | .lst xs => some xs
  | _ => none
def asD (st : Store) (w : W) : Option (List W × List W) := match see st w with
  | .dic ks vs => some (ks, vs)
  | _ => none
def truth (st : Store) (w : W) : Option Bool := match see st w with
  | .non => some false
  | .bl b => some b
  | .int i => some (i != 0)
  | .str x => if x.length ≤ sz then some (x.length != 0) else none
  | .tup xs => some (!xs.isEmpty)
  | .lst xs => some (!xs.isEmpty)
  | .dic ks _ => some (!ks.isEmpty)
  | _ => none
end Sw
end
section
set_option maxRecDepth 100000
set_option autoImplicit false
/-! SwB: the mini language and its interpreter. -/
namespace Sw
open PySem

inductive Bop where
  | add | sub | mul | fdiv | mod | pow | xor
inductive Cop where
  | eq | ne | lt | le | gt | ge | is | isnot | inn | notin
inductive BI where
  | len | sum | sum2 | max | min | sorted | list | tuple | dict | int | str | abs | isinst | all | any | repr
inductive MI where
  | append | pop | popAt | get | get2 | bitlen | index | insert | setdefault
inductive MT where
  | nm (i : Nat) | tp (ts : List MT)

mutual
inductive ME where
  | k (w : W) | v (i : Nat) | g (x : Str)
  | tup (es : List ME) | lst (es : List ME) | dic (es : List ME)
  | bin (o : Bop) (a b : ME) | neg (a : ME) | not (a : ME) | and (a b : ME) | or (a b : ME)
  | cmp (o : Cop) (a b : ME) | chn (o o' : Cop) (a b c : ME) | ife (c a b : ME)
  | idx (a i : ME) | slc (a lo hi : ME) | rev (a : ME)
  | call (f : Str) (es : List ME) | callk (f : Str) (es : List ME) (perm : List Nat) | callv (i : Nat) (es : List ME)
  | bi (b : BI) (es : List ME) | mt (m : MI) (o : ME) (es : List ME)
  | comp (elt : ME) (tg : MT) (it : IT) (ifs : List ME) (own : List Nat)
  | comp2 (elt : ME) (tg : MT) (it : IT) (ifs : List ME) (tg1 : MT) (it1 : IT) (ifs1 : List ME) (own own1 : List Nat)
  | dcomp (ky vl : ME) (tg : MT) (it : IT) (ifs : List ME) (own : List Nat)
  | listI (it : IT) | att (a : ME) (f : Str) | box (a : ME)
/-- what is walked -/
inductive IT where
  | of (e : ME) | rng (es : List ME) | zip (a b : ME) | enm (a : ME) | itm (a : ME) | vls (a : ME)
end

inductive MS where
  | asg (i : Nat) (e : ME) | unp (tg : MT) (e : ME) | par (is : List Nat) (es : List ME)
  | setI (o i e : ME) | ret (e : ME) | retN | ex (e : ME)
  | iff (c : ME) (a b : List MS) | forr (tg : MT) (it : IT) (b : List MS) | whl (c : ME) (b : List MS)
  | raise (c : Str) (e : ME) | tri (b : List MS) (c : Str) (i : Nat) (s : List MS)
  | brk | cnt | pass

inductive Fl where
  | nx | rt (w : W) | bk | ct

/-! ### operations -/
def b2i (b : Bool) : Int := if b then 1 else 0
/-- products that are reckoned -/
def mulOk (i j : Int) : Bool := (decide (i.natAbs < 2 ^ 64)) || (decide (j.natAbs < 2 ^ 64))
def binW (o : Bop) (x y : W) (st : Store) : Option W :=
  match o, see st x, see st y with
  | .add, .int i, .int j => some (.int (i + j))
  | .add, .str a, .str b => if a.length + b.length ≤ sz then some (.str (a ++ b)) else none
  | .add, .lst xs, .lst ys => if xs.length + ys.length ≤ sz then some (.lst (xs ++ ys)) else none
  | .add, .tup xs, .tup ys => if xs.length + ys.length ≤ sz then some (.tup (xs ++ ys)) else none
  | .sub, .int i, .int j => some (.int (i - j))
  | .mul, .int i, .int j => if mulOk i j then some (.int (i * j)) else none
  | .mul, .lst xs, .int k => if xs.length * k.toNat ≤ sz ∧ -(2 ^ 63) ≤ k ∧ k < 2 ^ 63 then some (.lst (List.replicate k.toNat xs).flatten) else none
  | .fdiv, .int i, .int j => if j ≠ 0 ∧ j.natAbs < 1073741824 then some (.int (i.fdiv j)) else none
  | .mod, .int i, .int j => if j ≠ 0 then some (.int (i.fmod j)) else none
  | .pow, .int i, .int j => if 0 ≤ j ∧ (i.natAbs.log2 + 1) * j.toNat ≤ 100000 then some (.int (i ^ j.toNat)) else none
  | .xor, .int i, .int j => some (.int (Builtin.bitXor i j))
  | _, _, _ => none
/-- is: only against None, True, False -/
def isNon : W → Bool
  | .non => true
  | _ => false
def isBo (b : Bool) : W → Bool
  | .bl c => c == b
  | _ => false
def isW (x y : W) : Option Bool := match y with
  | .non => some (isNon x)
  | .bl b => some (isBo b x)
  | _ => none
def containsW (x y : W) (st : Store) : Option Bool := match see st y with
  | .dic ks vs => (keyW x).bind fun k => some (look k ks vs).isSome
  | _ => (data st x).bind fun a => (data st y).bind fun d => match d with
    | .lst zs => some (memW a zs)
    | .tup zs => some (memW a zs)
    | _ => none
def cmpI (o : Cop) (i j : Int) : Option Bool := match o with
  | .eq => some (decide (i = j))
  | .ne => some (!decide (i = j))
  | .lt => some (decide (i < j))
  | .le => some (decide (i ≤ j))
  | .gt => some (decide (j < i))
  | .ge => some (decide (j ≤ i))
  | _ => none
def cmpD (o : Cop) (x y : W) : Option Bool := match o with
  | .eq => some (eqW x y)
  | .ne => some (!eqW x y)
  | .lt => match x with | .non => none | _ => if PySem.W.alike (toPy x) (toPy y) then some (PySem.W.dataLt (toPy x) (toPy y)) else none
  | _ => none
/-- == of two dicts -/
def eqD : List W → List W → List W → List W → Option Bool
  | k :: ks, v :: vs, ks', vs' => (keyW k).bind fun q => match look q ks' vs' with
    | some u => if pl 20 v && pl 20 u then (if eqW v u then eqD ks vs ks' vs' else some false) else none
    | none => some false
  | _, _, _, _ => some true
def cmpW (o : Cop) (x y : W) (st : Store) : Option Bool := match o with
  | .is => isW x y
  | .isnot => (isW x y).map (!·)
  | .inn => containsW x y st
  | .notin => (containsW x y st).map (!·)
  | o => match see st x, see st y with
    | .int i, .int j => cmpI o i j
    | .dic ks vs, .dic ks' vs' => match o with
      | .eq => if ks.length = ks'.length then eqD ks vs ks' vs' else some false
      | .ne => if ks.length = ks'.length then (eqD ks vs ks' vs').map (!·) else some true
      | _ => none
    | _, _ => (data st x).bind fun a => (data st y).bind fun b => cmpD o a b
/-- an index as Python counts -/
def at? (xs : List W) (i : Int) : Option W := if 0 ≤ i then xs[i.toNat]? else if 0 ≤ i + xs.length then xs[(i + xs.length).toNat]? else none
def idxW (x i : W) (st : Store) : Option W := match see st x, see st i with
  | .lst xs, .int j => at? xs j
  | .tup xs, .int j => at? xs j
  | .str z, .int j => if 0 ≤ j ∧ j.toNat < z.length ∧ z.length ≤ sz then (z.cps[j.toNat]?).map fun c => .str ⟨#[c]⟩ else none
  | .dic ks vs, _ => (keyW i).bind fun k => look k ks vs
  | _, _ => none
/-- where a slice's end lies -/
def cutAt (n : Nat) (d : Nat) : W → Option Nat
  | .non => some d
  | .int i => some (if 0 ≤ i then min i.toNat n else (i + n).toNat)
  | _ => none
def slcW (x lo hi : W) (st : Store) : Option W := match see st x with
  | .lst xs => (cutAt xs.length 0 lo).bind fun a => (cutAt xs.length xs.length hi).bind fun b => some (.lst ((xs.drop a).take (b - a)))
  | .tup xs => (cutAt xs.length 0 lo).bind fun a => (cutAt xs.length xs.length hi).bind fun b => some (.tup ((xs.drop a).take (b - a)))
  | _ => none
/-- is it a list or a dict -/
def isLD : W → Bool
  | .lst _ => true
  | .dic _ _ => true
  | _ => false
/-- a written bound is an int -/
def okB : ME → W → Bool
  | .k .non, _ => true
  | _, .int _ => true
  | _, _ => false
def revW (x : W) (st : Store) : Option W := match see st x with
  | .lst xs => some (.lst xs.reverse)
  | _ => none
/-! sorting -/
def leW (x y : W) : Bool := PySem.W.dataLe false toPy x y
def sortW (xs : List W) : List W := xs.mergeSort leW
/-- all may be compared -/
def alikes (xs : List W) : Bool := xs.all fun x => xs.all fun y => PySem.W.alike (toPy x) (toPy y)
def sortable (xs : List W) : Bool := alikes xs && ((xs.all fun x => match x with | .tup (_ :: _) => true | _ => false) || xs.all fun x => match x with | .tup _ => false | .non => false | _ => true)
def sumI : List W → Option Int
  | [] => some 0
  | .int i :: xs => (sumI xs).map (i + ·)
  | _ => none
def catL (st : Store) : List W → List W → Option (List W)
  | acc, [] => some acc
  | acc, x :: xs => match see st x with
    | .lst ys => if acc.length + ys.length ≤ sz then catL st (acc ++ ys) xs else none
    | _ => none
def maxW : W → List W → W
  | m, [] => m
  | m, x :: xs => maxW (if PySem.W.dataLt (toPy m) (toPy x) then x else m) xs
def minW : W → List W → W
  | m, [] => m
  | m, x :: xs => minW (if PySem.W.dataLt (toPy x) (toPy m) then x else m) xs
/-- what max and min ask -/
def mmOk (xs : List W) : Bool := pls 20 xs && alikes xs && xs.all fun x => match x with | .non => false | .lst _ => false | .dic _ _ => false | _ => true
/-- is the value of that built-in type -/
def tyOf (n : String) : W → Option Bool
  | .non => if ["int", "bool", "str", "tuple", "list", "dict"].contains n then some false else none
  | .bl _ => if ["int", "bool", "str", "tuple", "list", "dict"].contains n then some (n == "bool" || n == "int") else none
  | .int _ => if ["int", "bool", "str", "tuple", "list", "dict"].contains n then some (n == "int") else none
  | .str _ => if ["int", "bool", "str", "tuple", "list", "dict"].contains n then some (n == "str") else none
  | .tup _ => if ["int", "bool", "str", "tuple", "list", "dict"].contains n then some (n == "tuple") else none
  | .lst _ => if ["int", "bool", "str", "tuple", "list", "dict"].contains n then some (n == "list") else none
  | .dic _ _ => if ["int", "bool", "str", "tuple", "list", "dict"].contains n then some (n == "dict") else none
  | .exc _ _ => if ["int", "bool", "str", "tuple", "list", "dict"].contains n then some false else none
  | _ => none
def isTy (sub : Str → Str → Bool) (st : Store) (x : W) : W → Option Bool
  | .ty n => tyOf n (see st x)
  | .cls c => match x with
    | .exc d _ => some (sub d c)
    | _ => none
  | _ => none
def bools : List W → Option (List Bool)
  | [] => some []
  | .bl b :: xs => (bools xs).map (b :: ·)
  | _ => none
/-- dict(list of pairs) -/
def dictP (st : Store) : List W → List W × List W → Option (List W × List W)
  | [], d => some d
  | p :: ps, d => match asSeq st p with
    | some [k, v] => (keyW k).bind fun q => dictP st ps (put q k v d.1 d.2)
    | _ => none
/-- a display's keys and values by turns -/
def dictE : List W → List W × List W → Option (List W × List W)
  | k :: v :: r, d => (keyW k).bind fun q => dictE r (put q k v d.1 d.2)
  | [], d => some d
  | _, _ => none
def lenF (st : Store) (x : W) : Option W := match see st x with
  | .lst xs => some (.int xs.length)
  | .tup xs => some (.int xs.length)
  | .dic ks _ => some (.int ks.length)
  | .str z => if z.length ≤ sz then some (.int z.length) else none
  | _ => none
def intF : W → Option W
  | .int i => some (.int i)
  | .bl b => some (.int (b2i b))
  | _ => none
def strF : W → Option W
  | .int i => if i.natAbs.log2 < 1920 then some (.str (toString i)) else none
  | _ => none
def absF : W → Option W
  | .int i => some (.int (if i < 0 then -i else i))
  | _ => none
def max2F : W → W → Option W
  | .int i, .int j => some (.int (if j > i then j else i))
  | _, _ => none
def min2F : W → W → Option W
  | .int i, .int j => some (.int (if j < i then j else i))
  | _, _ => none
def max1F : List W → Option W
  | a :: r => if mmOk (a :: r) then some (maxW a r) else none
  | _ => none
def min1F : List W → Option W
  | a :: r => if mmOk (a :: r) then some (minW a r) else none
  | _ => none
def sortF (st : Store) (x : W) : Option W := match see st x with
  | .lst xs => if pls 20 xs && sortable xs then some (.lst (sortW xs)) else none
  | .dic xs _ => if pls 20 xs && sortable xs then some (.lst (sortW xs)) else none
  | _ => none
def listF (st : Store) (x : W) : Option W := match see st x with
  | .lst xs => some (.lst xs)
  | .tup xs => some (.lst xs)
  | .dic ks _ => some (.lst ks)
  | _ => none
def tupF (st : Store) (x : W) : Option W := match see st x with
  | .lst xs => some (.tup xs)
  | .tup xs => some (.tup xs)
  | _ => none
def dictF (st : Store) (x : W) : Option W := match see st x with
  | .lst ps => if ps.length ≤ sz then (dictP st ps ([], [])).map fun d => .dic d.1 d.2 else none
  | .dic ks vs => some (.dic ks vs)
  | _ => none
def sum2F (st : Store) (xs : List W) : W → Option W
  | .lst [] => (catL st [] xs).map .lst
  | _ => none
/-- isinstance of one class; the value is seen -/
def excOk (sub : Str → Str → Bool) : W → Bool
  | .exc d _ => sub d d
  | _ => true
def isi1 (sub : Str → Str → Bool) (w : W) : W → Option Bool
  | .ty n => if excOk sub w then tyOf n w else none
  | .cls c => if sub c c then (match w with
    | .non => some false
    | .bl _ => some false
    | .int _ => some false
    | .str _ => some false
    | .tup _ => some false
    | .lst _ => some false
    | .dic _ _ => some false
    | .exc d _ => if sub d d then some (sub d c) else none
    | _ => none) else none
  | _ => none
def isiAny (sub : Str → Str → Bool) (w : W) : List W → Option Bool
  | [] => some false
  | y :: ys => match isi1 sub w y with
    | some true => some true
    | some false => isiAny sub w ys
    | none => none
def isiF (sub : Str → Str → Bool) (st : Store) (x : W) : W → Option W
  | .tup (y :: ys) => (isiAny sub (see st x) (y :: ys)).map .bl
  | y => (isi1 sub (see st x) y).map .bl
def repF (st : Store) (x : W) : Option W := (dataD st x).bind fun d => if (toPy d).showable && decide ((toPy d).shown.length ≤ sz) then some (.str (toPy d).shown) else none
def callB (sub : Str → Str → Bool) (b : BI) (ws : List W) (st : Store) : Option W := match b, ws with
  | .len, [x] => lenF st x
  | .sum, [x] => (asL st x).bind fun xs => (sumI xs).map .int
  | .max, [x, y] => max2F x y
  | .min, [x, y] => min2F x y
  | .sorted, [x] => sortF st x
  | .list, [x] => listF st x
  | .tuple, [x] => tupF st x
  | .int, [x] => intF x
  | .str, [x] => strF x
  | .abs, [x] => absF x
  | .isinst, [x, t] => isiF sub st x t
  | .all, [x] => (asL st x).bind fun xs => (bools xs).map fun bs => .bl (bs.all id)
  | .any, [x] => (asL st x).bind fun xs => (bools xs).map fun bs => .bl (bs.any id)
  | .repr, [x] => repF st x
  | _, _ => none
def setAt (st : Store) (n : Nat) (w : W) : Store := st.set n w
def nat? (xs : List W) (i : Int) : Option Nat := if 0 ≤ i then (if i.toNat < xs.length then some i.toNat else none) else if 0 ≤ i + xs.length then some (i + xs.length).toNat else none
/-! the methods -/
def appF (st : Store) (x : W) : W → Out W
  | .cell n => match st[n]? with
    | some (.lst xs) => if xs.length < sz then .ok .non (st.set n (.lst (xs ++ [x]))) else .stuck
    | _ => .stuck
  | _ => .stuck
def popF (st : Store) : W → Out W
  | .cell n => match st[n]? with
    | some (.lst xs) => match xs[xs.length - 1]? with | some x => .ok x (st.set n (.lst xs.dropLast)) | none => .stuck
    | _ => .stuck
  | _ => .stuck
def popAtF (st : Store) (i : W) : W → Out W
  | .cell n => match st[n]?, i with
    | some (.lst xs), .int k => match nat? xs k with
      | some j => match xs[j]? with | some x => .ok x (st.set n (.lst (xs.eraseIdx j))) | none => .stuck
      | none => .stuck
    | _, _ => .stuck
  | _ => .stuck
def getF (st : Store) (k d o : W) : Option W := match see st o with
  | .dic ks vs => (keyW k).bind fun q => some ((look q ks vs).getD d)
  | _ => none
def bitF : W → Option W
  | .int i => some (.int (Builtin.Int.intBits i : Nat))
  | _ => none
def callM (m : MI) (o : W) (ws : List W) (st : Store) : Out W := match m, ws with
  | .append, [x] => appF st x o
  | .pop, [] => popF st o
  | .popAt, [i] => popAtF st i o
  | .get, [k] => .opt (getF st k .non o) st
  | .get2, [k, d] => .opt (getF st k d o) st
  | .bitlen, [] => .opt (bitF o) st
  | _, _ => .stuck
/-- what a method is called on -/
def recvOk (m : MI) (st : Store) (o : W) : Bool := match m with
  | .append | .pop | .popAt => match see st o with | .lst _ => true | _ => false
  | .get | .get2 => match see st o with | .dic _ _ => true | _ => false
  | .bitlen => match o with | .int _ => true | _ => false
  | _ => false
/-- o[i] = e -/
def setW (o i w : W) (st : Store) : Option Store := match o with
  | .cell n => match st[n]? with
    | some (.lst xs) => match i with
      | .int j => (nat? xs j).map fun q => st.set n (.lst (xs.set q w))
      | _ => none
    | some (.dic ks vs) => (keyW i).bind fun q => if ks.length < sz then some (st.set n (.dic (put q i w ks vs).1 (put q i w ks vs).2)) else none
    | _ => none
  | _ => none
mutual
/-- store to a target -/
def assignT (st : Store) : MT → W → EnvW → Option EnvW
  | .nm i, w, env => if i < env.length then some (env.set i (some w)) else none
  | .tp ts, w, env => match see st w with
    | .tup xs => assignTs st ts xs env
    | _ => none
def assignTs (st : Store) : List MT → List W → EnvW → Option EnvW
  | [], [], env => some env
  | t :: ts, x :: xs, env => (assignT st t x env).bind fun env' => assignTs st ts xs env'
  | _, _, _ => none
end
def wipeE (env : EnvW) : List Nat → EnvW
  | [] => env
  | i :: is => (wipeE env is).set i none
def rngL (lo hi : Int) : List W := (List.range (hi - lo).toNat).map fun (i : Nat) => W.int (lo + i)
def rngOk (i : Int) : Bool := decide (-(2 ^ 62) ≤ i) && decide (i < 2 ^ 62)
/-- what a walk takes, and the cells that it locks -/
def itemsOf (st : Store) (w : W) : Option (List Nat × List W) := match w with
  | .lst xs => some ([], xs)
  | .tup xs => some ([], xs)
  | .dic ks _ => some ([], ks)
  | .cell n => match st[n]? with
    | some (.lst xs) => some ([n], xs)
    | some (.dic ks _) => some ([n], ks)
    | some (.lok (.lst xs)) => some ([], xs)
    | some (.lok (.dic ks _)) => some ([], ks)
    | _ => none
  | _ => none
/-- a list or a tuple -/
def isSeqW : W → Bool
  | .lst _ => true
  | .tup _ => true
  | _ => false
def seqI (st : Store) (w : W) : Option (List Nat × List W) := if isSeqW (see st w) then itemsOf st w else none
def zipI (st : Store) (x y : W) : Option (List Nat × List W) := (seqI st x).bind fun a => (seqI (lockS st a.1) y).bind fun b => some (a.1 ++ b.1, List.zipWith (fun p q => .tup [p, q]) a.2 b.2)
def enmI (st : Store) (x : W) : Option (List Nat × List W) := (seqI st x).bind fun a => some (a.1, a.2.zipIdx.map fun p => .tup [.int p.2, p.1])
def itmI (st : Store) (x : W) : Option (List Nat × List W) := match x with
  | .dic ks vs => some ([], List.zipWith (fun p q => .tup [p, q]) ks vs)
  | .cell n => match st[n]? with
    | some (.dic ks vs) => some ([n], List.zipWith (fun p q => .tup [p, q]) ks vs)
    | some (.lok (.dic ks vs)) => some ([], List.zipWith (fun p q => .tup [p, q]) ks vs)
    | _ => none
  | _ => none
def vlsI (st : Store) (x : W) : Option (List Nat × List W) := match x with
  | .dic _ vs => some ([], vs)
  | .cell n => match st[n]? with
    | some (.dic _ vs) => some ([n], vs)
    | some (.lok (.dic _ vs)) => some ([], vs)
    | _ => none
  | _ => none
/-- what is known of the program: its defs, its classes, its constants -/
structure Def where
  np : Nat
  nv : Nat
  body : List MS
  /-- 0: new cells stay; 1: what was is as it was, the result is written out; 2: what was may be changed, all is written out -/
  frz : Nat
structure Cfg where
  defs : Str → Option Def
  glob : Str → Option W
  sub : Str → Str → Bool
  fuel : Nat

def loopL (b : W → EnvW → Store → Out (Fl × EnvW)) : List W → EnvW → Store → Out (Fl × EnvW)
  | [], env, st => .ok (.nx, env) st
  | x :: xs, env, st => (b x env st).bind fun r st' => match r.1 with
    | .nx => loopL b xs r.2 st'
    | .ct => loopL b xs r.2 st'
    | .bk => .ok (.nx, r.2) st'
    | .rt w => .ok (.rt w, r.2) st'
/-- a comprehension's turns; each gives an item or none -/
def loopC (b : W → Store → Out (Option W)) : List W → List W → Store → Out (List W)
  | [], acc, st => .ok acc st
  | x :: xs, acc, st => (b x st).bind fun r st' => match r with
    | some w => loopC b xs (acc ++ [w]) st'
    | none => loopC b xs acc st'
def loopD (b : W → Store → Out (Option (W × W))) : List W → List W × List W → Store → Out (List W × List W)
  | [], acc, st => .ok acc st
  | x :: xs, acc, st => (b x st).bind fun r st' => match r with
    | some (k, v) => match keyW k with
      | some q => loopD b xs (put q k v acc.1 acc.2) st'
      | none => .stuck
    | none => loopD b xs acc st'
def loopW (c : EnvW → Store → Out Bool) (b : EnvW → Store → Out (Fl × EnvW)) : Nat → EnvW → Store → Out (Fl × EnvW)
  | 0, _, _ => .stuck
  | n + 1, env, st => (c env st).bind fun t st' => if t then (b env st').bind fun r st'' => match r.1 with
      | .nx => loopW c b n r.2 st''
      | .ct => loopW c b n r.2 st''
      | .bk => .ok (.nx, r.2) st''
      | .rt w => .ok (.rt w, r.2) st''
    else .ok (.nx, env) st'
/-- no exception leaves a comprehension -/
def quiet {α : Type} (o : Out α) : Out α := match o with
  | .exc _ _ _ => .stuck
  | o => o
section
variable (G : Cfg) (C : Str → List W → Store → Out W)
mutual
def ev : ME → EnvW → Store → Out W
  | .k w, _, st => .ok w st
  | .v i, env, st => .opt (env.getD i none) st
  | .g x, _, st => .opt (G.glob x) st
  | .tup es, env, st => (evs es env st).bind fun ws st => .ok (.tup ws) st
  | .lst es, env, st => (evs es env st).bind fun ws st => .ok (.lst ws) st
  | .dic es, env, st => (quiet (evs es env st)).bind fun ws st => .opt ((dictE ws ([], [])).map fun d => .dic d.1 d.2) st
  | .bin o a b, env, st => (ev a env st).bind fun x st => (ev b env st).bind fun y st => .opt (binW o x y st) st
  | .neg a, env, st => (ev a env st).bind fun x st => match x with | .int i => .ok (.int (-i)) st | _ => .stuck
  | .not a, env, st => (ev a env st).bind fun x st => .opt ((truth st x).map fun b => .bl (!b)) st
  | .and a b, env, st => (ev a env st).bind fun x st => match truth st x with | some true => ev b env st | some false => .ok x st | none => .stuck
  | .or a b, env, st => (ev a env st).bind fun x st => match truth st x with | some true => .ok x st | some false => ev b env st | none => .stuck
  | .cmp o a b, env, st => (ev a env st).bind fun x st => (ev b env st).bind fun y st => .opt ((cmpW o x y st).map .bl) st
  | .chn o o' a b c, env, st => (ev a env st).bind fun x st => (ev b env st).bind fun y st => match cmpW o x y st with
    | some true => (ev c env st).bind fun z st => .opt ((cmpW o' y z st).map .bl) st
    | some false => .ok (.bl false) st
    | none => .stuck
  | .ife c a b, env, st => (ev c env st).bind fun x st => match truth st x with | some true => ev a env st | some false => ev b env st | none => .stuck
  | .idx a i, env, st => (ev a env st).bind fun x st => (ev i env st).bind fun y st => .opt (idxW x y st) st
  | .slc a lo hi, env, st => (ev a env st).bind fun x st => (ev lo env st).bind fun l st => if okB lo l then (ev hi env st).bind fun h st => if okB hi h then .opt (slcW x l h st) st else .stuck else .stuck
  | .rev a, env, st => (ev a env st).bind fun x st => .opt (revW x st) st
  | .call f es, env, st => (evs es env st).bind fun ws st => C f ws st
  | .callk f es perm, env, st => (evs es env st).bind fun ws st => C f (perm.map fun i => ws.getD i .non) st
  | .callv i es, env, st => match env.getD i none with
    | some (.fn f) => match G.glob f with
      | some (.fn _) => (evs es env st).bind fun ws st => C f ws st
      | _ => .stuck
    | _ => .stuck
  | .bi b es, env, st => (evs es env st).bind fun ws st => .opt (callB G.sub b ws st) st
  | .mt m o es, env, st => (ev o env st).bind fun x st => if recvOk m st x then (evs es env st).bind fun ws st => callM m x ws st else .stuck
  | .comp elt tg it ifs own, env, st => (evI it env st).bind fun xs st => (quiet (loopC (fun x st => match assignT st tg x (wipeE env own) with
      | some e => quiet ((tests ifs e st).bind fun b st => if b then (ev elt e st).bind fun w st => .ok (some w) st else .ok none st)
      | none => .stuck) xs.2 [] (lockS st xs.1))).bind fun ws st => .ok (.lst ws) (unlockS st xs.1)
  | .comp2 elt tg it ifs tg1 it1 ifs1 own own1, env, st => .stuck
  | .dcomp ky vl tg it ifs own, env, st => (evI it env st).bind fun xs st => (quiet (loopD (fun x st => match assignT st tg x (wipeE env own) with
      | some e => quiet ((tests ifs e st).bind fun b st => if b then (ev ky e st).bind fun k st => (ev vl e st).bind fun v st => .ok (some (k, v)) st else .ok none st)
      | none => .stuck) xs.2 ([], []) (lockS st xs.1))).bind fun d st => .ok (.dic d.1 d.2) (unlockS st xs.1)
  | .listI it, env, st => (evI it env st).bind fun xs st => .ok (.lst xs.2) st
  | .att a f, env, st => (ev a env st).bind fun x st => match see st x with
    | .exc c v => if f = "value" ∧ G.sub c c = true then .ok v st else .stuck
    | _ => .stuck
  | .box a, env, st => (ev a env st).bind fun x st => if isLD x then .ok (.cell st.length) (st ++ [x]) else .stuck
def evs : List ME → EnvW → Store → Out (List W)
  | [], _, st => .ok [] st
  | e :: es, env, st => (ev e env st).bind fun w st => (evs es env st).bind fun ws st => .ok (w :: ws) st
def tests : List ME → EnvW → Store → Out Bool
  | [], _, st => .ok true st
  | e :: es, env, st => (ev e env st).bind fun w st => match truth st w with
    | some true => tests es env st
    | some false => .ok false st
    | none => .stuck
/-- what a walk takes -/
def evI : IT → EnvW → Store → Out (List Nat × List W)
  | .rng es, env, st => (evs es env st).bind fun ws st => match ws with
    | [.int j] => if rngOk j && decide ((j - 0).toNat ≤ sz) then .ok ([], rngL 0 j) st else .stuck
    | [.int i, .int j] => if rngOk i && rngOk j && decide ((j - i).toNat ≤ sz) then .ok ([], rngL i j) st else .stuck
    | _ => .stuck
  | .zip a b, env, st => (ev a env st).bind fun x st => (ev b env st).bind fun y st => .opt (zipI st x y) st
  | .enm a, env, st => (ev a env st).bind fun x st => .opt (enmI st x) st
  | .of e, env, st => (ev e env st).bind fun x st => .opt (itemsOf st x) st
  | .itm a, env, st => (ev a env st).bind fun x st => .opt (itmI st x) st
  | .vls a, env, st => (ev a env st).bind fun x st => .opt (vlsI st x) st
end
end
mutual
def beqW : W → W → Bool
  | .non, y => match y with | .non => true | _ => false
  | .bl a, y => match y with | .bl b => a == b | _ => false
  | .int i, y => match y with | .int j => i == j | _ => false
  | .str a, y => match y with | .str b => a == b | _ => false
  | .tup xs, y => match y with | .tup ys => beqWs xs ys | _ => false
  | .lst xs, y => match y with | .lst ys => beqWs xs ys | _ => false
  | .dic ks vs, y => match y with | .dic ks' vs' => beqWs ks ks' && beqWs vs vs' | _ => false
  | .cell n, y => match y with | .cell m => n == m | _ => false
  | .fn x, y => match y with | .fn z => x == z | _ => false
  | .cls x, y => match y with | .cls z => x == z | _ => false
  | .exc c v, y => match y with | .exc d u => c == d && beqW v u | _ => false
  | .ty n, y => match y with | .ty m => n == m | _ => false
  | .ins c fs vs, y => match y with | .ins d gs us => c == d && fs == gs && beqWs vs us | _ => false
  | .lok a, y => match y with | .lok b => beqW a b | _ => false
def beqWs : List W → List W → Bool
  | [], ys => match ys with | [] => true | _ => false
  | x :: xs, ys => match ys with | y :: ys => beqW x y && beqWs xs ys | _ => false
end
mutual
theorem beqW_refl : ∀ x : W, beqW x x = true
  | .non => rfl
  | .bl a => by simp [beqW]
  | .int a => by simp [beqW]
  | .str a => by simp [beqW]
  | .tup xs => by simp only [beqW]; exact beqWs_refl xs
  | .lst xs => by simp only [beqW]; exact beqWs_refl xs
  | .dic ks vs => by simp only [beqW]; rw [beqWs_refl ks, beqWs_refl vs]; rfl
  | .cell n => by simp [beqW]
  | .fn x => by simp [beqW]
  | .cls x => by simp [beqW]
  | .exc c v => by simp only [beqW]; rw [beqW_refl v]; simp
  | .ty n => by simp [beqW]
  | .ins c fs vs => by simp only [beqW]; rw [beqWs_refl vs]; simp
  | .lok a => by simp only [beqW]; exact beqW_refl a
theorem beqWs_refl : ∀ xs : List W, beqWs xs xs = true
  | [] => rfl
  | x :: xs => by simp only [beqWs]; rw [beqW_refl x, beqWs_refl xs]; rfl
end
mutual
theorem beqW_eq : ∀ x y : W, beqW x y = true → x = y
  | .non, y, h => by cases y <;> simp [beqW] at h <;> rfl
  | .bl a, y, h => by cases y <;> simp [beqW] at h; rw [h]
  | .int a, y, h => by cases y <;> simp [beqW] at h; rw [h]
  | .str a, y, h => by cases y <;> simp [beqW] at h; rw [h]
  | .tup xs, y, h => by cases y <;> simp [beqW] at h; rw [beqWs_eq xs _ h]
  | .lst xs, y, h => by cases y <;> simp [beqW] at h; rw [beqWs_eq xs _ h]
  | .dic ks vs, y, h => by cases y <;> simp [beqW] at h; rw [beqWs_eq ks _ h.1, beqWs_eq vs _ h.2]
  | .cell n, y, h => by cases y <;> simp [beqW] at h; rw [h]
  | .fn x, y, h => by cases y <;> simp [beqW] at h; rw [h]
  | .cls x, y, h => by cases y <;> simp [beqW] at h; rw [h]
  | .exc c v, y, h => by cases y <;> simp [beqW] at h; rw [h.1, beqW_eq v _ h.2]
  | .ty n, y, h => by cases y <;> simp [beqW] at h; rw [h]
  | .ins c fs vs, y, h => by cases y <;> simp [beqW] at h; rw [h.1.1, h.1.2, beqWs_eq vs _ h.2]
  | .lok a, y, h => by cases y <;> simp [beqW] at h; rw [beqW_eq a _ h]
theorem beqWs_eq : ∀ xs ys : List W, beqWs xs ys = true → xs = ys
  | [], ys, h => by cases ys <;> simp [beqWs] at h; rfl
  | x :: xs, ys, h => by cases ys <;> simp [beqWs] at h; rw [beqW_eq x _ h.1, beqWs_eq xs _ h.2]
end
/-- freeze: cells from n on are written out -/
def frzW : Nat → Nat → Store → W → Option W
  | 0, _, _, _ => none
  | f + 1, n, st, .cell m => if n ≤ m then (match st[m]? with | some c => frzW f n st (unl c) | none => none) else some (.cell m)
  | f + 1, n, st, .tup xs => (mapO (frzW f n st) xs).map .tup
  | f + 1, n, st, .lst xs => (mapO (frzW f n st) xs).map .lst
  | f + 1, n, st, .dic ks vs => (mapO (frzW f n st) vs).map (.dic ks)
  | _ + 1, _, _, .exc _ _ => none
  | _ + 1, _, _, .ins _ _ _ => none
  | f + 1, n, st, .lok w => (frzW f n st w).map .lok
  | _ + 1, _, _, .non => some .non
  | _ + 1, _, _, .bl b => some (.bl b)
  | _ + 1, _, _, .int i => some (.int i)
  | _ + 1, _, _, .str x => some (.str x)
  | _ + 1, _, _, .fn x => some (.fn x)
  | _ + 1, _, _, .cls x => some (.cls x)
  | _ + 1, _, _, .ty x => some (.ty x)
abbrev frzWs (f n : Nat) (st : Store) (ws : List W) : Option (List W) := mapO (frzW f n st) ws
def frozen (n : Nat) (st : Store) (w : W) : Option W := frzW 20 n st w
/-- what a def hands back -/
def retW : Fl → Option W
  | .nx => some .non
  | .rt w => some w
  | _ => none
def outF (m n : Nat) (st' : Store) (w : W) : Out W := match m with
  | 0 => .ok w st'
  | _ => match frzWs 20 n st' (st'.take n), frozen n st' w with
    | some st'', some w' => .ok w' st''
    | _, _ => .stuck
def lokU : W → W
  | .lok w => .lok w
  | w => .lok w
/-- the store that a def starts with -/
def inS (m : Nat) (st : Store) : Store := match m with
  | 1 => st.map lokU
  | _ => st
def outX (m : Nat) (st : Store) (o : Out (Fl × EnvW)) : Out W := match m with
  | 1 => match o with
    | .ok r st' => match retW r.1 with
      | some w => .opt (frozen st.length st' w) st
      | none => .stuck
    | .exc c w st' => match frozen st.length st' w with
      | some w' => .exc c w' st
      | none => .stuck
    | .stuck => .stuck
  | m => o.bind fun r st' => match retW r.1 with
    | some w => outF m st.length st' w
    | none => .stuck
/-- a loop, the cells locked -/
def lockL {α : Type} (ns : List Nat) (f : Store → Out α) (st : Store) : Out α := match ns with
  | [] => f st
  | ns => (quiet (f (lockS st ns))).bind fun r st => .ok r (unlockS st ns)
section
variable (G : Cfg) (C : Str → List W → Store → Out W)
mutual
def exS : MS → EnvW → Store → Out (Fl × EnvW)
  | .asg i e, env, st => (ev G C e env st).bind fun w st => if i < env.length then .ok (.nx, env.set i (some w)) st else .stuck
  | .unp tg e, env, st => (ev G C e env st).bind fun w st => match assignT st tg w env with | some env' => .ok (.nx, env') st | none => .stuck
  | .par is es, env, st => (evs G C es env st).bind fun ws st => match assignTs st (is.map .nm) ws env with | some env' => .ok (.nx, env') st | none => .stuck
  | .setI o i e, env, st => (ev G C e env st).bind fun w st => (ev G C o env st).bind fun x st => (ev G C i env st).bind fun y st => match setW x y w st with
    | some st' => .ok (.nx, env) st'
    | none => .stuck
  | .ret e, env, st => (ev G C e env st).bind fun w st => .ok (.rt w, env) st
  | .retN, env, st => .ok (.rt .non, env) st
  | .ex e, env, st => (ev G C e env st).bind fun _ st => .ok (.nx, env) st
  | .iff c a b, env, st => (ev G C c env st).bind fun w st => match truth st w with
    | some true => exs a env st
    | some false => exs b env st
    | none => .stuck
  | .forr tg it b, env, st => (evI G C it env st).bind fun xs st => lockL xs.1 (fun st => loopL (fun x env st => match assignT st tg x env with
    | some e => exs b e st
    | none => .stuck) xs.2 env st) st
  | .whl c b, env, st => loopW (fun env st => (ev G C c env st).bind fun w st => .opt (truth st w) st) (fun env st => exs b env st) G.fuel env st
  | .raise c e, env, st => (ev G C e env st).bind fun w st => .exc c w st
  | .tri b c i s, env, st => match exs b env st with
    | .exc d w st' => if G.sub d d then (if G.sub d c then (if i < env.length then (exs s (env.set i (some (.exc d w))) st').bind fun r st => .ok (r.1, r.2.set i none) st else .stuck) else .exc d w st') else .stuck
    | o => o
  | .brk, env, st => .ok (.bk, env) st
  | .cnt, env, st => .ok (.ct, env) st
  | .pass, env, st => .ok (.nx, env) st
def exs : List MS → EnvW → Store → Out (Fl × EnvW)
  | [], env, st => .ok (.nx, env) st
  | s :: ss, env, st => (exS s env st).bind fun r st => match r.1 with
    | .nx => exs ss r.2 st
    | _ => .ok r st
end
end
/-- a call, at most k deep; a def that is frozen leaves the store as it was -/
def callF (G : Cfg) : Nat → Str → List W → Store → Out W
  | 0, _, _, _ => .stuck
  | k + 1, f, ws, st => match G.defs f with
    | none => .stuck
    | some d => if ws.length = d.np then
        outX d.frz st (exs G (callF G k) d.body (ws.map some ++ List.replicate (d.nv - d.np) none) (inS d.frz st))
      else .stuck
end Sw
end
section
set_option maxRecDepth 100000
set_option autoImplicit false
/-! SwD: what it means that a value of the machine stands for a value of the mini language. -/
namespace Sw
open PySem PySem.Spec PyProof.Rows L2

/-- the ground: the program, the world, the written part, the module's names -/
structure Gd where
  P : Program
  w : World
  K : PySem.W.Frag
  mg : Str → Option Value

/-- at d: a dict of these very entries -/
def dicO (d : Addr) (es : List DictEntry) (ep : Nat) : HO := .ext fun h => h.get? d = some ({ cls := .type "dict", data := .dict es.toArray ep } : Obj)
def HasD (H : Hp) (d : Addr) (es : List DictEntry) : Prop := ∃ ep, H d = some (dicO d es ep)
/-- an exception of the class at C, its own dict at dx -/
def excO (e C dx : Addr) : HO := .ext fun h => ∃ (oe : Obj) (vs : Array Value), h.get? e = some oe ∧ oe.cls = .ref C ∧ oe.dict = some dx ∧ oe.data = .fields vs
/-- the cells' addresses, and what is hidden for a while -/
structure CL where
  c : List Addr
  h : List (Addr × HO)
  k : List (Addr × HO)
namespace CL
def all (ι : CL) : List Addr := ι.c ++ ι.h.map (·.1)
instance : Membership Addr CL := ⟨fun ι a => a ∈ ι.all⟩
instance (a : Addr) (ι : CL) : Decidable (a ∈ ι) := inferInstanceAs (Decidable (a ∈ ι.all))
def le (ι ι' : CL) : Prop := List.IsPrefix ι.c ι'.c ∧ ι.h = ι'.h ∧ ι.k = ι'.k
theorem le_refl (ι : CL) : CL.le ι ι := ⟨List.prefix_refl _, rfl, rfl⟩
theorem le.trans {ι ι1 ι2 : CL} (h : CL.le ι ι1) (k : CL.le ι1 ι2) : CL.le ι ι2 := ⟨h.1.trans k.1, h.2.1.trans k.2.1, h.2.2.trans k.2.2⟩
def add (ι : CL) (p : Addr) : CL := ⟨ι.c ++ [p], ι.h, ι.k⟩
theorem le_add (ι : CL) (p : Addr) : CL.le ι (ι.add p) := ⟨List.prefix_append _ _, rfl, rfl⟩
def nil : CL := ⟨[], [], []⟩
theorem mem_get {ι : CL} {n : Nat} {a : Addr} (h : ι.c[n]? = some a) : a ∈ ι := List.mem_append_left _ (List.mem_of_getElem? h)
theorem le.sub {ι ι' : CL} (p : CL.le ι ι') {a : Addr} (h : a ∈ ι) : a ∈ ι' := by
  rcases List.mem_append.mp h with h | h
  · exact List.mem_append_left _ (p.1.subset h)
  · exact List.mem_append_right _ (p.2.1 ▸ h)
theorem mem_add {ι : CL} {p a : Addr} : a ∈ ι.add p ↔ a ∈ ι ∨ a = p := by
  show a ∈ (ι.c ++ [p]) ++ ι.h.map (·.1) ↔ a ∈ ι.c ++ ι.h.map (·.1) ∨ a = p
  simp only [List.mem_append, List.mem_singleton]
  constructor
  · rintro ((h | h) | h)
    · exact .inl (.inl h)
    · exact .inr h
    · exact .inl (.inr h)
  · rintro ((h | h) | h)
    · exact .inl (.inl h)
    · exact .inr h
    · exact .inl (.inr h)
end CL
open CL
theorem HasD.same {H H' : Hp} {d : Addr} {es : List DictEntry} (h : HasD H d es) (s : ∀ o, H d = some o → H' d = some o) : HasD H' d es := let ⟨ep, e⟩ := h; ⟨ep, s _ e⟩
/-- the heap without the cells -/
def msk (H : Hp) (ι : CL) : Hp := fun a => if a ∈ ι then none else H a
structure DicOk (w : World) (d : Addr) (ks : List W) (es : List DictEntry) : Prop where
  len : es.length ≤ sizeLine
  sys : (d == sysModules) = false
  keys : ∃ qs, keysOf ks = some qs ∧ es.map (·.hash) = qs.map (NestedKey.hash w) ∧ qs.Nodup ∧ ∀ q ∈ qs, q.depth ≤ 8

/-- a list that is read: tracked, frozen, or an object of the module -/
def Ls (K : PySem.W.Frag) (H : Hp) (a : Addr) (vs : List V) : Prop := Rd H a (.lst vs) ∨ ∃ (its : Array Value) (n : Nat), K.lookup a = some ({ cls := .type "list", data := .seq its n } : Obj) ∧ its.size ≤ sizeLine ∧ Vals vs its.toList
theorem Ls.to {K : PySem.W.Frag} {H H' : Hp} {a : Addr} {vs : List V} (h : Ls K H a vs) (s : ∀ o, H a = some o → H' a = some o) : Ls K H' a vs := by
  rcases h with (q | ⟨o, q⟩) | q
  · exact .inl (.inl (s _ q))
  · exact .inl (.inr ⟨o, s _ q⟩)
  · exact .inr q
theorem Ls.sq {K : PySem.W.Frag} {H : Hp} {a : Addr} {vs : List V} (h : Ls K H a vs) : SqL K H a vs := by
  rcases h with q | ⟨its, n, q, hz, hv⟩
  · exact .inl q
  · exact .inr ⟨_, its, n, q, rfl, rfl, rfl, hz, hv⟩
mutual
def Rep (g : Gd) (ι : CL) (H : Hp) : W → V → Prop
  | .non, v => v = .non
  | .bl b, v => v = .bl b
  | .int i, v => v = .int i
  | .str x, v => v = .str x
  | .tup xs, v => ∃ a vs, v = .ref a ∧ SqT g.K H a vs ∧ Reps g ι H xs vs
  | .lst xs, v => ∃ a vs, v = .ref a ∧ Ls g.K H a vs ∧ Reps g ι H xs vs
  | .dic ks us, v => ∃ (d : Addr) (es : List DictEntry) (kv uv : List V), v = .ref d ∧ HasD H d es ∧ DicOk g.w d ks es ∧ Reps g ι H ks kv ∧ Reps g ι H us uv ∧
      Vals kv (es.map (·.key)) ∧ Vals uv (es.map (·.val))
  | .cell n, v => ∃ a, ι.c[n]? = some a ∧ v = .ref a
  | .fn x, v => ∃ f, v = .ref f ∧ g.mg x = some (.ref f)
  | .cls x, v => ∃ f, v = .ref f ∧ g.mg x = some (.ref f)
  | .ty n, v => v = .ty n
  | .exc c w, v => ∃ (e C dx : Addr) (u : V), v = .ref e ∧ g.mg c = some (.ref C) ∧ H e = some (excO e C dx) ∧ H dx = some (.xd [("value", u)]) ∧ Rep g ι H w u
  | .ins _ _ _, _ => False
  | .lok _, _ => False
def Reps (g : Gd) (ι : CL) (H : Hp) : List W → List V → Prop
  | [], vs => vs = []
  | x :: xs, vs => ∃ v r, vs = v :: r ∧ Rep g ι H x v ∧ Reps g ι H xs r
end

section
variable {g : Gd} {ι ι' : CL} {H H' : Hp}
theorem prefix_get {α : Type} {l l' : List α} {n : Nat} {a : α} (p : List.IsPrefix l l') (h : l[n]? = some a) : l'[n]? = some a := by
  obtain ⟨t, rfl⟩ := p
  rw [List.getElem?_append_left (List.getElem?_eq_some_iff.mp h).1]
  exact h
mutual
theorem Rep.monoC (hH : Same H H') (hι : List.IsPrefix ι.c ι'.c) : ∀ (w : W) (v : V), Rep g ι H w v → Rep g ι' H' w v
  | .non, v, h => h
  | .bl _, v, h => h
  | .int _, v, h => h
  | .str _, v, h => h
  | .tup xs, v, h => by
    obtain ⟨a, vs, e, hs, hr⟩ := h
    refine ⟨a, vs, e, ?_, Reps.monoC hH hι xs vs hr⟩
    rcases hs with (q | ⟨o, q⟩) | q
    · exact .inl (.inl (hH _ _ q))
    · exact .inl (.inr ⟨o, hH _ _ q⟩)
    · exact .inr q
  | .lst xs, v, h => by
    obtain ⟨a, vs, e, hs, hr⟩ := h
    exact ⟨a, vs, e, hs.to fun o q => hH _ o q, Reps.monoC hH hι xs vs hr⟩
  | .dic ks us, v, h => by
    obtain ⟨d, es, kv, uv, e, hd, ok, h1, h2, h3, h4⟩ := h
    exact ⟨d, es, kv, uv, e, hd.same fun o q => hH _ o q, ok, Reps.monoC hH hι ks kv h1, Reps.monoC hH hι us uv h2, h3, h4⟩
  | .cell n, v, h => by
    obtain ⟨a, e, h⟩ := h
    exact ⟨a, prefix_get hι e, h⟩
  | .fn _, v, h => h
  | .cls _, v, h => h
  | .ty _, v, h => h
  | .exc c w, v, h => by
    obtain ⟨e, C, dx, u, h1, h2, h3, h4, h5⟩ := h
    exact ⟨e, C, dx, u, h1, h2, hH _ _ h3, hH _ _ h4, Rep.monoC hH hι w u h5⟩
  | .ins _ _ _, v, h => h.elim
  | .lok _, v, h => h.elim
theorem Reps.monoC (hH : Same H H') (hι : List.IsPrefix ι.c ι'.c) : ∀ (ws : List W) (vs : List V), Reps g ι H ws vs → Reps g ι' H' ws vs
  | [], vs, h => h
  | x :: xs, vs, h => by
    obtain ⟨v, r, e, h1, h2⟩ := h
    exact ⟨v, r, e, Rep.monoC hH hι x v h1, Reps.monoC hH hι xs r h2⟩
end
theorem Rep.mono (hH : Same H H') (hι : CL.le ι ι') (w : W) (v : V) (h : Rep g ι H w v) : Rep g ι' H' w v := Rep.monoC hH hι.1 w v h
theorem Reps.mono (hH : Same H H') (hι : CL.le ι ι') (ws : List W) (vs : List V) (h : Reps g ι H ws vs) : Reps g ι' H' ws vs := Reps.monoC hH hι.1 ws vs h
theorem Reps.len : ∀ {ws : List W} {vs : List V}, Reps g ι H ws vs → vs.length = ws.length
  | [], vs, h => by
    have h : vs = [] := h
    subst h; rfl
  | x :: xs, vs, h => by
    obtain ⟨v, r, rfl, _, h2⟩ := h
    show r.length + 1 = xs.length + 1
    rw [Reps.len h2]
theorem Reps.nil : Reps g ι H [] [] := rfl
theorem Reps.cons {x : W} {v : V} {xs : List W} {vs : List V} (h : Rep g ι H x v) (t : Reps g ι H xs vs) : Reps g ι H (x :: xs) (v :: vs) := ⟨v, vs, rfl, h, t⟩
theorem Reps.app : ∀ {xs ys : List W} {vs us : List V}, Reps g ι H xs vs → Reps g ι H ys us → Reps g ι H (xs ++ ys) (vs ++ us)
  | [], ys, vs, us, h, t => by
    have h : vs = [] := h
    subst h; exact t
  | x :: xs, ys, vs, us, h, t => by
    obtain ⟨v, r, rfl, h1, h2⟩ := h
    exact ⟨v, r ++ us, rfl, h1, Reps.app h2 t⟩
theorem Reps.get : ∀ {xs : List W} {vs : List V} {i : Nat} {x : W}, Reps g ι H xs vs → xs[i]? = some x → ∃ v, vs[i]? = some v ∧ Rep g ι H x v
  | [], vs, i, x, h, e => by simp at e
  | y :: ys, vs, 0, x, h, e => by
    obtain ⟨v, r, rfl, h1, h2⟩ := h
    simp at e; subst e
    exact ⟨v, rfl, h1⟩
  | y :: ys, vs, i + 1, x, h, e => by
    obtain ⟨v, r, rfl, h1, h2⟩ := h
    obtain ⟨u, hu, hr⟩ := Reps.get (i := i) h2 (by simpa using e)
    exact ⟨u, by simpa using hu, hr⟩
theorem Reps.getV : ∀ {xs : List W} {vs : List V} {i : Nat} {v : V}, Reps g ι H xs vs → vs[i]? = some v → ∃ x, xs[i]? = some x ∧ Rep g ι H x v
  | [], vs, i, v, h, e => by
    have h : vs = [] := h
    subst h; simp at e
  | y :: ys, vs, 0, v, h, e => by
    obtain ⟨u, r, rfl, h1, h2⟩ := h
    simp at e; subst e
    exact ⟨y, rfl, h1⟩
  | y :: ys, vs, i + 1, v, h, e => by
    obtain ⟨u, r, rfl, h1, h2⟩ := h
    obtain ⟨x, hx, hr⟩ := Reps.getV (i := i) h2 (by simpa using e)
    exact ⟨x, by simpa using hx, hr⟩
theorem Reps.take : ∀ {xs : List W} {vs : List V} (n : Nat), Reps g ι H xs vs → Reps g ι H (xs.take n) (vs.take n)
  | xs, vs, 0, h => by simp only [List.take_zero]; exact Reps.nil
  | [], vs, n + 1, h => by
    have h : vs = [] := h
    subst h; exact Reps.nil
  | x :: xs, vs, n + 1, h => by
    obtain ⟨u, r, rfl, h1, h2⟩ := h
    exact ⟨u, r.take n, rfl, h1, Reps.take n h2⟩
theorem Reps.drop : ∀ {xs : List W} {vs : List V} (n : Nat), Reps g ι H xs vs → Reps g ι H (xs.drop n) (vs.drop n)
  | xs, vs, 0, h => by simpa only [List.drop_zero] using h
  | [], vs, n + 1, h => by
    have h : vs = [] := h
    subst h; exact Reps.nil
  | x :: xs, vs, n + 1, h => by
    obtain ⟨u, r, rfl, h1, h2⟩ := h
    exact Reps.drop n h2
theorem Reps.set {x : W} {v : V} (hx : Rep g ι H x v) : ∀ {xs : List W} {vs : List V} (n : Nat), Reps g ι H xs vs → Reps g ι H (xs.set n x) (vs.set n v)
  | [], vs, n, h => by
    have h : vs = [] := h
    subst h; exact Reps.nil
  | y :: ys, vs, 0, h => by
    obtain ⟨u, r, rfl, h1, h2⟩ := h
    exact ⟨v, r, rfl, hx, h2⟩
  | y :: ys, vs, n + 1, h => by
    obtain ⟨u, r, rfl, h1, h2⟩ := h
    exact ⟨u, r.set n v, rfl, h1, Reps.set hx n h2⟩
theorem Reps.rev : ∀ {xs : List W} {vs : List V}, Reps g ι H xs vs → Reps g ι H xs.reverse vs.reverse
  | [], vs, h => by
    have h : vs = [] := h
    subst h; exact Reps.nil
  | y :: ys, vs, h => by
    obtain ⟨u, r, rfl, h1, h2⟩ := h
    rw [List.reverse_cons, List.reverse_cons]
    exact (Reps.rev h2).app (Reps.cons h1 Reps.nil)

/-! ### the store -/
/-- what stands at a cell's address -/
def CellR (g : Gd) (ι : CL) (H : Hp) (a : Addr) : W → Prop
  | .lst xs => ∃ vs, H a = some (.lst vs) ∧ Reps g ι (msk H ι) xs vs
  | .dic ks us => ∃ (es : List DictEntry) (kv uv : List V), HasD H a es ∧ DicOk g.w a ks es ∧ Reps g ι (msk H ι) ks kv ∧ Reps g ι (msk H ι) us uv ∧
      Vals kv (es.map (·.key)) ∧ Vals uv (es.map (·.val))
  | _ => False
def CellRep (g : Gd) (ι : CL) (H : Hp) (a : Addr) (w : W) : Prop := CellR g ι H a (unl w)
structure SR (g : Gd) (ι : CL) (H : Hp) (st : Store) : Prop where
  len : ι.c.length = st.length
  nd : ι.all.Nodup
  cells : ∀ (n : Nat) (w : W), st[n]? = some w → ∃ a, ι.c[n]? = some a ∧ CellRep g ι H a w
  hid : ∀ p ∈ ι.h, H p.1 = some p.2
  lck : ∀ p ∈ ι.k, H p.1 = some p.2 ∧ ∃ (n : Nat) (w : W), ι.c[n]? = some p.1 ∧ st[n]? = some (W.lok w)
  lkf : ∀ (n : Nat) (w : W), st[n]? = some (W.lok w) → (∀ x, w ≠ W.lok x) ∧ ∃ a o, ι.c[n]? = some a ∧ (a, o) ∈ ι.k
theorem CellR.there {a : Addr} {w : W} (h : CellR g ι H a w) : ∃ o, H a = some o := by
  cases w with
  | lst xs => obtain ⟨vs, e, _⟩ := h; exact ⟨_, e⟩
  | dic ks us => obtain ⟨es, kv, uv, ⟨ep, e⟩, _⟩ := h; exact ⟨_, e⟩
  | _ => exact h.elim
theorem CellRep.there {a : Addr} {w : W} (h : CellRep g ι H a w) : ∃ o, H a = some o := CellR.there h
theorem SR.there {st : Store} (S : SR g ι H st) {a : Addr} (ha : a ∈ ι) : ∃ o, H a = some o := by
  rcases List.mem_append.mp ha with ha | ha
  · obtain ⟨n, hn⟩ := List.mem_iff_getElem?.mp ha
    have hl : n < st.length := by rw [← S.len]; exact (List.getElem?_eq_some_iff.mp hn).1
    obtain ⟨b, hb, c⟩ := S.cells n st[n] (List.getElem?_eq_getElem hl)
    rw [hn] at hb; cases hb
    exact c.there
  · obtain ⟨q, hq, rfl⟩ := List.mem_map.mp ha
    exact ⟨_, S.hid q hq⟩
theorem msk_in {a : Addr} (h : a ∈ ι) : msk H ι a = none := if_pos h
theorem msk_out {a : Addr} (h : a ∉ ι) : msk H ι a = H a := if_neg h
theorem msk_some {a : Addr} {o : HO} (h : msk H ι a = some o) : H a = some o ∧ a ∉ ι := by
  by_cases hm : a ∈ ι
  · rw [msk_in hm] at h; cases h
  · rw [msk_out hm] at h; exact ⟨h, hm⟩
theorem msk_same : Same (msk H ι) H := fun _ _ h => (msk_some h).1
theorem msk_nil : msk H CL.nil = H := by
  funext a
  exact msk_out fun h => by rcases List.mem_append.mp h with h | h <;> cases h
/-- a new thing beside: the heap without the cells grows -/
theorem msk_upd {p : Addr} {o : HO} (hp : H p = none) : Same (msk H ι) (msk (upd H p o) ι) := fun b u e => by
  obtain ⟨e1, e2⟩ := msk_some e
  rw [msk_out e2, upd_ne (ne_of_none e1 hp)]
  exact e1
theorem SR.fresh {st : Store} (S : SR g ι H st) {p : Addr} (hp : H p = none) : p ∉ ι := fun hm => by
  obtain ⟨o, e⟩ := S.there hm
  rw [hp] at e; cases e
theorem CellR.stepC {a : Addr} {w : W} (h : CellR g ι H a w) (hk : ∀ o, H a = some o → H' a = some o) (hs : Same (msk H ι) (msk H' ι')) (hp : List.IsPrefix ι.c ι'.c) : CellR g ι' H' a w := by
  cases w with
  | lst xs =>
    obtain ⟨vs, e, r⟩ := h
    exact ⟨vs, hk _ e, r.monoC hs hp _ _⟩
  | dic ks us =>
    obtain ⟨es, kv, uv, e, ok, r1, r2, r3, r4⟩ := h
    exact ⟨es, kv, uv, e.same fun _ q => hk _ q, ok, r1.monoC hs hp _ _, r2.monoC hs hp _ _, r3, r4⟩
  | _ => exact h.elim
theorem CellR.step {a : Addr} {w : W} (h : CellR g ι H a w) (hk : ∀ o, H a = some o → H' a = some o) (hs : Same (msk H ι) (msk H' ι')) (hp : CL.le ι ι') : CellR g ι' H' a w := by
  cases w with
  | lst xs =>
    obtain ⟨vs, e, r⟩ := h
    exact ⟨vs, hk _ e, r.mono hs hp _ _⟩
  | dic ks us =>
    obtain ⟨es, kv, uv, e, ok, r1, r2, r3, r4⟩ := h
    exact ⟨es, kv, uv, e.same fun _ q => hk _ q, ok, r1.mono hs hp _ _, r2.mono hs hp _ _, r3, r4⟩
  | _ => exact h.elim
theorem CellRep.stepC {a : Addr} {w : W} (h : CellRep g ι H a w) (hk : ∀ o, H a = some o → H' a = some o) (hs : Same (msk H ι) (msk H' ι')) (hp : List.IsPrefix ι.c ι'.c) : CellRep g ι' H' a w := CellR.stepC h hk hs hp
theorem CellRep.step {a : Addr} {w : W} (h : CellRep g ι H a w) (hk : ∀ o, H a = some o → H' a = some o) (hs : Same (msk H ι) (msk H' ι')) (hp : CL.le ι ι') : CellRep g ι' H' a w := CellR.step h hk hs hp
/-- all that was tracked is kept -/
theorem SR.keep {st : Store} (S : SR g ι H st) (hk : Same H H') : SR g ι H' st ∧ Same (msk H ι) (msk H' ι) := by
  have hs : Same (msk H ι) (msk H' ι) := fun b u e => by
    obtain ⟨e1, e2⟩ := msk_some e
    rw [msk_out e2]
    exact hk _ _ e1
  refine ⟨⟨S.len, S.nd, fun n w e => ?_, fun p hp => hk _ _ (S.hid p hp), fun p hp => ⟨hk _ _ (S.lck p hp).1, (S.lck p hp).2⟩, S.lkf⟩, hs⟩
  obtain ⟨a, ha, c⟩ := S.cells n w e
  exact ⟨a, ha, c.step (fun o => hk a o) hs (CL.le_refl _)⟩
/-- a new thing that is no cell -/
theorem SR.upd {st : Store} (S : SR g ι H st) {p : Addr} {o : HO} (hp : H p = none) : SR g ι (upd H p o) st ∧ Same (msk H ι) (msk (upd H p o) ι) :=
  S.keep fun b u e => by rw [upd_ne (ne_of_none e hp)]; exact e

/-- names and slots -/
structure ER (g : Gd) (ι : CL) (H : Hp) (env : EnvW) (σ : L2.St) : Prop where
  len : env.length = σ.length
  get : ∀ (i : Nat) (w : W), env[i]? = some (some w) → ∃ v, σ[i]? = some (some v) ∧ Rep g ι (msk H ι) w v
theorem ER.mono {env : EnvW} {σ : L2.St} (E : ER g ι H env σ) (hs : Same (msk H ι) (msk H' ι')) (hp : CL.le ι ι') : ER g ι' H' env σ :=
  ⟨E.len, fun i w e => let ⟨v, h1, h2⟩ := E.get i w e; ⟨v, h1, h2.mono hs hp _ _⟩⟩
theorem ER.monoC {env : EnvW} {σ : L2.St} (E : ER g ι H env σ) (hs : Same (msk H ι) (msk H' ι')) (hp : List.IsPrefix ι.c ι'.c) : ER g ι' H' env σ :=
  ⟨E.len, fun i w e => let ⟨v, h1, h2⟩ := E.get i w e; ⟨v, h1, h2.monoC hs hp _ _⟩⟩
theorem ER.set {env : EnvW} {σ : L2.St} (E : ER g ι H env σ) {i : Nat} {w : W} {v : V} (hi : i < env.length) (r : Rep g ι (msk H ι) w v) : ER g ι H (env.set i (some w)) (σ.set i (some v)) := by
  refine ⟨by simpa using E.len, fun j u e => ?_⟩
  by_cases hj : i = j
  · subst hj
    rw [List.getElem?_set_self hi] at e
    cases e
    exact ⟨v, List.getElem?_set_self (by rw [← E.len]; exact hi), r⟩
  · rw [List.getElem?_set_ne hj] at e
    obtain ⟨x, h1, h2⟩ := E.get j u e
    exact ⟨x, by rw [List.getElem?_set_ne hj]; exact h1, h2⟩
theorem ER.wipe {env : EnvW} {σ : L2.St} (E : ER g ι H env σ) : ∀ own : List Nat, ER g ι H (wipeE env own) (L2.wipe σ own)
  | [] => E
  | i :: own => by
    have W := E.wipe own
    refine ⟨by show ((wipeE env own).set i none).length = ((L2.wipe σ own).set i none).length; simpa using W.len, fun j u e => ?_⟩
    have e : ((wipeE env own).set i none)[j]? = some (some u) := e
    show ∃ v, ((L2.wipe σ own).set i none)[j]? = some (some v) ∧ _
    by_cases hj : i = j
    · subst hj
      by_cases hl : i < (wipeE env own).length
      · rw [List.getElem?_set_self hl] at e; cases e
      · rw [List.getElem?_eq_none (by simpa using hl)] at e; cases e
    · rw [List.getElem?_set_ne hj] at e ⊢
      exact W.get j u e
end

/-! ### what stands behind a value -/
section
variable {g : Gd} {ι : CL} {H : Hp} {st : Store} {w : W} {v : V}
theorem cell_of (S : SR g ι H st) {n : Nat} (r : Rep g ι (msk H ι) (.cell n) v) : ∃ a c, v = .ref a ∧ ι.c[n]? = some a ∧ st[n]? = some c ∧ CellRep g ι H a c := by
  obtain ⟨a, e, h⟩ := r
  have hl : n < st.length := by rw [← S.len]; exact (List.getElem?_eq_some_iff.mp e).1
  obtain ⟨b, hb, c⟩ := S.cells n st[n] (List.getElem?_eq_getElem hl)
  rw [e] at hb; cases hb
  exact ⟨a, _, h, e, List.getElem?_eq_getElem hl, c⟩
theorem Rd.unmask {a : Addr} {u : HO} (h : Rd (msk H ι) a u) : Rd H a u := by
  rcases h with q | ⟨o, q⟩
  · exact .inl (msk_some q).1
  · exact .inr ⟨o, (msk_some q).1⟩
theorem SqT.unmask {K : PySem.W.Frag} {a : Addr} {vs : List V} (h : SqT K (msk H ι) a vs) : SqT K H a vs := by
  rcases h with (q | ⟨o, q⟩) | q
  · exact .inl (.inl (msk_some q).1)
  · exact .inl (.inr ⟨o, (msk_some q).1⟩)
  · exact .inr q
theorem see_lst (S : SR g ι H st) {xs : List W} (r : Rep g ι (msk H ι) w v) (e : see st w = .lst xs) : ∃ a vs, v = .ref a ∧ Ls g.K H a vs ∧ Reps g ι (msk H ι) xs vs := by
  cases w with
  | lst ys =>
    have e : W.lst ys = .lst xs := e
    cases e
    obtain ⟨a, vs, h1, h2, h3⟩ := r
    exact ⟨a, vs, h1, h2.to fun o q => (msk_some q).1, h3⟩
  | cell n =>
    obtain ⟨a, c, h1, h2, h3, h4⟩ := cell_of S r
    have e : unl (st.getD n .non) = .lst xs := e
    rw [List.getD_eq_getElem?_getD, h3] at e
    have e : unl c = .lst xs := e
    unfold CellRep at h4
    rw [e] at h4
    obtain ⟨vs, q1, q2⟩ := h4
    exact ⟨a, vs, h1, .inl (.inl q1), q2⟩
  | _ => cases e
theorem see_tup (S : SR g ι H st) {xs : List W} (r : Rep g ι (msk H ι) w v) (e : see st w = .tup xs) : ∃ a vs, v = .ref a ∧ SqT g.K H a vs ∧ Reps g ι (msk H ι) xs vs := by
  cases w with
  | tup ys =>
    have e : W.tup ys = .tup xs := e
    cases e
    obtain ⟨a, vs, h1, h2, h3⟩ := r
    exact ⟨a, vs, h1, SqT.unmask h2, h3⟩
  | cell n =>
    obtain ⟨a, c, h1, h2, h3, h4⟩ := cell_of S r
    have e : unl (st.getD n .non) = .tup xs := e
    rw [List.getD_eq_getElem?_getD, h3] at e
    have e : unl c = .tup xs := e
    unfold CellRep at h4
    rw [e] at h4
    exact h4.elim
  | _ => cases e
theorem see_dic (S : SR g ι H st) {ks us : List W} (r : Rep g ι (msk H ι) w v) (e : see st w = .dic ks us) : ∃ (d : Addr) (es : List DictEntry) (kv uv : List V), v = .ref d ∧ HasD H d es ∧ DicOk g.w d ks es ∧
    Reps g ι (msk H ι) ks kv ∧ Reps g ι (msk H ι) us uv ∧ Vals kv (es.map (·.key)) ∧ Vals uv (es.map (·.val)) := by
  cases w with
  | dic ks' us' =>
    have e : W.dic ks' us' = .dic ks us := e
    cases e
    obtain ⟨d, es, kv, uv, h1, h2, h3⟩ := r
    exact ⟨d, es, kv, uv, h1, h2.same fun _ q => (msk_some q).1, h3⟩
  | cell n =>
    obtain ⟨a, c, h1, h2, h3, h4⟩ := cell_of S r
    have e : unl (st.getD n .non) = .dic ks us := e
    rw [List.getD_eq_getElem?_getD, h3] at e
    have e : unl c = .dic ks us := e
    unfold CellRep at h4
    rw [e] at h4
    obtain ⟨es, kv, uv, q⟩ := h4
    exact ⟨a, es, kv, uv, h1, q⟩
  | _ => cases e
/-- a thing that is no cell's content -/
theorem see_flat (S : SR g ι H st) {c : W} (r : Rep g ι (msk H ι) w v) (e : see st w = c) (hc : ∀ xs, c ≠ .lst xs) (hd : ∀ ks us, c ≠ .dic ks us) : w = c := by
  cases w with
  | cell n =>
    obtain ⟨a, d, h1, h2, h3, h4⟩ := cell_of S r
    have e : unl (st.getD n .non) = c := e
    rw [List.getD_eq_getElem?_getD, h3] at e
    have e : unl d = c := e
    unfold CellRep at h4
    rw [e] at h4
    cases c with
    | lst xs => exact absurd rfl (hc xs)
    | dic ks us => exact absurd rfl (hd ks us)
    | _ => exact h4.elim
  | _ => exact e
theorem see_int (S : SR g ι H st) {i : Int} (r : Rep g ι (msk H ι) w v) (e : see st w = .int i) : v = .int i := by
  have := see_flat S r e (by intro _ z; cases z) (by intro _ _ z; cases z)
  subst this
  exact r
theorem see_str (S : SR g ι H st) {x : Str} (r : Rep g ι (msk H ι) w v) (e : see st w = .str x) : v = .str x := by
  have := see_flat S r e (by intro _ z; cases z) (by intro _ _ z; cases z)
  subst this
  exact r
theorem see_bl (S : SR g ι H st) {b : Bool} (r : Rep g ι (msk H ι) w v) (e : see st w = .bl b) : v = .bl b := by
  have := see_flat S r e (by intro _ z; cases z) (by intro _ _ z; cases z)
  subst this
  exact r
theorem see_non (S : SR g ι H st) (r : Rep g ι (msk H ι) w v) (e : see st w = .non) : v = .non := by
  have := see_flat S r e (by intro _ z; cases z) (by intro _ _ z; cases z)
  subst this
  exact r
end
/-! ### plain data -/
section
variable {g : Gd} {ι : CL} {H : Hp}
mutual
theorem Rep.plain (hH : Same (msk H ι) H) : ∀ (n : Nat) (w : W) (v : V), pl n w = true → Rep g ι (msk H ι) w v → Rep g CL.nil H w v
  | _, .non, v, _, h => h
  | _, .bl _, v, _, h => h
  | _, .int _, v, _, h => h
  | _, .str _, v, _, h => h
  | n + 1, .tup xs, v, p, h => by
    obtain ⟨a, vs, e, hs, hr⟩ := h
    exact ⟨a, vs, e, SqT.unmask hs, Reps.plain hH n xs vs (by simpa [pl] using p) hr⟩
  | n + 1, .lst xs, v, p, h => by
    obtain ⟨a, vs, e, hs, hr⟩ := h
    exact ⟨a, vs, e, hs.to fun o q => (msk_some q).1, Reps.plain hH n xs vs (by simpa [pl] using p) hr⟩
  | n + 1, .dic ks us, v, p, h => by
    obtain ⟨d, es, kv, uv, e, hd, ok, h1, h2, h3, h4⟩ := h
    have p : (pls n ks && pls n us) = true := by simpa [pl] using p
    rw [Bool.and_eq_true] at p
    exact ⟨d, es, kv, uv, e, hd.same fun _ q => (msk_some q).1, ok, Reps.plain hH n ks kv p.1 h1, Reps.plain hH n us uv p.2 h2, h3, h4⟩
  | 0, .tup _, v, p, h => by simp [pl] at p
  | 0, .lst _, v, p, h => by simp [pl] at p
  | 0, .dic _ _, v, p, h => by simp [pl] at p
  | _, .cell _, v, p, h => by simp [pl] at p
  | _, .fn _, v, p, h => by simp [pl] at p
  | _, .cls _, v, p, h => by simp [pl] at p
  | _, .ty _, v, p, h => by simp [pl] at p
  | _, .exc _ _, v, p, h => by simp [pl] at p
  | _, .ins _ _ _, v, p, h => by simp [pl] at p
  | _, .lok _, v, p, h => by simp [pl] at p
theorem Reps.plain (hH : Same (msk H ι) H) : ∀ (n : Nat) (ws : List W) (vs : List V), pls n ws = true → Reps g ι (msk H ι) ws vs → Reps g CL.nil H ws vs
  | _, [], vs, _, h => h
  | n, x :: xs, vs, p, h => by
    obtain ⟨v, r, e, h1, h2⟩ := h
    have p : (pl n x && pls n xs) = true := by simpa [pls] using p
    rw [Bool.and_eq_true] at p
    exact ⟨v, r, e, Rep.plain hH n x v p.1 h1, Reps.plain hH n xs r p.2 h2⟩
end
end
end Sw
end
section
set_option maxRecDepth 100000
set_option autoImplicit false
set_option maxHeartbeats 1000000
/-! SwE: the operations, by values. -/
namespace Sw
open CL
open PySem PySem.Spec PyProof.Rows L2

theorem toPys_len : ∀ ws : List W, (toPys ws).length = ws.length
  | [] => rfl
  | x :: xs => by show (toPys xs).length + 1 = xs.length + 1; rw [toPys_len xs]
theorem toPys_map : ∀ ws : List W, toPys ws = ws.map toPy
  | [] => rfl
  | x :: xs => by show toPy x :: toPys xs = _; rw [toPys_map xs]; rfl
/-- the ground of a context -/
abbrev gd (X : Cx) : Gd := ⟨X.prog, X.w, X.K, X.mg⟩
theorem szL : sz = sizeLine := by rw [sizeLine_eq]; rfl

section
variable {X : Cx} {pins : List (Addr × Obj)} {σ : L2.St} {H : Hp} {s : Shared}
theorem rdL (I : Inv X pins σ H s) {a : Addr} {xs : List V} (h : Ls X.K H a xs) :
    xs.length ≤ sizeLine ∧ ∃ (its : List Value) (n : Nat), Vals xs its ∧ xs.length = its.length ∧ s.heap.get? a = some { cls := .type "list", data := .seq its.toArray n } := by
  rcases h with h | ⟨its, n, q, hz, r⟩
  · obtain ⟨z, its, n, r, e⟩ := h.ok I.hok
    exact ⟨z, its, n, r, r.length, e⟩
  · have hl := r.length
    exact ⟨by rw [hl, Array.length_toList]; exact hz, its.toList, n, r, hl, by rw [Array.toArray_toList]; exact I.kIn _ _ q⟩
theorem rdD (I : Inv X pins σ H s) {d : Addr} {es : List DictEntry} (h : HasD H d es) : ∃ ep, s.heap.get? d = some ({ cls := .type "dict", data := .dict es.toArray ep } : Obj) := by
  obtain ⟨ep, h⟩ := h
  have q := I.hok d _ h
  exact ⟨ep, q.1⟩
mutual
theorem Rep.reads (I : Inv X pins σ H s) : ∀ (n : Nat) (w : W) (v : V) (u : Value), pd n w = true → Rep (gd X) CL.nil H w v → RelV v u → ∃ as, Reads s.heap u (toPy w) as
  | _, .non, v, u, _, h, r => by
    have h : v = .non := h
    subst h; cases r; exact ⟨_, .none⟩
  | _, .bl b, v, u, _, h, r => by
    have h : v = .bl b := h
    subst h; cases r; exact ⟨_, .bool b⟩
  | _, .int i, v, u, _, h, r => by
    have h : v = .int i := h
    subst h; obtain ⟨t, rfl⟩ := r; exact ⟨_, .int i t⟩
  | _, .str x, v, u, _, h, r => by
    have h : v = .str x := h
    subst h; obtain ⟨t, rfl⟩ := r; exact ⟨_, .str x t⟩
  | 0, .tup _, _, _, p, _, _ => by simp [pd] at p
  | n + 1, .tup xs, v, u, p, h, r => by
    obtain ⟨a, vs, rfl, hs, hr⟩ := h
    cases r
    obtain ⟨its, rv, ⟨o, ho, hc, m, hd⟩, hz⟩ := I.tuple hs
    obtain ⟨as, ra⟩ := Reps.reads I n xs vs its (by simpa [pd] using p) hr rv
    exact ⟨_, .tuple ho hc hd (by simpa using ra)⟩
  | 0, .lst _, _, _, p, _, _ => by simp [pd] at p
  | n + 1, .lst xs, v, u, p, h, r => by
    obtain ⟨a, vs, rfl, hs, hr⟩ := h
    cases r
    obtain ⟨hz, its, m, rv, hl, ho⟩ := rdL I hs
    obtain ⟨as, ra⟩ := Reps.reads I n xs vs its (by simpa [pd] using p) hr rv
    exact ⟨_, .list ho rfl rfl (by simpa using ra)⟩
  | 0, .dic _ _, _, _, p, _, _ => by simp [pd] at p
  | n + 1, .dic ks us, v, u, p, h, r => by
    obtain ⟨d, es, kv, uv, rfl, hd, ok, h1, h2, r1, r2⟩ := h
    cases r
    have p : (ks.length == us.length && pds n ks && pds n us) = true := by simpa [pd] using p
    simp only [Bool.and_eq_true, beq_iff_eq] at p
    obtain ⟨⟨p0, p1⟩, p2⟩ := p
    obtain ⟨ep, ho⟩ := rdD I hd
    obtain ⟨as, ra⟩ := Reps.reads I n ks kv _ p1 h1 r1
    obtain ⟨bs, rb⟩ := Reps.reads I n us uv _ p2 h2 r2
    have l1 : (toPys ks).length = (toPys us).length := by rw [toPys_len, toPys_len, p0]
    refine ⟨d :: as ++ bs, Reads.dict (as := as) (bs := bs) ho rfl rfl ?_ ?_⟩
    · show ReadsAll s.heap _ (((toPys ks).zip (toPys us)).map (·.1)) as
      rw [List.map_fst_zip (by omega)]
      simpa using ra
    · show ReadsAll s.heap _ (((toPys ks).zip (toPys us)).map (·.2)) bs
      rw [List.map_snd_zip (by omega)]
      simpa using rb
  | _, .cell _, _, _, p, _, _ => by simp [pd] at p
  | _, .fn _, _, _, p, _, _ => by simp [pd] at p
  | _, .cls _, _, _, p, _, _ => by simp [pd] at p
  | _, .exc _ _, _, _, p, _, _ => by simp [pd] at p
  | _, .ty _, _, _, p, _, _ => by simp [pd] at p
  | _, .ins _ _ _, _, _, p, _, _ => by simp [pd] at p
  | _, .lok _, _, _, p, _, _ => by simp [pd] at p
theorem Reps.reads (I : Inv X pins σ H s) : ∀ (n : Nat) (ws : List W) (vs : List V) (us : List Value), pds n ws = true → Reps (gd X) CL.nil H ws vs → Vals vs us → ∃ as, ReadsAll s.heap us (toPys ws) as
  | _, [], vs, us, _, h, r => by
    have h : vs = [] := h
    subst h; cases r; exact ⟨_, .nil⟩
  | n, x :: xs, vs, us, p, h, r => by
    obtain ⟨v, t, rfl, h1, h2⟩ := h
    cases r with
    | cons r1 r2 =>
      have p : (pd n x && pds n xs) = true := by simpa [pds] using p
      rw [Bool.and_eq_true] at p
      obtain ⟨as, ra⟩ := Rep.reads I n x v _ p.1 h1 r1
      obtain ⟨bs, rb⟩ := Reps.reads I n xs t _ p.2 h2 r2
      exact ⟨_, .cons ra rb⟩
end
end

/-- sys.modules is a dict -/
def SysOk (h : Heap) : Prop := ∃ o, h.get? sysModules = some o ∧ o.cls = .type "dict"
theorem SysOk.ne {h : Heap} (x : SysOk h) {a : Addr} {o : Obj} (e : h.get? a = some o) (hc : o.cls ≠ .type "dict") : sysModules ≠ a := fun z => by
  obtain ⟨q, e1, e2⟩ := x
  rw [z, e] at e1
  cases e1
  exact hc e2
section
variable {X : Cx} {pins : List (Addr × Obj)} {σ : L2.St} {H : Hp} {s : Shared}
mutual
theorem Rep.readsS (hs0 : SysOk s.heap) (I : Inv X pins σ H s) : ∀ (n : Nat) (w : W) (v : V) (u : Value), pd n w = true → Rep (gd X) CL.nil H w v → RelV v u → ∃ as, Reads s.heap u (toPy w) as ∧ sysModules ∉ as
  | _, .non, v, u, _, h, r => by
    have h : v = .non := h
    subst h; cases r; exact ⟨_, .none, List.not_mem_nil⟩
  | _, .bl b, v, u, _, h, r => by
    have h : v = .bl b := h
    subst h; cases r; exact ⟨_, .bool b, List.not_mem_nil⟩
  | _, .int i, v, u, _, h, r => by
    have h : v = .int i := h
    subst h; obtain ⟨t, rfl⟩ := r; exact ⟨_, .int i t, List.not_mem_nil⟩
  | _, .str x, v, u, _, h, r => by
    have h : v = .str x := h
    subst h; obtain ⟨t, rfl⟩ := r; exact ⟨_, .str x t, List.not_mem_nil⟩
  | 0, .tup _, _, _, p, _, _ => by simp [pd] at p
  | n + 1, .tup xs, v, u, p, h, r => by
    obtain ⟨a, vs, rfl, hs, hr⟩ := h
    cases r
    obtain ⟨its, rv, ⟨o, ho, hc, m, hd⟩, hz⟩ := I.tuple hs
    obtain ⟨as, ra, na⟩ := Reps.readsS hs0 I n xs vs its (by simpa [pd] using p) hr rv
    exact ⟨as, .tuple ho hc hd (by simpa using ra), na⟩
  | 0, .lst _, _, _, p, _, _ => by simp [pd] at p
  | n + 1, .lst xs, v, u, p, h, r => by
    obtain ⟨a, vs, rfl, hs, hr⟩ := h
    cases r
    obtain ⟨hz, its, m, rv, hl, ho⟩ := rdL I hs
    obtain ⟨as, ra, na⟩ := Reps.readsS hs0 I n xs vs its (by simpa [pd] using p) hr rv
    exact ⟨a :: as, .list ho rfl rfl (by simpa using ra), fun hm => (List.mem_cons.mp hm).elim (hs0.ne ho (fun z => absurd (Value.type.inj z) (by decide))) na⟩
  | 0, .dic _ _, _, _, p, _, _ => by simp [pd] at p
  | n + 1, .dic ks us, v, u, p, h, r => by
    obtain ⟨d, es, kv, uv, rfl, hd, ok, h1, h2, r1, r2⟩ := h
    cases r
    have p : (ks.length == us.length && pds n ks && pds n us) = true := by simpa [pd] using p
    simp only [Bool.and_eq_true, beq_iff_eq] at p
    obtain ⟨⟨p0, p1⟩, p2⟩ := p
    obtain ⟨ep, ho⟩ := rdD I hd
    obtain ⟨as, ra, na⟩ := Reps.readsS hs0 I n ks kv _ p1 h1 r1
    obtain ⟨bs, rb, nb⟩ := Reps.readsS hs0 I n us uv _ p2 h2 r2
    have l1 : (toPys ks).length = (toPys us).length := by rw [toPys_len, toPys_len, p0]
    refine ⟨d :: as ++ bs, Reads.dict (as := as) (bs := bs) ho rfl rfl ?_ ?_, fun hm => ?_⟩
    · show ReadsAll s.heap _ (((toPys ks).zip (toPys us)).map (·.1)) as
      rw [List.map_fst_zip (by omega)]
      simpa using ra
    · show ReadsAll s.heap _ (((toPys ks).zip (toPys us)).map (·.2)) bs
      rw [List.map_snd_zip (by omega)]
      simpa using rb
    · rcases List.mem_append.mp hm with hm | hm
      · rcases List.mem_cons.mp hm with hm | hm
        · have := ok.sys
          rw [hm] at this
          simp at this
        · exact na hm
      · exact nb hm
  | _, .cell _, _, _, p, _, _ => by simp [pd] at p
  | _, .fn _, _, _, p, _, _ => by simp [pd] at p
  | _, .cls _, _, _, p, _, _ => by simp [pd] at p
  | _, .exc _ _, _, _, p, _, _ => by simp [pd] at p
  | _, .ty _, _, _, p, _, _ => by simp [pd] at p
  | _, .ins _ _ _, _, _, p, _, _ => by simp [pd] at p
  | _, .lok _, _, _, p, _, _ => by simp [pd] at p
theorem Reps.readsS (hs0 : SysOk s.heap) (I : Inv X pins σ H s) : ∀ (n : Nat) (ws : List W) (vs : List V) (us : List Value), pds n ws = true → Reps (gd X) CL.nil H ws vs → Vals vs us → ∃ as, ReadsAll s.heap us (toPys ws) as ∧ sysModules ∉ as
  | _, [], vs, us, _, h, r => by
    have h : vs = [] := h
    subst h; cases r; exact ⟨_, .nil, List.not_mem_nil⟩
  | n, x :: xs, vs, us, p, h, r => by
    obtain ⟨v, t, rfl, h1, h2⟩ := h
    cases r with
    | cons r1 r2 =>
      have p : (pd n x && pds n xs) = true := by simpa [pds] using p
      rw [Bool.and_eq_true] at p
      obtain ⟨as, ra, na⟩ := Rep.readsS hs0 I n x v _ p.1 h1 r1
      obtain ⟨bs, rb, nb⟩ := Reps.readsS hs0 I n xs t _ p.2 h2 r2
      exact ⟨_, .cons ra rb, fun hm => (List.mem_append.mp hm).elim na nb⟩
end
end

/-! ### plain data -/
mutual
theorem pd_of_pl : ∀ (n : Nat) (w : W), pl n w = true → pd n w = true
  | _, .non, _ => rfl
  | _, .bl _, _ => rfl
  | _, .int _, _ => rfl
  | _, .str _, _ => rfl
  | 0, .tup _, p => by simp [pl] at p
  | n + 1, .tup xs, p => by simp only [pd]; exact pds_of_pls n xs (by simpa [pl] using p)
  | 0, .lst _, p => by simp [pl] at p
  | n + 1, .lst xs, p => by simp only [pd]; exact pds_of_pls n xs (by simpa [pl] using p)
  | _, .dic _ _, p => by simp [pl] at p
  | _, .cell _, p => by simp [pl] at p
  | _, .fn _, p => by simp [pl] at p
  | _, .cls _, p => by simp [pl] at p
  | _, .exc _ _, p => by simp [pl] at p
  | _, .ty _, p => by simp [pl] at p
  | _, .ins _ _ _, p => by simp [pl] at p
  | _, .lok _, p => by simp [pl] at p
theorem pds_of_pls : ∀ (n : Nat) (ws : List W), pls n ws = true → pds n ws = true
  | _, [], _ => by simp [pds]
  | n, x :: xs, p => by
    have p : (pl n x && pls n xs) = true := by simpa [pls] using p
    rw [Bool.and_eq_true] at p
    simp only [pds, Bool.and_eq_true]
    exact ⟨pd_of_pl n x p.1, pds_of_pls n xs p.2⟩
end
mutual
theorem plain_of_pl : ∀ (n : Nat) (w : W), pl n w = true → (toPy w).plain = true
  | _, .non, _ => rfl
  | _, .bl _, _ => rfl
  | _, .int _, _ => rfl
  | _, .str _, _ => rfl
  | 0, .tup _, p => by simp [pl] at p
  | n + 1, .tup xs, p => by simp only [toPy, PyData.plain]; exact plains_of_pls n xs (by simpa [pl] using p)
  | 0, .lst _, p => by simp [pl] at p
  | n + 1, .lst xs, p => by simp only [toPy, PyData.plain]; exact plains_of_pls n xs (by simpa [pl] using p)
  | _, .dic _ _, p => by simp [pl] at p
  | _, .cell _, p => by simp [pl] at p
  | _, .fn _, p => by simp [pl] at p
  | _, .cls _, p => by simp [pl] at p
  | _, .exc _ _, p => by simp [pl] at p
  | _, .ty _, p => by simp [pl] at p
  | _, .ins _ _ _, p => by simp [pl] at p
  | _, .lok _, p => by simp [pl] at p
theorem plains_of_pls : ∀ (n : Nat) (ws : List W), pls n ws = true → PyData.plainAll (toPys ws) = true
  | _, [], _ => by simp [toPys, PyData.plainAll]
  | n, x :: xs, p => by
    have p : (pl n x && pls n xs) = true := by simpa [pls] using p
    rw [Bool.and_eq_true] at p
    simp only [toPys, PyData.plainAll, Bool.and_eq_true]
    exact ⟨plain_of_pl n x p.1, plains_of_pls n xs p.2⟩
end
theorem depthKv_zip : ∀ (as bs : List PyData), PyData.depthKv (as.zip bs) ≤ max (PyData.depthAll as) (PyData.depthAll bs)
  | [], _ => by simp [PyData.depthKv]
  | _ :: _, [] => by simp [PyData.depthKv]
  | a :: as, b :: bs => by
    have := depthKv_zip as bs
    simp only [List.zip_cons_cons, PyData.depthKv, PyData.depthAll]
    omega
mutual
theorem depth_of_pd : ∀ (n : Nat) (w : W), pd n w = true → (toPy w).depth ≤ n
  | _, .non, _ => by simp [toPy, PyData.depth]
  | _, .bl _, _ => by simp [toPy, PyData.depth]
  | _, .int _, _ => by simp [toPy, PyData.depth]
  | _, .str _, _ => by simp [toPy, PyData.depth]
  | 0, .tup _, p => by simp [pd] at p
  | n + 1, .tup xs, p => by
    have := depths_of_pds n xs (by simpa [pd] using p)
    simp only [toPy, PyData.depth]; omega
  | 0, .lst _, p => by simp [pd] at p
  | n + 1, .lst xs, p => by
    have := depths_of_pds n xs (by simpa [pd] using p)
    simp only [toPy, PyData.depth]; omega
  | 0, .dic _ _, p => by simp [pd] at p
  | n + 1, .dic ks us, p => by
    have p : (ks.length == us.length && pds n ks && pds n us) = true := by simpa [pd] using p
    simp only [Bool.and_eq_true] at p
    have h1 := depths_of_pds n ks p.1.2
    have h2 := depths_of_pds n us p.2
    have h3 := depthKv_zip (toPys ks) (toPys us)
    simp only [toPy, PyData.depth]; omega
  | _, .cell _, p => by simp [pd] at p
  | _, .fn _, p => by simp [pd] at p
  | _, .cls _, p => by simp [pd] at p
  | _, .exc _ _, p => by simp [pd] at p
  | _, .ty _, p => by simp [pd] at p
  | _, .ins _ _ _, p => by simp [pd] at p
  | _, .lok _, p => by simp [pd] at p
theorem depths_of_pds : ∀ (n : Nat) (ws : List W), pds n ws = true → PyData.depthAll (toPys ws) ≤ n
  | _, [], _ => by simp [toPys, PyData.depthAll]
  | n, x :: xs, p => by
    have p : (pd n x && pds n xs) = true := by simpa [pds] using p
    rw [Bool.and_eq_true] at p
    have h1 := depth_of_pd n x p.1
    have h2 := depths_of_pds n xs p.2
    simp only [toPys, PyData.depthAll]; omega
end
theorem pls_mem {n : Nat} : ∀ {ws : List W}, pls n ws = true → ∀ w ∈ ws, pl n w = true
  | x :: xs, p, w, h => by
    have p : (pl n x && pls n xs) = true := by simpa [pls] using p
    rw [Bool.and_eq_true] at p
    rcases List.mem_cons.mp h with rfl | h
    · exact p.1
    · exact pls_mem p.2 w h
theorem pls_of {n : Nat} : ∀ {ws : List W}, (∀ w ∈ ws, pl n w = true) → pls n ws = true
  | [], _ => rfl
  | x :: xs, h => by
    simp only [pls, Bool.and_eq_true]
    exact ⟨h x List.mem_cons_self, pls_of fun w hw => h w (List.mem_cons_of_mem _ hw)⟩
section
variable {g : Gd} {ι : CL} {H : Hp} {st : Store}
mutual
theorem Rep.plainD : ∀ (n : Nat) (w : W) (v : V), pd n w = true → Rep g ι (msk H ι) w v → Rep g CL.nil H w v
  | _, .non, v, _, h => h
  | _, .bl _, v, _, h => h
  | _, .int _, v, _, h => h
  | _, .str _, v, _, h => h
  | n + 1, .tup xs, v, p, h => by
    obtain ⟨a, vs, e, hs, hr⟩ := h
    exact ⟨a, vs, e, SqT.unmask hs, Reps.plainD n xs vs (by simpa [pd] using p) hr⟩
  | n + 1, .lst xs, v, p, h => by
    obtain ⟨a, vs, e, hs, hr⟩ := h
    exact ⟨a, vs, e, hs.to (fun o q => (msk_some q).1), Reps.plainD n xs vs (by simpa [pd] using p) hr⟩
  | n + 1, .dic ks us, v, p, h => by
    obtain ⟨d, es, kv, uv, e, hd, ok, h1, h2, h3, h4⟩ := h
    have p : (ks.length == us.length && pds n ks && pds n us) = true := by simpa [pd] using p
    simp only [Bool.and_eq_true] at p
    exact ⟨d, es, kv, uv, e, hd.same fun _ q => (msk_some q).1, ok, Reps.plainD n ks kv p.1.2 h1, Reps.plainD n us uv p.2 h2, h3, h4⟩
  | 0, .tup _, v, p, h => by simp [pd] at p
  | 0, .lst _, v, p, h => by simp [pd] at p
  | 0, .dic _ _, v, p, h => by simp [pd] at p
  | _, .cell _, v, p, h => by simp [pd] at p
  | _, .fn _, v, p, h => by simp [pd] at p
  | _, .cls _, v, p, h => by simp [pd] at p
  | _, .exc _ _, v, p, h => by simp [pd] at p
  | _, .ty _, v, p, h => by simp [pd] at p
  | _, .ins _ _ _, v, p, h => by simp [pd] at p
  | _, .lok _, v, p, h => by simp [pd] at p
theorem Reps.plainD : ∀ (n : Nat) (ws : List W) (vs : List V), pds n ws = true → Reps g ι (msk H ι) ws vs → Reps g CL.nil H ws vs
  | _, [], vs, _, h => h
  | n, x :: xs, vs, p, h => by
    obtain ⟨v, r, e, h1, h2⟩ := h
    have p : (pd n x && pds n xs) = true := by simpa [pds] using p
    rw [Bool.and_eq_true] at p
    exact ⟨v, r, e, Rep.plainD n x v p.1 h1, Reps.plainD n xs r p.2 h2⟩
end
mutual
/-- a value with its cells written out stands in the whole heap -/
theorem Rep.deep (S : SR g ι H st) : ∀ (k n : Nat) (w : W) (v : V), pd n (deep k st w) = true → Rep g ι (msk H ι) w v → Rep g CL.nil H (deep k st w) v
  | 0, n, w, v, p, h => by
    simp only [Sw.deep] at p ⊢
    exact Rep.plainD n w v p h
  | k + 1, n, .non, v, p, h => by simp only [Sw.deep]; exact h
  | k + 1, n, .bl _, v, p, h => by simp only [Sw.deep]; exact h
  | k + 1, n, .int _, v, p, h => by simp only [Sw.deep]; exact h
  | k + 1, n, .str _, v, p, h => by simp only [Sw.deep]; exact h
  | k + 1, 0, .tup xs, v, p, h => by simp [Sw.deep, pd] at p
  | k + 1, n + 1, .tup xs, v, p, h => by
    obtain ⟨a, vs, e, hs, hr⟩ := h
    simp only [Sw.deep] at p ⊢
    exact ⟨a, vs, e, SqT.unmask hs, Reps.deep S k n xs vs (by simpa [pd] using p) hr⟩
  | k + 1, 0, .lst xs, v, p, h => by simp [Sw.deep, pd] at p
  | k + 1, n + 1, .lst xs, v, p, h => by
    obtain ⟨a, vs, e, hs, hr⟩ := h
    simp only [Sw.deep] at p ⊢
    exact ⟨a, vs, e, hs.to (fun o q => (msk_some q).1), Reps.deep S k n xs vs (by simpa [pd] using p) hr⟩
  | k + 1, 0, .dic ks us, v, p, h => by simp [Sw.deep, pd] at p
  | k + 1, n + 1, .dic ks us, v, p, h => by
    obtain ⟨d, es, kv, uv, e, hd, ok, h1, h2, h3, h4⟩ := h
    simp only [Sw.deep] at p ⊢
    have p : (ks.length == (deeps k st us).length && pds n ks && pds n (deeps k st us)) = true := by simpa [pd] using p
    simp only [Bool.and_eq_true] at p
    exact ⟨d, es, kv, uv, e, hd.same fun _ q => (msk_some q).1, ok, Reps.plainD n ks kv p.1.2 h1, Reps.deep S k n us uv p.2 h2, h3, h4⟩
  | k + 1, n, .cell m, v, p, h => by
    obtain ⟨a, c, rfl, hi, hc, cr⟩ := cell_of S h
    have ec : st.getD m .non = c := by rw [List.getD_eq_getElem?_getD, hc]; rfl
    simp only [Sw.deep, ec] at p ⊢
    unfold CellRep at cr
    generalize hu : unl c = u at p cr ⊢
    cases u with
    | lst xs =>
      obtain ⟨vs, e, hr⟩ := cr
      cases k with
      | zero =>
        simp only [Sw.deep] at p ⊢
        cases n with
        | zero => simp [pd] at p
        | succ n => exact ⟨a, vs, rfl, .inl (.inl e), Reps.plainD n xs vs (by simpa [pd] using p) hr⟩
      | succ k =>
        simp only [Sw.deep] at p ⊢
        cases n with
        | zero => simp [pd] at p
        | succ n => exact ⟨a, vs, rfl, .inl (.inl e), Reps.deep S k n xs vs (by simpa [pd] using p) hr⟩
    | dic ks us =>
      obtain ⟨es, kv, uv, e, ok, h1, h2, h3, h4⟩ := cr
      cases k with
      | zero =>
        simp only [Sw.deep] at p ⊢
        cases n with
        | zero => simp [pd] at p
        | succ n =>
          have p : (ks.length == us.length && pds n ks && pds n us) = true := by simpa [pd] using p
          simp only [Bool.and_eq_true] at p
          exact ⟨a, es, kv, uv, rfl, e, ok, Reps.plainD n ks kv p.1.2 h1, Reps.plainD n us uv p.2 h2, h3, h4⟩
      | succ k =>
        simp only [Sw.deep] at p ⊢
        cases n with
        | zero => simp [pd] at p
        | succ n =>
          have p : (ks.length == (deeps k st us).length && pds n ks && pds n (deeps k st us)) = true := by simpa [pd] using p
          simp only [Bool.and_eq_true] at p
          exact ⟨a, es, kv, uv, rfl, e, ok, Reps.plainD n ks kv p.1.2 h1, Reps.deep S k n us uv p.2 h2, h3, h4⟩
    | _ => exact cr.elim
  | k + 1, n, .fn _, v, p, h => by simp [Sw.deep, pd] at p
  | k + 1, n, .cls _, v, p, h => by simp [Sw.deep, pd] at p
  | k + 1, n, .exc _ _, v, p, h => by simp [Sw.deep, pd] at p
  | k + 1, n, .ty _, v, p, h => by simp [Sw.deep, pd] at p
  | k + 1, n, .ins _ _ _, v, p, h => by simp [Sw.deep, pd] at p
  | k + 1, n, .lok _, v, p, h => by simp [Sw.deep, pd] at p
theorem Reps.deep (S : SR g ι H st) : ∀ (k n : Nat) (ws : List W) (vs : List V), pds n (deeps k st ws) = true → Reps g ι (msk H ι) ws vs → Reps g CL.nil H (deeps k st ws) vs
  | k, n, [], vs, p, h => by
    simp only [Sw.deeps, List.map_nil]
    exact h
  | k, n, x :: xs, vs, p, h => by
    obtain ⟨v, r, e, h1, h2⟩ := h
    simp only [Sw.deeps, List.map_cons] at p ⊢
    have p : (pd n (Sw.deep k st x) && pds n (deeps k st xs)) = true := by simpa [pds] using p
    rw [Bool.and_eq_true] at p
    exact ⟨v, r, e, Rep.deep S k n x v p.1 h1, Reps.deep S k n xs r p.2 h2⟩
end
theorem dataD_rep (S : SR g ι H st) {w d : W} {v : V} (h : Rep g ι (msk H ι) w v) (e : dataD st w = some d) : Rep g CL.nil H d v ∧ pd 20 d = true := by
  unfold dataD at e
  split at e
  · cases e
    exact ⟨Rep.plainD 20 w v (by assumption) h, by assumption⟩
  · split at e
    · cases e
      exact ⟨Rep.deep S 20 20 w v (by assumption) h, by assumption⟩
    · cases e
theorem data_rep (S : SR g ι H st) {w d : W} {v : V} (h : Rep g ι (msk H ι) w v) (e : data st w = some d) : Rep g CL.nil H d v ∧ pl 20 d = true := by
  unfold data at e
  split at e
  · cases e
    exact ⟨Rep.plainD 20 w v (pd_of_pl _ _ (by assumption)) h, by assumption⟩
  · split at e
    · cases e
      exact ⟨Rep.deep S 20 20 w v (pd_of_pl _ _ (by assumption)) h, by assumption⟩
    · cases e
end
end Sw
end
section
set_option maxRecDepth 100000
set_option autoImplicit false
set_option maxHeartbeats 1000000
/-! SwF: the machine's operations do what the mini language's do. -/
namespace Sw
open CL
open PySem PySem.Spec PyProof.Rows L2

/-- v is a new thing -/
def FreshAt (g : Gd) (ι : CL) (H H' : Hp) (st : Store) (v : V) (w : W) : Prop := ∃ p, v = .ref p ∧ H p = none ∧ SR g (ι.add p) H' (st ++ [w])
/-- what is wanted behind an operation that gives w and leaves the store; fr: lists and dicts are new -/
def after (fr : Bool) (g : Gd) (ι : CL) (H : Hp) (st : Store) (w : W) (Q : VK) : Prop :=
  ∀ (H' : Hp) (v : V), SR g ι H' st → Same (msk H ι) (msk H' ι) → Rep g ι (msk H' ι) w v → (fr = true → isLD w = true → FreshAt g ι H H' st v w) → Q v H'
/-- a two-place operation -/
def opR (fr : Bool) (g : Gd) (f : W → W → Store → Option W) : R2 := fun x y H Q => ∃ ι st wx wy w, SR g ι H st ∧ Rep g ι (msk H ι) wx x ∧ Rep g ι (msk H ι) wy y ∧ f wx wy st = some w ∧ after fr g ι H st w Q
/-- a one-place operation -/
def unR (g : Gd) (f : W → Store → Option W) : V → Hp → VK → Prop := fun x H Q => ∃ ι st wx w, SR g ι H st ∧ Rep g ι (msk H ι) wx x ∧ f wx st = some w ∧ after true g ι H st w Q
/-- a call by values -/
def clR (g : Gd) (f : List W → Store → Option W) : List V → Hp → VK → Prop := fun xs H Q => ∃ ι st ws w, SR g ι H st ∧ Reps g ι (msk H ι) ws xs ∧ f ws st = some w ∧ after true g ι H st w Q
/-- a test by values -/
def tsR (g : Gd) (f : W → Store → Option Bool) : V → Hp → (Bool → Hp → Prop) → Prop := fun x H Q => ∃ ι st wx b, SR g ι H st ∧ Rep g ι (msk H ι) wx x ∧ f wx st = some b ∧ Q b H

section
variable {g : Gd} {ι : CL} {H : Hp} {st : Store} {w : W} {Q : VK} {fr : Bool}
theorem after.here (A : after fr g ι H st w Q) (S : SR g ι H st) {v : V} (r : Rep g ι (msk H ι) w v) (h : fr = false ∨ isLD w = false := by first | exact .inr rfl | exact .inl rfl) : Q v H :=
  A H v S (Same.refl _) r fun e1 e2 => by rcases h with h | h <;> simp_all
theorem msk_new {p : Addr} {o : HO} (S : SR g ι H st) (hp : H p = none) : msk (upd H p o) ι p = some o := by
  rw [msk_out (S.fresh hp)]
  exact upd_same
/-- the heap without the cells, one more cell -/
theorem msk_box {p : Addr} {o : HO} (hp : H p = none) : Same (msk H ι) (msk (upd H p o) (ι.add p)) := fun b u e => by
  obtain ⟨e1, e2⟩ := msk_some e
  have hb : b ≠ p := ne_of_none e1 hp
  rw [msk_out (fun h => (CL.mem_add.mp h).elim e2 hb), upd_ne hb]
  exact e1
/-- one more cell -/
theorem SR.more (S : SR g ι H st) {p : Addr} {o : HO} {w : W} (hw : ∀ x, w ≠ .lok x) (hp : H p = none) (c : CellRep g (ι.add p) (L2.upd H p o) p w) : SR g (ι.add p) (L2.upd H p o) (st ++ [w]) := by
  have hf := S.fresh hp
  refine ⟨by simp [CL.add, S.len], ?_, fun n x e => ?_, fun q hq => by rw [upd_ne (ne_of_none (S.hid q hq) hp)]; exact S.hid q hq, fun q hq => ?_, fun n x e => ?_⟩
  rotate_right
  · by_cases hn : n < st.length
    · rw [List.getElem?_append_left hn] at e
      obtain ⟨h1, a, o', h2, h3⟩ := S.lkf n x e
      exact ⟨h1, a, o', prefix_get (List.prefix_append _ _) h2, h3⟩
    · have hl : n = st.length := by
        have := (List.getElem?_eq_some_iff.mp e).1
        simp at this; omega
      subst hl
      rw [List.getElem?_append_right (Nat.le_refl _), Nat.sub_self] at e
      cases e
      exact absurd rfl (hw _)
  rotate_right
  · obtain ⟨e1, n, w', e2, e3⟩ := S.lck q hq
    refine ⟨by rw [upd_ne (ne_of_none e1 hp)]; exact e1, n, w', prefix_get (List.prefix_append _ _) e2, ?_⟩
    rw [List.getElem?_append_left (List.getElem?_eq_some_iff.mp e3).1]
    exact e3
  · show ((ι.c ++ [p]) ++ ι.h.map (·.1)).Nodup
    have hnd : (ι.c ++ ι.h.map (·.1)).Nodup := S.nd
    have hf : p ∉ ι.c ++ ι.h.map (·.1) := hf
    rw [List.append_assoc, List.nodup_append] 
    rw [List.nodup_append] at hnd
    refine ⟨hnd.1, ?_, fun a ha b hb => ?_⟩
    · show (p :: ι.h.map (·.1)).Nodup
      exact List.nodup_cons.mpr ⟨fun z => hf (List.mem_append_right _ z), hnd.2.1⟩
    · rcases List.mem_cons.mp hb with hb | hb
      · subst hb
        exact fun z => hf (List.mem_append_left _ (z ▸ ha))
      · exact hnd.2.2 a ha b hb
  · by_cases hn : n < st.length
    · rw [List.getElem?_append_left hn] at e
      obtain ⟨a, ha, ca⟩ := S.cells n x e
      have hne : a ≠ p := fun z => hf (z ▸ CL.mem_get ha)
      refine ⟨a, prefix_get (List.prefix_append _ _) ha, ca.step (fun o' q => by rw [upd_ne hne]; exact q) (msk_box hp) (CL.le_add _ _)⟩
    · have hl : n = st.length := by
        have := (List.getElem?_eq_some_iff.mp e).1
        simp at this; omega
      subst hl
      rw [List.getElem?_append_right (Nat.le_refl _), Nat.sub_self] at e
      cases e
      refine ⟨p, ?_, c⟩
      show (ι.c ++ [p])[st.length]? = _
      rw [← S.len, List.getElem?_append_right (Nat.le_refl _), Nat.sub_self]; rfl
theorem after.lst {xs : List W} (A : after fr g ι H st (.lst xs) Q) (S : SR g ι H st) {vs : List V} (r : Reps g ι (msk H ι) xs vs) : ∀ p, H p = none → Q (.ref p) (upd H p (.lst vs)) := fun p hp =>
  A _ _ (S.upd hp).1 (S.upd hp).2 ⟨p, vs, rfl, .inl (.inl (msk_new S hp)), r.mono (msk_upd hp) (CL.le_refl _) _ _⟩
    fun _ _ => ⟨p, rfl, hp, S.more (by intro _ z; cases z) hp ⟨vs, upd_same, r.mono (msk_box hp) (CL.le_add _ _) _ _⟩⟩
theorem after.tup {xs : List W} (A : after fr g ι H st (.tup xs) Q) (S : SR g ι H st) {vs : List V} (r : Reps g ι (msk H ι) xs vs) : ∀ p, H p = none → Q (.ref p) (upd H p (.tup vs)) := fun p hp =>
  A _ _ (S.upd hp).1 (S.upd hp).2 ⟨p, vs, rfl, .inl (.inl (msk_new S hp)), r.mono (msk_upd hp) (CL.le_refl _) _ _⟩ fun _ z => nomatch z
end

theorem OpR.imp {X : Cx} {f : Value → Value → Sem Value} {r r' : R2} (h : OpR X f r') (i : ∀ x y H Q, r x y H Q → r' x y H Q) : OpR X f r :=
  fun pins s σ H x y v u Q I rx ry q => h pins s σ H x y v u Q I rx ry (i x y H Q q)

section
variable {X : Cx}
/-- lists, read, put together -/
theorem op_catR : OpR X (binaryOp .Add) (fun x y H Q => ∃ l b xs zs, x = .ref l ∧ y = .ref b ∧ Ls X.K H l xs ∧ Ls X.K H b zs ∧ xs.length + zs.length ≤ sizeLine ∧ ∀ p, H p = none → Q (.ref p) (upd H p (.lst (xs ++ zs)))) := by
  intro pins s σ H x y v u Q I rx ry h
  obtain ⟨l, b, xs, zs, rfl, rfl, hH, hB, hz, q⟩ := h
  cases rx; cases ry
  obtain ⟨z, its, n, r, hl, e⟩ := rdL I hH
  obtain ⟨z2, its2, n2, r2, hl2, e2⟩ := rdL I hB
  refine PySem.P.add_list e e2 ?_ (by rw [List.size_toArray, List.size_toArray]; omega)
  rw [show its.toArray ++ its2.toArray = (its ++ its2).toArray by simp]
  exact ⟨.ref _, _, I.lnew (t' := s.toks) (r.append r2) (by rw [List.length_append]; omega), rfl, q _ I.fresh⟩
theorem op_repR : OpR X (binaryOp .Mult) (fun x y H Q => ∃ l k xs, x = .ref l ∧ y = .int k ∧ Ls X.K H l xs ∧ -(2 ^ 63) ≤ k ∧ k < 2 ^ 63 ∧ xs.length * k.toNat ≤ sizeLine ∧
    ∀ p, H p = none → Q (.ref p) (upd H p (.lst (List.replicate k.toNat xs).flatten))) := by
  intro pins s σ H x y v u Q I rx ry h
  obtain ⟨l, k, xs, rfl, rfl, hH, h1, h2, hz, q⟩ := h
  cases rx
  obtain ⟨t, rfl⟩ := ry
  obtain ⟨z, its, n, r, hl, e⟩ := rdL I hH
  have sz1 : its.toArray.size = xs.length := by rw [List.size_toArray, hl]
  have c1 : ¬ (!Builtin.List.listFitsIndex k) = true := by
    rw [fitsIndex_both h1 h2]
    exact Bool.false_ne_true
  have c2 : ¬ its.toArray.size * k.toNat > (2 ^ 63 - 1) / 8 := by
    have : (sizeLine : Nat) ≤ (2 ^ 63 - 1) / 8 := by decide
    rw [sz1]; omega
  have c3 : ¬ Builtin.List.listTooLong (its.toArray.size * k.toNat) = true := by
    rw [notLongL (by rw [sz1]; exact hz)]
    exact Bool.false_ne_true
  have ef : ∀ m : Nat, List.foldl (fun x1 x2 => x1 ++ x2) #[] (List.replicate m its.toArray) = (List.replicate m its).flatten.toArray := fun m => by
    simpa only [List.nil_append] using foldl_rep its m []
  have en : List.foldl (fun x1 x2 => x1 ++ x2) #[] (List.replicate (if its.toArray.isEmpty = true then 0 else k.toNat) its.toArray) = (List.replicate k.toNat its).flatten.toArray := by
    rw [ef]
    cases its with
    | nil => simp
    | cons a r' => rw [if_neg (by simp)]
  have run := AutoListH.list___mul___list_int_3 l its.toArray n k t c1 c2 c3
  refine wpAny_binaryOp_repeat_ref (T := "list") (U := "int") (by decide) ⟨_, e, rfl⟩ (fun s' => typeIs_int s' k t) noFill_list_mul F.fills_int_mul F.slot_int_rmul repeat_list F.slot_int_index.lookup
    (call_meets F.slot_int_rmul (typeIs_int s k t) F.entry_int_rmul (F.args_int_rmul_2 _ _) (int___rmul___int_list k t l its.toArray n)
      ⟨e, rfl, ⟨_, e, rfl⟩, call_meets F.slot_list_mul ⟨_, e, rfl⟩ F.entry_list_mul (F.args_list_mul_2 _ _) run ⟨e, ?_⟩⟩)
  rw [en]
  exact ⟨.ref _, _, I.lnew (t' := s.toks) (r.rep k.toNat) (by rw [PyProof.Rows.lm_len_rep_flat, Nat.mul_comm]; exact hz), rfl, q _ I.fresh⟩
end

def opOf : Bop → Operator
  | .add => .Add | .sub => .Sub | .mul => .Mult | .fdiv => .FloorDiv | .mod => .Mod | .pow => .Pow | .xor => .BitXor
theorem Reps.rep {g : Gd} {ι : CL} {H : Hp} {xs : List W} {vs : List V} (r : Reps g ι H xs vs) : ∀ k : Nat, Reps g ι H (List.replicate k xs).flatten (List.replicate k vs).flatten
  | 0 => Reps.nil
  | k + 1 => by
    rw [List.replicate_succ, List.replicate_succ, List.flatten_cons, List.flatten_cons]
    exact r.app (r.rep k)
theorem mulOk_of {i j : Int} (h : mulOk i j = true) : CMul i j := by
  unfold mulOk at h
  unfold CMul
  rcases (Bool.or_eq_true _ _).mp h with h | h
  · have := of_decide_eq_true h
    left; omega
  · have := of_decide_eq_true h
    right; omega
theorem op_powW {X : Cx} : OpR X (binaryOp .Pow) (rI (fun i j => 0 ≤ j ∧ (i.natAbs.log2 + 1) * j.toNat ≤ 100000) fun i j => .int (i ^ j.toNat)) := opI fun i j _ _ _ _ _ hc q => by
  refine PyProof.Rows.pow_int hc.1 ?_ q
  have hb : (Builtin.Int.intBits i : Int) ≤ ((i.natAbs.log2 + 1 : Nat) : Int) := by
    have : Builtin.Int.intBits i ≤ i.natAbs.log2 + 1 := by
      unfold Builtin.Int.intBits
      split <;> omega
    exact_mod_cast this
  have hj : (j.toNat : Int) = j := Int.toNat_of_nonneg hc.1
  have h2 : ((i.natAbs.log2 + 1 : Nat) : Int) * j ≤ 100000 := by
    have h := Int.ofNat_le.mpr hc.2
    rw [Int.natCast_mul, hj] at h
    exact h
  have h3 : (Builtin.Int.intBits i : Int) * j ≤ ((i.natAbs.log2 + 1 : Nat) : Int) * j := Int.mul_le_mul_of_nonneg_right hb hc.1
  have : (100000 : Int) ≤ 2 ^ 27 := by decide
  omega
section
variable {X : Cx}
theorem op_bin (o : Bop) : OpR X (binaryOp (opOf o)) (opR true (gd X) (binW o)) := by
  intro pins s σ H x y v u Q I rx ry ⟨ι, st, wx, wy, w, S, hx, hy, e, A⟩
  unfold binW at e
  split at e
  · -- int + int
    rename_i i j e1 e2
    cases e
    have := see_int S hx e1; subst this
    have := see_int S hy e2; subst this
    exact op_add pins s σ H _ _ v u Q I rx ry ⟨i, j, rfl, rfl, A.here S rfl⟩
  · rename_i a b e1 e2
    split at e
    · cases e
      have := see_str S hx e1; subst this
      have := see_str S hy e2; subst this
      rename_i hl
      rw [szL] at hl
      exact op_add_str pins s σ H _ _ v u Q I rx ry ⟨a, b, rfl, rfl, hl, A.here S rfl⟩
    · cases e
  · rename_i xs ys e1 e2
    split at e
    · cases e
      rename_i hl
      obtain ⟨a, vs, rfl, h1, r1⟩ := see_lst S hx e1
      obtain ⟨b, us, rfl, h2, r2⟩ := see_lst S hy e2
      rw [szL] at hl
      exact op_catR pins s σ H _ _ v u Q I rx ry ⟨a, b, vs, us, rfl, rfl, h1, h2, by rw [r1.len, r2.len]; exact hl, A.lst S (r1.app r2)⟩
    · cases e
  · rename_i xs ys e1 e2
    split at e
    · cases e
      rename_i hl
      have f1 := see_flat S hx e1 (by intro _ z; cases z) (by intro _ _ z; cases z)
      have f2 := see_flat S hy e2 (by intro _ z; cases z) (by intro _ _ z; cases z)
      subst f1 f2
      obtain ⟨a, vs, rfl, h1, r1⟩ := see_tup S hx e1
      obtain ⟨b, us, rfl, h2, r2⟩ := see_tup S hy e2
      rw [szL] at hl
      refine op_catA pins s σ H _ _ v u Q I rx ry ⟨a, b, vs, us, rfl, rfl, h1, h2, by rw [r1.len, r2.len]; exact hl, fun z => ?_, fun z1 z2 => ?_, fun _ _ => A.tup S (r1.app r2)⟩
      · subst z
        have hn : xs = [] := List.eq_nil_of_length_eq_zero (by rw [← r1.len]; rfl)
        subst hn
        exact A.here S hy
      · subst z2
        have hn : ys = [] := List.eq_nil_of_length_eq_zero (by rw [← r2.len]; rfl)
        subst hn
        rw [List.append_nil] at A
        exact A.here S hx
    · cases e
  · rename_i i j e1 e2
    cases e
    have := see_int S hx e1; subst this
    have := see_int S hy e2; subst this
    exact op_sub pins s σ H _ _ v u Q I rx ry ⟨i, j, rfl, rfl, A.here S rfl⟩
  · rename_i i j e1 e2
    split at e
    · cases e
      have := see_int S hx e1; subst this
      have := see_int S hy e2; subst this
      rename_i hm
      exact op_mul pins s σ H _ _ v u Q I rx ry ⟨i, j, rfl, rfl, mulOk_of hm, A.here S rfl⟩
    · cases e
  · rename_i xs k e1 e2
    split at e
    · cases e
      rename_i hl
      obtain ⟨a, vs, rfl, h1, r1⟩ := see_lst S hx e1
      have := see_int S hy e2; subst this
      rw [szL] at hl
      exact op_repR pins s σ H _ _ v u Q I rx ry ⟨a, k, vs, rfl, rfl, h1, hl.2.1, hl.2.2, by rw [r1.len]; exact hl.1, A.lst S (r1.rep _)⟩
    · cases e
  · rename_i i j e1 e2
    split at e
    · cases e
      have := see_int S hx e1; subst this
      have := see_int S hy e2; subst this
      rename_i hm
      exact op_fdivN pins s σ H _ _ v u Q I rx ry ⟨i, j, rfl, rfl, hm, A.here S rfl⟩
    · cases e
  · rename_i i j e1 e2
    split at e
    · cases e
      have := see_int S hx e1; subst this
      have := see_int S hy e2; subst this
      rename_i hm
      exact op_modN pins s σ H _ _ v u Q I rx ry ⟨i, j, rfl, rfl, hm, A.here S rfl⟩
    · cases e
  · rename_i i j e1 e2
    split at e
    · cases e
      have := see_int S hx e1; subst this
      have := see_int S hy e2; subst this
      rename_i hm
      exact op_powW pins s σ H _ _ v u Q I rx ry ⟨i, j, rfl, rfl, hm, A.here S rfl⟩
    · cases e
  · rename_i i j e1 e2
    cases e
    have := see_int S hx e1; subst this
    have := see_int S hy e2; subst this
    exact op_xor pins s σ H _ _ v u Q I rx ry ⟨i, j, rfl, rfl, A.here S rfl⟩
  · cases e
/-- -x -/
theorem un_negW : UnR X (unaryOp .USub) (unR (gd X) fun w _ => match w with | .int i => some (.int (-i)) | _ => none) := by
  intro pins s σ H x v Q I rx ⟨ι, st, wx, w, S, hx, e, A⟩
  dsimp only at e
  split at e
  · cases e
    have hx : x = .int _ := hx
    subst hx
    exact un_neg pins s σ H _ v Q I rx ⟨_, rfl, A.here S rfl⟩
  · cases e
end
end Sw
end
section
set_option maxRecDepth 100000
set_option autoImplicit false
set_option maxHeartbeats 2000000
/-! SwH: dicts of any keys: the look-up, the store. -/
namespace Sw
open CL
open PySem PySem.Spec PyProof.Rows L2
open PySem.SeqAt (EqAt)

/-- what is known of a dict's entries -/
structure Ents (w : World) (h : Heap) (es : Array DictEntry) (qs : List NestedKey) : Prop where
  len : qs.length = es.size
  key : ∀ (i : Nat) (e : DictEntry), es[i]? = some e → ∃ q, qs[i]? = some q ∧ NestedIs h q e.key ∧ e.hash = q.hash w ∧ q.depth ≤ 8
  nd : qs.Nodup

section
variable {prog : Program} {w : World} {A : Around} {E : Value → Shared → Prop} {s : Shared}
theorem quiet_any {q : NestedKey} {v : Value} {Q : Bool → Shared → Prop} (h : NestedIs s.heap q v) (hd : q.depth ≤ 8) (hq : Q true s) : wpAny (model prog w) A (eqIsQuiet 8 v) Q E s :=
  quiet_key q v 8 s h hd A E Q hq
theorem tells_no {q : NestedKey} {key : Value} {stored : List Value} {Q : Bool → Shared → Prop} (h : NestedIs s.heap q key) (hd : q.depth ≤ 8)
    (hs : ∀ v ∈ stored, ∃ q', NestedIs s.heap q' v ∧ q'.depth ≤ 8) (hq : Q false s) : wpAny (model prog w) A (tableMayTell key stored) Q E s := by
  unfold tableMayTell
  cases stored with
  | nil => exact wpAny_pure hq
  | cons v0 st =>
    show wpAny _ _ (eqIsQuiet 8 key >>= _) _ _ _
    refine wpAny_bind (quiet_any h hd ?_)
    show wpAny _ _ (forIn (v0 :: st) _ _ >>= _) _ _ _
    refine wpAny_bind (wpAny_forIn_list _ (fun rest r s' => s' = s ∧ r = (none, ()) ∧ ∀ v ∈ rest, ∃ q', NestedIs s.heap q' v ∧ q'.depth ≤ 8) _ ?_ ?_ _ _ ⟨rfl, rfl, hs⟩)
    · rintro x rest r s' ⟨rfl, rfl, hr⟩
      obtain ⟨q', h1, h2⟩ := hr x List.mem_cons_self
      refine wpAny_bind (quiet_any h1 h2 ?_)
      exact wpAny_pure ⟨rfl, rfl, fun v hv => hr v (List.mem_cons_of_mem _ hv)⟩
    · rintro r s' ⟨rfl, rfl, _⟩
      exact wpAny_pure hq
/-- which places have the key's hash -/
theorem places_mem {n : Nat} {f : Nat → Option Int} {h : Int} {i : Nat} : i ∈ placesWithHash n f h ↔ i < n ∧ f i = some h := by
  unfold placesWithHash
  rw [List.mem_filter, List.mem_range, beq_iff_eq]
/-- the look-up: the key's place -/
theorem find_any {d : Addr} {o : Obj} {es : Array DictEntry} {ep : Nat} {qs : List NestedKey} {q : NestedKey} {key : Value} {Q : Option Nat → Shared → Prop} (ho : s.heap.get? d = some o) (hd : o.data = .dict es ep)
    (en : Ents w s.heap es qs) (hk : NestedIs s.heap q key) (hq8 : q.depth ≤ 8) (hu : A.units + 9 < cLine)
    (hnone : q ∉ qs → Q none s) (hsome : ∀ j, qs[j]? = some q → Q (some j) s) : wpAny (model prog w) A (dictFind d key (q.hash w)) Q E s := by
  -- equality of a stored key and this one
  have eqk : ∀ (i : Nat) (e : DictEntry), es[i]? = some e → ∃ q', qs[i]? = some q' ∧ e.hash = q'.hash w ∧ ∀ (R : Bool → Shared → Prop), R (decide (q' = q)) s → wpAny (model prog w) A (eqBool e.key key) R E s := by
    intro i e he
    obtain ⟨q', h1, h2, h3, h4⟩ := en.key i e he
    refine ⟨q', h1, h3, fun R hR => ?_⟩
    rw [NestedKey.decide_eq] at hR
    exact eqAt_key q' q A s _ _ h2 hk (by omega) prog w E R hR
  have uniq : ∀ i j, qs[i]? = some q → qs[j]? = some q → i = j := fun i j h1 h2 => (List.getElem?_inj (List.getElem?_eq_some_iff.mp h1).1 en.nd).mp (h1.trans h2.symm)
  have entry : ∀ i, i < es.size → ∃ e, es[i]? = some e := fun i hi => ⟨_, Array.getElem?_eq_getElem hi⟩
  have inplaces : ∀ i, qs[i]? = some q → i ∈ placesWithHash es.size (fun i => es[i]?.map (·.hash)) (q.hash w) := fun i hi => by
    have hl : i < es.size := by rw [← en.len]; exact (List.getElem?_eq_some_iff.mp hi).1
    obtain ⟨e, he⟩ := entry i hl
    obtain ⟨q', h1, h2, _⟩ := eqk i e he
    rw [hi] at h1; cases h1
    exact places_mem.mpr ⟨hl, by rw [he]; exact congrArg some h2⟩
  have isnone : (∀ i, i ∈ placesWithHash es.size (fun i => es[i]?.map (·.hash)) (q.hash w) → qs[i]? ≠ some q) → q ∉ qs := fun h hm => by
    obtain ⟨i, hi⟩ := List.mem_iff_getElem?.mp hm
    exact h i (inplaces i hi) hi
  have stored_is : ∀ v ∈ (placesWithHash es.size (fun i => es[i]?.map (·.hash)) (q.hash w)).filterMap (fun i => es[i]?.map (·.key)), ∃ q', NestedIs s.heap q' v ∧ q'.depth ≤ 8 := by
    intro v hv
    obtain ⟨i, _, hi⟩ := List.mem_filterMap.mp hv
    cases hei : es[i]? with
    | none => rw [hei] at hi; cases hi
    | some e =>
      rw [hei] at hi
      have : e.key = v := Option.some.inj hi
      subst this
      obtain ⟨q', _, h2, _, h4⟩ := en.key i e hei
      exact ⟨q', h2, h4⟩
  unfold dictFind
  refine wpAny_holding ?_
  refine wpAny_bind (wpAny_dictEntries ho hd ?_)
  -- the walk over the places, told as it is in the two last roads
  have plainWalk : wpAny (model prog w) A (dictWalkPlain d key (q.hash w) es (placesWithHash es.size (fun i => es[i]?.map (·.hash)) (q.hash w))) Q E s := by
    refine wpAny_bind ?_
    refine wpAny_forIn_list _ (fun rest b s' => s' = s ∧ b = (none, ()) ∧ (∀ i ∈ rest, i < es.size) ∧ ∀ i, qs[i]? = some q → i ∈ rest) _ ?_ ?_ _ _ ⟨rfl, rfl, fun i hi => (places_mem.mp hi).1, inplaces⟩
    · rintro x rest b s' ⟨rfl, rfl, hl, hin⟩
      obtain ⟨e, he⟩ := entry x (hl x List.mem_cons_self)
      obtain ⟨q', h1, h2, h3⟩ := eqk x e he
      simp only [he]
      have stay : q' ≠ q → (∀ i ∈ rest, i < es.size) ∧ ∀ i, qs[i]? = some q → i ∈ rest := fun hne => by
        refine ⟨fun i hi => hl i (List.mem_cons_of_mem _ hi), fun i hi => ?_⟩
        rcases List.mem_cons.mp (hin i hi) with e' | h
        · subst e'
          rw [hi] at h1
          exact absurd (Option.some.inj h1).symm hne
        · exact h
      by_cases hh : (e.hash == q.hash w) = true
      · rw [if_pos hh]
        refine wpAny_bind (wpAny_dictEpoch ho hd (wpAny_bind (h3 _ (wpAny_bind (wpAny_dictEpoch ho hd ?_)))))
        show wpAny _ _ (if (ep != ep) = true then _ else _) _ E _
        rw [if_neg (by simp)]
        by_cases hqq : q' = q
        · rw [decide_eq_true hqq]
          subst hqq
          exact wpAny_bind (wpAny_rule (wpAny_pure (wpAny_pure (hsome x h1))))
        · rw [decide_eq_false hqq]
          exact wpAny_bind (wpAny_rule (wpAny_pure ⟨rfl, rfl, stay hqq⟩))
      · rw [if_neg hh]
        refine wpAny_pure ⟨rfl, rfl, stay fun z => hh ?_⟩
        rw [h2, z]; exact beq_self_eq_true _
    · rintro b s' ⟨rfl, rfl, _, hin⟩
      exact wpAny_pure (hnone fun hm => by
        obtain ⟨i, hi⟩ := List.mem_iff_getElem?.mp hm
        exact absurd (hin i hi) (by simp))
  have fullWalk : ∀ (tl : Bool), tl = false → ∀ (n : Nat), wpAny (model prog w) A (do
      let mut hit : Option Nat := none
      for i in placesWithHash es.size (fun i => es[i]?.map (·.hash)) (q.hash w) do
        if let some e := es[i]? then
          if e.hash == q.hash w then
            let before ← dictEpoch d (keyPart key)
            let same ← eqBool e.key key
            if (← dictEpoch d (keyPart key)) != before then unsupported "dict.changed-during-lookup"
            if same then
              if hit.isSome then unsupported "dict.find:order-among-keys-of-one-hash"
              rule "dict.find.hit"
              if n < 2 then return some i
              hit := some i
            else
              rule "dict.find.same-hash-other-key"
              if tl && !(0 ≤ q.hash w && q.hash w < 32) then unsupported "dict.find:asked-again-or-not-hangs-on-the-table"
      return hit) Q E s := by
    intro tl htl n
    subst htl
    refine wpAny_bind ?_
    refine wpAny_forIn_list _ (fun rest b s' => s' = s ∧ rest.Nodup ∧ (∀ i ∈ rest, i < es.size) ∧ ∃ hit, b = (none, hit) ∧
      ((hit = none ∧ ∀ i, qs[i]? = some q → i ∈ rest) ∨ ∃ j, hit = some j ∧ qs[j]? = some q ∧ j ∉ rest)) _ ?_ ?_ _ _
      ⟨rfl, (List.nodup_range).filter _, fun i hi => (places_mem.mp hi).1, none, rfl, .inl ⟨rfl, inplaces⟩⟩
    · rintro x rest b s' ⟨rfl, nd, hl, hit, rfl, hin⟩
      obtain ⟨e, he⟩ := entry x (hl x List.mem_cons_self)
      obtain ⟨q', h1, h2, h3⟩ := eqk x e he
      obtain ⟨nx, nd'⟩ := List.nodup_cons.mp nd
      have hl' : ∀ i ∈ rest, i < es.size := fun i hi => hl i (List.mem_cons_of_mem _ hi)
      simp only [he]
      have stay : q' ≠ q → ((hit = none ∧ ∀ i, qs[i]? = some q → i ∈ rest) ∨ ∃ j, hit = some j ∧ qs[j]? = some q ∧ j ∉ rest) := fun hne => by
        rcases hin with ⟨h0, hin⟩ | ⟨j, hj1, hj2, hj3⟩
        · refine .inl ⟨h0, fun i hi => ?_⟩
          rcases List.mem_cons.mp (hin i hi) with e' | h
          · subst e'
            rw [hi] at h1
            exact absurd (Option.some.inj h1).symm hne
          · exact h
        · exact .inr ⟨j, hj1, hj2, fun z => hj3 (List.mem_cons_of_mem _ z)⟩
      by_cases hh : (e.hash == q.hash w) = true
      · rw [if_pos hh]
        refine wpAny_bind (wpAny_dictEpoch ho hd (wpAny_bind (h3 _ (wpAny_bind (wpAny_dictEpoch ho hd ?_)))))
        show wpAny _ _ (if (ep != ep) = true then _ else _) _ E _
        rw [if_neg (by simp)]
        by_cases hqq : q' = q
        · rw [decide_eq_true hqq]
          subst hqq
          rcases hin with ⟨rfl, _⟩ | ⟨j, _, hj2, hj3⟩
          · refine wpAny_bind (wpAny_rule ?_)
            split
            · exact wpAny_pure (wpAny_pure (hsome x h1))
            · exact wpAny_pure ⟨rfl, nd', hl', some x, rfl, .inr ⟨x, rfl, h1, nx⟩⟩
          · exact absurd (List.mem_cons.mpr (.inl (uniq j x hj2 h1))) hj3
        · rw [decide_eq_false hqq]
          refine wpAny_bind (wpAny_rule ?_)
          exact wpAny_pure ⟨rfl, nd', hl', hit, rfl, stay hqq⟩
      · rw [if_neg hh]
        refine wpAny_pure ⟨rfl, nd', hl', hit, rfl, stay fun z => hh ?_⟩
        rw [h2, z]; exact beq_self_eq_true _
    · rintro b s' ⟨rfl, _, _, hit, rfl, hin⟩
      rcases hin with ⟨rfl, hin⟩ | ⟨j, rfl, hj2, _⟩
      · exact wpAny_pure (hnone fun hm => by
          obtain ⟨i, hi⟩ := List.mem_iff_getElem?.mp hm
          exact absurd (hin i hi) (by simp))
      · exact wpAny_pure (hsome j hj2)
  have key_ne : ∀ a, key = .ref a → ¬ (es.any fun e => e.key == key && e.hash != q.hash w) = true := fun a hka => by
    rw [← Array.any_toList, List.any_eq_true]
    rintro ⟨e, hin, hc⟩
    obtain ⟨i, hi⟩ := List.mem_iff_getElem?.mp hin
    obtain ⟨q', h1, h2, h3, h4⟩ := en.key i e (by simpa using hi)
    rw [Bool.and_eq_true, beq_iff_eq, bne_iff_ne] at hc
    rw [hc.1] at h2
    have : q' = q := NestedIs.inj _ _ _ h2 hk
    rw [this] at h3
    exact hc.2 h3
  dsimp only
  split
  · rename_i x t
    have hqx : q = .text x := by cases hk; rfl
    by_cases hall : (es.all fun e => isExactStrKey e.key) = true
    · -- only texts
      rw [if_pos hall]
      have allstr : ∀ (i : Nat) (e : DictEntry), es[i]? = some e → ∃ y u, e.key = .str y u ∧ qs[i]? = some (.text y) := fun i e he => by
        obtain ⟨q', h1, h2, _⟩ := en.key i e he
        have he' : e ∈ es.toList := List.mem_iff_getElem?.mpr ⟨i, by simpa using he⟩
        have hs : isExactStrKey e.key = true := by
          rw [← Array.all_toList, List.all_eq_true] at hall
          exact hall e he'
        generalize hkk : e.key = ek at h2 hs
        cases h2 with
        | none => cases hs
        | bool _ => cases hs
        | int _ _ => cases hs
        | text y u => exact ⟨y, u, rfl, h1⟩
        | tup _ _ _ _ => cases hs
      unfold foundByValue
      cases hf : es.findIdx? (·.key.isStr x) with
      | none =>
        refine wpAny_pure (hnone fun hm => ?_)
        obtain ⟨i, hi⟩ := List.mem_iff_getElem?.mp hm
        have hl : i < es.size := by rw [← en.len]; exact (List.getElem?_eq_some_iff.mp hi).1
        obtain ⟨e, he⟩ := entry i hl
        obtain ⟨y, u, h1, h2⟩ := allstr i e he
        rw [hi, hqx] at h2
        have hy : x = y := by injection (Option.some.inj h2)
        have := Array.findIdx?_eq_none_iff.mp hf e (Array.mem_of_getElem? he)
        rw [h1, hy] at this
        simp [Value.isStr] at this
      | some i =>
        obtain ⟨hl, hi, _⟩ := Array.findIdx?_eq_some_iff_getElem.mp hf
        have he : es[i]? = some es[i] := Array.getElem?_eq_getElem hl
        obtain ⟨y, u, h1, h2⟩ := allstr i es[i] he
        obtain ⟨q', k1, k2, k3⟩ := eqk i es[i] he
        have hxy : y = x := by rw [h1] at hi; simpa [Value.isStr] using hi
        have hqq : q' = q := by
          rw [k1] at h2
          rw [Option.some.inj h2, hqx, hxy]
        simp only [he]
        refine wpAny_bind (wpAny_dictEpoch ho hd (wpAny_bind (k3 _ (wpAny_bind (wpAny_dictEpoch ho hd ?_)))))
        show wpAny _ _ (if (ep != ep) = true then _ else _) _ E _
        rw [if_neg (by simp), decide_eq_true hqq]
        exact wpAny_bind (wpAny_rule (wpAny_pure (hsome i (by rw [k1, hqq]))))
    · rw [if_neg hall]
      by_cases hcv : ((Value.str x t :: (placesWithHash es.size (fun i => es[i]?.map (·.hash)) (q.hash w)).filterMap (fun i => es[i]?.map (·.key))).all carriedByValue) = true
      · rw [if_pos hcv]
        exact plainWalk
      · rw [if_neg hcv]
        by_cases hone : (((placesWithHash es.size (fun i => es[i]?.map (·.hash)) (q.hash w)).filterMap (fun i => es[i]?.map (·.key))) == [Value.str x t]) = true
        · rw [if_pos hone]
          refine wpAny_bind (wpAny_pure ?_)
          rw [if_neg (by simp)]
          exact fullWalk false rfl _
        · rw [if_neg hone]
          refine wpAny_bind (tells_no hk hq8 stored_is ?_)
          rw [if_neg (by simp)]
          exact fullWalk false rfl _
  · by_cases hcv : ((key :: (placesWithHash es.size (fun i => es[i]?.map (·.hash)) (q.hash w)).filterMap (fun i => es[i]?.map (·.key))).all carriedByValue) = true
    · rw [if_pos hcv]
      exact plainWalk
    · rw [if_neg hcv]
      split
      · rename_i a _
        rw [if_neg (key_ne a rfl)]
        by_cases hone : (((placesWithHash es.size (fun i => es[i]?.map (·.hash)) (q.hash w)).filterMap (fun i => es[i]?.map (·.key))) == [Value.ref a]) = true
        · rw [if_pos hone]
          refine wpAny_bind (wpAny_pure ?_)
          rw [if_neg (by simp)]
          exact fullWalk false rfl _
        · rw [if_neg hone]
          refine wpAny_bind (tells_no hk hq8 stored_is ?_)
          rw [if_neg (by simp)]
          exact fullWalk false rfl _
      · by_cases hone : (((placesWithHash es.size (fun i => es[i]?.map (·.hash)) (q.hash w)).filterMap (fun i => es[i]?.map (·.key))) == [key]) = true
        · rw [if_pos hone]
          refine wpAny_bind (wpAny_pure ?_)
          rw [if_neg (by simp)]
          exact fullWalk false rfl _
        · rw [if_neg hone]
          refine wpAny_bind (tells_no hk hq8 stored_is ?_)
          rw [if_neg (by simp)]
          exact fullWalk false rfl _
end
end Sw
end
section
set_option maxRecDepth 100000
set_option autoImplicit false
set_option maxHeartbeats 2000000
/-! SwI: dicts of any keys: the roads of Python to the look-up and the store. -/
namespace Sw
open CL
open PySem PySem.Spec PyProof.Rows L2
open PySem.SeqAt (EqAt)
section
variable {prog : Program} {w : World} {A : Around} {E : Value → Shared → Prop} {s : Shared} {d : Addr} {es : Array DictEntry} {ep : Nat} {qs : List NestedKey} {q : NestedKey} {key : Value}
abbrev dictObj (es : Array DictEntry) (ep : Nat) : Obj := { cls := .type "dict", data := .dict es ep }
theorem Ents.toks {h : Heap} (en : Ents w h es qs) : Ents w h es qs := en
theorem dget_any {Q : Option Value → Shared → Prop} (ho : s.heap.get? d = some (dictObj es ep)) (en : Ents w s.heap es qs) (hk : NestedIs s.heap q key) (hq8 : q.depth ≤ 8) (hu : A.units + 9 < cLine)
    (hnone : q ∉ qs → Q none { s with toks := s.toks + q.draws }) (hsome : ∀ (j : Nat) (e : DictEntry), qs[j]? = some q → es[j]? = some e → Q (some e.val) { s with toks := s.toks + q.draws }) : wpAny (model prog w) A (dictGet d key) Q E s := by
  unfold dictGet
  refine wpAny_holding ?_
  refine wpAny_bind (pyHash_key q key A s _ hk (by omega) ?_)
  refine wpAny_bind (find_any (s := { s with toks := s.toks + q.draws }) ho rfl en hk hq8 hu (fun h => wpAny_pure (hnone h)) fun j hj => ?_)
  refine wpAny_bind (wpAny_dictEntries (s := { s with toks := s.toks + q.draws }) ho rfl ?_)
  have hl : j < es.size := by rw [← en.len]; exact (List.getElem?_eq_some_iff.mp hj).1
  have he : es[j]? = some es[j] := Array.getElem?_eq_getElem hl
  rw [he]
  exact wpAny_pure (hsome j _ hj he)
theorem dict_is (ho : s.heap.get? d = some (dictObj es ep)) : s.TypeIs (.ref d) "dict" := ⟨_, ho, rfl⟩
theorem contains_any {Q : Bool → Shared → Prop} (ho : s.heap.get? d = some (dictObj es ep)) (en : Ents w s.heap es qs) (hk : NestedIs s.heap q key) (hq8 : q.depth ≤ 8) (hu : A.units + 12 < cLine) (hd : (d == sysModules) = false)
    (h : Q (decide (q ∈ qs)) { s with toks := s.toks + q.draws }) : wpAny (model prog w) A (contains (.ref d) key) Q E s := by
  unfold contains
  refine wpAny_holding ?_
  refine wpAny_bind (wpAny_specialOf (dict_is ho) slot_dict_contains.lookup ?_)
  show wpAny _ _ (if (some (Value.builtin "dict.__contains__") == some Value.none) = true then _ else _) _ E s
  rw [if_neg (by rw [beq_builtin_none]; exact Bool.false_ne_true)]
  refine wpAny_bind (wpAny_callSpecialUnlessNone?_slot (name := Str.ofString "__contains__") (dict_is ho) slot_dict_contains
    (wpAny_call_entry slot_dict_contains (dict_is ho) entry_dict_contains ?_ (args_dict_contains _ _)))
  show wpAny _ _ (dictGet d key >>= _) _ _ s
  refine wpAny_bind (dget_any ho en hk hq8 (by show A.units + 1 + 9 < _; omega) (fun hn => ?_) fun j e hj he => ?_)
  · rw [decide_eq_false hn] at h
    show wpAny _ _ (Builtin.Dict.pendingKey? d key >>= _) _ _ _
    exact wpAny_bind (wpAny_pendingKey_other hd (wpAny_pure ⟨_, rfl, wpAny_truthy_bool h⟩))
  · rw [decide_eq_true (List.mem_iff_getElem?.mpr ⟨j, hj⟩)] at h
    show wpAny _ _ (ret (.bool true)) _ _ _
    exact wpAny_pure ⟨_, rfl, wpAny_truthy_bool h⟩
theorem in_any {Q : Value → Shared → Prop} (ho : s.heap.get? d = some (dictObj es ep)) (en : Ents w s.heap es qs) (hk : NestedIs s.heap q key) (hq8 : q.depth ≤ 8) (hu : A.units + 12 < cLine) (hd : (d == sysModules) = false)
    (h : Q (.bool (decide (q ∈ qs))) { s with toks := s.toks + q.draws }) : wpAny (model prog w) A (compareOp .In key (.ref d)) Q E s := by
  show wpAny _ _ (do return .bool (← contains (.ref d) key)) Q E s
  exact wpAny_bind (contains_any ho en hk hq8 hu hd (wpAny_pure h))
theorem notin_any {Q : Value → Shared → Prop} (ho : s.heap.get? d = some (dictObj es ep)) (en : Ents w s.heap es qs) (hk : NestedIs s.heap q key) (hq8 : q.depth ≤ 8) (hu : A.units + 12 < cLine) (hd : (d == sysModules) = false)
    (h : Q (.bool (!decide (q ∈ qs))) { s with toks := s.toks + q.draws }) : wpAny (model prog w) A (compareOp .NotIn key (.ref d)) Q E s := by
  show wpAny _ _ (do return .bool (!(← contains (.ref d) key))) Q E s
  exact wpAny_bind (contains_any ho en hk hq8 hu hd (wpAny_pure h))
theorem getItem_any {Q : Value → Shared → Prop} {j : Nat} {e : DictEntry} (ho : s.heap.get? d = some (dictObj es ep)) (en : Ents w s.heap es qs) (hk : NestedIs s.heap q key) (hq8 : q.depth ≤ 8) (hu : A.units + 12 < cLine)
    (hj : qs[j]? = some q) (he : es[j]? = some e) (h : Q e.val { s with toks := s.toks + q.draws }) : wpAny (model prog w) A (getItem (.ref d) key) Q E s := by
  unfold getItem
  refine wpAny_holding ?_
  refine wpAny_bind (wpAny_sequenceKey (dict_is ho) (by decide) ?_)
  refine wpAny_bind (wpAny_callSpecial?_slot (name := Str.ofString "__getitem__") (dict_is ho) slot_dict_getitem
    (wpAny_call_entry slot_dict_getitem (dict_is ho) entry_dict_getitem ?_ (args_dict_getitem _ _)))
  show wpAny _ _ (dictGet d key >>= _) _ _ s
  refine wpAny_bind (dget_any ho en hk hq8 (by show A.units + 1 + 9 < _; omega) (fun hn => absurd (List.mem_iff_getElem?.mpr ⟨j, hj⟩) hn) fun j' e' hj' he' => ?_)
  have : j' = j := (List.getElem?_inj (List.getElem?_eq_some_iff.mp hj').1 en.nd).mp (hj'.trans hj.symm)
  subst this
  rw [he] at he'; cases he'
  exact wpAny_pure ⟨e.val, rfl, wpAny_pure h⟩
/-- the object behind a store -/
theorem dset_any {v : Value} {Q : Unit → Shared → Prop} (ho : s.heap.get? d = some (dictObj es ep)) (en : Ents w s.heap es qs) (hk : NestedIs s.heap q key) (hq8 : q.depth ≤ 8) (hu : A.units + 9 < cLine) (hz : es.size ≤ sizeLine)
    (hnew : q ∉ qs → ∀ h' ep', Heap.SameBut d s.heap h' → h'.get? d = some (dictObj (es.push ⟨q.hash w, key, v⟩) ep') → Q () { s with heap := h', toks := s.toks + q.draws })
    (hold : ∀ (j : Nat), qs[j]? = some q → ∀ h' ep', Heap.SameBut d s.heap h' → h'.get? d = some (dictObj (es.modify j fun e => { e with val := v }) ep') → Q () { s with heap := h', toks := s.toks + q.draws }) :
    wpAny (model prog w) A (dictSet d key v) Q E s := by
  unfold dictSet
  refine wpAny_holding ?_
  refine wpAny_bind (pyHash_key q key A s _ hk (by omega) ?_)
  unfold dictSetHashed
  refine wpAny_holding ?_
  refine wpAny_bind (find_any (s := { s with toks := s.toks + q.draws }) ho rfl en hk hq8 hu (fun hn => ?_) fun j hj => ?_)
  · refine wpAny_bind (wpAny_rule (wpAny_updateDictKeys (hz := hz) (s := { s with toks := s.toks + q.draws }) ho rfl (hnew hn _ (ep + 1) (Heap.SameBut.update ..) ?_)))
    exact Heap.get?_update_self _ ho rfl
  · refine wpAny_bind (wpAny_rule (wpAny_bind (wpAny_updateDict (s := { s with toks := s.toks + q.draws }) ho rfl (wpAny_point (hold j hj _ ep (Heap.SameBut.update ..) ?_)))))
    exact Heap.get?_update_self _ ho rfl
theorem setItem_any {v : Value} {Q : Unit → Shared → Prop} (ho : s.heap.get? d = some (dictObj es ep)) (en : Ents w s.heap es qs) (hk : NestedIs s.heap q key) (hq8 : q.depth ≤ 8) (hu : A.units + 12 < cLine) (hz : es.size ≤ sizeLine)
    (hnew : q ∉ qs → ∀ h' ep', Heap.SameBut d s.heap h' → h'.get? d = some (dictObj (es.push ⟨q.hash w, key, v⟩) ep') → Q () { s with heap := h', toks := s.toks + q.draws })
    (hold : ∀ (j : Nat), qs[j]? = some q → ∀ h' ep', Heap.SameBut d s.heap h' → h'.get? d = some (dictObj (es.modify j fun e => { e with val := v }) ep') → Q () { s with heap := h', toks := s.toks + q.draws }) :
    wpAny (model prog w) A (setItem (.ref d) key v) Q E s := by
  unfold setItem
  refine wpAny_holding ?_
  refine wpAny_bind (wpAny_sequenceKey (dict_is ho) (by decide) ?_)
  refine wpAny_bind (wpAny_callSpecial?_slot (name := Str.ofString "__setitem__") (dict_is ho) slot_dict_setitem
    (wpAny_call_entry slot_dict_setitem (dict_is ho) entry_dict_setitem ?_ (args_dict_setitem _ _ _)))
  show wpAny _ _ (Builtin.Dict.notOrdered "__setitem__" ⟨[.ref d, key, v], []⟩ >>= _) _ _ s
  refine wpAny_bind (wpAny_notOrdered_dict (dict_is ho) ?_)
  show wpAny _ _ (dictSet d key v >>= _) _ _ s
  exact wpAny_bind (dset_any ho en hk hq8 (by show A.units + 1 + 9 < _; omega) hz (fun hn h' ep' hs hg => wpAny_pure ⟨.none, rfl, wpAny_pure (hnew hn h' ep' hs hg)⟩) fun j hj h' ep' hs hg => wpAny_pure ⟨.none, rfl, wpAny_pure (hold j hj h' ep' hs hg)⟩)
end

/-! ### keys -/
section
variable {g : Gd} {ι : CL}
mutual
theorem Rep.nested {X : Cx} {pins : List (Addr × Obj)} {σ : L2.St} {H H' : Hp} {s : Shared} (I : Inv X pins σ H s) (hH : Same H' H) : ∀ (w : W) (v : V) (u : Value) (q : NestedKey), Rep (gd X) ι H' w v → keyOf w = some q → RelV v u → NestedIs s.heap q u
  | .non, v, u, q, h, e, r => by
    have h : v = .non := h
    subst h; cases r; cases e; exact .none
  | .bl b, v, u, q, h, e, r => by
    have h : v = .bl b := h
    subst h; cases r; cases e; exact .bool rfl
  | .int i, v, u, q, h, e, r => by
    have h : v = .int i := h
    subst h; obtain ⟨t, rfl⟩ := r; cases e; exact .int _ _
  | .str x, v, u, q, h, e, r => by
    have h : v = .str x := h
    subst h; obtain ⟨t, rfl⟩ := r; cases e; exact .text _ _
  | .tup xs, v, u, q, h, e, r => by
    obtain ⟨a, vs, rfl, hs, hr⟩ := h
    cases r
    simp only [keyOf, Option.map_eq_some_iff] at e
    obtain ⟨ks, e1, rfl⟩ := e
    have hs' : SqT X.K H a vs := by
      rcases hs with (z | ⟨o, z⟩) | z
      · exact .inl (.inl (hH _ _ z))
      · exact .inl (.inr ⟨o, hH _ _ z⟩)
      · exact .inr z
    obtain ⟨its, rv, ⟨o, ho, hc, m, hd⟩, hz⟩ := I.tuple hs'
    exact .tup ho hc hd (by simpa using Reps.nested I hH xs vs its ks hr e1 rv)
  | .lst _, v, u, q, h, e, r => by simp [keyOf] at e
  | .dic _ _, v, u, q, h, e, r => by simp [keyOf] at e
  | .cell _, v, u, q, h, e, r => by simp [keyOf] at e
  | .fn _, v, u, q, h, e, r => by simp [keyOf] at e
  | .cls _, v, u, q, h, e, r => by simp [keyOf] at e
  | .exc _ _, v, u, q, h, e, r => by simp [keyOf] at e
  | .ty _, v, u, q, h, e, r => by simp [keyOf] at e
  | .ins _ _ _, v, u, q, h, e, r => by simp [keyOf] at e
  | .lok _, v, u, q, h, e, r => by simp [keyOf] at e
theorem Reps.nested {X : Cx} {pins : List (Addr × Obj)} {σ : L2.St} {H H' : Hp} {s : Shared} (I : Inv X pins σ H s) (hH : Same H' H) : ∀ (ws : List W) (vs : List V) (us : List Value) (qs : List NestedKey), Reps (gd X) ι H' ws vs → keysOf ws = some qs → Vals vs us → NestedAll s.heap qs us
  | [], vs, us, qs, h, e, r => by
    have h : vs = [] := h
    subst h; cases r; cases e; exact .nil
  | x :: xs, vs, us, qs, h, e, r => by
    obtain ⟨v, t, rfl, h1, h2⟩ := h
    cases r with
    | cons r1 r2 =>
      simp only [keysOf] at e
      split at e
      · cases e
        exact .cons (Rep.nested I hH x v _ _ h1 (by assumption) r1) (Reps.nested I hH xs t _ _ h2 (by assumption) r2)
      · cases e
end
theorem keysOf_len : ∀ {ks : List W} {qs : List NestedKey}, keysOf ks = some qs → qs.length = ks.length
  | [], qs, e => by cases e; rfl
  | x :: xs, qs, e => by
    simp only [keysOf] at e
    split at e
    · cases e
      simp only [List.length_cons]
      rw [keysOf_len (by assumption)]
    · cases e
theorem nestedAll_get {h : Heap} : ∀ {qs : List NestedKey} {us : List Value} {i : Nat} {u : Value}, NestedAll h qs us → us[i]? = some u → ∃ q, qs[i]? = some q ∧ NestedIs h q u
  | _, _, 0, u, .cons h1 h2, e => by
    simp at e; subst e
    exact ⟨_, rfl, h1⟩
  | _, _, i + 1, u, .cons h1 h2, e => by
    obtain ⟨q, h3, h4⟩ := nestedAll_get (i := i) h2 (by simpa using e)
    exact ⟨q, by simpa using h3, h4⟩
  | _, _, _, u, .nil, e => by simp at e
/-- a dict of the mini language: its entries -/
theorem ents_of {X : Cx} {pins : List (Addr × Obj)} {σ : L2.St} {H H' : Hp} {s : Shared} (I : Inv X pins σ H s) (hH : Same H' H) {d : Addr} {ks : List W} {es : List DictEntry} {kv : List V} {qs : List NestedKey} (ok : DicOk X.w d ks es)
    (hr : Reps (gd X) ι H' ks kv) (hv : Vals kv (es.map (·.key))) (e : keysOf ks = some qs) : Ents X.w s.heap es.toArray qs := by
  obtain ⟨qs', e', h1, h2, h3⟩ := ok.keys
  rw [e] at e'; cases e'
  have hl : qs.length = es.length := by
    have := congrArg List.length h1
    simpa using this.symm
  have na := Reps.nested I hH ks kv _ qs hr e hv
  refine ⟨by simpa using hl, fun i en he => ?_, h2⟩
  have he : es[i]? = some en := by simpa using he
  obtain ⟨q, hq, hn⟩ := nestedAll_get (i := i) (u := en.key) na (by rw [List.getElem?_map, he]; rfl)
  refine ⟨q, hq, hn, ?_, h3 q (List.mem_of_getElem? hq)⟩
  have := congrArg (fun l => l[i]?) h1
  simp only [List.getElem?_map, he, hq, Option.map_some] at this
  exact Option.some.inj this
theorem look_none : ∀ {ks us : List W} {qs : List NestedKey} {q : NestedKey}, keysOf ks = some qs → q ∉ qs → look q ks us = none
  | [], us, qs, q, e, h => by cases us <;> rfl
  | x :: xs, [], qs, q, e, h => rfl
  | x :: xs, u :: us, qs, q, e, h => by
    simp only [keysOf] at e
    split at e
    · rename_i k ks' e1 e2
      cases e
      simp only [List.mem_cons, not_or] at h
      simp only [look]
      rw [if_neg (by rw [e1]; exact fun z => h.1 (Option.some.inj z).symm)]
      exact look_none e2 h.2
    · cases e
theorem look_at : ∀ {ks us : List W} {qs : List NestedKey} {q : NestedKey} {j : Nat}, keysOf ks = some qs → qs.Nodup → us.length = ks.length → qs[j]? = some q → look q ks us = us[j]?
  | [], us, qs, q, j, e, nd, hl, hj => by cases e; simp at hj
  | x :: xs, [], qs, q, j, e, nd, hl, hj => by simp at hl
  | x :: xs, u :: us, qs, q, j, e, nd, hl, hj => by
    simp only [keysOf] at e
    split at e
    · rename_i k ks' e1 e2
      cases e
      obtain ⟨n1, n2⟩ := List.nodup_cons.mp nd
      simp only [look]
      cases j with
      | zero =>
        have hj : k = q := by simpa using hj
        rw [if_pos (by rw [e1, hj])]
        rfl
      | succ j =>
        have hj : ks'[j]? = some q := by simpa using hj
        rw [if_neg (by rw [e1]; exact fun z => n1 (Option.some.inj z ▸ List.mem_of_getElem? hj))]
        simpa using look_at e2 n2 (by simpa using hl) hj
    · cases e
theorem put_none : ∀ {ks us : List W} {qs : List NestedKey} {q : NestedKey} {w v : W}, keysOf ks = some qs → us.length = ks.length → q ∉ qs → put q w v ks us = (ks ++ [w], us ++ [v])
  | [], [], qs, q, w, v, e, hl, h => rfl
  | [], _ :: _, qs, q, w, v, e, hl, h => by simp at hl
  | x :: xs, [], qs, q, w, v, e, hl, h => by simp at hl
  | x :: xs, u :: us, qs, q, w, v, e, hl, h => by
    simp only [keysOf] at e
    split at e
    · rename_i k ks' e1 e2
      cases e
      simp only [List.mem_cons, not_or] at h
      simp only [put]
      rw [if_neg (by rw [e1]; exact fun z => h.1 (Option.some.inj z).symm), put_none e2 (by simpa using hl) h.2]
      rfl
    · cases e
theorem put_at : ∀ {ks us : List W} {qs : List NestedKey} {q : NestedKey} {w v : W} {j : Nat}, keysOf ks = some qs → qs.Nodup → us.length = ks.length → qs[j]? = some q → put q w v ks us = (ks, us.set j v)
  | [], us, qs, q, w, v, j, e, nd, hl, hj => by cases e; simp at hj
  | x :: xs, [], qs, q, w, v, j, e, nd, hl, hj => by simp at hl
  | x :: xs, u :: us, qs, q, w, v, j, e, nd, hl, hj => by
    simp only [keysOf] at e
    split at e
    · rename_i k ks' e1 e2
      cases e
      obtain ⟨n1, n2⟩ := List.nodup_cons.mp nd
      simp only [put]
      cases j with
      | zero =>
        have hj : k = q := by simpa using hj
        rw [if_pos (by rw [e1, hj])]
        rfl
      | succ j =>
        have hj : ks'[j]? = some q := by simpa using hj
        rw [if_neg (by rw [e1]; exact fun z => n1 (Option.some.inj z ▸ List.mem_of_getElem? hj)), put_at e2 n2 (by simpa using hl) hj]
        rfl
    · cases e
theorem keysOf_app : ∀ {ks ls : List W} {qs rs : List NestedKey}, keysOf ks = some qs → keysOf ls = some rs → keysOf (ks ++ ls) = some (qs ++ rs)
  | [], ls, qs, rs, e, f => by cases e; exact f
  | x :: xs, ls, qs, rs, e, f => by
    simp only [keysOf] at e
    split at e
    · rename_i k ks' e1 e2
      cases e
      rw [List.cons_append]
      simp only [keysOf, e1, keysOf_app e2 f]
      rfl
    · cases e
end
end Sw
end
section
set_option maxRecDepth 100000
set_option autoImplicit false
set_option maxHeartbeats 2000000
/-! SwJ: comparisons. -/
namespace Sw
open CL
open PySem PySem.Spec PyProof.Rows L2
open PySem.SeqAt (EqAt)

theorem keyW_of {w : W} {q : NestedKey} (h : keyW w = some q) : pl 20 w = true ∧ keyOf w = some q ∧ q.depth ≤ 8 := by
  unfold keyW at h
  split at h
  · rename_i hp
    cases hk : keyOf w with
    | none => rw [hk] at h; cases h
    | some k =>
      rw [hk] at h
      have h : (if k.depth ≤ 8 then some k else none) = some q := h
      split at h
      · cases h; exact ⟨hp, rfl, by assumption⟩
      · cases h
  · cases h
section
variable {X : Cx} {pins : List (Addr × Obj)} {σ : L2.St} {H : Hp} {s : Shared} {ι : CL} {st : Store}
/-- what is known of a dict -/
structure Dic (X : Cx) (H : Hp) (h : Heap) (ι : CL) (d : Addr) (ks us : List W) (es : List DictEntry) (qs : List NestedKey) : Prop where
  at_ : HasD H d es
  obj : ∃ ep, h.get? d = some (dictObj es.toArray ep)
  ents : Ents X.w h es.toArray qs
  keys : keysOf ks = some qs
  ok : DicOk X.w d ks es
  kr : ∃ kv, Reps (gd X) ι (msk H ι) ks kv ∧ Vals kv (es.map (·.key))
  ur : ∃ uv, Reps (gd X) ι (msk H ι) us uv ∧ Vals uv (es.map (·.val))
  lk : ks.length = es.length
  lu : us.length = es.length
theorem dic_of (I : Inv X pins σ H s) {d : Addr} {ks us : List W} {es : List DictEntry} {kv uv : List V} (hd : HasD H d es) (ok : DicOk X.w d ks es) (r1 : Reps (gd X) ι (msk H ι) ks kv) (r2 : Reps (gd X) ι (msk H ι) us uv)
    (v1 : Vals kv (es.map (·.key))) (v2 : Vals uv (es.map (·.val))) : ∃ qs, Dic X H s.heap ι d ks us es qs := by
  obtain ⟨qs, hq, h1, h2, h3⟩ := ok.keys
  have l1 := r1.len
  have l2 := r2.len
  have l3 := v1.length
  have l4 := v2.length
  rw [List.length_map] at l3 l4
  exact ⟨qs, hd, rdD I hd, ents_of I msk_same ok r1 v1 hq, hq, ok, ⟨kv, r1, v1⟩, ⟨uv, r2, v2⟩, by omega, by omega⟩
theorem see_dict (I : Inv X pins σ H s) (S : SR (gd X) ι H st) {w : W} {v : V} (r : Rep (gd X) ι (msk H ι) w v) {ks us : List W} (e : see st w = .dic ks us) : ∃ d es qs, v = .ref d ∧ Dic X H s.heap ι d ks us es qs := by
  obtain ⟨d, es, kv, uv, h1, h2, h3, h4, h5, h6, h7⟩ := see_dic S r e
  obtain ⟨qs, D⟩ := dic_of I h2 h3 h4 h5 h6 h7
  exact ⟨d, es, qs, h1, D⟩
theorem Dic.look {h : Heap} {d : Addr} {ks us : List W} {es : List DictEntry} {qs : List NestedKey} (D : Dic X H h ι d ks us es qs) (q : NestedKey) :
    (q ∉ qs ∧ look q ks us = none) ∨ ∃ (j : Nat) (w : W) (u : V) (e : DictEntry), qs[j]? = some q ∧ look q ks us = some w ∧ es[j]? = some e ∧ Rep (gd X) ι (msk H ι) w u ∧ RelV u e.val := by
  by_cases hm : q ∈ qs
  · obtain ⟨j, hj⟩ := List.mem_iff_getElem?.mp hm
    have hl : j < es.length := by
      have := (List.getElem?_eq_some_iff.mp hj).1
      have := D.ents.len
      simp at this
      omega
    obtain ⟨uv, r, v⟩ := D.ur
    have hl' : j < us.length := by rw [D.lu]; exact hl
    have hu : us[j]? = some us[j] := List.getElem?_eq_getElem hl'
    obtain ⟨x, hx, rx⟩ := r.get hu
    have he : es[j]? = some es[j] := List.getElem?_eq_getElem hl
    obtain ⟨z, hz, rz⟩ := v.get hx
    rw [List.getElem?_map, he] at hz
    cases hz
    refine .inr ⟨j, us[j], x, es[j], hj, ?_, he, rx, rz⟩
    rw [look_at D.keys D.ents.nd (by rw [D.lu, D.lk]) hj]
    exact hu
  · exact .inl ⟨hm, look_none D.keys hm⟩
/-- plain data, read off the heap -/
theorem reads_of (I : Inv X pins σ H s) (S : SR (gd X) ι H st) {w d : W} {v : V} {u : Value} (r : Rep (gd X) ι (msk H ι) w v) (e : data st w = some d) (rv : RelV v u) :
    (∃ as, Reads s.heap u (toPy d) as) ∧ (toPy d).plain = true ∧ (toPy d).depth ≤ 20 := by
  obtain ⟨h1, h2⟩ := data_rep S r e
  exact ⟨Rep.reads I 20 d v u (pd_of_pl _ _ h2) h1 rv, plain_of_pl _ _ h2, depth_of_pd _ _ (pd_of_pl _ _ h2)⟩
theorem readsD_of (I : Inv X pins σ H s) (S : SR (gd X) ι H st) {w d : W} {v : V} {u : Value} (r : Rep (gd X) ι (msk H ι) w v) (e : dataD st w = some d) (rv : RelV v u) :
    (∃ as, Reads s.heap u (toPy d) as) ∧ (toPy d).depth ≤ 20 := by
  obtain ⟨h1, h2⟩ := dataD_rep S r e
  exact ⟨Rep.reads I 20 d v u h2 h1 rv, depth_of_pd _ _ h2⟩
end

/-! ### is -/
section
variable {X : Cx}
theorem op_isB : OpR X (compareOp .Is) (fun x y H Q => ∃ b, y = .bl b ∧ Q (.bl (decide (x = .bl b))) H) := by
  intro pins s σ H x y v u Q I rx ry ⟨b, hy, q⟩
  subst hy; cases ry
  cases x with
  | bl c =>
    cases rx
    by_cases e : c = b
    · subst e
      exact wpAny_is_self rfl ⟨.bl true, H, I, rfl, by simpa using q⟩
    · exact wpAny_is_other rfl (fun z => e (Value.bool.inj z)) ⟨.bl false, H, I, rfl, by simpa [e] using q⟩
  | non => cases rx; exact wpAny_pure ⟨.bl false, H, I, rfl, by simpa using q⟩
  | int i => obtain ⟨t, rfl⟩ := rx; exact wpAny_pure ⟨.bl false, H, I, rfl, by simpa using q⟩
  | str i => obtain ⟨t, rfl⟩ := rx; exact wpAny_pure ⟨.bl false, H, I, rfl, by simpa using q⟩
  | byt i => obtain ⟨t, rfl⟩ := rx; exact wpAny_pure ⟨.bl false, H, I, rfl, by simpa using q⟩
  | flt i => obtain ⟨t, rfl⟩ := rx; exact wpAny_pure ⟨.bl false, H, I, rfl, by simpa using q⟩
  | ref a => cases rx; exact wpAny_pure ⟨.bl false, H, I, rfl, by simpa using q⟩
  | ty n => cases rx; exact wpAny_pure ⟨.bl false, H, I, rfl, by simpa using q⟩
theorem op_isnotB : OpR X (compareOp .IsNot) (fun x y H Q => ∃ b, y = .bl b ∧ Q (.bl (!decide (x = .bl b))) H) := by
  intro pins s σ H x y v u Q I rx ry ⟨b, hy, q⟩
  subst hy; cases ry
  cases x with
  | bl c =>
    cases rx
    by_cases e : c = b
    · subst e
      exact wpAny_isNot_self rfl ⟨.bl false, H, I, rfl, by simpa using q⟩
    · exact wpAny_isNot_other rfl (fun z => e (Value.bool.inj z)) ⟨.bl true, H, I, rfl, by simpa [e] using q⟩
  | non => cases rx; exact wpAny_pure ⟨.bl true, H, I, rfl, by simpa using q⟩
  | int i => obtain ⟨t, rfl⟩ := rx; exact wpAny_pure ⟨.bl true, H, I, rfl, by simpa using q⟩
  | str i => obtain ⟨t, rfl⟩ := rx; exact wpAny_pure ⟨.bl true, H, I, rfl, by simpa using q⟩
  | byt i => obtain ⟨t, rfl⟩ := rx; exact wpAny_pure ⟨.bl true, H, I, rfl, by simpa using q⟩
  | flt i => obtain ⟨t, rfl⟩ := rx; exact wpAny_pure ⟨.bl true, H, I, rfl, by simpa using q⟩
  | ref a => cases rx; exact wpAny_pure ⟨.bl true, H, I, rfl, by simpa using q⟩
  | ty n => cases rx; exact wpAny_pure ⟨.bl true, H, I, rfl, by simpa using q⟩
/-- what is says, seen from the machine -/
theorem isW_V {g : Gd} {ι : CL} {H : Hp} {wx : W} {x : V} (r : Rep g ι H wx x) : isNon wx = decide (x = .non) := by
  cases wx with
  | non => have r : x = .non := r; subst r; rfl
  | bl b => have r : x = .bl b := r; subst r; rfl
  | int b => have r : x = .int b := r; subst r; rfl
  | str b => have r : x = .str b := r; subst r; rfl
  | tup xs => obtain ⟨a, vs, rfl, _⟩ := r; rfl
  | lst xs => obtain ⟨a, vs, rfl, _⟩ := r; rfl
  | dic ks us => obtain ⟨a, es, kv, uv, rfl, _⟩ := r; rfl
  | cell n => obtain ⟨a, _, rfl⟩ := r; rfl
  | fn f => obtain ⟨a, rfl, _⟩ := r; rfl
  | cls f => obtain ⟨a, rfl, _⟩ := r; rfl
  | exc c v => obtain ⟨e, C, dx, u, rfl, _⟩ := r; rfl
  | ty n => have r : x = .ty n := r; subst r; rfl
  | ins _ _ _ => exact r.elim
  | lok _ => exact r.elim
theorem isW_B {g : Gd} {ι : CL} {H : Hp} {wx : W} {x : V} (b : Bool) (r : Rep g ι H wx x) : isBo b wx = decide (x = .bl b) := by
  cases wx with
  | non => have r : x = .non := r; subst r; rfl
  | bl c => have r : x = .bl c := r; subst r; cases c <;> cases b <;> rfl
  | int b => have r : x = .int b := r; subst r; rfl
  | str b => have r : x = .str b := r; subst r; rfl
  | tup xs => obtain ⟨a, vs, rfl, _⟩ := r; rfl
  | lst xs => obtain ⟨a, vs, rfl, _⟩ := r; rfl
  | dic ks us => obtain ⟨a, es, kv, uv, rfl, _⟩ := r; rfl
  | cell n => obtain ⟨a, _, rfl⟩ := r; rfl
  | fn f => obtain ⟨a, rfl, _⟩ := r; rfl
  | cls f => obtain ⟨a, rfl, _⟩ := r; rfl
  | exc c v => obtain ⟨e, C, dx, u, rfl, _⟩ := r; rfl
  | ty n => have r : x = .ty n := r; subst r; rfl
  | ins _ _ _ => exact r.elim
  | lok _ => exact r.elim
end
end Sw
end
section
set_option maxRecDepth 100000
set_option autoImplicit false
set_option maxHeartbeats 2000000
/-! SwK: comparisons, joined. -/
namespace Sw
open CL
open PySem PySem.Spec PyProof.Rows L2
open PySem.SeqAt (EqAt)

def copOf : Cop → CmpOp
  | .eq => .Eq | .ne => .NotEq | .lt => .Lt | .le => .LtE | .gt => .Gt | .ge => .GtE | .is => .Is | .isnot => .IsNot | .inn => .In | .notin => .NotIn
/-- a two-place test -/
def cmR (g : Gd) (f : W → W → Store → Option Bool) : R2 := fun x y H Q => ∃ ι st wx wy b, SR g ι H st ∧ Rep g ι (msk H ι) wx x ∧ Rep g ι (msk H ι) wy y ∧ f wx wy st = some b ∧ Q (.bl b) H
section
variable {X : Cx}
theorem op_cmI (o : Cop) : OpR X (compareOp (copOf o)) (fun x y H Q => ∃ i j b, x = .int i ∧ y = .int j ∧ cmpI o i j = some b ∧ Q (.bl b) H) := by
  intro pins s σ H x y v u Q I rx ry ⟨i, j, b, hx, hy, e, q⟩
  subst hx hy
  cases o <;> simp only [cmpI, Option.some.injEq, reduceCtorEq] at e
  · subst e; obtain ⟨t, rfl⟩ := rx; obtain ⟨t', rfl⟩ := ry
    exact eq_int ⟨.bl (decide (i = j)), H, I, by rw [show (i == j) = decide (i = j) from rfl]; rfl, q⟩
  · subst e; obtain ⟨t, rfl⟩ := rx; obtain ⟨t', rfl⟩ := ry
    exact ne_int ⟨.bl (!decide (i = j)), H, I, by rw [show (i != j) = !decide (i = j) from rfl]; rfl, q⟩
  · subst e; exact op_lt pins s σ H _ _ v u Q I rx ry ⟨i, j, rfl, rfl, q⟩
  · subst e; exact op_le pins s σ H _ _ v u Q I rx ry ⟨i, j, rfl, rfl, q⟩
  · subst e; exact op_gt pins s σ H _ _ v u Q I rx ry ⟨i, j, rfl, rfl, q⟩
  · subst e; exact op_ge pins s σ H _ _ v u Q I rx ry ⟨i, j, rfl, rfl, q⟩
theorem op_isW : OpR X (compareOp .Is) (cmR (gd X) fun x y _ => isW x y) := by
  intro pins s σ H x y v u Q I rx ry ⟨ι, st, wx, wy, b, S, hx, hy, e, q⟩
  dsimp only at e
  unfold isW at e
  split at e
  · have hy : y = .non := hy
    cases e
    rw [isW_V hx] at q
    exact op_isN pins s σ H x y v u Q I rx ry ⟨hy, q⟩
  · have hy : y = .bl _ := hy
    cases e
    rw [isW_B _ hx] at q
    exact op_isB pins s σ H x y v u Q I rx ry ⟨_, hy, q⟩
  · cases e
theorem op_isnotW : OpR X (compareOp .IsNot) (cmR (gd X) fun x y _ => (isW x y).map (!·)) := by
  intro pins s σ H x y v u Q I rx ry ⟨ι, st, wx, wy, b, S, hx, hy, e, q⟩
  dsimp only at e
  obtain ⟨c, e', hb'⟩ := Option.map_eq_some_iff.mp e
  clear e
  subst hb'
  have e := e'
  clear e'
  unfold isW at e
  split at e
  · have hy : y = .non := hy
    cases e
    rw [isW_V hx] at q
    exact op_notN pins s σ H x y v u Q I rx ry ⟨hy, q⟩
  · have hy : y = .bl _ := hy
    cases e
    rw [isW_B _ hx] at q
    exact op_isnotB pins s σ H x y v u Q I rx ry ⟨_, hy, q⟩
  · cases e
theorem toPys_any (d : W) : ∀ ys : List W, (toPys ys).any (fun y => PyData.eqv y (toPy d)) = memW d ys
  | [] => rfl
  | y :: ys => by
    simp only [toPys, List.any_cons, memW, eqW]
    rw [toPys_any d ys]; rfl
theorem op_inW (hu : X.A.units + 200 < cLine) : OpR X (compareOp .In) (cmR (gd X) containsW) := by
  intro pins s σ H x y v u Q I rx ry ⟨ι, st, wx, wy, b, S, hx, hy, e, q⟩
  unfold containsW at e
  split at e
  · rename_i ks us e1
    obtain ⟨d, es, qs, rfl, D⟩ := see_dict I S hy e1
    cases ry
    cases hk : keyW wx with
    | none => rw [hk] at e; cases e
    | some k =>
      rw [hk] at e
      obtain ⟨k1, k2, k3⟩ := keyW_of hk
      have e : (look k ks us).isSome = b := Option.some.inj e
      obtain ⟨ep, ho⟩ := D.obj
      have hn := Rep.nested I msk_same wx x v k hx k2 rx
      refine in_any ho D.ents hn k3 (by omega) D.ok.sys ?_
      have hb : decide (k ∈ qs) = b := by
        rcases D.look k with ⟨h1, h2⟩ | ⟨j, w', u', e', h1, h2, _⟩
        · rw [h2] at e; rw [decide_eq_false h1]; exact e
        · rw [h2] at e; rw [decide_eq_true (List.mem_of_getElem? h1)]; exact e
      rw [hb]
      exact ⟨.bl _, H, I.tok _, rfl, q⟩
  · cases ha : data st wx with
    | none => rw [ha] at e; cases e
    | some a =>
      rw [ha] at e
      cases hc : data st wy with
      | none => rw [hc] at e; cases e
      | some c =>
        rw [hc] at e
        obtain ⟨⟨as, ra⟩, pa, da⟩ := reads_of I S hx ha rx
        obtain ⟨⟨cs, rc⟩, pc, dc⟩ := reads_of I S hy hc ry
        simp only [Option.bind_some] at e
        have hm : ∀ zs : List PyData, X.A.units + 1 + min (PyData.depthAll zs) (toPy a).depth < cLine := fun zs => by
          have := Nat.min_le_right (PyData.depthAll zs) (toPy a).depth
          omega
        split at e
        · cases e
          rename_i zs
          have pc : PyData.plainAll (toPys zs) = true := by simpa [toPy, PyData.plain] using pc
          refine PySem.SeqAt.in_list_data rc ra pc pa (hm _) ?_
          rw [toPys_any]
          exact ⟨.bl _, H, I, rfl, q⟩
        · cases e
          rename_i zs
          have pc : PyData.plainAll (toPys zs) = true := by simpa [toPy, PyData.plain] using pc
          refine PySem.SeqAt.in_tuple_data rc ra pc pa (hm _) ?_
          rw [toPys_any]
          exact ⟨.bl _, H, I, rfl, q⟩
        · cases e
theorem op_notinW (hu : X.A.units + 200 < cLine) : OpR X (compareOp .NotIn) (cmR (gd X) fun x y st => (containsW x y st).map (!·)) := by
  intro pins s σ H x y v u Q I rx ry ⟨ι, st, wx, wy, b, S, hx, hy, e, q⟩
  dsimp only at e
  obtain ⟨b, e', hb'⟩ := Option.map_eq_some_iff.mp e
  clear e
  subst hb'
  have e := e'
  clear e'
  unfold containsW at e
  split at e
  · rename_i ks us e1
    obtain ⟨d, es, qs, rfl, D⟩ := see_dict I S hy e1
    cases ry
    cases hk : keyW wx with
    | none => rw [hk] at e; cases e
    | some k =>
      rw [hk] at e
      obtain ⟨k1, k2, k3⟩ := keyW_of hk
      have e : (look k ks us).isSome = b := Option.some.inj e
      obtain ⟨ep, ho⟩ := D.obj
      have hn := Rep.nested I msk_same wx x v k hx k2 rx
      refine notin_any ho D.ents hn k3 (by omega) D.ok.sys ?_
      have hb : decide (k ∈ qs) = b := by
        rcases D.look k with ⟨h1, h2⟩ | ⟨j, w', u', e', h1, h2, _⟩
        · rw [h2] at e; rw [decide_eq_false h1]; exact e
        · rw [h2] at e; rw [decide_eq_true (List.mem_of_getElem? h1)]; exact e
      rw [hb]
      exact ⟨.bl _, H, I.tok _, rfl, q⟩
  · cases ha : data st wx with
    | none => rw [ha] at e; cases e
    | some a =>
      rw [ha] at e
      cases hc : data st wy with
      | none => rw [hc] at e; cases e
      | some c =>
        rw [hc] at e
        obtain ⟨⟨as, ra⟩, pa, da⟩ := reads_of I S hx ha rx
        obtain ⟨⟨cs, rc⟩, pc, dc⟩ := reads_of I S hy hc ry
        simp only [Option.bind_some] at e
        have hm : ∀ zs : List PyData, X.A.units + 1 + min (PyData.depthAll zs) (toPy a).depth < cLine := fun zs => by
          have := Nat.min_le_right (PyData.depthAll zs) (toPy a).depth
          omega
        split at e
        · cases e
          rename_i zs
          have pc : PyData.plainAll (toPys zs) = true := by simpa [toPy, PyData.plain] using pc
          refine PySem.SeqAt.notIn_list_data rc ra pc pa (hm _) ?_
          rw [toPys_any]
          exact ⟨.bl _, H, I, rfl, q⟩
        · cases e
          rename_i zs
          have pc : PyData.plainAll (toPys zs) = true := by simpa [toPy, PyData.plain] using pc
          refine PySem.SeqAt.notIn_tuple_data rc ra pc pa (hm _) ?_
          rw [toPys_any]
          exact ⟨.bl _, H, I, rfl, q⟩
        · cases e
theorem toPy_none {w : W} {n : Nat} (h : pl n w = true) (e : toPy w = .none) : w = .non := by
  cases w <;> first | rfl | (simp [toPy] at e; done) | (simp [pl] at h; done)
/-- on data -/
theorem op_cmD (hu : X.A.units + 200 < cLine) (o : Cop) : OpR X (compareOp (copOf o)) (cmR (gd X) fun x y st => (data st x).bind fun a => (data st y).bind fun b => cmpD o a b) := by
  intro pins s σ H x y v u Q I rx ry ⟨ι, st, wx, wy, b, S, hx, hy, e, q⟩
  dsimp only at e
  obtain ⟨a, ha, e⟩ := Option.bind_eq_some_iff.mp e
  obtain ⟨c, hc, e⟩ := Option.bind_eq_some_iff.mp e
  obtain ⟨⟨as, ra⟩, pa, da⟩ := reads_of I S hx ha rx
  obtain ⟨⟨cs, rc⟩, pc, dc⟩ := reads_of I S hy hc ry
  have hm : X.A.units + min (toPy a).depth (toPy c).depth < cLine := by
    have := Nat.min_le_right (toPy a).depth (toPy c).depth
    omega
  cases o <;> simp only [cmpD, reduceCtorEq, Option.some.injEq] at e
  · subst e
    exact PySem.SeqAt.eq_plain ra rc pa pc hm ⟨.bl _, H, I, rfl, q⟩
  · subst e
    exact PySem.SeqAt.ne_plain ra rc pa pc hm ⟨.bl _, H, I, rfl, q⟩
  · split at e
    · cases e
    · rename_i hn
      by_cases hal : PySem.W.alike (toPy a) (toPy c) = true
      · rw [if_pos hal] at e
        cases e
        exact PySem.W.lt_data ra rc hal (fun z => hn (toPy_none (data_rep S hx ha).2 z)) hm ⟨.bl _, H, I, rfl, q⟩
      · rw [if_neg hal] at e; cases e
end
end Sw
end
section
set_option maxRecDepth 100000
set_option autoImplicit false
set_option maxHeartbeats 2000000
/-! SwL: dicts compared; all comparisons. -/
namespace Sw
open CL
open PySem PySem.Spec PyProof.Rows L2
open PySem.SeqAt (EqAt)

/-- from here on: what a dict's entries say of another one -/
inductive Hits (w : World) (A : Around) (s : Shared) (qs' : List NestedKey) (es' : List DictEntry) : List DictEntry → Bool → Prop
  | nil : Hits w A s qs' es' [] true
  | miss {e : DictEntry} {r : List DictEntry} {q : NestedKey} : NestedIs s.heap q e.key → e.hash = q.hash w → q.depth ≤ 8 → q ∉ qs' → Hits w A s qs' es' (e :: r) false
  | hit {e e' : DictEntry} {r : List DictEntry} {q : NestedKey} {j : Nat} {c b : Bool} : NestedIs s.heap q e.key → e.hash = q.hash w → q.depth ≤ 8 → qs'[j]? = some q → es'[j]? = some e' → EqAt A s e.val e'.val c →
      (c = true → Hits w A s qs' es' r b) → Hits w A s qs' es' (e :: r) (c && b)
theorem Hits.inv {w : World} {A : Around} {s : Shared} {qs' : List NestedKey} {es' : List DictEntry} {e : DictEntry} {r : List DictEntry} {b : Bool} (h : Hits w A s qs' es' (e :: r) b) :
    ∃ q, NestedIs s.heap q e.key ∧ e.hash = q.hash w ∧ q.depth ≤ 8 ∧ ((q ∉ qs' ∧ b = false) ∨ ∃ (j : Nat) (e' : DictEntry) (c b' : Bool), qs'[j]? = some q ∧ es'[j]? = some e' ∧ EqAt A s e.val e'.val c ∧ (c = true → Hits w A s qs' es' r b') ∧ b = (c && b')) := by
  cases h with
  | miss h1 h2 h3 h4 => exact ⟨_, h1, h2, h3, .inl ⟨h4, rfl⟩⟩
  | hit h1 h2 h3 h4 h5 h6 h7 => exact ⟨_, h1, h2, h3, .inr ⟨_, _, _, _, h4, h5, h6, h7, rfl⟩⟩

section
variable {prog : Program} {w : World} {A : Around} {E : Value → Shared → Prop} {s : Shared}
theorem same_any {nm : String} {a b : Addr} {es es' : List DictEntry} {ep ep' : Nat} {qs' : List NestedKey} {r : Bool} {Q : Bool → Shared → Prop} (ha : (a == sysModules) = false) (hb : (b == sysModules) = false)
    (hoa : s.heap.get? a = some (dictObj es.toArray ep)) (hob : s.heap.get? b = some (dictObj es'.toArray ep')) (en : Ents w s.heap es'.toArray qs') (hu : A.units + 9 < cLine)
    (hits : es.length = es'.length → Hits w A s qs' es' es r) (h : Q (es.length == es'.length && r) s) :
    wpAny (model prog w) A (Builtin.Dict.samePairs nm a b) Q E s := by
  unfold Builtin.Dict.samePairs Builtin.Dict.showsAll
  rw [if_neg (show ¬ (a == sysModules) = true by rw [ha]; exact Bool.false_ne_true), if_neg (show ¬ (b == sysModules) = true by rw [hb]; exact Bool.false_ne_true)]
  refine wpAny_bind (wpAny_pure (wpAny_bind (wpAny_pure ?_)))
  refine wpAny_bind (wpAny_dictEntries hoa rfl ?_)
  dsimp only
  refine wpAny_bind (wpAny_dictEntries hob rfl ?_)
  by_cases hsz : es.length = es'.length
  case neg =>
    rw [if_pos (by simpa using hsz)]
    have hbf : (es.length == es'.length) = false := by simpa using hsz
    rw [hbf, Bool.false_and] at h
    exact wpAny_bind (wpAny_rule (wpAny_pure h))
  case pos =>
    have h' : Q r s := by simpa [hsz] using h
    have hits' := hits hsz
    rw [if_neg (by simp [hsz])]
    refine wpAny_bind (wpAny_dictEpoch hoa rfl ?_)
    refine wpAny_bind ?_
    rw [Std.Legacy.Range.forIn_eq_forIn_range']
    simp only [Std.Legacy.Range.size, Nat.sub_zero, Nat.add_sub_cancel, Nat.div_one, List.size_toArray]
    refine wpAny_forIn_list _
      (fun rest q s' => s' = s ∧ q = (none, ()) ∧ ∃ i, rest = List.range' i (es.length - i) ∧ i ≤ es.length ∧ Hits w A s qs' es' (es.drop i) r)
      _ ?_ ?_ _ _ ⟨rfl, rfl, 0, by simp, Nat.zero_le _, hits'⟩
    · rintro x rest q s' ⟨rfl, rfl, i, hr, hi, hpre⟩
      have hlt : i < es.length := by
        rcases Nat.lt_or_ge i es.length with h | h
        · exact h
        · rw [Nat.sub_eq_zero_of_le h] at hr; simp at hr
      obtain ⟨rfl, hrest⟩ : x = i ∧ rest = List.range' (i + 1) (es.length - (i + 1)) := by
        have e : es.length - i = (es.length - (i + 1)) + 1 := by omega
        rw [e, List.range'_succ] at hr
        injection hr with h1 h2
        exact ⟨h1, h2⟩
      refine wpAny_bind (wpAny_dictEntries hoa rfl ?_)
      rw [show es.toArray[x]? = some es[x] by rw [List.getElem?_toArray]; exact List.getElem?_eq_getElem hlt]
      have hdrop : es.drop x = es[x] :: es.drop (x + 1) := List.drop_eq_getElem_cons hlt
      rw [hdrop] at hpre
      obtain ⟨q, hk, hh, hd8, hcase⟩ := hpre.inv
      show wpAny _ _ (holding [es[x].key, es[x].val] _ >>= _) _ _ _
      rw [hh]
      refine wpAny_bind (wpAny_holding (wpAny_bind (find_any hob rfl en hk hd8 hu (fun hn => ?_) fun j hj => ?_)))
      · rcases hcase with ⟨_, er⟩ | ⟨j, _, _, _, hj, _⟩
        · rw [er] at h'
          refine wpAny_pure ?_
          show wpAny _ _ (if (!false) = true then _ else _) _ _ _
          rw [if_pos (by decide)]
          exact wpAny_pure (wpAny_pure h')
        · exact absurd (List.mem_of_getElem? hj) hn
      · rcases hcase with ⟨hn, _⟩ | ⟨j', e', c, b', hj', he', hce, hrr, er⟩
        · exact absurd (List.mem_of_getElem? hj) hn
        · have : j' = j := (List.getElem?_inj (List.getElem?_eq_some_iff.mp hj').1 en.nd).mp (hj'.trans hj.symm)
          subst this
          refine wpAny_bind (wpAny_dictEntries hob rfl ?_)
          rw [show es'.toArray[j']? = some e' by rw [List.getElem?_toArray]; exact he']
          refine wpAny_holding (hce prog w _ _ ?_)
          cases c with
          | false =>
            rw [er, Bool.false_and] at h'
            show wpAny _ _ (if (!false) = true then _ else _) _ _ _
            rw [if_pos (by decide)]
            exact wpAny_pure (wpAny_pure h')
          | true =>
            rw [Bool.true_and] at er
            rw [← er] at hrr
            show wpAny _ _ (if (!true) = true then _ else _) _ _ _
            rw [if_neg (by decide)]
            refine wpAny_bind (wpAny_dictEpoch hoa rfl ?_)
            rw [if_neg (by simp)]
            exact wpAny_pure ⟨rfl, rfl, x + 1, hrest, hlt, hrr rfl⟩
    · rintro q s' ⟨rfl, rfl, i, hr, hi, hpre⟩
      have hin : i = es.length := by
        rcases Nat.lt_or_ge i es.length with h | h
        · have e : es.length - i = (es.length - (i + 1)) + 1 := by omega
          rw [e, List.range'_succ] at hr; exact nomatch hr
        · exact Nat.le_antisymm hi h
      refine wpAny_pure ?_
      rw [hin, List.drop_length] at hpre
      cases hpre
      exact h'
theorem dEq_any {a b : Addr} {es es' : List DictEntry} {ep ep' : Nat} {qs' : List NestedKey} {r : Bool} {Q : Value → Shared → Prop} (ha : (a == sysModules) = false) (hb : (b == sysModules) = false)
    (hoa : s.heap.get? a = some (dictObj es.toArray ep)) (hob : s.heap.get? b = some (dictObj es'.toArray ep')) (en : Ents w s.heap es'.toArray qs') (hu : A.units + 20 < cLine)
    (hits : es.length = es'.length → Hits w A.in1 s qs' es' es r) (h : Q (.bool (es.length == es'.length && r)) s) :
    wpAny (model prog w) A (compareOp .Eq (.ref a) (.ref b)) Q E s := by
  have da : s.TypeIs (.ref a) "dict" := dict_is hoa
  have db : s.TypeIs (.ref b) "dict" := dict_is hob
  refine wpAny_richCompare_same_room (op := .Eq) da db PySem.F.slot_dict_eq (wpAny_call_entry PySem.F.slot_dict_eq da PySem.F.entry_dict_eq ?_ (PySem.F.args_dict_eq_2 _ _)) (by omega)
  show wpAny _ _ (Builtin.Dict.dictSlotArgs "__eq__" ⟨[.ref a, .ref b], []⟩ >>= _) _ _ s
  refine wpAny_bind ?_
  unfold Builtin.Dict.dictSlotArgs
  refine wpAny_bind (wpAny_notOrdered_dict da ?_)
  show wpAny _ _ (pure (Value.ref a, Value.ref b)) _ _ s
  refine wpAny_pure ?_
  refine wpAny_bind (wpAny_isInstance (T := "dict") db PySem.F.sub_dict_dict ?_)
  simp only [Bool.not_true, Bool.false_eq_true, if_false]
  refine wpAny_bind (wpAny_pure (wpAny_bind (wpAny_pure ?_)))
  refine wpAny_bind (same_any ha hb hoa hob en (by show A.units + 1 + 9 < _; omega) hits ?_)
  refine wpAny_pure ⟨_, rfl, ?_, ?_⟩
  · exact fun x => nomatch x
  · simpa using h
theorem dNe_any {a b : Addr} {es es' : List DictEntry} {ep ep' : Nat} {qs' : List NestedKey} {r : Bool} {Q : Value → Shared → Prop} (ha : (a == sysModules) = false) (hb : (b == sysModules) = false)
    (hoa : s.heap.get? a = some (dictObj es.toArray ep)) (hob : s.heap.get? b = some (dictObj es'.toArray ep')) (en : Ents w s.heap es'.toArray qs') (hu : A.units + 20 < cLine)
    (hits : es.length = es'.length → Hits w A.in1 s qs' es' es r) (h : Q (.bool (!(es.length == es'.length && r))) s) :
    wpAny (model prog w) A (compareOp .NotEq (.ref a) (.ref b)) Q E s := by
  have da : s.TypeIs (.ref a) "dict" := dict_is hoa
  have db : s.TypeIs (.ref b) "dict" := dict_is hob
  refine wpAny_richCompare_same_room (op := .NotEq) da db PySem.F.slot_dict_ne (wpAny_call_entry PySem.F.slot_dict_ne da PySem.F.entry_dict_ne ?_ (PySem.F.args_dict_ne_2 _ _)) (by omega)
  show wpAny _ _ (Builtin.Dict.dictSlotArgs "__ne__" ⟨[.ref a, .ref b], []⟩ >>= _) _ _ s
  refine wpAny_bind ?_
  unfold Builtin.Dict.dictSlotArgs
  refine wpAny_bind (wpAny_notOrdered_dict da ?_)
  show wpAny _ _ (pure (Value.ref a, Value.ref b)) _ _ s
  refine wpAny_pure ?_
  refine wpAny_bind (wpAny_isInstance (T := "dict") db PySem.F.sub_dict_dict ?_)
  simp only [Bool.not_true, Bool.false_eq_true, if_false]
  refine wpAny_bind (wpAny_pure (wpAny_bind (wpAny_pure ?_)))
  refine wpAny_bind (same_any ha hb hoa hob en (by show A.units + 1 + 9 < _; omega) hits ?_)
  refine wpAny_pure ⟨_, rfl, ?_, ?_⟩
  · exact fun x => nomatch x
  · simpa using h
end

section
variable {X : Cx} {pins : List (Addr × Obj)} {σ : L2.St} {H : Hp} {s : Shared} {ι : CL} {st : Store}
/-- the other's entries, asked for one by one -/
theorem hits_of (I : Inv X pins σ H s) (hu : X.A.units + 200 < cLine) {d' : Addr} {ks' us' : List W} {es' : List DictEntry} {qs' : List NestedKey} (D' : Dic X H s.heap ι d' ks' us' es' qs') :
    ∀ (ks us : List W) (es : List DictEntry) (kv uv : List V) (r : Bool), ks.length = es.length → us.length = es.length → Reps (gd X) ι (msk H ι) ks kv → Vals kv (es.map (·.key)) → Reps (gd X) ι (msk H ι) us uv → Vals uv (es.map (·.val)) →
      (∃ qs, keysOf ks = some qs ∧ es.map (·.hash) = qs.map (NestedKey.hash X.w)) → eqD ks us ks' us' = some r → Hits X.w X.A.in1 s qs' es' es r
  | [], [], [], kv, uv, r, l1, l2, r1, v1, r2, v2, hq, e => by
    simp only [eqD] at e
    cases e
    exact .nil
  | k :: ks, u :: us, en :: es, kv, uv, r, l1, l2, r1, v1, r2, v2, ⟨qs, hq, hh⟩, e => by
    obtain ⟨a, kv, rfl, ra, r1⟩ := r1
    obtain ⟨b, uv, rfl, rb, r2⟩ := r2
    rw [List.map_cons] at v1 v2
    cases v1 with
    | cons x1 v1 =>
    cases v2 with
    | cons x2 v2 =>
    simp only [eqD] at e
    obtain ⟨q, hk, e⟩ := Option.bind_eq_some_iff.mp e
    obtain ⟨k1, k2, k3⟩ := keyW_of hk
    have hn := Rep.nested I msk_same k a en.key q ra k2 x1
    simp only [keysOf, k2] at hq
    split at hq
    · rename_i q0 qs0 z1 z2
      cases z1
      cases hq
      rw [List.map_cons, List.map_cons] at hh
      injection hh with h1 h2
      rcases D'.look q with ⟨n1, n2⟩ | ⟨j, w', u', e', j1, j2, j3, j4, j5⟩
      · rw [n2] at e
        cases e
        exact .miss hn h1 k3 n1
      · rw [j2] at e
        dsimp only at e
        split at e
        · rename_i hp
          rw [Bool.and_eq_true] at hp
          obtain ⟨as, ra'⟩ := Rep.reads I 20 u b _ (pd_of_pl _ _ hp.1) (Rep.plainD 20 u b (pd_of_pl _ _ hp.1) rb) x2
          obtain ⟨bs, rb'⟩ := Rep.reads I 20 w' u' _ (pd_of_pl _ _ hp.2) (Rep.plainD 20 w' u' (pd_of_pl _ _ hp.2) j4) j5
          have hm : X.A.in1.units + min (toPy u).depth (toPy w').depth < cLine := by
            have := Nat.min_le_left (toPy u).depth (toPy w').depth
            have := depth_of_pd 20 u (pd_of_pl _ _ hp.1)
            show X.A.units + 1 + _ < _
            omega
          have q1 := PySem.SeqAt.eqAt_plain (toPy u) (toPy w') X.A.in1 s _ _ _ _ ra' rb' (plain_of_pl _ _ hp.1) (plain_of_pl _ _ hp.2) hm
          have ht := hits_of I hu D' ks us es kv uv
          cases hc : eqW u w' with
          | true =>
            rw [hc] at e
            have := Hits.hit (b := r) hn h1 k3 j1 j3 q1 fun _ => ht r (by simpa using l1) (by simpa using l2) r1 v1 r2 v2 ⟨qs0, z2, h2⟩ (by simpa using e)
            rw [show PyData.eqv (toPy u) (toPy w') = true from hc, Bool.true_and] at this
            exact this
          | false =>
            rw [hc] at e
            have e : some false = some r := by simpa using e
            cases e
            have := Hits.hit (b := false) hn h1 k3 j1 j3 q1 (r := es) fun z => by
              rw [show PyData.eqv (toPy u) (toPy w') = false from hc] at z; cases z
            rw [Bool.and_false] at this
            exact this
        · cases e
    · cases hq
  | [], _ :: _, [], _, _, _, l1, l2, _, _, _, _, _, _ => by simp at l2
  | _ :: _, _, [], _, _, _, l1, l2, _, _, _, _, _, _ => by simp at l1
  | [], _, _ :: _, _, _, _, l1, l2, _, _, _, _, _, _ => by simp at l1
  | _ :: _, [], _ :: _, _, _, _, l1, l2, _, _, _, _, _, _ => by simp at l2
theorem Dic.hits (I : Inv X pins σ H s) (hu : X.A.units + 200 < cLine) {d d' : Addr} {ks us ks' us' : List W} {es es' : List DictEntry} {qs qs' : List NestedKey} (D : Dic X H s.heap ι d ks us es qs) (D' : Dic X H s.heap ι d' ks' us' es' qs') {r : Bool}
    (e : eqD ks us ks' us' = some r) : Hits X.w X.A.in1 s qs' es' es r := by
  obtain ⟨kv, r1, v1⟩ := D.kr
  obtain ⟨uv, r2, v2⟩ := D.ur
  obtain ⟨qs0, h1, h2, _⟩ := D.ok.keys
  exact hits_of I hu D' ks us es kv uv r D.lk D.lu r1 v1 r2 v2 ⟨qs0, h1, h2⟩ e
end
section
variable {X : Cx}
theorem op_cmW (hu : X.A.units + 200 < cLine) (o : Cop) : OpR X (compareOp (copOf o)) (cmR (gd X) (cmpW o)) := by
  by_cases h1 : o = .is
  · subst h1; exact op_isW
  by_cases h2 : o = .isnot
  · subst h2; exact op_isnotW
  by_cases h3 : o = .inn
  · subst h3; exact op_inW hu
  by_cases h4 : o = .notin
  · subst h4; exact op_notinW hu
  intro pins s σ H x y v u Q I rx ry ⟨ι, st, wx, wy, b, S, hx, hy, e, q⟩
  have e : (match see st wx, see st wy with
    | .int i, .int j => cmpI o i j
    | .dic ks vs, .dic ks' vs' => match o with
      | .eq => if ks.length = ks'.length then eqD ks vs ks' vs' else some false
      | .ne => if ks.length = ks'.length then (eqD ks vs ks' vs').map (!·) else some true
      | _ => none
    | _, _ => (data st wx).bind fun a => (data st wy).bind fun b => cmpD o a b) = some b := by
    cases o <;> first | exact absurd rfl h1 | exact absurd rfl h2 | exact absurd rfl h3 | exact absurd rfl h4 | exact e
  split at e
  · rename_i i j e1 e2
    have := see_int S hx e1; subst this
    have := see_int S hy e2; subst this
    exact op_cmI o pins s σ H _ _ v u Q I rx ry ⟨i, j, b, rfl, rfl, e, q⟩
  · rename_i ks us ks' us' e1 e2
    obtain ⟨d, es, qs, rfl, D⟩ := see_dict I S hx e1
    obtain ⟨d', es', qs', rfl, D'⟩ := see_dict I S hy e2
    cases rx; cases ry
    obtain ⟨ep, ho⟩ := D.obj
    obtain ⟨ep', ho'⟩ := D'.obj
    have lk := D.lk
    have lk' := D'.lk
    split at e
    · by_cases hl : ks.length = ks'.length
      · rw [if_pos hl] at e
        refine dEq_any D.ok.sys D'.ok.sys ho ho' D'.ents (by omega) (fun _ => D.hits I hu D' e) ⟨.bl b, H, I, ?_, q⟩
        rw [show (es.length == es'.length) = true by simp; omega, Bool.true_and]
        rfl
      · rw [if_neg hl] at e
        cases e
        refine dEq_any (r := true) D.ok.sys D'.ok.sys ho ho' D'.ents (by omega) (fun z => absurd (by omega) hl) ⟨.bl false, H, I, ?_, q⟩
        rw [show (es.length == es'.length) = false by simp; omega]
        rfl
    · by_cases hl : ks.length = ks'.length
      · rw [if_pos hl] at e
        obtain ⟨c, e', hb⟩ := Option.map_eq_some_iff.mp e
        subst hb
        refine dNe_any D.ok.sys D'.ok.sys ho ho' D'.ents (by omega) (fun _ => D.hits I hu D' e') ⟨.bl (!c), H, I, ?_, q⟩
        rw [show (es.length == es'.length) = true by simp; omega, Bool.true_and]
        rfl
      · rw [if_neg hl] at e
        cases e
        refine dNe_any (r := true) D.ok.sys D'.ok.sys ho ho' D'.ents (by omega) (fun z => absurd (by omega) hl) ⟨.bl true, H, I, ?_, q⟩
        rw [show (es.length == es'.length) = false by simp; omega]
        rfl
    · cases e
  · exact op_cmD hu o pins s σ H x y v u Q I rx ry ⟨ι, st, wx, wy, b, S, hx, hy, e, q⟩
end
end Sw
end
section
set_option maxRecDepth 100000
set_option autoImplicit false
set_option maxHeartbeats 2000000
/-! SwM: truth, subscripts, slices. -/
namespace Sw
open CL
open PySem PySem.Spec PyProof.Rows L2
open PySem.SeqAt (EqAt)

section
variable {prog : Program} {w : World} {A : Around} {E : Value → Shared → Prop} {s : Shared}
theorem raw_of {d : Addr} {es : Array DictEntry} {ep : Nat} {h : Heap} (ho : h.get? d = some (dictObj es ep)) : h.DictRaw d es ep := ⟨_, ho, ⟨rfl, rfl, rfl⟩, rfl⟩
theorem meets_len {d : Addr} {es : Array DictEntry} {ep : Nat} (hd : (d == sysModules) = false) :
    MeetsIn prog w (Builtin.«dict.__len__» ⟨[.ref d], []⟩) (fun _ R s => s.heap.get? d = some (dictObj es ep) ∧ R (.ok (.ret (.int es.size s.toks))) { s with toks := s.toks + 1 }) :=
  .of_wp fun A R s ⟨ho, h⟩ => by
    show wpAny _ _ (dictSize d >>= _) _ _ s
    unfold dictSize
    refine wpAny_bind (wpAny_bind (wpAny_dictEntries ho rfl (wpAny_pure ?_)))
    show wpAny _ _ (Builtin.Dict.pendingCount d >>= _) _ _ s
    refine wpAny_bind (wpAny_pendingCount_other hd ?_)
    refine wpAny_ret_mkInt ?_
    rw [Nat.add_zero]; exact h
theorem len_body {d : Addr} {es : Array DictEntry} {ep : Nat} {Q : Value → Shared → Prop} (hd : (d == sysModules) = false) (ho : s.heap.get? d = some (dictObj es ep)) (hfit : (es.size : Int) < 2 ^ 63)
    (h : Q (.int es.size (s.toks + 1)) { s with toks := s.toks + 1 + 1 }) : wpAny (model prog w) A (Builtin.«len» ⟨[.ref d], []⟩) (fun fin s' => ∃ r, fin = .done (.ret r) ∧ Q r s') E s := by
  have ht : s.TypeIs (.ref d) "dict" := dict_is ho
  unfold Builtin.«len»
  refine wpAny_bind (m := oneArg "len" _) (wpAny_pure ?_)
  refine wpAny_bind (m := callSpecial? (.ref d) (Str.ofString "__len__")) (wpAny_callSpecial?_slot (name := Str.ofString "__len__") ht F.slot_dict_len
    (call_meetsIn F.slot_dict_len ht F.entry_dict_len (F.args_dict_len_1 _) (meets_len hd) ⟨ho, ?_⟩))
  show wpAny _ _ _ _ _ { s with toks := s.toks + 1 }
  refine wpAny_bind (wpAny_holding (wpAny_pure ?_))
  refine wpAny_bind (wpAny_letGo ?_)
  show wpAny _ _ (if ((es.size : Nat) : Int) < 0 then _ else _) _ _ _
  rw [if_neg (by omega)]
  show wpAny _ _ (if ((es.size : Nat) : Int) ≥ 2 ^ 63 then _ else _) _ _ _
  rw [if_neg (by omega)]
  exact wpAny_bind (wpAny_mkInt (wpAny_pure ⟨_, rfl, h⟩))
theorem call_lenD {d : Addr} {es : Array DictEntry} {ep : Nat} {Q : Value → Shared → Prop} (hd : (d == sysModules) = false) (ho : s.heap.get? d = some (dictObj es ep)) (hfit : (es.size : Int) < 2 ^ 63)
    (h : Q (.int es.size (s.toks + 1)) { s with toks := s.toks + 1 + 1 }) : wpAny (model prog w) A (call (.builtin "len") [.ref d]) Q E s :=
  Calls.call_function_entry kind_len plain_len entry_len (args_len1 _) (len_body hd ho hfit h)
theorem truthyD {d : Addr} {es : Array DictEntry} {ep : Nat} {Q : Bool → Shared → Prop} (hd : (d == sysModules) = false) (ho : s.heap.get? d = some (dictObj es ep)) (hfit : (es.size : Int) < 2 ^ 63)
    (h : Q (decide (es.size ≠ 0)) { s with toks := s.toks + 1 + 1 }) : wpAny (model prog w) A (truthy (.ref d)) Q E s := by
  have ht : s.TypeIs (.ref d) "dict" := dict_is ho
  have hne : ((es.size : Int) != 0) = decide (es.size ≠ 0) := by
    by_cases h : es.size = 0
    · simp [h]
    · have h1 : ((es.size : Int) != 0) = true := by simpa using h
      rw [h1]; simp only [ne_eq, h, not_false_eq_true, decide_true]
  have key : wpAny (model prog w) A (runValue (.builtin "len" ⟨[.ref d], []⟩)) (fun r s' => r = .int es.size (s.toks + 1) ∧ Q (decide (es.size ≠ 0)) s') E s := by
    refine wpAny_runValue (codeAny_builtin entry_len ?_)
    rw [Around.under_plainId plain_len _]
    exact wpAny_mono (len_body (Q := fun r s' => r = .int es.size (s.toks + 1) ∧ Q (decide (es.size ≠ 0)) s') hd ho hfit ⟨rfl, h⟩)
      (fun fin s' h' => by obtain ⟨r, rfl, hq⟩ := h'; exact hq) fun _ _ e => e
  unfold truthy
  first
    | refine wpAny_bind (wpAny_callSpecial?_none (name := Str.ofString "__bool__") ht noBool_dict ?_)
    | refine wpAny_bind (wpAny_pure (wpAny_bind (wpAny_callSpecial?_none (name := Str.ofString "__bool__") ht noBool_dict ?_)))
  first
    | refine wpAny_bind (wpAny_specialOf (name := Str.ofString "__len__") ht F.slot_dict_len.lookup ?_)
    | refine wpAny_bind (wpAny_pure (wpAny_bind (wpAny_specialOf (name := Str.ofString "__len__") ht F.slot_dict_len.lookup ?_)))
  first
    | exact wpAny_bind (wpAny_mono key (fun r s' h' => by obtain ⟨rfl, hq⟩ := h'; exact wpAny_pure (hne ▸ hq)) fun _ _ e => e)
    | exact wpAny_bind (wpAny_pure (wpAny_bind (wpAny_mono key (fun r s' h' => by obtain ⟨rfl, hq⟩ := h'; exact wpAny_pure (hne ▸ hq)) fun _ _ e => e)))
end

theorem SqL.rd {K : PySem.W.Frag} {H : Hp} {a : Addr} {xs : List V} (h : Rd H a (.lst xs)) : SqL K H a xs := .inl h
section
variable {X : Cx} {pins : List (Addr × Obj)} {σ : L2.St} {H : Hp} {s : Shared} {ι : CL} {st : Store}
theorem Dic.small {h : Heap} {d : Addr} {ks us : List W} {es : List DictEntry} {qs : List NestedKey} (D : Dic X H h ι d ks us es qs) : ((es.toArray.size : Nat) : Int) < 2 ^ 63 := by
  have := D.ok.len
  have := line63
  rw [List.size_toArray]; omega
theorem Reps.empty {g : Gd} {xs : List W} {vs : List V} (r : Reps g ι H xs vs) : vs.isEmpty = xs.isEmpty := by
  have := r.len
  cases xs <;> cases vs <;> simp at this ⊢
end
section
variable {X : Cx}
theorem tru_W : TruR X (tsR (gd X) fun w st => truth st w) := by
  intro pins s σ H x v Q I rx ⟨ι, st, wx, b, S, hx, e, q⟩
  dsimp only at e
  unfold truth at e
  split at e
  · rename_i e1
    cases e
    have := see_non S hx e1; subst this
    exact tru_ok pins s σ H _ v Q I rx ⟨_, rfl, q⟩
  · rename_i c e1
    cases e
    have := see_bl S hx e1; subst this
    exact tru_ok pins s σ H _ v Q I rx ⟨_, rfl, q⟩
  · rename_i i e1
    cases e
    have := see_int S hx e1; subst this
    exact tru_ok pins s σ H _ v Q I rx ⟨_, rfl, q⟩
  · rename_i z e1
    split at e
    · rename_i hl
      cases e
      have := see_str S hx e1; subst this
      rw [szL] at hl
      refine tru_ok pins s σ H _ v Q I rx ⟨_, ⟨hl, rfl⟩, ?_⟩
      have : ((z.length : Int) != 0) = (z.length != 0) := by
        by_cases h : z.length = 0
        · simp [h]
        · have h1 : ((z.length : Int) != 0) = true := by simpa using h
          rw [h1]; simp [h]
      rw [this]; exact q
    · cases e
  · rename_i xs e1
    cases e
    obtain ⟨a, vs, rfl, h1, r1⟩ := see_tup S hx e1
    refine tru_ok pins s σ H _ v Q I rx ⟨_, .inr (.inl ⟨vs, h1, rfl⟩), ?_⟩
    rw [r1.empty]; exact q
  · rename_i xs e1
    cases e
    obtain ⟨a, vs, rfl, h1, r1⟩ := see_lst S hx e1
    refine tru_ok pins s σ H _ v Q I rx ⟨_, .inl ⟨vs, h1.sq, rfl⟩, ?_⟩
    rw [r1.empty]; exact q
  · rename_i ks us e1
    cases e
    obtain ⟨d, es, qs, rfl, D⟩ := see_dict I S hx e1
    obtain ⟨ep, ho⟩ := D.obj
    cases rx
    refine truthyD D.ok.sys ho D.small ⟨H, I.tok _, ?_⟩
    have : decide (es.toArray.size ≠ 0) = !ks.isEmpty := by
      have := D.lk
      rw [List.size_toArray]
      cases ks <;> cases es <;> simp at this ⊢
    rw [this]; exact q
  · cases e

/-! ### subscripts -/
theorem at_get {xs : List W} {i : Int} {w : W} {g : Gd} {ι : CL} {H : Hp} {vs : List V} (r : Reps g ι H xs vs) (e : at? xs i = some w) : ∃ v, atI vs i = some v ∧ Rep g ι H w v := by
  have hl := r.len
  unfold at? at e
  by_cases h0 : 0 ≤ i
  · rw [if_pos h0] at e
    obtain ⟨v, hv, rv⟩ := r.get e
    have hi := (List.getElem?_eq_some_iff.mp hv).1
    refine ⟨v, ?_, rv⟩
    unfold atI ixN
    rw [if_pos h0, if_pos (by omega)]
    exact hv
  · rw [if_neg h0] at e
    split at e
    · rename_i h1
      obtain ⟨v, hv, rv⟩ := r.get e
      refine ⟨v, ?_, rv⟩
      unfold atI ixN
      rw [if_neg h0, if_pos (by omega), hl]
      exact hv
    · cases e
theorem ix_W (hu : X.A.units + 200 < cLine) : IxR X (opR false (gd X) idxW) := by
  intro value slice pins s σ H x y v u Q I rx ry ⟨ι, st, wx, wy, w, S, hx, hy, e, A⟩ hs
  unfold idxW at e
  split at e
  · rename_i xs j e1 e2
    obtain ⟨a, vs, rfl, h1, r1⟩ := see_lst S hx e1
    have := see_int S hy e2; subst this
    obtain ⟨z, hz, rz⟩ := at_get r1 e
    exact ix_list value slice pins s σ H _ _ v u Q I rx ry ⟨a, vs, j, z, rfl, rfl, h1.sq, hz, A.here S rz⟩ hs
  · rename_i xs j e1 e2
    obtain ⟨a, vs, rfl, h1, r1⟩ := see_tup S hx e1
    have := see_int S hy e2; subst this
    obtain ⟨z, hz, rz⟩ := at_get r1 e
    exact ix_tup value slice pins s σ H _ _ v u Q I rx ry ⟨a, vs, j, z, rfl, rfl, h1, hz, A.here S rz⟩ hs
  · rename_i z j e1 e2
    have := see_str S hx e1; subst this
    have := see_int S hy e2; subst this
    split at e
    · rename_i hc
      obtain ⟨c, hc', rfl⟩ := Option.map_eq_some_iff.mp e
      refine ix_str value slice pins s σ H _ _ v u Q I rx ry ⟨z, j, c, rfl, rfl, by rw [← szL]; exact hc.2.2, ?_, A.here S rfl⟩ hs
      have hl : z.cps.toList.length = z.length := by simp [Str.length]
      have hc2 := hc.2.1
      unfold atI ixN
      rw [if_pos hc.1, if_pos (by rw [hl]; omega)]
      simpa using hc'
    · cases e
  · rename_i ks us e1
    obtain ⟨d, es, qs, rfl, D⟩ := see_dict I S hx e1
    obtain ⟨q, hk, e⟩ := Option.bind_eq_some_iff.mp e
    obtain ⟨k1, k2, k3⟩ := keyW_of hk
    obtain ⟨ep, ho⟩ := D.obj
    cases rx
    have hn := Rep.nested I msk_same wy y u q hy k2 ry
    rcases D.look q with ⟨n1, n2⟩ | ⟨j, w', u', en, j1, j2, j3, j4, j5⟩
    · rw [n2] at e; cases e
    · rw [j2] at e
      cases e
      refine tail_any (dict_is ho) slot_dict_getitem.lookup ?_ hs
      exact getItem_any ho D.ents hn k3 (by omega) j1 (by rw [List.getElem?_toArray]; exact j3) ⟨u', H, I.tok _, j5, A.here S j4⟩
  · cases e

/-! ### slices -/
/-- a bound of a slice -/
def IsB : W → Option Int → Prop
  | .non, o => o = none
  | .int i, o => o = some i
  | _, _ => False
theorem cut_of {n d c : Nat} {b : W} {o : Option Int} (h : IsB b o) (e : cutAt n d b = some c) : HT.sIx n d o = c := by
  cases b <;> simp only [IsB] at h
  · subst h; cases e; rfl
  · subst h
    cases e
    rename_i i
    show (if i < 0 then (i + (n : Int)).toNat else min i.toNat n) = _
    by_cases h : i < 0
    · rw [if_pos h, if_neg (by omega)]
    · rw [if_neg h, if_pos (by omega)]
theorem Reps.cut {g : Gd} {ι : CL} {H : Hp} {xs : List W} {vs : List V} (r : Reps g ι H xs vs) {lo hi : W} {l h : Option Int} {a b : Nat} (hl : IsB lo l) (hh : IsB hi h) (e1 : cutAt xs.length 0 lo = some a) (e2 : cutAt xs.length xs.length hi = some b) :
    Reps g ι H ((xs.drop a).take (b - a)) (cutV vs l h) := by
  unfold cutV
  rw [r.len, cut_of hl e1, cut_of hh e2]
  exact (r.drop a).take (b - a)
theorem sl_W : SlR X (fun x lo hi H Q => ∃ ι st wx l h w, SR (gd X) ι H st ∧ Rep (gd X) ι (msk H ι) wx x ∧ IsB l lo ∧ IsB h hi ∧ slcW wx l h st = some w ∧ after true (gd X) ι H st w Q) := by
  intro pins s σ H x v vl vu lo hi sl Q I rx hs pl pu ⟨ι, st, wx, l, h, w, S, hx, hl, hh, e, A⟩
  unfold slcW at e
  split at e
  · rename_i xs e1
    obtain ⟨a, vs, rfl, h1, r1⟩ := see_lst S hx e1
    obtain ⟨c, e2, e⟩ := Option.bind_eq_some_iff.mp e
    obtain ⟨d, e3, e⟩ := Option.bind_eq_some_iff.mp e
    cases e
    exact sl_list pins s σ H _ v vl vu lo hi sl Q I rx hs pl pu ⟨a, vs, rfl, h1.sq, A.lst S (r1.cut hl hh e2 e3)⟩
  · rename_i xs e1
    obtain ⟨a, vs, rfl, h1, r1⟩ := see_tup S hx e1
    obtain ⟨c, e2, e⟩ := Option.bind_eq_some_iff.mp e
    obtain ⟨d, e3, e⟩ := Option.bind_eq_some_iff.mp e
    cases e
    have f := see_flat S hx e1 (by intro _ z; cases z) (by intro _ _ z; cases z)
    subst f
    refine sl_tupA pins s σ H _ v vl vu lo hi sl Q I rx hs pl pu ⟨a, vs, rfl, h1, fun hw => ?_, fun _ => A.tup S (r1.cut hl hh e2 e3)⟩
    rw [r1.len, cut_of hl e2, cut_of hh e3] at hw
    obtain ⟨z1, z2⟩ := hw
    rw [z1, z2, List.drop_zero, Nat.sub_zero, List.take_length] at A
    exact A.here S hx
  · cases e
end
end Sw
end
section
set_option maxRecDepth 100000
set_option autoImplicit false
set_option maxHeartbeats 2000000
/-! SwN: the built-ins: len, int, str, abs, max, min of two, list, tuple, sum, all, any. -/
namespace Sw
open CL
open PySem PySem.Spec PyProof.Rows L2
open PySem.SeqAt (EqAt)

theorem reps1 {g : Gd} {ι : CL} {H : Hp} {x : W} {vs : List V} (r : Reps g ι H [x] vs) : ∃ v, vs = [v] ∧ Rep g ι H x v := by
  obtain ⟨v, t, rfl, h1, h2⟩ := r
  have h2 : t = [] := h2
  subst h2
  exact ⟨v, rfl, h1⟩
theorem reps2 {g : Gd} {ι : CL} {H : Hp} {x y : W} {vs : List V} (r : Reps g ι H [x, y] vs) : ∃ v u, vs = [v, u] ∧ Rep g ι H x v ∧ Rep g ι H y u := by
  obtain ⟨v, t, rfl, h1, h2⟩ := r
  obtain ⟨u, rfl, h3⟩ := reps1 h2
  exact ⟨v, u, rfl, h1, h3⟩
/-- a call by values, of one argument -/
def c1R (g : Gd) (f : W → Store → Option W) : List V → Hp → VK → Prop := fun xs H Q => ∃ ι st wx x w, xs = [x] ∧ SR g ι H st ∧ Rep g ι (msk H ι) wx x ∧ f wx st = some w ∧ after true g ι H st w Q
/-- .. of two -/
def c2R (g : Gd) (f : W → W → Store → Option W) : List V → Hp → VK → Prop := fun xs H Q => ∃ ι st wx wy x y w, xs = [x, y] ∧ SR g ι H st ∧ Rep g ι (msk H ι) wx x ∧ Rep g ι (msk H ι) wy y ∧ f wx wy st = some w ∧ after true g ι H st w Q
theorem c1_of {X : Cx} {f : Value} {sub : Str → Str → Bool} {b : BI} (h : CallR X f (c1R (gd X) fun x st => callB sub b [x] st)) (h2 : CallR X f (c2R (gd X) fun x y st => callB sub b [x, y] st))
    (hn : ∀ ws st w, callB sub b ws st = some w → ∃ x, ws = [x] ∨ ∃ y, ws = [x, y]) : CallR X f (clR (gd X) (callB sub b)) := by
  intro pins s σ H xs us Q I r ⟨ι, st, ws, w, S, hr, e, A⟩
  obtain ⟨x, hx⟩ := hn ws st w e
  rcases hx with rfl | ⟨y, rfl⟩
  · obtain ⟨v, rfl, r1⟩ := reps1 hr
    exact h pins s σ H _ us Q I r ⟨ι, st, x, v, w, rfl, S, r1, e, A⟩
  · obtain ⟨v, u, rfl, r1, r2⟩ := reps2 hr
    exact h2 pins s σ H _ us Q I r ⟨ι, st, x, y, v, u, w, rfl, S, r1, r2, e, A⟩

section
variable {X : Cx} {sub : Str → Str → Bool}
theorem cl_len : CallR X (.builtin "len") (c1R (gd X) fun x st => callB sub .len [x] st) := by
  intro pins s σ H xs us Q I r ⟨ι, st, wx, x, w, ex, S, hx, e, A⟩
  subst ex
  have e : lenF st wx = some w := e
  unfold lenF at e
  split at e
  · rename_i xs e1
    cases e
    obtain ⟨a, vs, rfl, h1, r1⟩ := see_lst S hx e1
    exact call_len_seq pins s σ H _ us Q I r ⟨a, vs, rfl, .inl (h1.sq), by rw [r1.len]; exact A.here S rfl⟩
  · rename_i xs e1
    cases e
    obtain ⟨a, vs, rfl, h1, r1⟩ := see_tup S hx e1
    exact call_len_seq pins s σ H _ us Q I r ⟨a, vs, rfl, .inr h1, by rw [r1.len]; exact A.here S rfl⟩
  · rename_i ks us' e1
    cases e
    obtain ⟨d, es, qs, rfl, D⟩ := see_dict I S hx e1
    obtain ⟨ep, ho⟩ := D.obj
    obtain ⟨u, rfl, rx⟩ := vals1 r
    cases rx
    refine call_lenD D.ok.sys ho D.small ⟨.int ks.length, H, I.tok _, ⟨s.toks + 1, ?_⟩, A.here S rfl⟩
    rw [List.size_toArray, D.lk]
  · rename_i z e1
    split at e
    · rename_i hl
      cases e
      have := see_str S hx e1; subst this
      rw [szL] at hl
      exact call_len_str pins s σ H _ us Q I r ⟨z, rfl, hl, A.here S rfl⟩
    · cases e
  · cases e
theorem cl_int : CallR X (.type "int") (c1R (gd X) fun x st => callB sub .int [x] st) := by
  intro pins s σ H xs us Q I r ⟨ι, st, wx, x, w, ex, S, hx, e, A⟩
  subst ex
  have e : intF wx = some w := e
  unfold intF at e
  split at e
  · cases e
    have hx : x = .int _ := hx
    subst hx
    exact call_int1 pins s σ H _ us Q I r (.inl ⟨_, rfl, A.here S rfl⟩)
  · cases e
    have hx : x = .bl _ := hx
    subst hx
    exact call_int1 pins s σ H _ us Q I r (.inr ⟨_, rfl, A.here S rfl⟩)
  · cases e
theorem cl_str : CallR X (.type "str") (c1R (gd X) fun x st => callB sub .str [x] st) := by
  intro pins s σ H xs us Q I r ⟨ι, st, wx, x, w, ex, S, hx, e, A⟩
  subst ex
  have e : strF wx = some w := e
  unfold strF at e
  split at e
  · split at e
    · cases e
      have hx : x = .int _ := hx
      subst hx
      exact call_str_int pins s σ H _ us Q I r ⟨_, rfl, by assumption, A.here S rfl⟩
    · cases e
  · cases e
theorem cl_abs : CallR X (.builtin "abs") (c1R (gd X) fun x st => callB sub .abs [x] st) := by
  intro pins s σ H xs us Q I r ⟨ι, st, wx, x, w, ex, S, hx, e, A⟩
  subst ex
  have e : absF wx = some w := e
  unfold absF at e
  split at e
  · cases e
    have hx : x = .int _ := hx
    subst hx
    exact call_abs pins s σ H _ us Q I r ⟨_, rfl, A.here S rfl⟩
  · cases e
theorem cl_max2 (hc : X.calm = true) : CallR X (.builtin "max") (c2R (gd X) fun x y st => callB sub .max [x, y] st) := by
  intro pins s σ H xs us Q I r ⟨ι, st, wx, wy, x, y, w, ex, S, hx, hy, e, A⟩
  subst ex
  have e : max2F wx wy = some w := e
  unfold max2F at e
  split at e
  · cases e
    have hx : x = .int _ := hx
    have hy : y = .int _ := hy
    subst hx hy
    exact call_max2 hc pins s σ H _ us Q I r ⟨_, _, rfl, A.here S rfl⟩
  · cases e
theorem cl_min2 (hc : X.calm = true) : CallR X (.builtin "min") (c2R (gd X) fun x y st => callB sub .min [x, y] st) := by
  intro pins s σ H xs us Q I r ⟨ι, st, wx, wy, x, y, w, ex, S, hx, hy, e, A⟩
  subst ex
  have e : min2F wx wy = some w := e
  unfold min2F at e
  split at e
  · cases e
    have hx : x = .int _ := hx
    have hy : y = .int _ := hy
    subst hx hy
    exact call_min2 hc pins s σ H _ us Q I r ⟨_, _, rfl, A.here S rfl⟩
  · cases e
/-- items got out of a walk over a dict's keys -/
theorem items_keys {es : List DictEntry} {n : Nat} {P : Nat → Value → Prop} {acc : Array Value} (hn : n = es.toArray.size) (h : ItemsOf P acc n) (hp : ∀ i v, P i v → ∃ hi : i < es.toArray.size, v = es.toArray[i].key) : acc.toList = es.map (·.key) := by
  subst hn
  apply List.ext_getElem?
  intro i
  by_cases hi : i < es.length
  · have h1 : i < acc.size := by rw [h.1, List.size_toArray]; exact hi
    have e1 : acc.toList[i]? = some acc[i] := by rw [Array.getElem?_toList]; exact Array.getElem?_eq_getElem h1
    obtain ⟨hi', e2⟩ := hp i _ (h.2 i _ (Array.getElem?_eq_getElem h1))
    rw [e1, e2, List.getElem?_map, List.getElem?_eq_getElem hi]
    simp
  · have h1 : acc.toList.length = es.length := by rw [Array.length_toList, h.1, List.size_toArray]
    rw [List.getElem?_eq_none (by omega), List.getElem?_eq_none (by rw [List.length_map]; omega)]
theorem cl_list (hc : X.calm = true) : CallR X (.type "list") (c1R (gd X) fun x st => callB sub .list [x] st) := by
  intro pins s σ H xs us Q I r ⟨ι, st, wx, x, w, ex, S, hx, e, A⟩
  subst ex
  have e : listF st wx = some w := e
  unfold listF at e
  split at e
  · rename_i xs e1
    cases e
    obtain ⟨a, vs, rfl, h1, r1⟩ := see_lst S hx e1
    exact call_list_of pins s σ H _ us Q I r ⟨a, vs, rfl, .inl (h1.sq), A.lst S r1⟩
  · rename_i xs e1
    cases e
    obtain ⟨a, vs, rfl, h1, r1⟩ := see_tup S hx e1
    exact call_list_of pins s σ H _ us Q I r ⟨a, vs, rfl, .inr h1, A.lst S r1⟩
  · rename_i ks us' e1
    cases e
    obtain ⟨d, es, qs, rfl, D⟩ := see_dict I S hx e1
    obtain ⟨ep, ho⟩ := D.obj
    obtain ⟨u, rfl, rx⟩ := vals1 r
    cases rx
    have hl := D.ok.len
    obtain ⟨kv, kr, vk⟩ := D.kr
    refine PySem.W.kdl_call (KdlSrc.rawDict (es := es.toArray) (ep := ep) D.ok.sys) (I.ok.hd hc) (raw_of ho) (by rw [List.size_toArray]; exact hl) fun h' tk acc c' hk hD hacc => ?_
    have ea := items_keys rfl hacc fun i v h => h
    have lk := kr.len
    have lk2 := D.lk
    refine ⟨.ref s.heap.objs.size, upd H s.heap.objs.size (.lst kv), I.laid (t' := tk) hk (Nat.le_refl _)
      (show ObjOk X.prog X.w _ _ _ (.lst kv) from ⟨by omega, acc.toList, c', by rw [ea]; exact vk, by rw [Array.toArray_toList]; exact hD⟩), rfl, A.lst S kr _ (I.hok.fresh (Nat.le_refl _))⟩
  · cases e
theorem cl_tuple : CallR X (.type "tuple") (c1R (gd X) fun x st => callB sub .tuple [x] st) := by
  intro pins s σ H xs us Q I r ⟨ι, st, wx, x, w, ex, S, hx, e, A⟩
  subst ex
  have e : tupF st wx = some w := e
  unfold tupF at e
  split at e
  · rename_i xs e1
    cases e
    obtain ⟨a, vs, rfl, h1, r1⟩ := see_lst S hx e1
    exact call_tuple_of pins s σ H _ us Q I r ⟨a, vs, rfl, .inl ⟨h1.sq, A.tup S r1⟩⟩
  · rename_i xs e1
    cases e
    have f := see_flat S hx e1 (by intro _ z; cases z) (by intro _ _ z; cases z)
    subst f
    obtain ⟨a, vs, rfl, h1, r1⟩ := see_tup S hx e1
    exact call_tuple_of pins s σ H _ us Q I r ⟨a, vs, rfl, .inr ⟨h1, A.here S hx⟩⟩
  · cases e
theorem bools_of : ∀ {xs : List W} {bs : List Bool} {g : Gd} {ι : CL} {H : Hp} {vs : List V}, Reps g ι H xs vs → bools xs = some bs → vs = bs.map V.bl
  | [], bs, g, ι, H, vs, r, e => by
    have r : vs = [] := r
    subst r; cases e; rfl
  | x :: xs, bs, g, ι, H, vs, r, e => by
    obtain ⟨v, t, rfl, h1, h2⟩ := r
    cases x <;> simp only [bools, reduceCtorEq, Option.map_eq_some_iff] at e
    obtain ⟨cs, e1, rfl⟩ := e
    have h1 : v = .bl _ := h1
    subst h1
    rw [bools_of h2 e1]; rfl
theorem asL_of {pins : List (Addr × Obj)} {σ : L2.St} {H : Hp} {s : Shared} {ι : CL} {st : Store} (S : SR (gd X) ι H st) {wx : W} {x : V} {xs : List W} (hx : Rep (gd X) ι (msk H ι) wx x) (e : asL st wx = some xs) :
    ∃ a vs, x = .ref a ∧ Ls X.K H a vs ∧ Reps (gd X) ι (msk H ι) xs vs := by
  unfold asL at e
  split at e
  · rename_i ys e1
    cases e
    exact see_lst S hx e1
  · cases e
theorem cl_all (hc : X.calm = true) : CallR X (.builtin "all") (c1R (gd X) fun x st => callB sub .all [x] st) := by
  intro pins s σ H xs us Q I r ⟨ι, st, wx, x, w, ex, S, hx, e, A⟩
  subst ex
  have e : ((asL st wx).bind fun xs => (bools xs).map fun bs => W.bl (bs.all id)) = some w := e
  obtain ⟨ys, e1, e⟩ := Option.bind_eq_some_iff.mp e
  obtain ⟨bs, e2, rfl⟩ := Option.map_eq_some_iff.mp e
  obtain ⟨a, vs, rfl, h1, r1⟩ := asL_of (pins := pins) (σ := σ) (s := s) S hx e1
  have := bools_of r1 e2
  subst this
  exact cr_all hc pins s σ H _ us Q I r ⟨a, bs, rfl, h1.sq, A.here S rfl⟩
theorem cl_any (hc : X.calm = true) : CallR X (.builtin "any") (c1R (gd X) fun x st => callB sub .any [x] st) := by
  intro pins s σ H xs us Q I r ⟨ι, st, wx, x, w, ex, S, hx, e, A⟩
  subst ex
  have e : ((asL st wx).bind fun xs => (bools xs).map fun bs => W.bl (bs.any id)) = some w := e
  obtain ⟨ys, e1, e⟩ := Option.bind_eq_some_iff.mp e
  obtain ⟨bs, e2, rfl⟩ := Option.map_eq_some_iff.mp e
  obtain ⟨a, vs, rfl, h1, r1⟩ := asL_of (pins := pins) (σ := σ) (s := s) S hx e1
  have := bools_of r1 e2
  subst this
  exact cr_any hc pins s σ H _ us Q I r ⟨a, bs, rfl, h1.sq, A.here S rfl⟩
end
end Sw
end
section
set_option maxRecDepth 100000
set_option autoImplicit false
set_option maxHeartbeats 2000000
/-! SwO: sum, sorted, isinstance of built-in types, repr. -/
namespace Sw
open CL
open PySem PySem.Spec PyProof.Rows L2
open PySem.SeqAt (EqAt)
open PySem.W (EachIs AllAlike Sortable)

theorem ints_of : ∀ {xs : List W} {k : Int} {g : Gd} {ι : CL} {H : Hp} {vs : List V}, Reps g ι H xs vs → sumI xs = some k → ∃ ns : List Int, vs = ns.map V.int ∧ ns.sum = k
  | [], k, g, ι, H, vs, r, e => by
    have r : vs = [] := r
    subst r; cases e; exact ⟨[], rfl, rfl⟩
  | x :: xs, k, g, ι, H, vs, r, e => by
    obtain ⟨v, t, rfl, h1, h2⟩ := r
    cases x <;> simp only [sumI, reduceCtorEq, Option.map_eq_some_iff] at e
    obtain ⟨c, e1, rfl⟩ := e
    have h1 : v = .int _ := h1
    subst h1
    obtain ⟨ns, rfl, rfl⟩ := ints_of h2 e1
    exact ⟨_ :: ns, rfl, List.sum_cons⟩
theorem each_of {X : Cx} {pins : List (Addr × Obj)} {σ : L2.St} {H : Hp} {s : Shared} {ι : CL} {st : Store} (I : Inv X pins σ H s) (S : SR (gd X) ι H st) : ∀ {xs : List W} {vs : List V} {us : List Value}, Reps (gd X) ι (msk H ι) xs vs → pls 20 xs = true → Vals vs us →
    EachIs (fun u w => ∃ v, RelV v u ∧ Rep (gd X) ι (msk H ι) w v) us xs ∧ EachIs (fun u w => ∃ as, Reads s.heap u (toPy w) as) us xs
  | [], vs, us, r, p, v => by
    have r : vs = [] := r
    subst r; cases v; exact ⟨.nil, .nil⟩
  | x :: xs, vs, us, r, p, v => by
    obtain ⟨a, t, rfl, h1, h2⟩ := r
    cases v with
    | cons v1 v2 =>
      have p : (pl 20 x && pls 20 xs) = true := by simpa [pls] using p
      rw [Bool.and_eq_true] at p
      obtain ⟨q1, q2⟩ := each_of I S h2 p.2 v2
      exact ⟨.cons ⟨a, v1, h1⟩ q1, .cons (Rep.reads I 20 x a _ (pd_of_pl _ _ p.1) (Rep.plainD 20 x a (pd_of_pl _ _ p.1) h1) v1) q2⟩
theorem each_back {g : Gd} {ι : CL} {H : Hp} : ∀ {xs : List W} {us : List Value}, EachIs (fun u w => ∃ v, RelV v u ∧ Rep g ι H w v) us xs → ∃ vs, Vals vs us ∧ Reps g ι H xs vs
  | [], _, .nil => ⟨[], .nil, Reps.nil⟩
  | x :: xs, _, .cons ⟨v, h1, h2⟩ t => by
    obtain ⟨vs, h3, h4⟩ := each_back t
    exact ⟨v :: vs, .cons h1 h3, Reps.cons h2 h4⟩
theorem alikes_of {xs : List W} (h : alikes xs = true) : AllAlike (xs.map toPy) := by
  intro d hd d' hd'
  obtain ⟨x, hx, rfl⟩ := List.mem_map.mp hd
  obtain ⟨y, hy, rfl⟩ := List.mem_map.mp hd'
  exact List.all_eq_true.mp (List.all_eq_true.mp h x hx) y hy
theorem sortable_of {xs : List W} (hp : pls 20 xs = true) (h : sortable xs = true) : AllAlike (xs.map toPy) ∧ Sortable (xs.map toPy) := by
  unfold sortable at h
  rw [Bool.and_eq_true] at h
  refine ⟨alikes_of h.1, ?_⟩
  rcases (Bool.or_eq_true _ _).mp h.2 with q | q
  · left
    intro d hd
    obtain ⟨x, hx, rfl⟩ := List.mem_map.mp hd
    have := List.all_eq_true.mp q x hx
    split at this
    · exact ⟨_, _, rfl⟩
    · cases this
  · right
    intro d hd
    obtain ⟨x, hx, rfl⟩ := List.mem_map.mp hd
    have := List.all_eq_true.mp q x hx
    have hx' := pls_mem hp x hx
    refine ⟨fun z => ?_, fun xs z => ?_⟩
    · have := toPy_none hx' z
      subst this
      simp at this
    · cases x <;> simp [toPy] at z
      simp at this
section
variable {X : Cx} {sub : Str → Str → Bool}
theorem cl_sum (hc : X.calm = true) : CallR X (.builtin "sum") (c1R (gd X) fun x st => callB sub .sum [x] st) := by
  intro pins s σ H xs us Q I r ⟨ι, st, wx, x, w, ex, S, hx, e, A⟩
  subst ex
  have e : ((asL st wx).bind fun xs => (sumI xs).map W.int) = some w := e
  obtain ⟨ys, e1, e⟩ := Option.bind_eq_some_iff.mp e
  obtain ⟨k, e2, rfl⟩ := Option.map_eq_some_iff.mp e
  obtain ⟨a, vs, rfl, h1, r1⟩ := asL_of (pins := pins) (σ := σ) (s := s) S hx e1
  obtain ⟨ns, rfl, rfl⟩ := ints_of r1 e2
  exact cr_sum hc pins s σ H _ us Q I r ⟨a, ns, rfl, h1.sq, A.here S rfl⟩
/-- sorted over a known list -/
theorem sorted_fin {pins : List (Addr × Obj)} {σ : L2.St} {H : Hp} {s : Shared} {ι : CL} {st : Store} {Q : VK} (I : Inv X pins σ H s) (S : SR (gd X) ι H st) (hu : X.A.units + 200 < cLine) {xs : List W} {l : Addr} {vs : List V} {its : List Value}
    (hl : s.heap.IsList l its.toArray) (r : Reps (gd X) ι (msk H ι) xs vs) (v : Vals vs its) (hz : xs.length ≤ sizeLine) (hp : pls 20 xs = true) (hs : sortable xs = true) (A : after true (gd X) ι H st (.lst (sortW xs)) Q) :
    wpAny (model X.prog X.w) X.A (call (.builtin "sorted") [.ref l]) (EP X pins σ Q) X.xe s := by
  obtain ⟨e1, e2⟩ := each_of I S r hp v
  obtain ⟨s1, s2⟩ := sortable_of hp hs
  refine PySem.W.sorted_data hl e1 e2 s1 s2 hz (fun w hw => ?_) fun out ho eo => ?_
  · have := depth_of_pd 20 w (pd_of_pl _ _ (pls_mem hp w hw))
    omega
  · obtain ⟨ws, h1, h2⟩ := each_back eo
    obtain ⟨c, hc⟩ := PyProof.Rows.sortedAll_at s.heap its out.toArray
    have hw := h2.len
    have hlen : (xs.mergeSort (PySem.W.dataLe false toPy)).length = xs.length := List.length_mergeSort _
    refine ⟨.ref (s.heap.objs.size + 1), upd H (s.heap.objs.size + 1) (.lst ws), I.laid (t' := s.toks) (fun _ _ => PyProof.Rows.sortedAll_old) (Nat.le_succ _)
      (show ObjOk X.prog X.w _ _ _ (.lst ws) from ⟨by rw [hw, hlen]; exact hz, out, c, h1, hc⟩), rfl, A.lst S h2 _ (I.hok.fresh (Nat.le_succ _))⟩

/-- repr -/
theorem cl_repr (hu : X.A.units + 200 < cLine) (hg : X.A.guards = some []) (hm : ∃ o, X.base.get? sysModules = some o ∧ o.cls = .type "dict") : CallR X (.builtin "repr") (c1R (gd X) fun x st => callB sub .repr [x] st) := by
  intro pins s σ H xs us Q I r ⟨ι, st, wx, x, w, ex, S, hx, e, A⟩
  subst ex
  have e : repF st wx = some w := e
  unfold repF at e
  obtain ⟨d, e1, e⟩ := Option.bind_eq_some_iff.mp e
  split at e
  · rename_i hsh
    cases e
    rw [Bool.and_eq_true] at hsh
    obtain ⟨hs1, hs2⟩ := hsh
    have hs2 := of_decide_eq_true hs2
    rw [szL] at hs2
    obtain ⟨u, rfl, rx⟩ := vals1 r
    obtain ⟨h1, h2⟩ := dataD_rep S hx e1
    have sy : SysOk s.heap := let ⟨o, q1, q2⟩ := hm; ⟨o, I.bk _ _ q1, q2⟩
    obtain ⟨as, ra, na⟩ := Rep.readsS sy I 20 d x u h2 h1 rx
    have hd := depth_of_pd 20 d h2
    have fin : ∀ (h' : Heap) (t : Tok) (tk : Nat), (∀ b o, s.heap.get? b = some o → h'.get? b = some o) → EP X pins σ Q (.str (toPy d).shown t) { s with heap := h', toks := tk } := fun h' t tk hk =>
      ⟨.str (toPy d).shown, H, I.kept hk, ⟨t, rfl⟩, A.here S rfl⟩
    generalize hp : toPy d = p at ra hs1 hs2 hd fin
    cases ra with
    | none => exact PySem.P.repr_of_none (fin s.heap _ _ fun _ _ e => e)
    | bool b => exact PySem.P.repr_of_bool (by
        have := fin s.heap s.toks (s.toks + 1) fun _ _ e => e
        cases b <;> exact this)
    | int i t => exact PySem.P.repr_of_int (by simpa [PyData.showable] using hs1) (fin s.heap _ _ fun _ _ e => e)
    | str z t => exact PySem.P.repr_of_str (fin s.heap _ _ fun _ _ e => e) hs2
    | list q1 q2 q3 q4 => exact PySem.repr_of_reads' (.list q1 q2 q3 q4) hs1 (fun _ => na) hg (by omega) (fun _ _ e => e) (fun h' u tk hk => fin h' u tk hk) hs2
    | tuple q1 q2 q3 q4 => exact PySem.repr_of_reads' (.tuple q1 q2 q3 q4) hs1 (fun _ => na) hg (by omega) (fun _ _ e => e) (fun h' u tk hk => fin h' u tk hk) hs2
    | dict q1 q2 q3 q4 q5 => exact PySem.repr_of_reads' (.dict q1 q2 q3 q4 q5) hs1 (fun _ => na) hg (by omega) (fun _ _ e => e) (fun h' u tk hk => fin h' u tk hk) hs2
  · cases e

theorem cl_sorted (hc : X.calm = true) (hu : X.A.units + 200 < cLine) : CallR X (.builtin "sorted") (c1R (gd X) fun x st => callB sub .sorted [x] st) := by
  intro pins s σ H xs us Q I r ⟨ι, st, wx, x, w, ex, S, hx, e, A⟩
  subst ex
  have e : sortF st wx = some w := e
  unfold sortF at e
  split at e
  · rename_i ys e1
    split at e
    · rename_i hp
      cases e
      rw [Bool.and_eq_true] at hp
      obtain ⟨a, vs, rfl, h1, r1⟩ := see_lst S hx e1
      obtain ⟨u, rfl, rx⟩ := vals1 r
      cases rx
      obtain ⟨its, rv, pl', hz⟩ := I.list (h1.sq)
      exact sorted_fin I S hu pl'.isList r1 rv (by rw [← r1.len]; exact hz) hp.1 hp.2 A
    · cases e
  · rename_i ks us' e1
    split at e
    · rename_i hp
      cases e
      rw [Bool.and_eq_true] at hp
      obtain ⟨d, es, qs, rfl, D⟩ := see_dict I S hx e1
      obtain ⟨ep, ho⟩ := D.obj
      obtain ⟨u, rfl, rx⟩ := vals1 r
      cases rx
      have hl := D.ok.len
      obtain ⟨kv, kr, vk⟩ := D.kr
      refine Calls.call_function_entry PyProof.Rows.kind_sorted PyProof.Rows.plain_sorted PyProof.Rows.entry_sorted (PyProof.Rows.args_sorted1 _) ?_
      unfold Builtin.«sorted»
      refine wpAny_bind (m := checkCount "sorted" 1 1 _) (wpAny_pure ?_)
      refine wpAny_bind (PySem.W.kdu_collect (A := X.A.in1) (KdlSrc.rawDict (es := es.toArray) (ep := ep) D.ok.sys) (I.ok.hd hc) (raw_of ho) (by rw [List.size_toArray]; exact hl) fun h' tk acc hk hacc => ?_)
      have ea := items_keys rfl hacc fun i v h => h
      rw [ea]
      have I1 : Inv X pins σ H { s with heap := h', toks := tk } := I.kept hk
      obtain ⟨e1, e2⟩ := each_of I1 S kr hp.1 vk
      obtain ⟨s1, s2⟩ := sortable_of hp.1 hp.2
      have lk2 := D.lk
      refine wpAny_bind (wpAny_newList ?_ (by rw [List.length_map]; exact hl))
      have hoL : (h'.push (seqObj "list" (es.map (·.key)).toArray 0)).get? h'.objs.size = some (seqObj "list" (es.map (·.key)).toArray 0) := Heap.get?_push_size _ rfl
      show wpAny _ _ _ _ _ { s with heap := h'.push (seqObj "list" (es.map (·.key)).toArray 0), toks := tk }
      refine wpAny_bind (wpAny_holding (PySem.W.list_sort_data (s := { s with heap := h'.push (seqObj "list" (es.map (·.key)).toArray 0), toks := tk }) hoL e1 (e2.mono fun v b ⟨as, rd⟩ => ⟨as, PyProof.Rows.Reads.keeps (fun _ _ q => Heap.get?_push_of_some _ q) rd, fun hm => by obtain ⟨o, q⟩ := PyProof.On.reads_mem_get rd _ hm; exact absurd (Heap.lt_size q) (Nat.lt_irrefl _)⟩) s1 s2 (by omega) (fun w hw => ?_) fun out ho' eo => ?_))
      · have := depth_of_pd 20 w (pd_of_pl _ _ (pls_mem hp.1 w hw))
        show X.A.units + 1 + 1 + _ < _
        omega
      · obtain ⟨ws, h1, h2⟩ := each_back eo
        obtain ⟨e', he'⟩ := PyProof.Rows.sortedHeap_at (vs := es.map (·.key)) (out := out.toArray) hoL
        have hw := h2.len
        have hlen : (ks.mergeSort (PySem.W.dataLe false toPy)).length = ks.length := List.length_mergeSort _
        refine wpAny_pure ⟨_, rfl, .ref h'.objs.size, upd H h'.objs.size (.lst ws), I1.laid (t' := tk) (fun b u e => ?_) (Nat.le_refl _)
          (show ObjOk X.prog X.w _ _ _ (.lst ws) from ⟨by rw [hw, hlen]; omega, out, e', h1, he'⟩), rfl, A.lst S h2 _ (I1.hok.fresh (Nat.le_refl _))⟩
        have hb : b < h'.objs.size := Heap.lt_size e
        rw [PyProof.Rows.sortedHeap_old (Nat.ne_of_lt hb) (by rw [size_push']; exact Nat.lt_succ_of_lt hb)]
        exact Heap.get?_push_of_some _ e
    · cases e
  · cases e
end
end Sw
end
section
set_option maxRecDepth 100000
set_option autoImplicit false
set_option maxHeartbeats 2000000
/-! SwP: methods; a store of an item. -/
namespace Sw
open CL
open PySem PySem.Spec PyProof.Rows L2
open PySem.SeqAt (EqAt)
section
variable {g : Gd} {ι : CL} {H : Hp} {st : Store}
/-- what stands outside the cells does not see a cell's change -/
theorem msk_put {a : Addr} {o : HO} (ha : a ∈ ι) : msk (upd H a o) ι = msk H ι := by
  funext b
  by_cases hb : b ∈ ι
  · rw [msk_in hb, msk_in hb]
  · rw [msk_out hb, msk_out hb, upd_ne (fun z : b = a => hb (by rw [z]; exact ha))]
/-- a cell is rewritten -/
theorem sr_put (S : SR g ι H st) {n : Nat} {a : Addr} {o : HO} {w : W} {c0 : W} (hn : ι.c[n]? = some a) (en : st[n]? = some c0) (hc0 : ∀ x, c0 ≠ .lok x) (hw : ∀ x, w ≠ .lok x) (c : CellRep g ι (upd H a o) a w) : SR g ι (upd H a o) (st.set n w) ∧ Same (msk H ι) (msk (upd H a o) ι) := by
  have ha : a ∈ ι := CL.mem_get hn
  have hs : Same (msk H ι) (msk (upd H a o) ι) := by rw [msk_put ha]; exact Same.refl _
  have hnd : (ι.c ++ ι.h.map (·.1)).Nodup := S.nd
  rw [List.nodup_append] at hnd
  refine ⟨⟨by rw [List.length_set]; exact S.len, S.nd, fun k w' e => ?_, fun q hq => ?_, fun q hq => ?_, fun k x e => ?_⟩, hs⟩
  case refine_4 =>
    by_cases hk : n = k
    · subst hk
      rw [List.getElem?_set_self (by rw [← S.len]; exact (List.getElem?_eq_some_iff.mp hn).1)] at e
      cases e
      exact absurd rfl (hw _)
    · rw [List.getElem?_set_ne hk] at e
      exact S.lkf k x e
  case refine_3 =>
    obtain ⟨e1, m, w', e2, e3⟩ := S.lck q hq
    have hm : n ≠ m := fun z => by
      subst z
      rw [en] at e3
      cases e3
      exact hc0 _ rfl
    have hne : q.1 ≠ a := fun z => by
      rw [z] at e2
      exact hm ((List.getElem?_inj (List.getElem?_eq_some_iff.mp hn).1 hnd.1).mp (hn.trans e2.symm))
    exact ⟨by rw [upd_ne hne]; exact e1, m, w', e2, by rw [List.getElem?_set_ne hm]; exact e3⟩
  case refine_2 =>
    rw [upd_ne (fun z => hnd.2.2 a (List.mem_of_getElem? hn) q.1 (List.mem_map.mpr ⟨q, hq, rfl⟩) z.symm)]
    exact S.hid q hq
  by_cases hk : n = k
  · subst hk
    have hl : n < st.length := by rw [← S.len]; exact (List.getElem?_eq_some_iff.mp hn).1
    rw [List.getElem?_set_self hl] at e
    cases e
    exact ⟨a, hn, c⟩
  · rw [List.getElem?_set_ne hk] at e
    obtain ⟨b, hb, cb⟩ := S.cells k w' e
    have hne : b ≠ a := fun z => by
      subst z
      exact hk ((List.getElem?_inj (List.getElem?_eq_some_iff.mp hn).1 hnd.1).mp (hn.trans hb.symm))
    exact ⟨b, hb, cb.step (fun o' q => by rw [upd_ne hne]; exact q) hs (CL.le_refl _)⟩
/-- a method by values -/
def mtR (g : Gd) (m : MI) : V → List V → Hp → VK → Prop := fun x xs H Q => ∃ ι st wx ws w st', SR g ι H st ∧ Rep g ι (msk H ι) wx x ∧ Reps g ι (msk H ι) ws xs ∧ callM m wx ws st = .ok w st' ∧
  ∀ (H' : Hp) (v : V), SR g ι H' st' → Same (msk H ι) (msk H' ι) → Rep g ι (msk H' ι) w v → Q v H'
/-- the cell behind an address -/
theorem lst_cell (S : SR g ι H st) {n : Nat} {v : V} {xs : List W} (r : Rep g ι (msk H ι) (.cell n) v) (e : st[n]? = some (.lst xs)) : ∃ a vs, v = .ref a ∧ ι.c[n]? = some a ∧ H a = some (.lst vs) ∧ Reps g ι (msk H ι) xs vs := by
  obtain ⟨a, c, rfl, h1, h2, h3⟩ := cell_of S r
  rw [e] at h2; cases h2
  obtain ⟨vs, h4, h5⟩ := h3
  exact ⟨a, vs, rfl, h1, h4, h5⟩
theorem cell_lst {a : Addr} {xs : List W} {vs : List V} (ha : a ∈ ι) (r : Reps g ι (msk H ι) xs vs) : CellRep g ι (upd H a (.lst vs)) a (.lst xs) := ⟨vs, upd_same, by rw [msk_put ha]; exact r⟩
theorem Reps.eraseIdx : ∀ {xs : List W} {vs : List V} (n : Nat), Reps g ι H xs vs → Reps g ι H (xs.eraseIdx n) (vs.eraseIdx n)
  | [], vs, n, h => by
    have h : vs = [] := h
    subst h; exact Reps.nil
  | x :: xs, vs, 0, h => by
    obtain ⟨u, r, rfl, h1, h2⟩ := h
    exact h2
  | x :: xs, vs, n + 1, h => by
    obtain ⟨u, r, rfl, h1, h2⟩ := h
    exact ⟨u, r.eraseIdx n, rfl, h1, Reps.eraseIdx n h2⟩
theorem Reps.dropLast {xs : List W} {vs : List V} (h : Reps g ι H xs vs) : Reps g ι H xs.dropLast vs.dropLast := by
  rw [List.dropLast_eq_take, List.dropLast_eq_take, h.len]
  exact h.take _
end
section
variable {X : Cx}

theorem mt_appendW : MtR X "list.append" (mtR (gd X) .append) := by
  intro pins s σ H x xs v us Q I rx rs ⟨ι, st, wx, ws, w, st', S, hx, hs, e, q⟩
  cases ws with
  | nil => cases e
  | cons y r =>
  cases r with
  | cons _ _ => cases e
  | nil =>
  have e : appF st y wx = .ok w st' := e
  unfold appF at e
  split at e
  · rename_i n
    split at e
    · rename_i ys en
      split at e
      · rename_i hl
        cases e
        obtain ⟨a, vs, rfl, ha, hH, r1⟩ := lst_cell S hx en
        obtain ⟨u, rfl, r2⟩ := reps1 hs
        rw [szL] at hl
        refine mt_append pins s σ H _ _ v us Q I rx rs ⟨a, vs, u, rfl, rfl, hH, by rw [r1.len]; exact hl, ?_⟩
        obtain ⟨S', hm⟩ := sr_put S ha (by assumption) (by intro _ z; cases z) (by intro _ z; cases z) (cell_lst (CL.mem_get ha) (r1.app (Reps.cons r2 Reps.nil)))
        exact q _ _ S' hm rfl
      · cases e
    · cases e
  · cases e
theorem mt_popW : MtR X "list.pop" (mtR (gd X) .pop) := by
  intro pins s σ H x xs v us Q I rx rs ⟨ι, st, wx, ws, w, st', S, hx, hs, e, q⟩
  cases ws with
  | cons y r => cases e
  | nil =>
  have e : popF st wx = .ok w st' := e
  have hs : xs = [] := hs
  subst hs
  unfold popF at e
  split at e
  · rename_i n
    split at e
    · rename_i ys en
      split at e
      · rename_i y ey
        cases e
        obtain ⟨a, vs, rfl, ha, hH, r1⟩ := lst_cell S hx en
        obtain ⟨u, hu, ru⟩ := r1.get ey
        refine mt_pop pins s σ H _ _ v us Q I rx rs ⟨a, vs, u, rfl, rfl, hH, by rw [r1.len]; exact hu, ?_⟩
        obtain ⟨S', hm⟩ := sr_put S ha (by assumption) (by intro _ z; cases z) (by intro _ z; cases z) (cell_lst (CL.mem_get ha) r1.dropLast)
        exact q _ _ S' hm (ru.mono hm (CL.le_refl _) _ _)
      · cases e
    · cases e
  · cases e
theorem nat_of {xs : List W} {vs : List V} {k : Int} {j : Nat} (hl : vs.length = xs.length) (h : nat? xs k = some j) : j < xs.length ∧ ixN vs.length k = some j ∧ seqIndex? k vs.length = some j ∧ -(xs.length : Int) ≤ k ∧ k < xs.length := by
  have key : j < xs.length ∧ ixN vs.length k = some j := by
    unfold nat? at h
    unfold ixN
    by_cases h0 : 0 ≤ k
    · rw [if_pos h0] at h ⊢
      split at h
      · cases h
        refine ⟨by assumption, ?_⟩
        rw [if_pos (by omega)]
      · cases h
    · rw [if_neg h0] at h ⊢
      split at h
      · cases h
        refine ⟨by omega, ?_⟩
        rw [if_pos (by omega), hl]
      · cases h
  obtain ⟨h1, h2, h3, h4⟩ := ixN_seq key.2
  exact ⟨key.1, key.2, h1, by omega, by omega⟩
theorem mt_popAtW : MtR X "list.pop" (mtR (gd X) .popAt) := by
  intro pins s σ H x xs v us Q I rx rs ⟨ι, st, wx, ws, w, st', S, hx, hs, e, q⟩
  cases ws with
  | nil => cases e
  | cons y r =>
  cases r with
  | cons _ _ => cases e
  | nil =>
  have e : popAtF st y wx = .ok w st' := e
  unfold popAtF at e
  split at e
  · rename_i n
    split at e
    · rename_i ys k en
      split at e
      · rename_i j ej
        split at e
        · rename_i z ez
          cases e
          obtain ⟨a, vs, rfl, ha, hH, r1⟩ := lst_cell S hx en
          obtain ⟨u, rfl, r2⟩ := reps1 hs
          have r2 : u = .int k := r2
          subst r2
          obtain ⟨u, hu, ru⟩ := r1.get ez
          obtain ⟨n1, n2, n3, n4, n5⟩ := nat_of r1.len ej
          have hz := (I.lstM hH).1
          have hl := r1.len
          have h63 := line63
          refine mt_popAt pins s σ H _ _ v us Q I rx rs ⟨a, vs, k, j, u, rfl, rfl, hH, by omega, by omega, n3, hu, ?_⟩
          obtain ⟨S', hm⟩ := sr_put S ha (by assumption) (by intro _ z; cases z) (by intro _ z; cases z) (cell_lst (CL.mem_get ha) (r1.eraseIdx j))
          exact q _ _ S' hm (ru.mono hm (CL.le_refl _) _ _)
        · cases e
      · cases e
    · cases e
  · cases e
theorem mt_bitW : MtR X "int.bit_length" (mtR (gd X) .bitlen) := by
  intro pins s σ H x xs v us Q I rx rs ⟨ι, st, wx, ws, w, st', S, hx, hs, e, q⟩
  cases ws with
  | cons y r => cases e
  | nil =>
  have hs : xs = [] := hs
  subst hs
  cases wx <;> try (cases e; done)
  rename_i i
  have hx : x = .int i := hx
  subst hx
  have e : Out.ok (W.int (Builtin.Int.intBits i : Nat)) st = .ok w st' := e
  cases e
  obtain ⟨t, rfl⟩ := rx
  cases rs
  exact call_int_bit_length ⟨.int _, H, I.tok _, ⟨_, rfl⟩, q _ _ S (Same.refl _) rfl⟩
/-- get -/
theorem getW (hu : X.A.units + 200 < cLine) {pins : List (Addr × Obj)} {σ : L2.St} {H : Hp} {s : Shared} {ι : CL} {st : Store} (I : Inv X pins σ H s) (S : SR (gd X) ι H st) {wo wk wd w : W} {o : V} {uo uk : Value} {k : V}
    (ho : Rep (gd X) ι (msk H ι) wo o) (hk : Rep (gd X) ι (msk H ι) wk k) (ro : RelV o uo) (rk : RelV k uk) (e : getF st wk wd wo = some w) :
    ∃ d, uo = .ref d ∧ (d == sysModules) = false ∧ s.TypeIs (.ref d) "dict" ∧ ∀ (A : Around) (E : Value → Shared → Prop) (R : Option Value → Shared → Prop), A.units ≤ X.A.units + 100 →
      (∀ (v : V) (u : Value) (t : Nat), RelV v u → Rep (gd X) ι (msk H ι) w v → R (some u) { s with toks := t }) → (w = wd → ∀ t : Nat, R none { s with toks := t }) → wpAny (model X.prog X.w) A (dictGet d uk) R E s := by
  unfold getF at e
  split at e
  · rename_i ks us e1
    obtain ⟨d, es, qs, rfl, D⟩ := see_dict I S ho e1
    cases ro
    obtain ⟨p, hp, e⟩ := Option.bind_eq_some_iff.mp e
    obtain ⟨k1, k2, k3⟩ := keyW_of hp
    obtain ⟨ep, hob⟩ := D.obj
    have hn := Rep.nested I msk_same wk k uk p hk k2 rk
    refine ⟨d, rfl, D.ok.sys, dict_is hob, fun A E R hA q1 q2 => ?_⟩
    refine dget_any hob D.ents hn k3 (by omega) (fun hno => ?_) fun j en hj he => ?_
    · rcases D.look p with ⟨n1, n2⟩ | ⟨j, w', u', e', j1, _⟩
      · rw [n2] at e
        cases e
        exact q2 rfl _
      · exact absurd (List.mem_of_getElem? j1) hno
    · rcases D.look p with ⟨n1, n2⟩ | ⟨j', w', u', e', j1, j2, j3, j4, j5⟩
      · exact absurd (List.mem_of_getElem? hj) n1
      · have : j' = j := (List.getElem?_inj (List.getElem?_eq_some_iff.mp j1).1 D.ents.nd).mp (j1.trans hj.symm)
        subst this
        rw [j2] at e
        cases e
        rw [List.getElem?_toArray, j3] at he
        cases he
        exact q1 u' _ _ j5 j4
  · cases e
theorem mt_getW (hu : X.A.units + 200 < cLine) : MtR X "dict.get" (mtR (gd X) .get) := by
  intro pins s σ H x xs v us Q I rx rs ⟨ι, st, wx, ws, w, st', S, hx, hs, e, q⟩
  cases ws with
  | nil => cases e
  | cons y r =>
  cases r with
  | cons _ _ => cases e
  | nil =>
  cases hg : getF st y .non wx with
  | none => simp only [callM, hg] at e; cases e
  | some z =>
  simp only [callM, hg] at e
  cases e
  obtain ⟨k, rfl, hk⟩ := reps1 hs
  obtain ⟨uk, rfl, rk⟩ := vals1 rs
  obtain ⟨d, rfl, hsys, ht, run⟩ := getW hu I S hx hk rx rk hg
  refine wpAny_call_entry F.slot_dict_get ht F.entry_dict_get ?_ (F.args_dict_get_2 _ _)
  show wpAny _ _ (dictGet d uk >>= _) _ _ s
  refine wpAny_bind (run _ _ _ (by show X.A.units + 1 ≤ _; omega) (fun v u t r1 r2 => wpAny_pure ⟨u, rfl, v, H, I.tok t, r1, q _ _ S (Same.refl _) r2⟩) fun z t => ?_)
  subst z
  show wpAny _ _ (Builtin.Dict.missed d uk >>= _) _ _ _
  exact wpAny_bind (wpAny_missed_other hsys (wpAny_pure ⟨.none, rfl, .non, H, I.tok t, rfl, q _ _ S (Same.refl _) rfl⟩))
theorem mt_get2W (hu : X.A.units + 200 < cLine) : MtR X "dict.get" (mtR (gd X) .get2) := by
  intro pins s σ H x xs v us Q I rx rs ⟨ι, st, wx, ws, w, st', S, hx, hs, e, q⟩
  cases ws with
  | nil => cases e
  | cons y r =>
  cases r with
  | nil => cases e
  | cons y2 r =>
  cases r with
  | cons _ _ => cases e
  | nil =>
  cases hg : getF st y y2 wx with
  | none => simp only [callM, hg] at e; cases e
  | some z =>
  simp only [callM, hg] at e
  cases e
  obtain ⟨k, dv, rfl, hk, hd⟩ := reps2 hs
  obtain ⟨uk, ud, rfl, rk, rd⟩ := vals2 rs
  obtain ⟨d, rfl, hsys, ht, run⟩ := getW hu I S hx hk rx rk hg
  refine wpAny_call_entry F.slot_dict_get ht F.entry_dict_get ?_ (F.args_dict_get_3 _ _ _)
  show wpAny _ _ (dictGet d uk >>= _) _ _ s
  refine wpAny_bind (run _ _ _ (by show X.A.units + 1 ≤ _; omega) (fun v u t r1 r2 => wpAny_pure ⟨u, rfl, v, H, I.tok t, r1, q _ _ S (Same.refl _) r2⟩) fun z t => ?_)
  subst z
  show wpAny _ _ (Builtin.Dict.missed d uk >>= _) _ _ _
  exact wpAny_bind (wpAny_missed_other hsys (wpAny_pure ⟨ud, rfl, dv, H, I.tok t, rd, q _ _ S (Same.refl _) hd⟩))
end
end Sw
end
section
set_option maxRecDepth 100000
set_option autoImplicit false
set_option maxHeartbeats 2000000
/-! SwQ: o[i] = v. -/
namespace Sw
open CL
open PySem PySem.Spec PyProof.Rows L2
open PySem.SeqAt (EqAt)
def setR (g : Gd) : V → V → V → Hp → (Hp → Prop) → Prop := fun o i v H Q => ∃ ι st wo wi w st', SR g ι H st ∧ Rep g ι (msk H ι) wo o ∧ Rep g ι (msk H ι) wi i ∧ Rep g ι (msk H ι) w v ∧ setW wo wi w st = some st' ∧
  ∀ H' : Hp, SR g ι H' st' → Same (msk H ι) (msk H' ι) → Q H'
theorem dicO_ok {P : Program} {w : World} {H : Hp} {h : Heap} {d : Addr} {es : List DictEntry} {ep : Nat} (e : h.get? d = some (dictObj es.toArray ep)) : ObjOk P w H h d (dicO d es ep) :=
  ⟨e, ⟨_, e⟩, fun h1 h2 p k => k _ p⟩
section
variable {g : Gd} {ι : CL} {H : Hp} {st : Store}
theorem dic_cell (S : SR g ι H st) {n : Nat} {v : V} {ks us : List W} (r : Rep g ι (msk H ι) (.cell n) v) (e : st[n]? = some (.dic ks us)) : ∃ a, v = .ref a ∧ ι.c[n]? = some a ∧ ∃ (es : List DictEntry) (kv uv : List V), HasD H a es ∧ DicOk g.w a ks es ∧
    Reps g ι (msk H ι) ks kv ∧ Reps g ι (msk H ι) us uv ∧ Vals kv (es.map (·.key)) ∧ Vals uv (es.map (·.val)) := by
  obtain ⟨a, c, rfl, h1, h2, h3⟩ := cell_of S r
  rw [e] at h2; cases h2
  exact ⟨a, rfl, h1, h3⟩
theorem cell_dic {a : Addr} {ks us : List W} {es : List DictEntry} {ep : Nat} {kv uv : List V} (ha : a ∈ ι) (ok : DicOk g.w a ks es) (r1 : Reps g ι (msk H ι) ks kv) (r2 : Reps g ι (msk H ι) us uv) (v1 : Vals kv (es.map (·.key))) (v2 : Vals uv (es.map (·.val))) :
    CellRep g ι (upd H a (dicO a es ep)) a (.dic ks us) := ⟨es, kv, uv, ⟨ep, upd_same⟩, ok, by rw [msk_put ha]; exact r1, by rw [msk_put ha]; exact r2, v1, v2⟩
end
theorem DicOk.push {w : World} {d : Addr} {ks : List W} {es : List DictEntry} (ok : DicOk w d ks es) {wi : W} {q : NestedKey} {key v : Value} {qs : List NestedKey} (hk : keyOf wi = some q) (hd : q.depth ≤ 8) (hq : keysOf ks = some qs) (hn : q ∉ qs) (hz : es.length < sizeLine) :
    DicOk w d (ks ++ [wi]) (es ++ [⟨q.hash w, key, v⟩]) := by
  obtain ⟨qs', e1, e2, e3, e4⟩ := ok.keys
  rw [hq] at e1; cases e1
  refine ⟨by rw [List.length_append]; exact hz, ok.sys, qs ++ [q], keysOf_app hq (by simp only [keysOf, hk]), ?_, ?_, fun p hp => ?_⟩
  · rw [List.map_append, List.map_append, e2]; rfl
  · rw [List.nodup_append]
    refine ⟨e3, by simp, fun a ha b hb => ?_⟩
    rw [List.mem_singleton] at hb
    subst hb
    exact fun z => hn (z ▸ ha)
  · rcases List.mem_append.mp hp with hp | hp
    · exact e4 p hp
    · rw [List.mem_singleton] at hp
      subst hp; exact hd
theorem modify_hash (es : List DictEntry) (j : Nat) (u : Value) : (es.modify j fun e => { e with val := u }).map (·.hash) = es.map (·.hash) := by
  apply List.ext_getElem?
  intro i
  rw [List.getElem?_map, List.getElem?_map, List.getElem?_modify]
  cases es[i]? with
  | none => rfl
  | some e =>
    show some _ = some _
    by_cases h : j = i
    · simp [h]
    · simp [h]
theorem modify_key (es : List DictEntry) (j : Nat) (u : Value) : (es.modify j fun e => { e with val := u }).map (·.key) = es.map (·.key) := by
  apply List.ext_getElem?
  intro i
  rw [List.getElem?_map, List.getElem?_map, List.getElem?_modify]
  cases es[i]? with
  | none => rfl
  | some e =>
    show some _ = some _
    by_cases h : j = i
    · simp [h]
    · simp [h]
theorem modify_val (es : List DictEntry) (j : Nat) (u : Value) : (es.modify j fun e => { e with val := u }).map (·.val) = (es.map (·.val)).set j u := by
  apply List.ext_getElem?
  intro i
  rw [List.getElem?_map, List.getElem?_modify, List.getElem?_set]
  by_cases h : j = i
  · subst h
    simp only [if_true, List.length_map]
    by_cases hl : j < es.length
    · rw [List.getElem?_eq_getElem hl]; simp [hl]
    · rw [List.getElem?_eq_none (by omega)]; simp [hl]
  · simp [h]
theorem DicOk.modify {w : World} {d : Addr} {ks : List W} {es : List DictEntry} (ok : DicOk w d ks es) (j : Nat) (u : Value) : DicOk w d ks (es.modify j fun e => { e with val := u }) := by
  obtain ⟨qs, e1, e2, e3, e4⟩ := ok.keys
  exact ⟨by rw [List.length_modify]; exact ok.len, ok.sys, qs, e1, by rw [modify_hash]; exact e2, e3, e4⟩
section
variable {X : Cx}
/-- the dict behind a store -/
theorem Inv.dput {pins : List (Addr × Obj)} {σ : L2.St} {H : Hp} {s : Shared} {d : Addr} {es es' : List DictEntry} {ep : Nat} {h' : Heap} {t' : Nat} (I : L2.Inv X pins σ H s) (hd : HasD H d es) (k : Heap.SameBut d s.heap h') (e : h'.get? d = some (dictObj es'.toArray ep)) :
    L2.Inv X pins σ (upd H d (dicO d es' ep)) { s with heap := h', toks := t' } := by
  obtain ⟨ep0, hd⟩ := hd
  exact I.write (x := d) (e := d) (by rw [hd]; exact trivial) (.inl rfl) (fun b u hb q => (k.2 b hb).trans q) ⟨_, e⟩ (dicO_ok e)
theorem set_W (hu : X.A.units + 200 < cLine) : PSet X (setR (gd X)) := by
  intro pins s σ H o i v ov iv u Q I ro ri rv ⟨ι, st, wo, wi, w, st', S, ho, hi, hw, e, q⟩
  unfold setW at e
  split at e
  · rename_i n
    split at e
    · rename_i xs en
      split at e
      · rename_i k
        obtain ⟨j, ej, rfl⟩ := Option.map_eq_some_iff.mp e
        have hi : i = .int k := hi
        subst hi
        obtain ⟨a, vs, rfl, ha, hH, r1⟩ := lst_cell S ho en
        obtain ⟨n1, n2, n3, n4, n5⟩ := nat_of r1.len ej
        refine set_list pins s σ H _ _ v ov iv u Q I ro ri rv ⟨a, vs, k, j, rfl, rfl, hH, n2, ?_⟩
        obtain ⟨S', hm⟩ := sr_put S ha (by assumption) (by intro _ z; cases z) (by intro _ z; cases z) (cell_lst (CL.mem_get ha) (r1.set hw j))
        exact q _ S' hm
      · cases e
    · rename_i ks us en
      obtain ⟨p, hp, e⟩ := Option.bind_eq_some_iff.mp e
      split at e
      · rename_i hz
        cases e
        obtain ⟨k1, k2, k3⟩ := keyW_of hp
        obtain ⟨a, rfl, ha, es, kv, uv, hd, ok, r1, r2, v1, v2⟩ := dic_cell S ho en
        obtain ⟨qs, D⟩ := dic_of I hd ok r1 r2 v1 v2
        obtain ⟨ep, hob⟩ := D.obj
        cases ro
        have hn := Rep.nested I msk_same wi i iv p hi k2 ri
        have lk := D.lk
        have lu := D.lu
        rw [szL] at hz
        have ham := CL.mem_get ha
        refine setItem_any hob D.ents hn k3 (by omega) (by rw [List.size_toArray]; exact ok.len) (fun hno h' ep' sb he => ?_) fun j hj h' ep' sb he => ?_
        · have he' : h'.get? a = some (dictObj (es ++ [({ hash := p.hash X.w, key := iv, val := u } : DictEntry)]).toArray ep') := by
            rw [he]; simp
          have J := Inv.dput (t' := s.toks + p.draws) I hd sb he'
          obtain ⟨S', hm⟩ := sr_put S ha (by assumption) (by intro _ z; cases z) (by intro _ z; cases z) (cell_dic (ep := ep') ham (ok.push (key := iv) (v := u) k2 k3 D.keys hno (by omega : es.length < sizeLine)) (r1.app (Reps.cons hi Reps.nil)) (r2.app (Reps.cons hw Reps.nil))
            (by rw [List.map_append]; exact v1.append (.cons ri .nil)) (by rw [List.map_append]; exact v2.append (.cons rv .nil)))
          refine ⟨_, J, q _ ?_ hm⟩
          rw [put_none D.keys (by omega) hno]
          exact S'
        · have he' : h'.get? a = some (dictObj (es.modify j fun e => { e with val := u }).toArray ep') := by
            rw [he]; simp
          have J := Inv.dput (t' := s.toks + p.draws) I hd sb he'
          obtain ⟨S', hm⟩ := sr_put S ha (by assumption) (by intro _ z; cases z) (by intro _ z; cases z) (cell_dic (ep := ep') ham (ok.modify j u) r1 (r2.set hw j) (by rw [modify_key]; exact v1) (by rw [modify_val]; exact v2.set rv j))
          refine ⟨_, J, q _ ?_ hm⟩
          rw [put_at D.keys D.ents.nd (by omega) hj]
          exact S'
      · cases e
    · cases e
  · cases e
end
end Sw
end
section
set_option maxRecDepth 100000
set_option autoImplicit false
set_option maxHeartbeats 2000000
/-! SwR: readings of the mini language as HandS's; the rules for expressions. -/
namespace Sw
open CL
open PySem PySem.Spec PyProof.Rows L2
open PySem.SeqAt (EqAt)

/-- an exception is under way -/
def excP (g : Gd) (Y : WX) (σ : L2.St) (ι : CL) (H : Hp) (c : Str) (w : W) (st' : Store) : Prop :=
  ∀ (ι' : CL) (H' : Hp) (Ca dx : Addr) (u : V), CL.le ι ι' → Same (msk H ι) (msk H' ι') → SR g ι' H' st' → g.mg c = some (.ref Ca) → msk H' ι' dx = some (.xd [("value", u)]) → Rep g ι' (msk H' ι') w u → Y (.ref Ca) (some dx) σ H'
/-- what follows a step of the mini language -/
def post {α : Type} (g : Gd) (Y : WX) (σ : L2.St) (ι : CL) (H : Hp) (o : Out α) (K : α → Store → CL → Hp → Prop) : Prop := match o with
  | .ok a st' => ∀ (ι' : CL) (H' : Hp), CL.le ι ι' → Same (msk H ι) (msk H' ι') → SR g ι' H' st' → K a st' ι' H'
  | .exc c w st' => excP g Y σ ι H c w st'
  | .stuck => False
section
variable {g : Gd} {Y : WX} {σ : L2.St} {ι ι1 : CL} {H H1 : Hp} {α β : Type}
theorem excP.step {c : Str} {w : W} {st' : Store} (h : excP g Y σ ι H c w st') (p : CL.le ι ι1) (s : Same (msk H ι) (msk H1 ι1)) : excP g Y σ ι1 H1 c w st' :=
  fun ι' H' Ca dx u p' s' => h ι' H' Ca dx u (p.trans p') (s.trans s')
theorem post.step {o : Out α} {K : α → Store → CL → Hp → Prop} (h : post g Y σ ι H o K) (p : CL.le ι ι1) (s : Same (msk H ι) (msk H1 ι1)) : post g Y σ ι1 H1 o K := by
  cases o with
  | ok a st' => exact fun ι' H' p' s' S => h ι' H' (p.trans p') (s.trans s') S
  | exc c w st' => exact excP.step h p s
  | stuck => exact h
/-- the first step, then the others from where it leads -/
theorem post.bind {o : Out α} {f : α → Store → Out β} {K : β → Store → CL → Hp → Prop} {K1 : α → Store → CL → Hp → Prop} (h : post g Y σ ι H (o.bind f) K)
    (i : ∀ a st1 ι1 H1, CL.le ι ι1 → Same (msk H ι) (msk H1 ι1) → SR g ι1 H1 st1 → post g Y σ ι1 H1 (f a st1) K → K1 a st1 ι1 H1) : post g Y σ ι H o K1 := by
  cases o with
  | ok a st1 => exact fun ι1 H1 p s S => i a st1 ι1 H1 p s S (post.step (o := f a st1) h p s)
  | exc c w st' => exact h
  | stuck => exact h.elim
/-- the same, what follows told from the start -/
theorem post.bindU {o : Out α} {f : α → Store → Out β} {K : β → Store → CL → Hp → Prop} {K1 : α → Store → CL → Hp → Prop} (h : post g Y σ ι H (o.bind f) K)
    (i : ∀ a st1 ι1 H1, CL.le ι ι1 → Same (msk H ι) (msk H1 ι1) → SR g ι1 H1 st1 → post g Y σ ι H (f a st1) K → K1 a st1 ι1 H1) : post g Y σ ι H o K1 := by
  cases o with
  | ok a st1 => exact fun ι1 H1 p s S => i a st1 ι1 H1 p s S h
  | exc c w st' => exact h
  | stuck => exact h.elim
theorem post.imp {o : Out α} {K K1 : α → Store → CL → Hp → Prop} (h : post g Y σ ι H o K) (i : ∀ a st1 ι1 H1, CL.le ι ι1 → Same (msk H ι) (msk H1 ι1) → SR g ι1 H1 st1 → K a st1 ι1 H1 → K1 a st1 ι1 H1) : post g Y σ ι H o K1 := by
  cases o with
  | ok a st1 => exact fun ι1 H1 p s S => i a st1 ι1 H1 p s S (h ι1 H1 p s S)
  | exc c w st' => exact h
  | stuck => exact h.elim
theorem post.cong {o : Out α} {f : α → Store → Out β} {γ : Type} {f' : α → Store → Out γ} {K : β → Store → CL → Hp → Prop} {K' : γ → Store → CL → Hp → Prop} (h : post g Y σ ι H (o.bind f) K)
    (i : ∀ a st1, post g Y σ ι H (f a st1) K → post g Y σ ι H (f' a st1) K') : post g Y σ ι H (o.bind f') K' := by
  cases o with
  | ok a st1 => exact i a st1 h
  | exc c w st' => exact h
  | stuck => exact h
theorem post.opt {o : Option α} {st : Store} {K : α → Store → CL → Hp → Prop} (h : post g Y σ ι H (.opt o st) K) (S : SR g ι H st) : ∃ a, o = some a ∧ K a st ι H ∧ ∀ (ι' : CL) (H' : Hp), CL.le ι ι' → Same (msk H ι) (msk H' ι') → SR g ι' H' st → K a st ι' H' := by
  cases o with
  | none => exact h.elim
  | some a => exact ⟨a, rfl, h ι H (CL.le_refl _) (Same.refl _) S, h⟩
/-- a tracked address stays tracked -/
theorem there_mono {st st1 : Store} (S : SR g ι H st) (S1 : SR g ι1 H1 st1) (p : CL.le ι ι1) (s : Same (msk H ι) (msk H1 ι1)) {a : Addr} (h : H1 a = none) : H a = none := by
  cases e : H a with
  | none => rfl
  | some o =>
    by_cases ha : a ∈ ι
    · obtain ⟨o', e'⟩ := S1.there (p.sub ha)
      rw [h] at e'; cases e'
    · have := s a o (by rw [msk_out ha]; exact e)
      obtain ⟨e', _⟩ := msk_some this
      rw [h] at e'; cases e'
theorem FreshAt.back {st st1 st2 : Store} {H' : Hp} {v : V} {w : W} (S : SR g ι H st) (S1 : SR g ι1 H1 st1) (p : CL.le ι ι1) (s : Same (msk H ι) (msk H1 ι1)) (f : FreshAt g ι1 H1 H' st2 v w) : FreshAt g ι1 H H' st2 v w := by
  obtain ⟨a, e, n, c⟩ := f
  exact ⟨a, e, there_mono S S1 p s n, c⟩
end

/-- forms whose lists and dicts are new -/
def fresh : ME → Bool
  | .lst _ => true
  | .dic _ => true
  | .bin _ _ _ => true
  | .slc _ _ _ => true
  | .rev _ => true
  | .bi _ _ => true
  | .comp _ _ _ _ _ => true
  | .dcomp _ _ _ _ _ _ => true
  | .listI _ => true
  | .neg _ => true
  | _ => false
/-- the wish behind an expression -/
def KV (g : Gd) (fr : Bool) (H0 : Hp) (Q : VK) : W → Store → CL → Hp → Prop := fun w st' ι' H' => ∀ v, Rep g ι' (msk H' ι') w v → (fr = true → isLD w = true → FreshAt g ι' H0 H' st' v w) → Q v H'
section
variable (X : Cx) (G : Cfg) (C : Str → List W → Store → Out W) (Y : WX)
def tM (e : ME) : TE := fun σ H Q => ∃ ι st env, SR (gd X) ι H st ∧ ER (gd X) ι H env σ ∧ post (gd X) Y σ ι H (ev G C e env st) (KV (gd X) (fresh e) H Q)
def tMs (es : List ME) : TA := fun σ H Q => ∃ ι st env, SR (gd X) ι H st ∧ ER (gd X) ι H env σ ∧ post (gd X) Y σ ι H (evs G C es env st) fun ws _ ι' H' => ∀ vs, Reps (gd X) ι' (msk H' ι') ws vs → Q vs H'
def tMt (e : ME) : TT := fun σ H Q => ∃ ι st env, SR (gd X) ι H st ∧ ER (gd X) ι H env σ ∧ post (gd X) Y σ ι H ((ev G C e env st).bind fun w st => .opt (truth st w) st) fun b _ ι' H' => Q b H'
end

theorem _root_.L2.PE.imp {X : Cx} {e : Expr} {t t' : TE} (h : PE X e t) (i : ∀ σ H Q, t' σ H Q → t σ H Q) : PE X e t' := ⟨fun pins s σ H Q I q => h.run pins s σ H Q I (i σ H Q q)⟩
theorem _root_.L2.PA.imp {X : Cx} {e : List Expr} {t t' : TA} (h : PA X e t) (i : ∀ σ H Q, t' σ H Q → t σ H Q) : PA X e t' := ⟨fun pos pins s σ H Q I q => h.run pos pins s σ H Q I (i σ H Q q)⟩
theorem _root_.L2.PT.imp {X : Cx} {e : Expr} {t t' : TT} (h : PT X e t) (i : ∀ σ H Q, t' σ H Q → t σ H Q) : PT X e t' := ⟨fun pins s σ H Q I q => h.run pins s σ H Q I (i σ H Q q)⟩
theorem _root_.L2.PW.imp {X : Cx} {e : Expr} {t t' : TT} (h : PW X e t) (i : ∀ σ H Q, t' σ H Q → t σ H Q) : PW X e t' := ⟨fun wh pins s σ H Q I q => h.run wh pins s σ H Q I (i σ H Q q)⟩

section
variable {X : Cx} {G : Cfg} {C : Str → List W → Store → Out W} {Y : WX}
/-- the value is there already, the store as it was -/
theorem here_of {ι : CL} {H : Hp} {st : Store} {σ : L2.St} {fr : Bool} {w : W} {H0 : Hp} {Q : VK} (S : SR (gd X) ι H st) (h : post (gd X) Y σ ι H (.ok w st) (KV (gd X) fr H0 Q)) {v : V} (r : Rep (gd X) ι (msk H ι) w v) (f : fr = true → isLD w = true → FreshAt (gd X) ι H0 H st v w) : Q v H :=
  h ι H (CL.le_refl _) (Same.refl _) S v r f
/-- what an operation wants -/
theorem after_of {ι ι1 : CL} {H H1 : Hp} {st st1 : Store} {fr fr' : Bool} {w : W} {Q : VK} (S : SR (gd X) ι H st) (S1 : SR (gd X) ι1 H1 st1) (p : CL.le ι ι1) (s : Same (msk H ι) (msk H1 ι1)) (hf : fr = true → fr' = true)
    (h : ∀ (ι' : CL) (H' : Hp), CL.le ι1 ι' → Same (msk H1 ι1) (msk H' ι') → SR (gd X) ι' H' st1 → KV (gd X) fr H Q w st1 ι' H') : after fr' (gd X) ι1 H1 st1 w Q :=
  fun H' v S' s' r f => h ι1 H' (CL.le_refl _) s' S' v r fun e1 e2 => FreshAt.back S S1 p s (f (hf e1) e2)
theorem pe_kW {e : Expr} {w : W} {v : V} (h : PE X e (tC v)) (r : ∀ ι H, Rep (gd X) ι H w v) : PE X e (tM X G C Y (.k w)) := h.imp fun σ H Q ⟨ι, st, env, S, E, h⟩ => here_of S h (r _ _) fun z => nomatch z
theorem pe_varW {i : Nat} {x : Str} {pos : Pos} (hN : X.N[i]? = some x) (hv : Vis X.env.scope x) (hd : (x == ("__debug__" : Str)) = false) (hcd : (x == ("__classdict__" : Str)) = false) : PE X (.Name x pos) (tM X G C Y (.v i)) :=
  (pe_var hN hv hd hcd).imp fun σ H Q ⟨ι, st, env, S, E, h⟩ => by
    simp only [ev] at h
    obtain ⟨w, e, k, _⟩ := h.opt S
    rw [List.getD_eq_getElem?_getD] at e
    have e : env[i]? = some (some w) := by
      cases q : env[i]? with
      | none => rw [q] at e; cases e
      | some z => rw [q] at e; exact congrArg some e
    obtain ⟨v, h1, h2⟩ := E.get i w e
    exact ⟨v, h1, k v h2 fun z => nomatch z⟩
theorem pe_globW {x : Str} {v : V} {u : Value} {w : W} {pos : Pos} (hg : Gl X x) (hm : X.mg x = some u) (hG : G.glob x = some w) (r : RelV v u) (rp : ∀ ι H, Rep (gd X) ι H w v) (hd : (x == ("__debug__" : Str)) = false) : PE X (.Name x pos) (tM X G C Y (.g x)) :=
  (pe_glob hg hm r hd).imp fun σ H Q ⟨ι, st, env, S, E, h⟩ => by
    simp only [ev, hG] at h
    exact here_of S h (rp _ _) fun z => nomatch z
section
variable {a b : Expr} {m m' : ME} {pos : Pos}
theorem pe_binW (o : Bop) (ha : PE X a (tM X G C Y m)) (hb : PE X b (tM X G C Y m')) : PE X (.BinOp a (opOf o) b pos) (tM X G C Y (.bin o m m')) :=
  (pe_op (op_bin o) ha hb).imp fun σ H Q ⟨ι, st, env, S, E, h⟩ => by
    simp only [ev] at h
    refine ⟨ι, st, env, S, E, h.bind fun x st1 ι1 H1 p1 s1 S1 h1 v r1 _ => ?_⟩
    refine ⟨ι1, st1, env, S1, E.mono s1 p1, h1.bind fun y st2 ι2 H2 p2 s2 S2 h2 u r2 _ => ?_⟩
    obtain ⟨w, e, _, k⟩ := h2.opt S2
    exact ⟨ι2, st2, x, y, w, S2, r1.mono s2 p2 _ _, r2, e, after_of S S2 (p1.trans p2) (s1.trans s2) (fun _ => rfl) k⟩
theorem pe_cmpW (hu : X.A.units + 200 < cLine) (o : Cop) (ha : PE X a (tM X G C Y m)) (hb : PE X b (tM X G C Y m')) (hm : behindInMarks (copOf o) b = false) : PE X (.Compare a [copOf o] [b] pos) (tM X G C Y (.cmp o m m')) :=
  (pe_cmpR (op_cmW hu o) ha hb hm).imp fun σ H Q ⟨ι, st, env, S, E, h⟩ => by
    simp only [ev] at h
    refine ⟨ι, st, env, S, E, h.bind fun x st1 ι1 H1 p1 s1 S1 h1 v r1 _ => ?_⟩
    refine ⟨ι1, st1, env, S1, E.mono s1 p1, h1.bind fun y st2 ι2 H2 p2 s2 S2 h2 u r2 _ => ?_⟩
    obtain ⟨w, e, k, _⟩ := h2.opt S2
    obtain ⟨c, e1, rfl⟩ := Option.map_eq_some_iff.mp e
    exact ⟨ι2, st2, x, y, c, S2, r1.mono s2 p2 _ _, r2, e1, k (.bl c) rfl fun z => nomatch z⟩

theorem pt_cmpW (hu : X.A.units + 200 < cLine) (o : Cop) (ha : PE X a (tM X G C Y m)) (hb : PE X b (tM X G C Y m')) (hm : behindInMarks (copOf o) b = false) : PT X (.Compare a [copOf o] [b] pos) (tMt X G C Y (.cmp o m m')) :=
  (pt_cmpR (op_cmW hu o) ha hb hm).imp fun σ H Q ⟨ι, st, env, S, E, h⟩ => by
    simp only [ev, Out.bind_assoc] at h
    refine ⟨ι, st, env, S, E, h.bind fun x st1 ι1 H1 p1 s1 S1 h1 v r1 _ => ?_⟩
    refine ⟨ι1, st1, env, S1, E.mono s1 p1, h1.bind fun y st2 ι2 H2 p2 s2 S2 h2 u r2 _ => ?_⟩
    cases e : cmpW o x y st2 with
    | none => rw [e] at h2; exact h2.elim
    | some c =>
      rw [e] at h2
      exact ⟨ι2, st2, x, y, c, S2, r1.mono s2 p2 _ _, r2, e, c, rfl, h2 ι2 H2 (CL.le_refl _) (Same.refl _) S2⟩
theorem pe_negW (ha : PE X a (tM X G C Y m)) : PE X (.UnaryOp .USub a pos) (tM X G C Y (.neg m)) :=
  (pe_un un_negW ha).imp fun σ H Q ⟨ι, st, env, S, E, h⟩ => by
    simp only [ev] at h
    refine ⟨ι, st, env, S, E, h.bind fun x st1 ι1 H1 p1 s1 S1 h1 v r1 _ => ?_⟩
    cases x with
    | int i =>
      have h1 : post (gd X) Y σ ι1 H1 (Out.ok (W.int (-i)) st1) (KV (gd X) true H Q) := h1
      exact ⟨ι1, st1, .int i, .int (-i), S1, r1, rfl, after_of S S1 p1 s1 (fun z => z) h1⟩
    | _ => exact (show False from h1).elim
theorem pe_idxW (hu : X.A.units + 200 < cLine) (ha : PE X a (tM X G C Y m)) (hb : PE X b (tM X G C Y m')) (hs : PlainIx b) : PE X (.Subscript a b pos) (tM X G C Y (.idx m m')) :=
  (pe_ix (ix_W hu) ha hb hs).imp fun σ H Q ⟨ι, st, env, S, E, h⟩ => by
    simp only [ev] at h
    refine ⟨ι, st, env, S, E, h.bind fun x st1 ι1 H1 p1 s1 S1 h1 v r1 _ => ?_⟩
    refine ⟨ι1, st1, env, S1, E.mono s1 p1, h1.bind fun y st2 ι2 H2 p2 s2 S2 h2 u r2 _ => ?_⟩
    obtain ⟨w, e, _, k⟩ := h2.opt S2
    exact ⟨ι2, st2, x, y, w, S2, r1.mono s2 p2 _ _, r2, e, after_of S S2 (p1.trans p2) (s1.trans s2) (fun z => z) k⟩
/-- a test that is a value's truth -/
theorem pt_truthW (ha : PE X a (tM X G C Y m)) (he : ∀ whole, isTrue a X.env whole = (do let v ← whole; standAt a.pos; holding [v] (truthy v))) : PT X a (tMt X G C Y m) :=
  ⟨fun pins s σ H Q I ⟨ι, st, env, S, E, h⟩ => isTrue_plain (thn (ha.run pins s σ H (fun x H' => tsR (gd X) (fun w st => truth st w) x H' Q) I ⟨ι, st, env, S, E, h.bind fun x st1 ι1 H1 p1 s1 S1 h1 v r1 _ => by
    obtain ⟨b, e, k, _⟩ := h1.opt S1
    exact ⟨ι1, st1, x, b, S1, r1, e, k⟩⟩) fun v s1 ⟨x, H1, I1, r1, q1⟩ => tru_W pins s1 σ H1 x v Q I1 r1 q1) (he _)⟩
theorem pt_notW (ha : PT X a (tMt X G C Y m)) : PT X (.UnaryOp .Not a pos) (tMt X G C Y (.not m)) :=
  (pt_not ha).imp fun σ H Q ⟨ι, st, env, S, E, h⟩ => by
    refine ⟨ι, st, env, S, E, ?_⟩
    simp only [ev, Out.bind_assoc] at h
    refine h.cong fun x st1 h1 => ?_
    cases e : truth st1 x with
    | none => rw [e] at h1; exact h1.elim
    | some c => rw [e] at h1; exact h1
/-- as values -/
theorem pe_notW (ha : PE X a (tM X G C Y m)) : PE X (.UnaryOp .Not a pos) (tM X G C Y (.not m)) := by
  refine ⟨fun pins s σ H Q I ⟨ι, st, env, S, E, h⟩ => ?_⟩
  simp only [ev] at h
  refine UnaryOp_ (thn (ha.run pins s σ H (fun x H1 => tsR (gd X) (fun w st => truth st w) x H1 fun c H2 => Q (.bl (!c)) H2) I ⟨ι, st, env, S, E, h.bind fun x st1 ι1 H1 p1 s1 S1 h1 v r1 _ => ?_⟩) fun v s1 ⟨x, H1, I1, r1, q1⟩ => ?_)
  · obtain ⟨b, e, k, _⟩ := h1.opt S1
    obtain ⟨c, e1, rfl⟩ := Option.map_eq_some_iff.mp e
    exact ⟨ι1, st1, x, c, S1, r1, e1, k (.bl (!c)) rfl fun z => nomatch z⟩
  · exact not_of (thn (tru_W pins s1 σ H1 x v _ I1 r1 q1) fun c s2 ⟨H2, I2, q2⟩ => ⟨.bl (!c), H2, I2, rfl, q2⟩)
variable {rest : List Expr}
theorem pw_andW (ha : PT X a (tMt X G C Y m)) (hb : PW X (.BoolOp .And (b :: rest) pos) (tMt X G C Y m')) : PW X (.BoolOp .And (a :: b :: rest) pos) (tMt X G C Y (.and m m')) :=
  (pw_and ha hb).imp fun σ H Q ⟨ι, st, env, S, E, h⟩ => by
    simp only [ev, Out.bind_assoc] at h
    refine ⟨ι, st, env, S, E, ?_⟩
    refine h.cong fun x st1 h1 => ?_
    cases e : truth st1 x with
    | none => rw [e] at h1; exact h1.elim
    | some c =>
      rw [e] at h1
      cases c with
      | true => exact fun ι1 H1 p s S1 => ⟨ι1, st1, env, S1, E.mono s p, h1.step p s⟩
      | false =>
        have h1 : post (gd X) Y σ ι H (Out.opt (truth st1 x) st1) _ := h1
        rw [e] at h1
        exact h1
theorem pw_orW (ha : PT X a (tMt X G C Y m)) (hb : PW X (.BoolOp .Or (b :: rest) pos) (tMt X G C Y m')) : PW X (.BoolOp .Or (a :: b :: rest) pos) (tMt X G C Y (.or m m')) :=
  (pw_or ha hb).imp fun σ H Q ⟨ι, st, env, S, E, h⟩ => by
    simp only [ev, Out.bind_assoc] at h
    refine ⟨ι, st, env, S, E, ?_⟩
    refine h.cong fun x st1 h1 => ?_
    cases e : truth st1 x with
    | none => rw [e] at h1; exact h1.elim
    | some c =>
      rw [e] at h1
      cases c with
      | false => exact fun ι1 H1 p s S1 => ⟨ι1, st1, env, S1, E.mono s p, h1.step p s⟩
      | true =>
        have h1 : post (gd X) Y σ ι H (Out.opt (truth st1 x) st1) _ := h1
        rw [e] at h1
        exact h1
theorem pe_andW (ha : PE X a (tM X G C Y m)) (hb : PE X (.BoolOp .And (b :: rest) pos) (tM X G C Y m')) : PE X (.BoolOp .And (a :: b :: rest) pos) (tM X G C Y (.and m m')) := by
  refine ⟨fun pins s σ H Q I ⟨ι, st, env, S, E, h⟩ => ?_⟩
  simp only [ev] at h
  refine BoolOp_and (thn (ha.run pins s σ H (fun x H1 => tsR (gd X) (fun w st => truth st w) x H1 fun c H2 => H2 = H1 ∧ if c = true then tM X G C Y m' σ H1 Q else Q x H1) I ⟨ι, st, env, S, E, h.bind fun x st1 ι1 H1 p1 s1 S1 h1 v r1 _ => ?_⟩) fun v s1 ⟨x, H1, I1, r1, q1⟩ => ?_)
  · cases e : truth st1 x with
    | none => rw [e] at h1; exact h1.elim
    | some c =>
      rw [e] at h1
      refine ⟨ι1, st1, x, c, S1, r1, e, rfl, ?_⟩
      cases c with
      | true => exact ⟨ι1, st1, env, S1, E.mono s1 p1, h1.imp fun w st2 ι2 H2 p2 s2 S2 k v r f => k v r fun z => nomatch z⟩
      | false => exact here_of S1 h1 r1 fun z => nomatch z
  · refine thn (tru_W pins s1 σ H1 x v _ I1 r1 q1) fun c s2 ⟨H2, I2, e, q2⟩ => ?_
    subst e
    cases c with
    | true => exact hb.run pins s2 σ H2 Q I2 q2
    | false => exact ⟨x, H2, I2, r1, q2⟩
theorem pe_orW (ha : PE X a (tM X G C Y m)) (hb : PE X (.BoolOp .Or (b :: rest) pos) (tM X G C Y m')) : PE X (.BoolOp .Or (a :: b :: rest) pos) (tM X G C Y (.or m m')) := by
  refine ⟨fun pins s σ H Q I ⟨ι, st, env, S, E, h⟩ => ?_⟩
  simp only [ev] at h
  refine BoolOp_or (thn (ha.run pins s σ H (fun x H1 => tsR (gd X) (fun w st => truth st w) x H1 fun c H2 => H2 = H1 ∧ if c = true then Q x H1 else tM X G C Y m' σ H1 Q) I ⟨ι, st, env, S, E, h.bind fun x st1 ι1 H1 p1 s1 S1 h1 v r1 _ => ?_⟩) fun v s1 ⟨x, H1, I1, r1, q1⟩ => ?_)
  · cases e : truth st1 x with
    | none => rw [e] at h1; exact h1.elim
    | some c =>
      rw [e] at h1
      refine ⟨ι1, st1, x, c, S1, r1, e, rfl, ?_⟩
      cases c with
      | false => exact ⟨ι1, st1, env, S1, E.mono s1 p1, h1.imp fun w st2 ι2 H2 p2 s2 S2 k v r f => k v r fun z => nomatch z⟩
      | true => exact here_of S1 h1 r1 fun z => nomatch z
  · refine thn (tru_W pins s1 σ H1 x v _ I1 r1 q1) fun c s2 ⟨H2, I2, e, q2⟩ => ?_
    subst e
    cases c with
    | false => exact hb.run pins s2 σ H2 Q I2 q2
    | true => exact ⟨x, H2, I2, r1, q2⟩
theorem pe_ifeW {c : Expr} {mc : ME} (hc : PT X c (tMt X G C Y mc)) (ha : PE X a (tM X G C Y m)) (hb : PE X b (tM X G C Y m')) : PE X (.IfExp c a b pos) (tM X G C Y (.ife mc m m')) :=
  (pe_ifExp hc ha hb).imp fun σ H Q ⟨ι, st, env, S, E, h⟩ => by
    simp only [ev] at h
    refine ⟨ι, st, env, S, E, ?_⟩
    refine h.cong fun x st1 h1 => ?_
    cases e : truth st1 x with
    | none => rw [e] at h1; exact h1.elim
    | some t =>
      rw [e] at h1
      cases t with
      | true => exact fun ι1 H1 p s S1 => ⟨ι1, st1, env, S1, E.mono s p, (h1.step p s).imp fun w st2 ι2 H2 p2 s2 S2 k v r f => k v r fun z => nomatch z⟩
      | false => exact fun ι1 H1 p s S1 => ⟨ι1, st1, env, S1, E.mono s p, (h1.step p s).imp fun w st2 ι2 H2 p2 s2 S2 k v r f => k v r fun z => nomatch z⟩
theorem pe_chnW (hu : X.A.units + 200 < cLine) (o o' : Cop) {c : Expr} {m2 : ME} (ha : PE X a (tM X G C Y m)) (hb : PE X b (tM X G C Y m')) (hc : PE X c (tM X G C Y m2)) (hm : lastMarks [copOf o, copOf o'] [b, c] = false) :
    PE X (.Compare a [copOf o, copOf o'] [b, c] pos) (tM X G C Y (.chn o o' m m' m2)) :=
  (pe_chain (op_cmW hu o) (op_cmW hu o') ha hb hc hm).imp fun σ H Q ⟨ι, st, env, S, E, h⟩ => by
    simp only [ev] at h
    refine ⟨ι, st, env, S, E, h.bind fun x st1 ι1 H1 p1 s1 S1 h1 v r1 _ => ?_⟩
    refine ⟨ι1, st1, env, S1, E.mono s1 p1, h1.bind fun y st2 ι2 H2 p2 s2 S2 h2 u r2 _ => ?_⟩
    cases e : cmpW o x y st2 with
    | none => rw [e] at h2; exact h2.elim
    | some t =>
      rw [e] at h2
      refine ⟨ι2, st2, x, y, t, S2, r1.mono s2 p2 _ _, r2, e, t, rfl, ?_⟩
      cases t with
      | false => exact here_of S2 h2 (v := .bl false) rfl fun z => nomatch z
      | true =>
        refine ⟨ι2, st2, env, S2, (E.mono s1 p1).mono s2 p2, h2.bind fun z st3 ι3 H3 p3 s3 S3 h3 w r3 _ => ?_⟩
        obtain ⟨w', e2, k, _⟩ := h3.opt S3
        obtain ⟨t', e3, rfl⟩ := Option.map_eq_some_iff.mp e2
        exact ⟨ι3, st3, y, z, t', S3, r2.mono s3 p3 _ _, r3, e3, k (.bl t') rfl fun z => nomatch z⟩
theorem pt_chnW (hu : X.A.units + 200 < cLine) (o o' : Cop) {c : Expr} {m2 : ME} (ha : PE X a (tM X G C Y m)) (hb : PE X b (tM X G C Y m')) (hc : PE X c (tM X G C Y m2)) (hm : lastMarks [copOf o, copOf o'] [b, c] = false) :
    PT X (.Compare a [copOf o, copOf o'] [b, c] pos) (tMt X G C Y (.chn o o' m m' m2)) :=
  (pt_chain (op_cmW hu o) (op_cmW hu o') ha hb hc hm).imp fun σ H Q ⟨ι, st, env, S, E, h⟩ => by
    simp only [ev, Out.bind_assoc] at h
    refine ⟨ι, st, env, S, E, h.bind fun x st1 ι1 H1 p1 s1 S1 h1 v r1 _ => ?_⟩
    refine ⟨ι1, st1, env, S1, E.mono s1 p1, h1.bind fun y st2 ι2 H2 p2 s2 S2 h2 u r2 _ => ?_⟩
    cases e : cmpW o x y st2 with
    | none => rw [e] at h2; exact h2.elim
    | some t =>
      rw [e] at h2
      refine ⟨ι2, st2, x, y, t, S2, r1.mono s2 p2 _ _, r2, e, t, rfl, ?_⟩
      cases t with
      | false => exact ⟨false, rfl, h2 ι2 H2 (CL.le_refl _) (Same.refl _) S2⟩
      | true =>
        have h2 := Out.bind_assoc (ev G C m2 env st2) _ _ ▸ h2
        refine ⟨ι2, st2, env, S2, (E.mono s1 p1).mono s2 p2, h2.bind fun z st3 ι3 H3 p3 s3 S3 h3 w r3 _ => ?_⟩
        cases e2 : cmpW o' y z st3 with
        | none => rw [e2] at h3; exact h3.elim
        | some t' =>
          rw [e2] at h3
          exact ⟨ι3, st3, y, z, t', S3, r2.mono s3 p3 _ _, r3, e2, t', rfl, h3 ι3 H3 (CL.le_refl _) (Same.refl _) S3⟩
end
end
end Sw
end
section
set_option maxRecDepth 100000
set_option autoImplicit false
set_option maxHeartbeats 2000000
/-! SwS: slices, displays, calls, methods, new cells. -/
namespace Sw
open CL
open PySem PySem.Spec PyProof.Rows L2
open PySem.SeqAt (EqAt)
section
variable {X : Cx} {G : Cfg} {C : Str → List W → Store → Out W} {Y : WX}
variable {a b : Expr} {m m' : ME} {pos : Pos}
/-! ### slices -/
def tPO (X : Cx) (G : Cfg) (C : Str → List W → Store → Out W) (Y : WX) (m : ME) : TO := fun σ H Q => ∃ ι st env, SR (gd X) ι H st ∧ ER (gd X) ι H env σ ∧ post (gd X) Y σ ι H (ev G C m env st) fun w _ ι' H' => okB m w = true ∧ ∀ o, IsB w o → Q o H'
theorem po_noneW : PO X none (tPO X G C Y (.k .non)) := ⟨fun pins s σ H Q I ⟨ι, st, env, S, E, h⟩ =>
  po_none.run pins s σ H Q I ((h ι H (CL.le_refl _) (Same.refl _) S).2 none rfl)⟩
theorem po_someW (h : PE X a (tM X G C Y m)) (hn : ∀ w, m = .k w → w ≠ .non) : PO X (some a) (tPO X G C Y m) := ⟨fun pins s σ H Q I ⟨ι, st, env, S, E, hp⟩ => by
  refine (po_some h).run pins s σ H Q I ⟨ι, st, env, S, E, hp.imp fun w st1 ι1 H1 p1 s1 S1 ⟨ok, q⟩ v r _ => ?_⟩
  have hi : ∃ i, w = .int i := by
    unfold okB at ok
    split at ok
    · exact absurd rfl (hn _ rfl)
    · exact ⟨_, rfl⟩
    · cases ok
  obtain ⟨i, rfl⟩ := hi
  have r : v = .int i := r
  subst r
  exact ⟨i, rfl, q _ rfl⟩⟩
theorem pe_slcW {lo hi : Option Expr} {ml mh : ME} {p2 : Pos} (ha : PE X a (tM X G C Y m)) (hl : PO X lo (tPO X G C Y ml)) (hh : PO X hi (tPO X G C Y mh)) : PE X (.Subscript a (.Slice lo hi none p2) pos) (tM X G C Y (.slc m ml mh)) :=
  (pe_slice sl_W ha hl hh).imp fun σ H Q ⟨ι, st, env, S, E, h⟩ => by
    simp only [ev] at h
    refine ⟨ι, st, env, S, E, h.bind fun x st1 ι1 H1 p1 s1 S1 h1 v r1 _ => ?_⟩
    refine ⟨ι1, st1, env, S1, E.mono s1 p1, h1.bind fun y st2 ι2 H2 p2 s2 S2 h2 => ?_⟩
    split at h2
    · rename_i ok
      refine ⟨ok, fun l hb => ⟨ι2, st2, env, S2, (E.mono s1 p1).mono s2 p2, h2.bind fun z st3 ι3 H3 p3 s3 S3 h3 => ?_⟩⟩
      split at h3
      · rename_i ok3
        refine ⟨ok3, fun u hc => ?_⟩
        obtain ⟨w, e, _, k⟩ := h3.opt S3
        exact ⟨ι3, st3, x, y, z, w, S3, (r1.mono s2 p2 _ _).mono s3 p3 _ _, hb, hc, e, after_of S S3 ((p1.trans p2).trans p3) ((s1.trans s2).trans s3) (fun _ => rfl) k⟩
      · exact h3.elim
    · exact h2.elim

/-! ### arguments, displays -/
theorem pa_nilW : PA X [] (tMs X G C Y []) := pa_nil.imp fun σ H Q ⟨ι, st, env, S, E, h⟩ => h ι H (CL.le_refl _) (Same.refl _) S [] rfl
theorem pa_consW {es : List Expr} {ms : List ME} (ha : PE X a (tM X G C Y m)) (hr : PA X es (tMs X G C Y ms)) (hs : starEach (a :: es) X.env = (false, eval a X.env) :: starEach es X.env) : PA X (a :: es) (tMs X G C Y (m :: ms)) :=
  (pa_cons ha hr hs).imp fun σ H Q ⟨ι, st, env, S, E, h⟩ => by
    simp only [evs] at h
    refine ⟨ι, st, env, S, E, h.bind fun x st1 ι1 H1 p1 s1 S1 h1 v r1 _ => ?_⟩
    refine ⟨ι1, st1, env, S1, E.mono s1 p1, h1.bind fun ws st2 ι2 H2 p2 s2 S2 h2 vs rs => ?_⟩
    exact h2 ι2 H2 (CL.le_refl _) (Same.refl _) S2 (v :: vs) (Reps.cons (r1.mono s2 p2 _ _) rs)
theorem evs_len : ∀ (es : List ME) (env : EnvW) (st : Store) (ws : List W) (st' : Store), evs G C es env st = .ok ws st' → ws.length = es.length
  | [], env, st, ws, st', h => by
    simp only [evs] at h
    cases h; rfl
  | e :: es, env, st, ws, st', h => by
    simp only [evs] at h
    cases e1 : ev G C e env st with
    | ok w st1 =>
      rw [e1] at h
      simp only [Out.bind_ok] at h
      cases e2 : evs G C es env st1 with
      | ok us st2 =>
        rw [e2] at h
        cases h
        rw [List.length_cons, List.length_cons, evs_len es env st1 us st' e2]
      | exc _ _ _ => rw [e2] at h; cases h
      | stuck => rw [e2] at h; cases h
    | exc _ _ _ => rw [e1] at h; cases h
    | stuck => rw [e1] at h; cases h
/-- the arguments, with how many there are -/
theorem tMs_of {es : List ME} {σ : L2.St} {H : Hp} {ι : CL} {st : Store} {env : EnvW} {α : Type} {f : List W → Store → Out α} {K : α → Store → CL → Hp → Prop} {Q : List V → Hp → Prop} (S : SR (gd X) ι H st) (E : ER (gd X) ι H env σ)
    (h : post (gd X) Y σ ι H ((evs G C es env st).bind f) K)
    (i : ∀ ws st1 ι1 H1, ws.length = es.length → CL.le ι ι1 → Same (msk H ι) (msk H1 ι1) → SR (gd X) ι1 H1 st1 → post (gd X) Y σ ι1 H1 (f ws st1) K → ∀ vs, Reps (gd X) ι1 (msk H1 ι1) ws vs → Q vs H1) : tMs X G C Y es σ H Q := by
  refine ⟨ι, st, env, S, E, ?_⟩
  cases e : evs G C es env st with
  | ok ws st1 =>
    rw [e] at h
    exact fun ι1 H1 p s S1 => i ws st1 ι1 H1 (evs_len _ _ _ _ _ e) p s S1 (post.step (o := f ws st1) h p s)
  | exc c w st' => rw [e] at h; exact h
  | stuck => rw [e] at h; exact h
theorem pe_tupW {es : List Expr} {ms : List ME} {k : Nat} (hl : ms.length ≤ 1000) (h : PA X es (tMs X G C Y ms)) : PE X (.Tuple es k pos) (tM X G C Y (.tup ms)) :=
  (pe_tup h).imp fun σ H Q ⟨ι, st, env, S, E, h⟩ => by
    simp only [ev] at h
    refine tMs_of S E h fun ws st1 ι1 H1 hn p1 s1 S1 h1 vs rs => ⟨by rw [rs.len, hn, sizeLine_eq]; omega, ?_⟩
    exact (after_of (fr := false) (fr' := true) S S1 p1 s1 (fun z => nomatch z) h1).tup S1 rs
theorem pe_lstW {es : List Expr} {ms : List ME} (hl : ms.length ≤ 1000) (h : PA X es (tMs X G C Y ms)) : PE X (.List es pos) (tM X G C Y (.lst ms)) :=
  (pe_lst h).imp fun σ H Q ⟨ι, st, env, S, E, h⟩ => by
    simp only [ev] at h
    refine tMs_of S E h fun ws st1 ι1 H1 hn p1 s1 S1 h1 vs rs => ⟨by rw [rs.len, hn, sizeLine_eq]; omega, ?_⟩
    exact (after_of (fr := true) (fr' := true) S S1 p1 s1 (fun z => z) h1).lst S1 rs

/-! ### built-ins -/
theorem cb_imp {es : List ME} {b : BI} {σ : L2.St} {H : Hp} {Q : VK} (h : tM X G C Y (.bi b es) σ H Q) : tCB (clR (gd X) (callB G.sub b)) (tMs X G C Y es) σ H Q := by
  obtain ⟨ι, st, env, S, E, h⟩ := h
  simp only [ev] at h
  refine tMs_of S E h fun ws st1 ι1 H1 hn p1 s1 S1 h1 vs rs => ?_
  obtain ⟨w, e, _, k⟩ := h1.opt S1
  exact ⟨ι1, st1, ws, w, S1, rs, e, after_of S S1 p1 s1 (fun z => z) k⟩
theorem pe_biW {es : List Expr} {ms : List ME} {bi : BI} {x : Str} {id : String} {p : Pos} (hc : CallR X (.builtin id) (clR (gd X) (callB G.sub bi))) (hg : Gl X x) (hm : X.mg x = none) (hv : bootBuiltins x = some (.builtin id)) (h : PA X (a :: es) (tMs X G C Y ms))
    (hn : x ≠ "__name__") (hdb : (x == ("__debug__" : Str)) = false) (he : starEach (a :: es) X.env = (false, eval a X.env) :: starEach es X.env) (hpl : (backTo pos (starEach es X.env)).any (·.1) = false) : PE X (.Call (.Name x p) (a :: es) [] pos) (tM X G C Y (.bi bi ms)) :=
  (pe_callB hc hg hm hv h hn hdb he hpl).imp fun σ H Q => cb_imp
theorem pe_btW {es : List Expr} {ms : List ME} {bi : BI} {x : Str} {id : String} {p : Pos} (hc : CallR X (.type id) (clR (gd X) (callB G.sub bi))) (hg : Gl X x) (hm : X.mg x = none) (hv : bootBuiltins x = some (.type id)) (h : PA X (a :: es) (tMs X G C Y ms))
    (hn : x ≠ "__name__") (hdb : (x == ("__debug__" : Str)) = false) (he : starEach (a :: es) X.env = (false, eval a X.env) :: starEach es X.env) (hpl : (backTo pos (starEach es X.env)).any (·.1) = false) : PE X (.Call (.Name x p) (a :: es) [] pos) (tM X G C Y (.bi bi ms)) :=
  (pe_callTy hc hg hm hv h hn hdb he hpl).imp fun σ H Q => cb_imp

/-! ### methods -/
def tyM : MI → String
  | .get | .get2 => "dict"
  | .bitlen => "int"
  | _ => "list"
theorem recv_is {pins : List (Addr × Obj)} {σ : L2.St} {H : Hp} {s : Shared} {ι : CL} {st : Store} {wx : W} {x : V} {u : Value} {mi : MI} (I : Inv X pins σ H s) (S : SR (gd X) ι H st) (r : Rep (gd X) ι (msk H ι) wx x) (rx : RelV x u) (h : recvOk mi st wx = true) :
    s.TypeIs u (tyM mi) ∧ ∀ a, u = .ref a → ∃ ob, s.heap.get? a = some ob ∧ ob.dict = none := by
  have list : (∃ xs, see st wx = .lst xs) → s.TypeIs u "list" ∧ ∀ a, u = .ref a → ∃ ob, s.heap.get? a = some ob ∧ ob.dict = none := fun ⟨xs, e⟩ => by
    obtain ⟨a, vs, rfl, h1, _⟩ := see_lst S r e
    cases rx
    obtain ⟨_, its, n, _, _, e2⟩ := rdL I h1
    exact ⟨⟨_, e2, rfl⟩, fun b z => by cases z; exact ⟨_, e2, rfl⟩⟩
  have dict : (∃ ks us, see st wx = .dic ks us) → s.TypeIs u "dict" ∧ ∀ a, u = .ref a → ∃ ob, s.heap.get? a = some ob ∧ ob.dict = none := fun ⟨ks, us, e⟩ => by
    obtain ⟨d, es, qs, rfl, D⟩ := see_dict I S r e
    obtain ⟨ep, ho⟩ := D.obj
    cases rx
    exact ⟨dict_is ho, fun b z => by cases z; exact ⟨_, ho, rfl⟩⟩
  have lst : (match see st wx with | .lst _ => true | _ => false) = true → ∃ xs, see st wx = .lst xs := fun h => by
    split at h
    · rename_i e; exact ⟨_, e⟩
    · cases h
  have dic : (match see st wx with | .dic _ _ => true | _ => false) = true → ∃ ks us, see st wx = .dic ks us := fun h => by
    split at h
    · rename_i e; exact ⟨_, _, e⟩
    · cases h
  cases mi with
  | append => exact list (lst h)
  | pop => exact list (lst h)
  | popAt => exact list (lst h)
  | get => exact dict (dic h)
  | get2 => exact dict (dic h)
  | bitlen =>
    cases wx <;> try (cases h; done)
    have r : x = .int _ := r
    subst r
    obtain ⟨t, rfl⟩ := rx
    exact ⟨typeIs_int _ _ _, fun _ z => nomatch z⟩
  | index => cases h
  | insert => cases h
  | setdefault => cases h
variable {o : Expr} {mo : ME} {mi : MI} {name : Str} {id : String} {apos cpos : Pos}
theorem callM_ne (m : MI) (o : W) (ws : List W) (st : Store) (c : Str) (w : W) (st' : Store) : callM m o ws st ≠ .exc c w st' := by
  intro z
  have opt : ∀ (o : Option W) (s : Store), Out.opt o s ≠ .exc c w st' := fun o s z => by cases o <;> cases z
  unfold callM at z
  split at z
  · unfold appF at z; iterate 6 (all_goals (first | (cases z; done) | split at z | skip))
  · unfold popF at z; iterate 6 (all_goals (first | (cases z; done) | split at z | skip))
  · unfold popAtF at z; iterate 6 (all_goals (first | (cases z; done) | split at z | skip))
  · exact opt _ _ z
  · exact opt _ _ z
  · exact opt _ _ z
  · cases z
theorem mt_args {es : List ME} {σ : L2.St} {H : Hp} {Q : VK} (h : tM X G C Y (.mt mi mo es) σ H Q) : tM X G C Y mo σ H fun x H1 => (∃ ι st wx, SR (gd X) ι H1 st ∧ Rep (gd X) ι (msk H1 ι) wx x ∧ recvOk mi st wx = true) ∧ tMs X G C Y es σ H1 fun xs H2 => mtR (gd X) mi x xs H2 Q := by
  obtain ⟨ι, st, env, S, E, h⟩ := h
  simp only [ev] at h
  refine ⟨ι, st, env, S, E, h.bind fun x st1 ι1 H1 p1 s1 S1 h1 v r1 _ => ?_⟩
  split at h1
  · rename_i ok
    refine ⟨⟨ι1, st1, x, S1, r1, ok⟩, tMs_of S1 (E.mono s1 p1) h1 fun ws st2 ι2 H2 hn p2 s2 S2 h2 vs rs => ?_⟩
    cases e : callM mi x ws st2 with
    | ok w st3 =>
      rw [e] at h2
      exact ⟨ι2, st2, x, ws, w, st3, S2, r1.mono s2 p2 _ _, rs, e, fun H' v' S' s' r' => h2 ι2 H' (CL.le_refl _) s' S' v' r' fun z => nomatch z⟩
    | exc c w' st' =>
      exfalso
      exact callM_ne _ _ _ _ _ _ _ e
    | stuck => rw [e] at h2; exact h2.elim
  · exact h1.elim
theorem pe_mt0W (pa : PlainAttrs (tyM mi)) (slot : Slot (tyM mi) name id) (hty : typeOf (.builtin id) = pure (.type "method_descriptor")) (hm : MtR X id (mtR (gd X) mi)) (ho : PE X o (tM X G C Y mo))
    (hbase : attributeBase o name X.env (eval o X.env) = eval o X.env) (hline : (apos.endLine == cpos.line) = true) : PE X (.Call (.Attribute o name apos) [] [] cpos) (tM X G C Y (.mt mi mo [])) := by
  refine ⟨fun pins s σ H Q I h => ?_⟩
  refine wpAny_Call_method0_late hbase hline (thn (ho.run pins s σ H _ I (mt_args h)) fun v s1 ⟨x, H1, I1, r1, ⟨ι, st, wx, S, rw', ok⟩, q1⟩ => ?_)
  obtain ⟨h1, h2⟩ := recv_is I1 S rw' r1 ok
  refine ⟨tyM mi, id, pa, slot, hty, h1, h2, Calls.callWith_builtin rfl (PySem.evalArgs_none ?_)⟩
  obtain ⟨ι', st', env', S', E', hq⟩ := q1
  simp only [evs] at hq
  exact hm pins s1 σ H1 x [] v [] Q I1 r1 .nil (hq ι' H1 (CL.le_refl _) (Same.refl _) S' [] rfl)
theorem pe_mtW {e : Expr} {es : List Expr} {ms : List ME} (pa : PlainAttrs (tyM mi)) (slot : Slot (tyM mi) name id) (hty : typeOf (.builtin id) = pure (.type "method_descriptor")) (hm : MtR X id (mtR (gd X) mi)) (ho : PE X o (tM X G C Y mo)) (ha : PA X (e :: es) (tMs X G C Y ms))
    (hbase : attributeBase o name X.env (eval o X.env) = eval o X.env) 
    (hfew : ((backTo cpos (starEach (e :: es) X.env)).all (fun x => !x.1) && (backToKw cpos (keywordEach [] X.env)).all (fun x => x.1.isSome)
      && decide ((e :: es).length + ([] : List Keyword).length + (if ([] : List Keyword).isEmpty then 0 else 1) < 30)) = true)
    (hline : (apos.endLine == cpos.line) = true) (hs : starEach (e :: es) X.env = (false, eval e X.env) :: starEach es X.env) (hplain : (backTo cpos (starEach es X.env)).any (·.1) = false) :
    PE X (.Call (.Attribute o name apos) (e :: es) [] cpos) (tM X G C Y (.mt mi mo ms)) := by
  refine ⟨fun pins s σ H Q I h => ?_⟩
  refine wpAny_Call_method_late hbase hfew hline rfl (thn (ho.run pins s σ H _ I (mt_args h)) fun v s1 ⟨x, H1, I1, r1, ⟨ι, st, wx, S, rw', ok⟩, q1⟩ => ?_)
  obtain ⟨h1, h2⟩ := recv_is I1 S rw' r1 ok
  refine ⟨tyM mi, id, pa, slot, hty, h1, h2, ?_⟩
  have hA := ha.run cpos pins s1 σ H1 _ I1 q1
  rw [hs] at hA ⊢
  refine Calls.callWith_builtin (by show (false || (backTo cpos (starEach es X.env)).any (·.1)) = false; rw [hplain] <;> rfl) (Calls.evalArgs_plain ?_)
  exact thn hA fun us s2 ⟨vs, H2, I2, r2, q2⟩ => hm pins s2 σ H2 x vs v us Q I2 r1 r2 q2

/-! ### new cells -/
theorem box_imp {m : ME} (hf : fresh m = true) {σ : L2.St} {H : Hp} {Q : VK} (hq : tM X G C Y (.box m) σ H Q) : tM X G C Y m σ H Q := by
  obtain ⟨ι, st, env, S, E, hp⟩ := hq
  simp only [ev] at hp
  refine ⟨ι, st, env, S, E, hp.bindU fun w st1 ι1 H1 p1 s1 S1 h1 v r f => ?_⟩
  split at h1
  · rename_i ld
    obtain ⟨p, rfl, hp0, S2⟩ := f hf ld
    have sm : Same (msk H ι) (msk H1 (ι1.add p)) := fun b u e => by
      have hb : b ≠ p := ne_of_none (msk_some e).1 hp0
      obtain ⟨e1, e2⟩ := msk_some (s1 b u e)
      rw [msk_out (fun h => (CL.mem_add.mp h).elim e2 hb)]
      exact e1
    refine h1 (ι1.add p) H1 (p1.trans (CL.le_add _ _)) sm S2 (.ref p) ⟨p, ?_, rfl⟩ fun z => nomatch z
    show (ι1.c ++ [p])[st1.length]? = _
    rw [← S1.len, List.getElem?_append_right (Nat.le_refl _), Nat.sub_self]; rfl
  · exact h1.elim
theorem pe_boxW {e : Expr} {m : ME} (h : PE X e (tM X G C Y m)) (hf : fresh m = true) : PE X e (tM X G C Y (.box m)) := h.imp fun σ H Q hq => box_imp hf hq
end
end Sw
end
section
set_option maxRecDepth 100000
set_option autoImplicit false
set_option maxHeartbeats 2000000
/-! SwT: targets, walks, comprehensions. -/
namespace Sw
open CL
open PySem PySem.Spec PyProof.Rows L2
open PySem.SeqAt (EqAt)
/-! ### targets -/
mutual
def slotsT : MT → List Nat
  | .nm i => [i]
  | .tp ts => slotsTs ts
def slotsTs : List MT → List Nat
  | [] => []
  | t :: ts => slotsT t ++ slotsTs ts
end
theorem wipe_set {σ : L2.St} {i : Nat} {v : Option V} : ∀ {vs : List Nat}, i ∈ vs → L2.wipe (σ.set i v) vs = L2.wipe σ vs
  | j :: vs, h => by
    show (L2.wipe (σ.set i v) vs).set j none = (L2.wipe σ vs).set j none
    by_cases hi : i ∈ vs
    · rw [wipe_set hi]
    · have : i = j := by rcases List.mem_cons.mp h with h | h; exact h; exact absurd h hi
      subst this
      clear h hi
      have : ∀ (vs : List Nat) (σ : L2.St), (L2.wipe (σ.set i v) vs).set i none = (L2.wipe σ vs).set i none := by
        intro vs
        induction vs with
        | nil => intro σ; show (σ.set i v).set i none = σ.set i none; rw [List.set_set]
        | cons k vs ih =>
          intro σ
          show ((L2.wipe (σ.set i v) vs).set k none).set i none = ((L2.wipe σ vs).set k none).set i none
          by_cases hk : k = i
          · subst hk; rw [List.set_set, List.set_set]; exact ih σ
          · rw [List.set_comm _ _ hk, List.set_comm _ _ hk, ih σ]
      exact this vs σ
/-- the slots behind a target, told by the mini language -/
def gM (g : Gd) (tg : MT) : TG := fun x σ H Q => ∃ ι st env w env', SR g ι H st ∧ ER g ι H env σ ∧ Rep g ι (msk H ι) w x ∧ assignT st tg w env = some env' ∧
  ∀ σ', ER g ι H env' σ' → (∀ vs, (∀ i ∈ slotsT tg, i ∈ vs) → L2.wipe σ' vs = L2.wipe σ vs) → Q σ' H
def gMs (g : Gd) (ts : List MT) : TGs := fun xs σ H Q => ∃ ι st env ws env', SR g ι H st ∧ ER g ι H env σ ∧ Reps g ι (msk H ι) ws xs ∧ assignTs st ts ws env = some env' ∧
  ∀ σ', ER g ι H env' σ' → (∀ vs, (∀ i ∈ slotsTs ts, i ∈ vs) → L2.wipe σ' vs = L2.wipe σ vs) → Q σ' H
theorem _root_.L2.PG.imp {X : Cx} {e : Expr} {t t' : TG} (h : PG X e t) (i : ∀ x σ H Q, t' x σ H Q → t x σ H Q) : PG X e t' := ⟨fun pins s σ H x u Q I r q => h.run pins s σ H x u Q I r (i x σ H Q q)⟩
theorem _root_.L2.PGs.imp {X : Cx} {e : List Expr} {t t' : TGs} (h : PGs X e t) (i : ∀ x σ H Q, t' x σ H Q → t x σ H Q) : PGs X e t' := ⟨fun pins s σ H x u Q I r q => h.run pins s σ H x u Q I r (i x σ H Q q)⟩
section
variable {X : Cx}
theorem pg_nmW {i : Nat} {x : Str} {pos : Pos} (hN : X.N.Nodup) (hi : X.N[i]? = some x) (hx : Loc X.env.scope x) (hf : X.fn x = true ∨ X.env.scope.names.lookup x = some .local) : PG X (.Name x pos) (gM (gd X) (.nm i)) :=
  (pg_name hN hi hx hf).imp fun x σ H Q ⟨ι, st, env, w, env', S, E, r, e, q⟩ => by
    simp only [assignT] at e
    split at e
    · cases e
      exact q _ (E.set (by assumption) r) fun vs hv => wipe_set (hv i (by simp [slotsT]))
    · cases e

theorem pgs_nilW : PGs X [] (gMs (gd X) []) := pgs_nil.imp fun xs σ H Q ⟨ι, st, env, ws, env', S, E, r, e, q⟩ => by
  cases ws with
  | nil =>
    have r : xs = [] := r
    cases e
    exact ⟨r, q σ E fun vs _ => rfl⟩
  | cons _ _ => cases e
theorem pgs_consW {e : Expr} {es : List Expr} {t : MT} {ts : List MT} (h1 : PG X e (gM (gd X) t)) (h2 : PGs X es (gMs (gd X) ts)) (hs : (assignEach (e :: es) X.env).map (·.2) = assign e X.env :: (assignEach es X.env).map (·.2)) : PGs X (e :: es) (gMs (gd X) (t :: ts)) :=
  (pgs_cons h1 h2 hs).imp fun xs σ H Q ⟨ι, st, env, ws, env', S, E, r, e, q⟩ => by
    cases ws with
    | nil => cases e
    | cons w ws =>
      obtain ⟨v, vs, rfl, r1, r2⟩ := r
      simp only [assignTs] at e
      obtain ⟨env1, e1, e2⟩ := Option.bind_eq_some_iff.mp e
      refine ⟨v, vs, rfl, ι, st, env, w, env1, S, E, r1, e1, fun σ1 E1 k1 => ⟨ι, st, env1, ws, env', S, E1, r2, e2, fun σ2 E2 k2 => q σ2 E2 fun vs hv => ?_⟩⟩
      rw [k2 vs fun i hi => hv i (List.mem_append_right _ hi), k1 vs fun i hi => hv i (List.mem_append_left _ hi)]
theorem assignTs_len {st : Store} : ∀ {ts : List MT} {ws : List W} {env env' : EnvW}, assignTs st ts ws env = some env' → ws.length = ts.length
  | [], [], _, _, _ => rfl
  | t :: ts, w :: ws, env, env', e => by
    simp only [assignTs] at e
    obtain ⟨env1, e1, e2⟩ := Option.bind_eq_some_iff.mp e
    rw [List.length_cons, List.length_cons, assignTs_len e2]
  | [], _ :: _, _, _, e => by cases e
  | _ :: _, [], _, _, e => by cases e
theorem pg_tupW {es : List Expr} {k : Nat} {ts : List MT} {pos : Pos} (hc : X.calm = true) (h : PGs X es (gMs (gd X) ts)) (hn : (assignEach es X.env).length = ts.length) (hst : (assignEach es X.env).findIdx? (·.1) = none) : PG X (.Tuple es k pos) (gM (gd X) (.tp ts)) :=
  (pg_tup (n := ts.length) hc h hn hst).imp fun x σ H Q ⟨ι, st, env, w, env', S, E, r, e, q⟩ => by
    simp only [assignT] at e
    split at e
    · rename_i xs e1
      obtain ⟨a, vs, rfl, h1, r1⟩ := see_tup S r e1
      exact ⟨a, vs, rfl, h1, by rw [r1.len, assignTs_len e], ι, st, env, xs, env', S, E, r1, e, fun σ' E' k => q σ' E' k⟩
    · cases e
end

/-! ### walks -/
/-- cells locked -/
def lkd (ι : CL) (ks : List (Addr × HO)) : CL := ⟨ι.c, ι.h, ks ++ ι.k⟩
structure Lk (g : Gd) (ι : CL) (H : Hp) (st : Store) (ns : List Nat) (ks : List (Addr × HO)) : Prop where
  sr : SR g (lkd ι ks) H (lockS st ns)
  un : ∀ (ι' : CL) (H' : Hp) (st' : Store), List.IsPrefix ι.c ι'.c → ι'.k = ks ++ ι.k → SR g ι' H' st' → SR g ⟨ι'.c, ι'.h, ι.k⟩ H' (unlockS st' ns)
  nl : ns = [] → ks = []
theorem Lk.nil {g : Gd} {ι : CL} {H : Hp} {st : Store} (S : SR g ι H st) : Lk g ι H st [] [] := ⟨S, fun ι' H' st' _ hk S' => by
  have e : (⟨ι'.c, ι'.h, ι.k⟩ : CL) = ι' := by
    cases ι'
    simp only [List.nil_append] at hk ⊢
    rw [hk]
  rw [e]; exact S', fun _ => rfl⟩
theorem Lk.one {g : Gd} {ι : CL} {H : Hp} {st : Store} (S : SR g ι H st) {n : Nat} {a : Addr} {c : W} {o : HO} (ha : ι.c[n]? = some a) (hc : st[n]? = some c) (hl : ∀ x, c ≠ .lok x) (ho : H a = some o) : Lk g ι H st [n] [(a, o)] := by
  have hlt : n < st.length := (List.getElem?_eq_some_iff.mp hc).1
  have gd : st.getD n .non = c := by rw [List.getD_eq_getElem?_getD, hc]; rfl
  have hnd : (ι.c ++ ι.h.map (·.1)).Nodup := S.nd
  rw [List.nodup_append] at hnd
  refine ⟨?_, fun ι' H' st' hp hk S' => ?_, fun z => nomatch z⟩
  · show SR g (lkd ι [(a, o)]) H (st.set n (.lok (st.getD n .non)))
    rw [gd]
    refine ⟨by rw [List.length_set]; exact S.len, S.nd, fun m w e => ?_, S.hid, fun q hq => ?_, fun m w e => ?_⟩
    rotate_right
    · by_cases hm : n = m
      · subst hm
        rw [List.getElem?_set_self hlt] at e
        cases e
        exact ⟨hl, a, o, ha, List.mem_cons_self⟩
      · rw [List.getElem?_set_ne hm] at e
        obtain ⟨h1, b, o', h2, h3⟩ := S.lkf m w e
        exact ⟨h1, b, o', h2, List.mem_cons_of_mem _ h3⟩
    · by_cases hm : n = m
      · subst hm
        rw [List.getElem?_set_self hlt] at e
        cases e
        obtain ⟨b, hb, cb⟩ := S.cells n c hc
        exact ⟨b, hb, show CellRep g (lkd ι [(a, o)]) H b c from cb.stepC (fun _ q => q) (Same.refl _) (List.prefix_refl _)⟩
      · rw [List.getElem?_set_ne hm] at e
        obtain ⟨b, hb, cb⟩ := S.cells m w e
        exact ⟨b, hb, cb.stepC (fun _ q => q) (Same.refl _) (List.prefix_refl _)⟩
    · rcases List.mem_cons.mp hq with hq | hq
      · subst hq
        exact ⟨ho, n, c, ha, List.getElem?_set_self hlt⟩
      · obtain ⟨e1, m, w, e2, e3⟩ := S.lck q hq
        have hm : n ≠ m := fun z => by
          subst z
          rw [hc] at e3; cases e3
          exact hl _ rfl
        exact ⟨e1, m, w, e2, by rw [List.getElem?_set_ne hm]; exact e3⟩
  · have hnd' : (ι'.c ++ ι'.h.map (·.1)).Nodup := S'.nd
    rw [List.nodup_append] at hnd'
    have ha' := prefix_get hp ha
    obtain ⟨e1, m, w, e2, e3⟩ := S'.lck (a, o) (by rw [hk]; exact List.mem_cons_self)
    have hm : m = n := (List.getElem?_inj (List.getElem?_eq_some_iff.mp e2).1 hnd'.1).mp (e2.trans ha'.symm)
    subst hm
    have hlt' : m < st'.length := (List.getElem?_eq_some_iff.mp e3).1
    have gd' : st'.getD m .non = .lok w := by rw [List.getD_eq_getElem?_getD, e3]; rfl
    show SR g _ H' (st'.set m (unlok (st'.getD m .non)))
    rw [gd']
    refine ⟨by rw [List.length_set]; exact S'.len, S'.nd, fun k x e => ?_, S'.hid, fun q hq => ?_, fun k x e => ?_⟩
    rotate_right
    · by_cases hk' : m = k
      · subst hk'
        rw [List.getElem?_set_self hlt'] at e
        have e : w = .lok x := Option.some.inj e
        exact absurd e ((S'.lkf m w e3).1 x)
      · rw [List.getElem?_set_ne hk'] at e
        obtain ⟨h1, b, o', h2, h3⟩ := S'.lkf k x e
        refine ⟨h1, b, o', h2, ?_⟩
        rw [hk] at h3
        rcases List.mem_cons.mp h3 with h3 | h3
        · cases h3
          exact absurd ((List.getElem?_inj (List.getElem?_eq_some_iff.mp e2).1 hnd'.1).mp (e2.trans h2.symm)) hk'
        · exact h3
    · by_cases hk' : m = k
      · subst hk'
        rw [List.getElem?_set_self hlt'] at e
        have e : w = x := Option.some.inj e
        subst e
        obtain ⟨b, hb, cb⟩ := S'.cells m _ e3
        have cb : CellRep g ι' H' b w := cb
        exact ⟨b, hb, cb.stepC (fun _ q => q) (Same.refl _) (List.prefix_refl _)⟩
      · rw [List.getElem?_set_ne hk'] at e
        obtain ⟨b, hb, cb⟩ := S'.cells k x e
        exact ⟨b, hb, cb.stepC (fun _ q => q) (Same.refl _) (List.prefix_refl _)⟩
    · obtain ⟨f1, k, y, f2, f3⟩ := S'.lck q (by rw [hk]; exact List.mem_cons_of_mem _ hq)
      have hne : m ≠ k := fun z => by
        subst z
        obtain ⟨_, k', y', f4, f5⟩ := S.lck q hq
        have f6 := prefix_get hp f4
        have : k' = m := (List.getElem?_inj (List.getElem?_eq_some_iff.mp f6).1 hnd'.1).mp (f6.trans f2.symm)
        subst this
        rw [hc] at f5; cases f5
        exact hl _ rfl
      exact ⟨f1, k, y, f2, by rw [List.getElem?_set_ne hne]; exact f3⟩
/-- a walk over things that the mini language knows -/
def WalkW (g : Gd) (ι : CL) (H : Hp) (ws : List W) (J : It) : Prop := ∃ (n : Nat) (P : Hp → Prop) (D : Nat → Hp → V → Hp → Prop), n = ws.length ∧ n ≤ sizeLine ∧ Walk J n P D ∧
  (∀ (ι2 : CL) (H2 : Hp), List.IsPrefix ι.c ι2.c → Same (msk H ι) (msk H2 ι2) → (∀ p ∈ ι.k, H2 p.1 = some p.2) → P H2) ∧
  ∀ (i : Nat) (H2 : Hp) (x : V) (H3 : Hp) (ι2 : CL) (st2 : Store), i < n → List.IsPrefix ι.c ι2.c → Same (msk H ι) (msk H2 ι2) → SR g ι2 H2 st2 → D i H2 x H3 →
    SR g ι2 H3 st2 ∧ Same (msk H2 ι2) (msk H3 ι2) ∧ (∃ w, ws[i]? = some w ∧ Rep g ι2 (msk H3 ι2) w x) ∧ ∀ b, H3 b = none → H2 b = none
def iM (X : Cx) (G : Cfg) (C : Str → List W → Store → Out W) (Y : WX) (it : IT) : TI := fun σ H R => ∃ ι st env, SR (gd X) ι H st ∧ ER (gd X) ι H env σ ∧ post (gd X) Y σ ι H (evI G C it env st) fun r st' ι' H' => ∀ J ks, Lk (gd X) ι' H' st' r.1 ks → WalkW (gd X) (lkd ι' ks) H' r.2 J → R J H'
theorem _root_.L2.PI.imp {X : Cx} {tg e : Expr} {t t' : TI} (h : PI X tg e t) (i : ∀ σ H R, t' σ H R → t σ H R) : PI X tg e t' := ⟨fun pins s σ H R I q => h.run pins s σ H R I (i σ H R q)⟩
theorem Same.rd {H H' : Hp} {ι ι' : CL} (s : Same (msk H ι) (msk H' ι')) {a : Addr} {u : HO} (h : Rd (msk H ι) a u) : Rd H' a u := by
  rcases h with q | ⟨o, q⟩
  · exact .inl (msk_some (s _ _ q)).1
  · exact .inr ⟨o, (msk_some (s _ _ q)).1⟩
section
variable {g : Gd} {ι : CL} {H : Hp}
/-- items that stand still -/
theorem walk_still {ws : List W} {xs : List V} {J : It} {P : Hp → Prop} (r : Reps g ι (msk H ι) ws xs) (hz : xs.length ≤ sizeLine) (w : Walk J xs.length P (YAt xs)) (hP : ∀ (ι2 : CL) (H2 : Hp), List.IsPrefix ι.c ι2.c → Same (msk H ι) (msk H2 ι2) → (∀ p ∈ ι.k, H2 p.1 = some p.2) → P H2) : WalkW g ι H ws J :=
  ⟨xs.length, P, YAt xs, r.len, hz, w, hP, fun i H2 x H3 ι2 st2 hi p s S y => by
    obtain ⟨rfl, hx⟩ := y
    obtain ⟨w, hw, rw'⟩ := r.getV hx
    exact ⟨S, Same.refl _, ⟨w, hw, rw'.monoC s p _ _⟩, fun _ e => e⟩⟩
theorem walkW_list {K : PySem.W.Frag} {ws : List W} {xs : List V} {a : Addr} (h : Ls K (msk H ι) a xs) (r : Reps g ι (msk H ι) ws xs) (hz : xs.length ≤ sizeLine) : WalkW g ι H ws (Itl K a) :=
  walk_still r hz walk_list fun ι2 H2 p s _ => Ls.sq (h.to fun o q => (msk_some (s _ _ q)).1)
theorem walkW_tup {K : PySem.W.Frag} {ws : List W} {xs : List V} {a : Addr} (h : SqT K (msk H ι) a xs) (r : Reps g ι (msk H ι) ws xs) (hz : xs.length ≤ sizeLine) : WalkW g ι H ws (Itt K a) :=
  walk_still r hz walk_tup fun ι2 H2 p s _ => by
    rcases h with (q | ⟨o, q⟩) | q
    · exact .inl (.inl (msk_some (s _ _ q)).1)
    · exact .inl (.inr ⟨o, (msk_some (s _ _ q)).1⟩)
    · exact .inr q
theorem walkW_range {lo hi : Int} (hz : (hi - lo).toNat ≤ sizeLine) : WalkW g ι H (rngL lo hi) (Itr lo (hi - lo).toNat) :=
  ⟨(hi - lo).toNat, _, _, by simp [rngL], hz, walk_range, fun _ _ _ _ _ => trivial, fun i H2 x H3 ι2 st2 hi' p s S y => by
    obtain ⟨rfl, rfl⟩ := y
    exact ⟨S, Same.refl _, ⟨.int (lo + i), by simp [rngL, hi'], rfl⟩, fun _ e => e⟩⟩
end
section
variable {X : Cx} {G : Cfg} {C : Str → List W → Store → Out W} {Y : WX} {tg a : Expr} {m : ME} {p pos : Pos}
theorem pi_rng1W (hg : Gl X "range") (hm : X.mg "range" = none) (ha : PA X [a] (tMs X G C Y [m])) (hs : starEach [a] X.env = [(false, eval a X.env)]) : PI X tg (.Call (.Name "range" p) [a] [] pos) (iM X G C Y (.rng [m])) :=
  (pi_range1 hg hm ha hs).imp fun σ H R ⟨ι, st, env, S, E, h⟩ => by
    simp only [evI] at h
    refine tMs_of S E h fun ws st1 ι1 H1 hn p1 s1 S1 h1 vs rs => ?_
    match ws, hn with
    | [x], _ =>
      cases x with
      | int j =>
        obtain ⟨v, rfl, rv⟩ := reps1 rs
        have rv : v = .int j := rv
        subst rv
        dsimp only at h1
        split at h1
        · rename_i ok
          simp only [Bool.and_eq_true, decide_eq_true_eq, rngOk] at ok
          obtain ⟨⟨o1, o2⟩, o3⟩ := ok
          rw [szL] at o3
          refine ⟨j, rfl, o1, o2, ?_⟩
          have := h1 ι1 H1 (CL.le_refl _) (Same.refl _) S1 _ [] (Lk.nil S1) (walkW_range (lo := 0) (hi := j) o3)
          rwa [Int.sub_zero] at this
        · exact h1.elim
      | _ => exact (show False from h1).elim
theorem pi_rng2W {b : Expr} {m' : ME} (hg : Gl X "range") (hm : X.mg "range" = none) (ha : PA X [a, b] (tMs X G C Y [m, m'])) (hs : starEach [a, b] X.env = [(false, eval a X.env), (false, eval b X.env)]) (hs2 : starEach [b] X.env = [(false, eval b X.env)]) :
    PI X tg (.Call (.Name "range" p) [a, b] [] pos) (iM X G C Y (.rng [m, m'])) :=
  (pi_range2 hg hm ha hs hs2).imp fun σ H R ⟨ι, st, env, S, E, h⟩ => by
    simp only [evI] at h
    refine tMs_of S E h fun ws st1 ι1 H1 hn p1 s1 S1 h1 vs rs => ?_
    match ws, hn with
    | [x, y], _ =>
      cases x with
      | int i =>
        cases y with
        | int j =>
          obtain ⟨v, u, rfl, rv, ru⟩ := reps2 rs
          have rv : v = .int i := rv
          have ru : u = .int j := ru
          subst rv ru
          dsimp only at h1
          split at h1
          · rename_i ok
            simp only [Bool.and_eq_true, decide_eq_true_eq, rngOk] at ok
            obtain ⟨⟨⟨o1, o2⟩, o3, o4⟩, o5⟩ := ok
            rw [szL] at o5
            exact ⟨i, j, rfl, ⟨o1, o2, o3, o4⟩, h1 ι1 H1 (CL.le_refl _) (Same.refl _) S1 _ [] (Lk.nil S1) (walkW_range (lo := i) (hi := j) o5)⟩
          · exact h1.elim
        | _ => exact (show False from h1).elim
      | _ => exact (show False from h1).elim
end
end Sw
end
section
set_option maxRecDepth 100000
set_option autoImplicit false
set_option maxHeartbeats 2000000
/-! SwU: walks over lists, tuples, dicts' keys; pairs. -/
namespace Sw
open CL
open PySem PySem.Spec PyProof.Rows L2
open PySem.SeqAt (EqAt)
/-- the keys of a dict that stays -/
def ItkE (d : Addr) (es : List DictEntry) (ep : Nat) (kv : List V) : It :=
  ⟨fun i H => H d = some (dicO d es ep) ∧ i < es.length, fun i H x H' => H' = H ∧ kv[i]? = some x, fun i H => H d = some (dicO d es ep) ∧ es.length ≤ i⟩
theorem dicO_at {X : Cx} {pins : List (Addr × Obj)} {σ : L2.St} {H : Hp} {s : Shared} (I : Inv X pins σ H s) {d : Addr} {es : List DictEntry} {ep : Nat} (h : H d = some (dicO d es ep)) : s.heap.get? d = some (dictObj es.toArray ep) := (I.hok d _ h).1
theorem turn_keysE {P : Program} {w : World} {K : PySem.W.Frag} {tg : Expr} {d : Addr} {es : List DictEntry} {ep : Nat} {kv : List V} (it : Addr) (hv : Vals kv (es.map (·.key))) : Turn P w K tg (ItkE d es ep kv) [it] it (fun i h => h.IsKeyIter it d i es.length ep) where
  mem := by simp
  obj := fun i h st b hb => by
    have e : b = it := by simpa using hb
    subst e
    obtain ⟨oi, e, c, dd⟩ := st
    exact ⟨oi, e, fun v z => by rw [dd] at z; cases z⟩
  keep := fun i h h' st k => st.at fun oi e => k it (by simp) oi e
  item := by
    intro X hP hw hK hc i pins s σ H E I hf st hg
    subst hP hw hK
    obtain ⟨hd, hi⟩ := hg
    obtain ⟨f0, f1, f2, f3, f4, f5⟩ := hf it (by simp)
    have hgd := dicO_at I hd
    have hl : kv.length = es.length := by have := hv.length; simpa using this
    obtain ⟨u, hu, ru⟩ := hv.get (i := i) (List.getElem?_eq_getElem (by omega))
    rw [List.getElem?_map, List.getElem?_eq_getElem hi] at hu
    cases hu
    refine next_key_item st hgd rfl (by simp) (by rw [List.getElem?_toArray]; exact List.getElem?_eq_getElem hi) fun h' st' sb => ?_
    have I1 : Inv X pins σ H { s with heap := h' } := I.turned (t' := s.toks) (fun b ob hb e => (sb.2 b hb).trans e) f0 f1 f3 f4 f5
    obtain ⟨oi, e, c, dd⟩ := id st'
    exact ⟨_, rfl, go_of (s := { s with heap := h' }) e c dd (by decide) ⟨_, H, I1, ru, ⟨rfl, List.getElem?_eq_getElem (by omega)⟩, st', fun b hb => (hf b hb).1⟩⟩
  done := by
    intro X hP hw hK hc i pins s σ H E I hf st hg
    subst hP hw hK
    obtain ⟨hd, hi⟩ := hg
    obtain ⟨f0, f1, f2, f3, f4, f5⟩ := hf it (by simp)
    exact next_key_end (I.ok.hd hc) st (dicO_at I hd) rfl (by simp) hi fun h' eb => ⟨rfl, I.turned (t' := s.toks) (fun b ob hb e => eb b ob hb e) f0 f1 f3 f4 f5⟩
  self := fun A i s Q E st h => by
    refine wpAny_pyIter_slot st.typeIs F.slot_dict_keyiterator_iter (wpAny_call_entry F.slot_dict_keyiterator_iter st.typeIs F.entry_dict_keyiterator_iter ?_ (F.args_dict_keyiterator_iter_1 _))
    show wpAny _ _ (ret (.ref it)) _ _ s
    exact wpAny_pure ⟨_, rfl, "dict_keyiterator", _, st.typeIs, F.slot_dict_keyiterator_next.lookup, h⟩
theorem walk_keysE {d : Addr} {es : List DictEntry} {ep : Nat} {kv : List V} (hl : kv.length = es.length) : Walk (ItkE d es ep kv) kv.length (fun H => H d = some (dicO d es ep)) (YAt kv) :=
  ⟨fun _ _ hi q => ⟨q, by omega⟩, fun _ q => ⟨q, by omega⟩, fun _ _ _ _ _ _ y => y⟩
def iDicE (td : TE) : TI := fun σ H R => td σ H fun x H1 => ∃ d es ep kv, x = .ref d ∧ H1 d = some (dicO d es ep) ∧ (d == sysModules) = false ∧ Vals kv (es.map (·.key)) ∧ R (ItkE d es ep kv) H1
section
variable {X : Cx} {tg e : Expr} {td : TE}
theorem pi_dicE (he : PE X e td) : PI X tg e (iDicE td) := by
  refine ⟨fun pins s σ H R I h => ?_⟩
  refine thn (he.run pins s σ H _ I h) fun u s1 ⟨x, H1, I1, rx, d, es, ep, kv, ex, hd, hs, hv, q⟩ => ?_
  subst ex
  obtain rfl : u = Value.ref d := rx
  refine iter_keys hs (dicO_at I1 hd) ⟨rfl, rfl, rfl⟩ rfl (pi_one (tk := s1.toks) I1 _ (turn_keysE _ hv) ⟨_, Heap.get?_push_size _ rfl, rfl, by simp⟩ q)
end
section
variable {X : Cx} {G : Cfg} {C : Str → List W → Store → Out W} {Y : WX} {tg e : Expr} {m : ME} {pos : Pos}
theorem walkW_dic {g : Gd} {ι : CL} {H : Hp} {ks : List W} {d : Addr} {es : List DictEntry} {ep : Nat} {kv : List V} (h : msk H ι d = some (dicO d es ep)) (r : Reps g ι (msk H ι) ks kv) (hl : kv.length = es.length) (hz : kv.length ≤ sizeLine) : WalkW g ι H ks (ItkE d es ep kv) :=
  walk_still r hz (walk_keysE hl) fun ι2 H2 p s _ => (msk_some (s _ _ h)).1
theorem tup_len {pins : List (Addr × Obj)} {σ : L2.St} {H : Hp} {s : Shared} (I : Inv X pins σ H s) {a : Addr} {vs : List V} (h : SqT X.K H a vs) : vs.length ≤ sizeLine := let ⟨_, _, _, hz⟩ := I.tuple h; hz
/-- how the machine starts a walk -/
theorem start_list {pins : List (Addr × Obj)} {σ : L2.St} {H : Hp} {s : Shared} {R : It → Hp → Prop} (I : Inv X pins σ H s) {a : Addr} {vs : List V} (h : SqL X.K H a vs) (k : R (Itl X.K a) H) :
    wpAny (model X.prog X.w) X.A (pyIter (.ref a)) (fun v s' => ∃ it fp tn J H', v = .ref it ∧ Inv X pins σ H' s' ∧ Turn X.prog X.w X.K tg J fp it tn ∧ tn 0 s'.heap ∧ (∀ b ∈ fp, FpOk X pins H' b) ∧ R J H') X.xe s := by
  obtain ⟨its, rv, p, hz⟩ := I.list h
  refine wpAny_pyIter_list p.isList ?_
  refine ⟨s.heap.objs.size, [s.heap.objs.size], _, _, H, rfl, I.kept (t' := s.toks) fun b o e => Heap.get?_push_of_some _ e, turn_list a _, ⟨_, Heap.get?_push_size _ rfl, rfl, rfl⟩, fun b hb => ?_, k⟩
  have e : b = s.heap.objs.size := by simpa using hb
  subst e
  exact I.fpOk (Nat.le_refl _) (I.hok.fresh (Nat.le_refl _))
theorem pi_ofW (he : PE X e (tM X G C Y m)) : PI X tg e (iM X G C Y (.of m)) := by
  refine ⟨fun pins s σ H R I ⟨ι, st, env, S, E, h⟩ => ?_⟩
  simp only [evI] at h
  refine thn (he.run pins s σ H (fun v H1 => ∃ ι1 st1 w r, SR (gd X) ι1 H1 st1 ∧ Rep (gd X) ι1 (msk H1 ι1) w v ∧ itemsOf st1 w = some r ∧ ∀ J ks, Lk (gd X) ι1 H1 st1 r.1 ks → WalkW (gd X) (lkd ι1 ks) H1 r.2 J → R J H1) I
    ⟨ι, st, env, S, E, h.bind fun w st1 ι1 H1 p1 s1 S1 h1 v r _ => by
      obtain ⟨ws, e1, k, _⟩ := h1.opt S1
      exact ⟨ι1, st1, w, ws, S1, r, e1, k⟩⟩) fun v s1 ⟨x, H1, I1, rx, ι1, st1, w, q, S1, r, e1, k⟩ => ?_
  cases w <;> simp only [itemsOf, reduceCtorEq, Option.some.injEq] at e1
  · -- a tuple
    subst e1
    obtain ⟨a, vs, rfl, h1, r1⟩ := r
    cases rx
    have hu := SqT.unmask h1
    obtain ⟨its, rv, p, hz⟩ := I1.tuple hu
    refine wpAny_pyIter_tuple (show s1.heap.IsTuple a its.toArray from p) ?_
    refine ⟨s1.heap.objs.size, [s1.heap.objs.size], _, _, H1, rfl, I1.kept (t' := s1.toks) fun b o e => Heap.get?_push_of_some _ e, turn_tuple a _, ⟨_, Heap.get?_push_size _ rfl, rfl, rfl⟩, fun b hb => ?_, k _ [] (Lk.nil S1) (walkW_tup h1 r1 hz)⟩
    have e : b = s1.heap.objs.size := by simpa using hb
    subst e
    exact I1.fpOk (Nat.le_refl _) (I1.hok.fresh (Nat.le_refl _))
  · -- a list
    subst e1
    obtain ⟨a, vs, rfl, h1, r1⟩ := r
    cases rx
    have hl := Ls.sq (h1.to fun o q => (msk_some q).1)
    obtain ⟨its, rv, p, hz⟩ := I1.list hl
    exact start_list (R := R) I1 hl (k _ [] (Lk.nil S1) (walkW_list h1 r1 hz))
  · -- a dict
    subst e1
    obtain ⟨d, es, kv, uv, rfl, ⟨ep, hd⟩, ok, r1, r2, v1, v2⟩ := r
    cases rx
    have hl : kv.length = es.length := by have := v1.length; simpa using this
    have hd' := (msk_some hd).1
    refine iter_keys ok.sys (dicO_at I1 hd') ⟨rfl, rfl, rfl⟩ rfl (pi_one (tk := s1.toks) I1 _ (turn_keysE _ v1) ⟨_, Heap.get?_push_size _ rfl, rfl, by simp⟩ (k _ [] (Lk.nil S1) (walkW_dic hd r1 hl (by rw [hl]; exact ok.len))))
  · -- a cell
    rename_i n
    obtain ⟨a, c, rfl, ha, hc, cr⟩ := cell_of S1 r
    rw [hc] at e1
    cases rx
    cases c with
    | lst xs =>
      have e1 : ([n], xs) = q := Option.some.inj e1
      subst e1
      obtain ⟨vs, ho, r1⟩ := cr
      have hl : SqL X.K H1 a vs := .inl (.inl ho)
      obtain ⟨its, rv, p, hz⟩ := I1.list hl
      refine start_list (R := R) I1 hl (k _ [(a, .lst vs)] (Lk.one S1 ha hc (by intro _ z; cases z) ho) ?_)
      have r2 : Reps (gd X) (lkd ι1 [(a, .lst vs)]) (msk H1 (lkd ι1 [(a, .lst vs)])) xs vs := Reps.monoC (ι := ι1) (ι' := lkd ι1 [(a, .lst vs)]) (Same.refl _) (List.prefix_refl _) _ _ r1
      exact walk_still r2 hz walk_list fun ι2 H2 p s hk => .inl (.inl (hk (a, .lst vs) List.mem_cons_self))
    | dic kk us =>
      have e1 : ([n], kk) = q := Option.some.inj e1
      subst e1
      obtain ⟨es, kv, uv, ⟨ep, hd⟩, ok, r1, r2, v1, v2⟩ := cr
      have hl : kv.length = es.length := by have := v1.length; simpa using this
      have r3 : Reps (gd X) (lkd ι1 [(a, dicO a es ep)]) (msk H1 (lkd ι1 [(a, dicO a es ep)])) kk kv := Reps.monoC (ι := ι1) (ι' := lkd ι1 [(a, dicO a es ep)]) (Same.refl _) (List.prefix_refl _) _ _ r1
      have go : R (ItkE a es ep kv) H1 := k _ [(a, dicO a es ep)] (Lk.one S1 ha hc (by intro _ z; cases z) hd) (walk_still r3 (by rw [hl]; exact ok.len) (walk_keysE hl) fun ι2 H2 p s hk => hk (a, dicO a es ep) List.mem_cons_self)
      exact iter_keys ok.sys (dicO_at I1 hd) ⟨rfl, rfl, rfl⟩ rfl (pi_one (tk := s1.toks) I1 _ (turn_keysE _ v1) ⟨_, Heap.get?_push_size _ rfl, rfl, by simp⟩ go)
    | lok c =>
      obtain ⟨hnl, b, o, hb, hbo⟩ := S1.lkf n c hc
      rw [ha] at hb
      cases hb
      have hH := (S1.lck (a, o) hbo).1
      cases c with
      | lst xs =>
        have e1 : ([], xs) = q := Option.some.inj e1
        subst e1
        obtain ⟨vs, ho, r1⟩ := cr
        have eo : o = .lst vs := Option.some.inj (hH.symm.trans ho)
        subst eo
        have hl : SqL X.K H1 a vs := .inl (.inl ho)
        obtain ⟨its, rv, p, hz⟩ := I1.list hl
        exact start_list (R := R) I1 hl (k _ [] (Lk.nil S1) (walk_still r1 hz walk_list fun ι2 H2 p s hk => .inl (.inl (hk (a, .lst vs) hbo))))
      | dic kk us =>
        have e1 : ([], kk) = q := Option.some.inj e1
        subst e1
        obtain ⟨es, kv, uv, ⟨ep, hd⟩, ok, r1, r2, v1, v2⟩ := cr
        have eo : o = dicO a es ep := Option.some.inj (hH.symm.trans hd)
        subst eo
        have hl : kv.length = es.length := by have := v1.length; simpa using this
        have go : R (ItkE a es ep kv) H1 := k _ [] (Lk.nil S1) (walk_still r1 (by rw [hl]; exact ok.len) (walk_keysE hl) fun ι2 H2 p s hk => hk (a, dicO a es ep) hbo)
        exact iter_keys ok.sys (dicO_at I1 hd) ⟨rfl, rfl, rfl⟩ rfl (pi_one (tk := s1.toks) I1 _ (turn_keysE _ v1) ⟨_, Heap.get?_push_size _ rfl, rfl, by simp⟩ go)
      | _ => cases e1
    | _ => cases e1
end
end Sw
end
section
set_option maxRecDepth 100000
set_option autoImplicit false
set_option maxHeartbeats 2000000
/-! SwV: list comprehensions. -/
namespace Sw
open CL
open PySem PySem.Spec PyProof.Rows L2
open PySem.SeqAt (EqAt)
/-- no exception at all -/
def Y0 : WX := fun _ _ _ _ => False
def tMts (X : Cx) (G : Cfg) (C : Str → List W → Store → Out W) (Y : WX) (ms : List ME) : TT := fun σ H Q => ∃ ι st env, SR (gd X) ι H st ∧ ER (gd X) ι H env σ ∧ post (gd X) Y σ ι H (tests G C ms env st) fun b _ _ H' => Q b H'
/-- a step without exceptions, from anywhere -/
theorem post.quiet {g : Gd} {Y : WX} {σ σ2 : L2.St} {ι ι2 : CL} {H H2 : Hp} {α β : Type} {o : Out α} {f : α → Store → Out β} {K : β → Store → CL → Hp → Prop} (h : post g Y σ ι H ((quiet o).bind f) K) :
    post g Y0 σ2 ι2 H2 o fun r st' _ _ => post g Y σ ι H (f r st') K := by
  cases o with
  | ok a st' => exact fun _ _ _ _ _ => h
  | exc c w st' => exact h.elim
  | stuck => exact h.elim
/-- the same, told with the exceptions of the place -/
theorem post.quietY {g : Gd} {Y Y2 : WX} {σ σ2 : L2.St} {ι ι2 : CL} {H H2 : Hp} {α β : Type} {o : Out α} {f : α → Store → Out β} {K : β → Store → CL → Hp → Prop} (h : post g Y σ ι H ((Sw.quiet o).bind f) K) :
    post g Y2 σ2 ι2 H2 o fun r st' _ _ => post g Y σ ι H (f r st') K := by
  cases o with
  | ok a st' => exact fun _ _ _ _ _ => h
  | exc c w st' => exact h.elim
  | stuck => exact h.elim
section
variable {X : Cx} {G : Cfg} {C : Str → List W → Store → Out W} {Y : WX}
theorem pts_nilW : PTs X [] (tMts X G C Y []) := ⟨fun pins s σ H Q I ⟨ι, st, env, S, E, h⟩ => pts_nil.run pins s σ H Q I (h ι H (CL.le_refl _) (Same.refl _) S)⟩
theorem pts_oneW {c : Expr} {m : ME} (h : PT X c (tMt X G C Y m)) : PTs X [c] (tMts X G C Y [m]) := ⟨fun pins s σ H Q I ⟨ι, st, env, S, E, hq⟩ => (pts_one h).run pins s σ H Q I ⟨ι, st, env, S, E, by
  simp only [tests] at hq
  refine hq.cong fun w st1 h1 => ?_
  cases e : truth st1 w with
  | none => rw [e] at h1; exact h1.elim
  | some b => rw [e] at h1; cases b <;> exact h1⟩⟩
end
/-- D is hidden -/
def hide (ι : CL) (D : Addr) (o : HO) : CL := ⟨ι.c, (D, o) :: ι.h, ι.k⟩
theorem hide_eta {ι2 ι4 : CL} {D : Addr} {o : HO} (p : CL.le (hide ι2 D o) ι4) : ι4 = hide ⟨ι4.c, ι2.h, ι2.k⟩ D o := by
  obtain ⟨_, h1, h2⟩ := p
  cases ι4
  simp only [hide] at h1 h2 ⊢
  rw [← h1, ← h2]
section
variable {g : Gd} {ι : CL} {H : Hp} {D : Addr} {o o' : HO}
theorem mem_hide {a : Addr} : a ∈ hide ι D o ↔ a ∈ ι ∨ a = D := by
  show a ∈ ι.c ++ ((D, o) :: ι.h).map (·.1) ↔ a ∈ ι.c ++ ι.h.map (·.1) ∨ a = D
  simp only [List.map_cons, List.mem_append, List.mem_cons]
  constructor
  · rintro (h | h | h)
    · exact .inl (.inl h)
    · exact .inr h
    · exact .inl (.inr h)
  · rintro ((h | h) | h)
    · exact .inl h
    · exact .inr (.inr h)
    · exact .inr (.inl h)
theorem hide_upd : msk (upd H D o') (hide ι D o') = msk H (hide ι D o) := by
  funext b
  by_cases hb : b ∈ hide ι D o
  · have hb' : b ∈ hide ι D o' := mem_hide.mpr (mem_hide.mp hb)
    rw [msk_in hb, msk_in hb']
  · have hb' : b ∉ hide ι D o' := fun h => hb (mem_hide.mpr (mem_hide.mp h))
    rw [msk_out hb, msk_out hb', upd_ne (fun z => hb (mem_hide.mpr (.inr z)))]
theorem hide_same : Same (msk H (hide ι D o)) (msk H ι) := fun b u e => by
  obtain ⟨e1, e2⟩ := msk_some e
  rw [msk_out (fun h => e2 (mem_hide.mpr (.inl h)))]
  exact e1
/-- a new thing, hidden at once -/
theorem SR.hide {st : Store} (S : SR g ι H st) (hp : H D = none) : SR g (Sw.hide ι D o) (L2.upd H D o) st ∧ Same (msk H ι) (msk (L2.upd H D o) (Sw.hide ι D o)) := by
  have hs : Same (msk H ι) (msk (L2.upd H D o) (Sw.hide ι D o)) := fun b u e => by
    obtain ⟨e1, e2⟩ := msk_some e
    have hb : b ≠ D := ne_of_none e1 hp
    rw [msk_out (fun h => (mem_hide.mp h).elim e2 hb), upd_ne hb]
    exact e1
  have hf := S.fresh hp
  refine ⟨⟨S.len, ?_, fun n w e => ?_, fun q hq => ?_, fun q hq => ⟨by rw [upd_ne (ne_of_none (S.lck q hq).1 hp)]; exact (S.lck q hq).1, (S.lck q hq).2⟩, S.lkf⟩, hs⟩
  · have hnd : (ι.c ++ ι.h.map (·.1)).Nodup := S.nd
    have hf : D ∉ ι.c ++ ι.h.map (·.1) := hf
    show (ι.c ++ D :: ι.h.map (·.1)).Nodup
    rw [List.nodup_append] at hnd ⊢
    refine ⟨hnd.1, List.nodup_cons.mpr ⟨fun z => hf (List.mem_append_right _ z), hnd.2.1⟩, fun a ha b hb => ?_⟩
    rcases List.mem_cons.mp hb with hb | hb
    · subst hb; exact fun z => hf (List.mem_append_left _ (z ▸ ha))
    · exact hnd.2.2 a ha b hb
  · obtain ⟨a, ha, c⟩ := S.cells n w e
    have hne : a ≠ D := fun z => hf (z ▸ CL.mem_get ha)
    exact ⟨a, ha, c.stepC (fun o' q => by rw [upd_ne hne]; exact q) hs (List.prefix_refl _)⟩
  · rcases List.mem_cons.mp hq with hq | hq
    · subst hq; exact upd_same
    · rw [upd_ne (ne_of_none (S.hid q hq) hp)]; exact S.hid q hq
/-- the hidden thing is rewritten -/
theorem SR.hideSet {st : Store} (S : SR g (Sw.hide ι D o) H st) : SR g (Sw.hide ι D o') (L2.upd H D o') st := by
  have hs : Same (msk H (Sw.hide ι D o)) (msk (L2.upd H D o') (Sw.hide ι D o')) := by rw [hide_upd (o := o)]; exact Same.refl _
  have hnd : (ι.c ++ D :: ι.h.map (·.1)).Nodup := S.nd
  have hnd' := hnd
  rw [List.nodup_append] at hnd
  have h1 := List.nodup_cons.mp hnd.2.1
  refine ⟨S.len, hnd', fun n w e => ?_, fun q hq => ?_, fun q hq => ?_, S.lkf⟩
  rotate_right
  · obtain ⟨e1, n, w, e2, e3⟩ := S.lck q hq
    have e2' : ι.c[n]? = some q.1 := e2
    exact ⟨by rw [upd_ne (hnd.2.2 q.1 (List.mem_of_getElem? e2') D List.mem_cons_self)]; exact e1, n, w, e2, e3⟩
  · obtain ⟨a, ha, c⟩ := S.cells n w e
    have ha' : ι.c[n]? = some a := ha
    have hne : a ≠ D := hnd.2.2 a (List.mem_of_getElem? ha') D List.mem_cons_self
    exact ⟨a, ha, c.stepC (fun o' q => by rw [upd_ne hne]; exact q) hs (List.prefix_refl _)⟩
  · rcases List.mem_cons.mp hq with hq | hq
    · subst hq; exact upd_same
    · have hne : q.1 ≠ D := fun z => h1.1 (z ▸ List.mem_map.mpr ⟨q, hq, rfl⟩)
      rw [upd_ne hne]
      exact S.hid q (List.mem_cons_of_mem _ hq)
/-- it is shown again -/
theorem SR.unhide {st : Store} (S : SR g (Sw.hide ι D o) H st) : SR g ι H st := by
  have hnd : (ι.c ++ D :: ι.h.map (·.1)).Nodup := S.nd
  rw [List.nodup_append] at hnd
  have h1 := List.nodup_cons.mp hnd.2.1
  refine ⟨S.len, ?_, fun n w e => ?_, fun q hq => S.hid q (List.mem_cons_of_mem _ hq), fun q hq => S.lck q hq, S.lkf⟩
  · show (ι.c ++ ι.h.map (·.1)).Nodup
    rw [List.nodup_append]
    exact ⟨hnd.1, h1.2, fun a ha b hb => hnd.2.2 a ha b (List.mem_cons_of_mem _ hb)⟩
  · obtain ⟨a, ha, c⟩ := S.cells n w e
    exact ⟨a, ha, c.stepC (fun o' q => q) hide_same (List.prefix_refl _)⟩
theorem SR.hid_not {st : Store} (S : SR g (Sw.hide ι D o) H st) : D ∉ ι ∧ H D = some o := by
  have hnd : (ι.c ++ D :: ι.h.map (·.1)).Nodup := S.nd
  rw [List.nodup_append] at hnd
  have h1 := List.nodup_cons.mp hnd.2.1
  refine ⟨fun h => ?_, S.hid (D, o) List.mem_cons_self⟩
  rcases List.mem_append.mp h with h | h
  · exact hnd.2.2 D h D List.mem_cons_self rfl
  · exact h1.1 h
/-- the hidden thing becomes a cell -/
theorem SR.hideCell {st : Store} {w : W} (S : SR g (Sw.hide ι D o) H st) (hw : ∀ x, w ≠ .lok x) (c : CellRep g (ι.add D) H D w) : SR g (ι.add D) H (st ++ [w]) := by
  have hnd : (ι.c ++ D :: ι.h.map (·.1)).Nodup := S.nd
  have hm : ∀ a, a ∈ ι.add D ↔ a ∈ Sw.hide ι D o := fun a => by rw [CL.mem_add, mem_hide]
  have hs : Same (msk H (Sw.hide ι D o)) (msk H (ι.add D)) := fun b u e => by
    obtain ⟨e1, e2⟩ := msk_some e
    rw [msk_out (fun h => e2 ((hm b).mp h))]
    exact e1
  refine ⟨?_, ?_, fun n x e => ?_, fun q hq => S.hid q (List.mem_cons_of_mem _ hq), fun q hq => ?_, fun n x e => ?_⟩
  rotate_right
  · by_cases hn : n < st.length
    · rw [List.getElem?_append_left hn] at e
      obtain ⟨h1, a, o', h2, h3⟩ := S.lkf n x e
      exact ⟨h1, a, o', prefix_get (List.prefix_append _ _) h2, h3⟩
    · have hl : n = st.length := by
        have := (List.getElem?_eq_some_iff.mp e).1
        simp at this; omega
      subst hl
      rw [List.getElem?_append_right (Nat.le_refl _), Nat.sub_self] at e
      cases e
      exact absurd rfl (hw _)
  rotate_right
  · obtain ⟨e1, n, w', e2, e3⟩ := S.lck q hq
    exact ⟨e1, n, w', prefix_get (List.prefix_append _ _) e2, by rw [List.getElem?_append_left (List.getElem?_eq_some_iff.mp e3).1]; exact e3⟩
  · have := S.len
    simp only [CL.add, List.length_append]
    show ι.c.length + 1 = st.length + 1
    have h : ι.c.length = st.length := this
    omega
  · show ((ι.c ++ [D]) ++ ι.h.map (·.1)).Nodup
    rw [List.append_assoc]; exact hnd
  · have hl : ι.c.length = st.length := S.len
    by_cases hn : n < st.length
    · rw [List.getElem?_append_left hn] at e
      obtain ⟨a, ha, ca⟩ := S.cells n x e
      exact ⟨a, prefix_get (List.prefix_append _ _) ha, ca.stepC (fun o' q => q) hs (List.prefix_append _ _)⟩
    · have hn' : n = st.length := by
        have := (List.getElem?_eq_some_iff.mp e).1
        simp at this; omega
      subst hn'
      rw [List.getElem?_append_right (Nat.le_refl _), Nat.sub_self] at e
      cases e
      refine ⟨D, ?_, c⟩
      show (ι.c ++ [D])[st.length]? = _
      rw [← hl, List.getElem?_append_right (Nat.le_refl _), Nat.sub_self]; rfl
end

section
variable {X : Cx} {G : Cfg} {C : Str → List W → Store → Out W} {Y : WX}
theorem loopC_cons (b : W → Store → Out (Option W)) (x : W) (xs acc : List W) (st : Store) : loopC b (x :: xs) acc st = (b x st).bind fun r st' => loopC b xs (match r with | some w => acc ++ [w] | none => acc) st' := by
  simp only [loopC]
  congr 1
  funext r st'
  cases r <;> rfl
/-- the list so far, D hidden -/
structure LcInv (g : Gd) (Y : WX) (σ : L2.St) (ι : CL) (H1 : Hp) (b : W → Store → Out (Option W)) (ws : List W) (K : List W → Store → CL → Hp → Prop) (D : Addr) (i : Nat) (H : Hp) : Prop where
  ex : ∃ (ι' : CL) (st' : Store) (acc : List V) (accw : List W), CL.le ι ι' ∧ SR g (hide ι' D (.lst acc)) H st' ∧ Same (msk H1 ι) (msk H (hide ι' D (.lst acc))) ∧ Reps g (hide ι' D (.lst acc)) (msk H (hide ι' D (.lst acc))) accw acc ∧ acc.length ≤ i ∧
    post g Y σ ι H1 (loopC b (ws.drop i) accw st') K
/-- what the machine's comprehension asks -/
theorem lc_imp {own : List Nat} {it : IT} {mt : MT} {mts : List ME} {me : ME} (hown : ∀ i ∈ slotsT mt, i ∈ own) {σ : L2.St} {H : Hp} {Q : VK} (h : tM X G C Y (.comp me mt it mts own) σ H Q) :
    tLc (iM X G C Y it) (gM (gd X) mt) (tMts X G C Y0 mts) (tM X G C Y0 me) own σ H Q := by
  obtain ⟨ι, st, env, S, E, h⟩ := h
  simp only [ev] at h
  refine ⟨ι, st, env, S, E, h.bind fun q st1 ι0 H1 p1 s1 S0 h1 J ks lk hJ => ?_⟩
  obtain ⟨ns, ws⟩ := q
  dsimp only at h1 hJ lk
  intro D hD
  obtain ⟨n, P, Yd, rfl, hz, w, hP, hY⟩ := hJ
  generalize hb : (fun x st => match assignT st mt x (wipeE env own) with
      | some e => quiet ((tests G C mts e st).bind fun b st => if b then (ev G C me e st).bind fun w st => .ok (some w) st else .ok none st)
      | none => .stuck : W → Store → Out (Option W)) = b at h1
  have S1 := lk.sr
  have h2 : post (gd X) Y σ (lkd ι0 ks) H1 (loopC b ws [] (lockS st1 ns)) fun acc st' ι' H' => ∀ (v : V), Rep (gd X) ι' (msk H' ι') (.lst acc) v → FreshAt (gd X) ⟨ι'.c, ι'.h, ι0.k⟩ H H' (unlockS st' ns) v (.lst acc) → Q v H' :=
    (post.quietY h1).imp fun acc st' ι' H' p s S' k v r f => k ⟨ι'.c, ι'.h, ι0.k⟩ H' ⟨p.1, p.2.1, rfl⟩ s (lk.un ι' H' st' p.1 p.2.2.symm S') v (Rep.monoC (ι := ι') (ι' := ⟨ι'.c, ι'.h, ι0.k⟩) (Same.refl _) (List.prefix_refl _) _ _ r) fun _ _ => f
  generalize hι1 : lkd ι0 ks = ι1 at *
  have p1' : List.IsPrefix ι.c ι1.c := by rw [← hι1]; exact p1.1
  have s1' : Same (msk H ι) (msk H1 ι1) := by rw [← hι1]; exact s1
  have hk1 : ι1.k = ks ++ ι0.k := by rw [← hι1]; rfl
  have hc1 : ι1.c = ι0.c := by rw [← hι1]; rfl
  have hh1 : ι1.h = ι0.h := by rw [← hι1]; rfl
  refine lc_it w (fun i H' => LcInv (gd X) Y σ ι1 H1 b ws (fun acc st' ι' H' => ∀ (v : V), Rep (gd X) ι' (msk H' ι') (.lst acc) v → FreshAt (gd X) ⟨ι'.c, ι'.h, ι0.k⟩ H H' (unlockS st' ns) v (.lst acc) → Q v H') D i H') ?_ ?_ ?_ ?_
  · -- the start
    obtain ⟨Sh, sh⟩ := S1.hide (o := .lst []) hD
    exact ⟨ι1, lockS st1 ns, [], [], CL.le_refl _, Sh, sh, Reps.nil, Nat.le_refl _, h2⟩
  · -- what is walked stands
    rintro i H' hi' ⟨ι', st', acc, accw, p, S', s, r, hl, hq⟩
    exact hP (hide ι' D (.lst acc)) H' p.1 s fun q hq => (S'.lck q (by show q ∈ ι'.k; rw [← p.2.2]; exact hq)).1
  · -- a turn
    rintro i x H2 H3 hlt ⟨ι2, st2, acc, accw, p2, S2, s2, r2, hl, hq⟩ y
    obtain ⟨S3, s3, ⟨wx, hwx, rx⟩, _⟩ := hY i H2 x H3 (hide ι2 D (.lst acc)) st2 hlt p2.1 s2 S2 y
    rw [List.drop_eq_getElem_cons hlt] at hq
    have ewx : ws[i] = wx := by rw [List.getElem?_eq_getElem hlt] at hwx; exact Option.some.inj hwx
    rw [ewx, loopC_cons] at hq
    have E3 : ER (gd X) (hide ι2 D (.lst acc)) H3 (wipeE env own) (L2.wipe σ own) := ((E.monoC s1' p1').monoC (s2.trans s3) p2.1).wipe _
    have e0 : b wx st2 = (match assignT st2 mt wx (wipeE env own) with
      | some e => quiet ((tests G C mts e st2).bind fun b st => if b then (ev G C me e st).bind fun w st => .ok (some w) st else .ok none st)
      | none => .stuck) := by rw [← hb]
    have hq' := hq
    rw [e0] at hq'
    cases ea : assignT st2 mt wx (wipeE env own) with
    | none => rw [ea] at hq'; exact hq'.elim
    | some e =>
      rw [ea] at hq'
      dsimp only at hq'
      refine ⟨hide ι2 D (.lst acc), st2, _, wx, e, S3, E3, rx, ea, fun σ2 E2 hw => ⟨?_, ?_⟩⟩
      · rw [hw _ hown]
        have : ∀ (vs : List Nat) (σ : L2.St), L2.wipe (L2.wipe σ vs) vs = L2.wipe σ vs := by
          intro vs σ
          have key : ∀ (us : List Nat) (τ : L2.St), (∀ i ∈ us, i ∈ vs) → L2.wipe (L2.wipe τ us) vs = L2.wipe τ vs := by
            intro us
            induction us with
            | nil => intro τ _; rfl
            | cons k us ih =>
              intro τ hk
              show L2.wipe ((L2.wipe τ us).set k none) vs = _
              rw [wipe_set (hk k List.mem_cons_self), ih τ fun i hi => hk i (List.mem_cons_of_mem _ hi)]
          exact key vs σ fun i hi => hi
        exact this _ _
      · have hq2 := hq'.quiet (σ2 := σ2) (ι2 := hide ι2 D (.lst acc)) (H2 := H3)
        refine ⟨hide ι2 D (.lst acc), st2, e, S3, E2, hq2.bind fun bt st4 ι4 H4 p4 s4 S4 k4 => ?_⟩
        cases bt with
        | false =>
          -- left out
          have k5 := k4 ι4 H4 (CL.le_refl _) (Same.refl _) S4
          have eι := hide_eta p4
          refine ⟨⟨ι4.c, ι2.h, ι2.k⟩, st4, acc, accw, ⟨p2.1.trans p4.1, p2.2⟩, eι ▸ S4, ?_, ?_, by omega, k5⟩
          · rw [← eι]; exact (s2.trans s3).trans s4
          · rw [← eι]; exact r2.monoC (s3.trans s4) p4.1 _ _
        | true =>
          refine ⟨_, st4, e, S4, E2.mono s4 p4, (post.bind (f := fun w st => .ok (some w) st) k4 fun wy st5 ι5 H5 p5 s5 S5 k5 => ?_)⟩
          intro yv ry _
          have p45 := p4.trans p5
          have eι := hide_eta p45
          have S5' : SR (gd X) (hide ⟨ι5.c, ι2.h, ι2.k⟩ D (.lst acc)) H5 st5 := eι ▸ S5
          have k6 := k5 ι5 H5 (CL.le_refl _) (Same.refl _) S5
          have em : msk H5 ι5 = msk (upd H5 D (.lst (acc ++ [yv]))) (hide ⟨ι5.c, ι2.h, ι2.k⟩ D (.lst (acc ++ [yv]))) := by rw [hide_upd (o := .lst acc), ← eι]
          refine ⟨acc, S5'.hid_not.2, by omega, ⟨ι5.c, ι2.h, ι2.k⟩, st5, acc ++ [yv], accw ++ [wy], ⟨p2.1.trans p45.1, p2.2⟩, S5'.hideSet, ?_, ?_, by rw [List.length_append]; simp; omega, k6⟩
          · rw [← em]; exact ((s2.trans s3).trans s4).trans s5
          · rw [← em]
            exact ((r2.monoC (ι' := hide ⟨ι5.c, ι2.h, ι2.k⟩ D (.lst (acc ++ [yv]))) ((s3.trans s4).trans s5) p45.1 _ _).app (Reps.cons (Rep.monoC (ι := ι5) (ι' := hide ⟨ι5.c, ι2.h, ι2.k⟩ D (.lst (acc ++ [yv]))) (Same.refl _) (List.prefix_refl _) _ _ ry) Reps.nil))
  · -- the end
    rintro H' ⟨ι2, st2, acc, accw, p2, S2, s2, r2, hl, hq⟩
    rw [List.drop_length] at hq
    obtain ⟨hn, hD'⟩ := S2.hid_not
    refine hq ι2 H' p2 (s2.trans hide_same) S2.unhide (.ref D) ⟨D, acc, rfl, .inl (.inl (by rw [msk_out hn]; exact hD')), Reps.monoC (ι := hide ι2 D (.lst acc)) (ι' := ι2) hide_same (List.prefix_refl _) _ _ r2⟩ ⟨D, rfl, there_mono S S0 p1 s1 hD, ?_⟩
    have S3 := lk.un (hide ι2 D (.lst acc)) H' st2 (by rw [← hc1]; exact p2.1) (by show ι2.k = _; rw [← p2.2.2, hk1]) S2
    have S3 : SR (gd X) (hide ⟨ι2.c, ι2.h, ι0.k⟩ D (.lst acc)) H' (unlockS st2 ns) := S3
    refine S3.hideCell (by intro _ z; cases z) ⟨acc, hD', ?_⟩
    refine Reps.monoC (ι := hide ι2 D (.lst acc)) (ι' := (⟨ι2.c, ι2.h, ι0.k⟩ : CL).add D) (fun b u e => ?_) (List.prefix_append _ _) _ _ r2
    obtain ⟨e1, e2⟩ := msk_some e
    rw [msk_out (ι := (⟨ι2.c, ι2.h, ι0.k⟩ : CL).add D) (fun h => e2 (mem_hide.mpr ((CL.mem_add (ι := ι2)).mp h)))]
    exact e1
theorem pe_lcW {elt tg iter : Expr} {ifs : List Expr} {scope : Scope} {own : List (Str × Nat)} {pos : Pos} {it : IT} {mt : MT} {mts : List ME} {me : ME} (hc : X.calm = true) (hN : X.N.Nodup) (hi : PI X tg iter (iM X G C Y it)) (ok : BlkOk X.N X.env.scope scope own)
    (hown : ∀ i ∈ slotsT mt, i ∈ own.map (·.2))
    (hg : ∀ (s : Shared) (H : Hp) (C' : Addr) (cl : List (Str × Addr)) (fp : List Addr), PG (X.blk s H scope (compEnvC scope cl C' X.env) fp) tg (gM (gd X) mt))
    (ht : ∀ (s : Shared) (H : Hp) (C' : Addr) (cl : List (Str × Addr)) (fp : List Addr), PTs (X.blk s H scope (compEnvC scope cl C' X.env) fp) ifs (tMts X G C Y0 mts))
    (he : ∀ (s : Shared) (H : Hp) (C' : Addr) (cl : List (Str × Addr)) (fp : List Addr), PE (X.blk s H scope (compEnvC scope cl C' X.env) fp) elt (tM X G C Y0 me))
    (hs : ∀ x, foldedSetIterable iter X.env x = pure x) :
    PE X (.ListComp elt [⟨tg, iter, ifs, 0⟩] scope pos) (tM X G C Y (.comp me mt it mts (own.map (·.2)))) := by
  exact (pe_lc hc hN hi ok hg ht he hs).imp fun σ H Q h => lc_imp hown h
/-- name = [..], the name a local -/
theorem ps_lcW {i : Nat} {y : Str} {py spos : Pos} {elt tg iter : Expr} {ifs : List Expr} {scope : Scope} {own : List (Str × Nat)} {pos : Pos} {it : IT} {mt : MT} {mts : List ME} {me : ME} (hc : X.calm = true) (hN : X.N.Nodup) (hy : X.N[i]? = some y) (hyl : X.env.scope.names.lookup y = some .local)
    (hsw : swapsWith (.ListComp elt [⟨tg, iter, ifs, 0⟩] scope pos) (some (.Name y py)) spos.line X.env = pure true) (hi : PI X tg iter (iM X G C Y it)) (ok : BlkOk X.N X.env.scope scope own)
    (hown : ∀ i ∈ slotsT mt, i ∈ own.map (·.2))
    (hg : ∀ (s : Shared) (H : Hp) (C' : Addr) (cl : List (Str × Addr)) (fp : List Addr), PG (X.blk s H scope (compEnvC scope cl C' X.env) fp) tg (gM (gd X) mt))
    (ht : ∀ (s : Shared) (H : Hp) (C' : Addr) (cl : List (Str × Addr)) (fp : List Addr), PTs (X.blk s H scope (compEnvC scope cl C' X.env) fp) ifs (tMts X G C Y0 mts))
    (he : ∀ (s : Shared) (H : Hp) (C' : Addr) (cl : List (Str × Addr)) (fp : List Addr), PE (X.blk s H scope (compEnvC scope cl C' X.env) fp) elt (tM X G C Y0 me))
    (hs : ∀ x, foldedSetIterable iter X.env x = pure x) :
    PS X (.Assign [.Name y py] (.ListComp elt [⟨tg, iter, ifs, 0⟩] scope pos) spos) (tAsg (tLc (iM X G C Y it) (gM (gd X) mt) (tMts X G C Y0 mts) (tM X G C Y0 me) (own.map (·.2))) (gName i)) :=
  ps_setLc hc hN hy hyl hsw hi ok hg ht he hs
end
end Sw
end
section
set_option maxRecDepth 100000
set_option autoImplicit false
set_option maxHeartbeats 2000000
/-! SwW: statements. -/
namespace Sw
open CL
open PySem PySem.Spec PyProof.Rows L2
open PySem.SeqAt (EqAt)
/-- a wish that does not ask for the slots -/
def YE (E : XK) : WX := fun c d _ H => E c d H
theorem post.slots {g : Gd} {E : XK} {σ σ' : L2.St} {ι : CL} {H : Hp} {α : Type} {o : Out α} {K : α → Store → CL → Hp → Prop} (h : post g (YE E) σ ι H o K) : post g (YE E) σ' ι H o K := by
  cases o with
  | ok a st => exact h
  | exc c w st => exact h
  | stuck => exact h
/-- what a statement's end asks -/
def KS (g : Gd) (D : Ends) : (Fl × EnvW) → Store → CL → Hp → Prop := fun r _ ι' H' => match r.1 with
  | .nx => ∀ σ', ER g ι' H' r.2 σ' → D.nx σ' H'
  | .bk => ∀ σ', ER g ι' H' r.2 σ' → D.bk σ' H'
  | .ct => ∀ σ', ER g ι' H' r.2 σ' → D.ct σ' H'
  | .rt w => ∀ v, Rep g ι' (msk H' ι') w v → D.rt v H'
section
variable (X : Cx) (G : Cfg) (C : Str → List W → Store → Out W) (E : XK)
def sM (s : MS) : TS := fun D σ H => ∃ ι st env, SR (gd X) ι H st ∧ ER (gd X) ι H env σ ∧ post (gd X) (YE E) σ ι H (exS G C s env st) (KS (gd X) D)
def sMs (ss : List MS) : TS := fun D σ H => ∃ ι st env, SR (gd X) ι H st ∧ ER (gd X) ι H env σ ∧ post (gd X) (YE E) σ ι H (exs G C ss env st) (KS (gd X) D)
end
theorem _root_.L2.PS.imp {X : Cx} {e : Stmt} {t t' : TS} (h : PS X e t) (i : ∀ D σ H, t' D σ H → t D σ H) : PS X e t' := ⟨fun pins s σ H D I q => h.run pins s σ H D I (i D σ H q)⟩
theorem _root_.L2.PSs.imp {X : Cx} {e : List Stmt} {t t' : TS} (h : PSs X e t) (i : ∀ D σ H, t' D σ H → t D σ H) : PSs X e t' := ⟨fun pins s σ H D I q => h.run pins s σ H D I (i D σ H q)⟩
section
variable {X : Cx} {G : Cfg} {C : Str → List W → Store → Out W} {E : XK} {pos : Pos}
theorem pss_nilW : PSs X [] (sMs X G C E []) := pss_nil.imp fun D σ H ⟨ι, st, env, S, Ee, h⟩ => h ι H (CL.le_refl _) (Same.refl _) S σ Ee
theorem pss_consW {s : Stmt} {ss : List Stmt} {m : MS} {ms : List MS} (h1 : PS X s (sM X G C E m)) (h2 : PSs X ss (sMs X G C E ms)) : PSs X (s :: ss) (sMs X G C E (m :: ms)) :=
  (pss_cons h1 h2).imp fun D σ H ⟨ι, st, env, S, Ee, h⟩ => by
    simp only [exs] at h
    refine ⟨ι, st, env, S, Ee, h.bind fun r st1 ι1 H1 p1 s1 S1 h1 => ?_⟩
    obtain ⟨f, env1⟩ := r
    cases f with
    | nx => exact fun σ' E' => ⟨ι1, st1, env1, S1, E', post.slots h1⟩
    | bk => exact h1 ι1 H1 (CL.le_refl _) (Same.refl _) S1
    | ct => exact h1 ι1 H1 (CL.le_refl _) (Same.refl _) S1
    | rt w => exact h1 ι1 H1 (CL.le_refl _) (Same.refl _) S1
theorem ps_passW : PS X (.Pass pos) (sM X G C E .pass) := ps_pass.imp fun D σ H ⟨ι, st, env, S, Ee, h⟩ => h ι H (CL.le_refl _) (Same.refl _) S σ Ee
theorem ps_brkW : PS X (.Break pos) (sM X G C E .brk) := ps_break.imp fun D σ H ⟨ι, st, env, S, Ee, h⟩ => h ι H (CL.le_refl _) (Same.refl _) S σ Ee
theorem ps_cntW : PS X (.Continue pos) (sM X G C E .cnt) := ps_continue.imp fun D σ H ⟨ι, st, env, S, Ee, h⟩ => h ι H (CL.le_refl _) (Same.refl _) S σ Ee
theorem ps_retNW : PS X (.Return none pos) (sM X G C E .retN) := ps_retN.imp fun D σ H ⟨ι, st, env, S, Ee, h⟩ => h ι H (CL.le_refl _) (Same.refl _) S .non rfl
theorem ps_retW {e : Expr} {m : ME} (he : PE X e (tM X G C (YE E) m)) : PS X (.Return (some e) pos) (sM X G C E (.ret m)) :=
  (ps_ret he).imp fun D σ H ⟨ι, st, env, S, Ee, h⟩ => by
    simp only [exS] at h
    exact ⟨ι, st, env, S, Ee, h.bind fun w st1 ι1 H1 p1 s1 S1 h1 v r _ => h1 ι1 H1 (CL.le_refl _) (Same.refl _) S1 v r⟩
theorem ps_exW {e : Expr} {m : ME} (he : PE X e (tM X G C (YE E) m)) (hs : swapsWith e none pos.line X.env = pure false) : PS X (.Expr e pos) (sM X G C E (.ex m)) :=
  (ps_expr he hs).imp fun D σ H ⟨ι, st, env, S, Ee, h⟩ => by
    simp only [exS] at h
    exact ⟨ι, st, env, S, Ee, h.bind fun w st1 ι1 H1 p1 s1 S1 h1 v r _ => h1 ι1 H1 (CL.le_refl _) (Same.refl _) S1 σ (Ee.mono s1 p1)⟩
/-- the value's reading behind a store to a name -/
theorem asg_imp {i : Nat} {m : ME} {D : Ends} {σ : L2.St} {H : Hp} (h : sM X G C E (.asg i m) D σ H) : tM X G C (YE E) m σ H fun x H1 => gName i x σ H1 D.nx := by
  obtain ⟨ι, st, env, S, Ee, h⟩ := h
  simp only [exS] at h
  refine ⟨ι, st, env, S, Ee, h.bind fun w st1 ι1 H1 p1 s1 S1 h1 v r _ => ?_⟩
  split at h1
  · exact h1 ι1 H1 (CL.le_refl _) (Same.refl _) S1 _ ((Ee.mono s1 p1).set (by assumption) r)
  · exact h1.elim
theorem ps_asgW {i : Nat} {x : Str} {e : Expr} {m : ME} {pos' : Pos} (hN : X.N.Nodup) (hi : X.N[i]? = some x) (hx : Loc X.env.scope x) (he : PE X e (tM X G C (YE E) m)) (hs : swapsWith e (some (.Name x pos')) pos.line X.env = pure false)
    (hf : X.fn x = true ∨ X.env.scope.names.lookup x = some .local) : PS X (.Assign [.Name x pos'] e pos) (sM X G C E (.asg i m)) :=
  (ps_set hN hi hx he hs hf).imp fun D σ H h => asg_imp h
theorem ps_unpW {tg e : Expr} {mt : MT} {m : ME} (he : PE X e (tM X G C (YE E) m)) (hg : PG X tg (gM (gd X) mt)) (hs : swapsWithSole [tg] e pos.line X.env = pure false) (hw : swappedStores [tg] e X.env = pure none) (h1 : (assignEach [tg] X.env).map (·.2) = [assign tg X.env]) : PS X (.Assign [tg] e pos) (sM X G C E (.unp mt m)) :=
  (ps_asg he hg hs hw h1).imp fun D σ H ⟨ι, st, env, S, Ee, h⟩ => by
    simp only [exS] at h
    refine ⟨ι, st, env, S, Ee, h.bind fun w st1 ι1 H1 p1 s1 S1 h1 v r _ => ?_⟩
    cases ea : assignT st1 mt w env with
    | none => rw [ea] at h1; exact h1.elim
    | some env' =>
      rw [ea] at h1
      exact ⟨ι1, st1, env, w, env', S1, Ee.mono s1 p1, r, ea, fun σ' E' _ => h1 ι1 H1 (CL.le_refl _) (Same.refl _) S1 σ' E'⟩
theorem ps_setIW (hu : X.A.units + 200 < cLine) {o i e : Expr} {mo mi m : ME} {spos : Pos} (he : PE X e (tM X G C (YE E) m)) (ho : PE X o (tM X G C (YE E) mo)) (hi : PE X i (tM X G C (YE E) mi))
    (hs : swapsWithSole [.Subscript o i spos] e pos.line X.env = pure false) (hw : swappedStores [.Subscript o i spos] e X.env = pure none)
    (ha : ∀ v, assign (.Subscript o i spos) X.env v = (do
      let ov ← holding [v] (eval o X.env)
      let iv ← holding [v, ov] (eval i X.env)
      standAt spos
      holding [v, ov, iv] (setItem ov iv v)
      release [v, ov, iv] [])) : PS X (.Assign [.Subscript o i spos] e pos) (sM X G C E (.setI mo mi m)) :=
  (ps_asg he (pg_sub ho hi (set_W hu) ha) hs hw).imp fun D σ H ⟨ι, st, env, S, Ee, h⟩ => by
    simp only [exS] at h
    refine ⟨ι, st, env, S, Ee, h.bind fun w st1 ι1 H1 p1 s1 S1 h1 v r _ => ?_⟩
    refine ⟨ι1, st1, env, S1, Ee.mono s1 p1, h1.bind fun x st2 ι2 H2 p2 s2 S2 h2 u ru _ => ?_⟩
    refine ⟨ι2, st2, env, S2, (Ee.mono s1 p1).mono s2 p2, h2.bind fun y st3 ι3 H3 p3 s3 S3 h3 u2 ru2 _ => ?_⟩
    cases ea : setW x y w st3 with
    | none => rw [ea] at h3; exact h3.elim
    | some st4 =>
      rw [ea] at h3
      exact ⟨ι3, st3, x, y, w, st4, S3, ru.mono s3 p3 _ _, ru2, (r.mono s2 p2 _ _).mono s3 p3 _ _, ea, fun H4 S4 s4 => h3 ι3 H4 (CL.le_refl _) s4 S4 σ ((((Ee.mono s1 p1).mono s2 p2).mono s3 p3).mono s4 (CL.le_refl _))⟩
theorem ps_iffW {c : Expr} {a b : List Stmt} {mc : ME} {ma mb : List MS} (hc : PT X c (tMt X G C (YE E) mc)) (ha : PSs X a (sMs X G C E ma)) (hb : PSs X b (sMs X G C E mb)) : PS X (.If c a b pos) (sM X G C E (.iff mc ma mb)) :=
  (ps_if hc ha hb).imp fun D σ H ⟨ι, st, env, S, Ee, h⟩ => by
    simp only [exS] at h
    refine ⟨ι, st, env, S, Ee, h.cong fun w st1 h1 => ?_⟩
    cases e : truth st1 w with
    | none => rw [e] at h1; exact h1.elim
    | some t =>
      rw [e] at h1
      cases t with
      | true => exact fun ι1 H1 p s S1 => ⟨ι1, st1, env, S1, Ee.mono s p, h1.step p s⟩
      | false => exact fun ι1 H1 p s S1 => ⟨ι1, st1, env, S1, Ee.mono s p, h1.step p s⟩

/-- the first step from further on -/
theorem post.from_ {g : Gd} {Y : WX} {σ : L2.St} {ι ι2 : CL} {H H2 : Hp} {α β : Type} {o : Out α} {f : α → Store → Out β} {K : β → Store → CL → Hp → Prop} (h : post g Y σ ι H (o.bind f) K) (p : CL.le ι ι2) (s : Same (msk H ι) (msk H2 ι2)) :
    post g Y σ ι2 H2 o fun a st' _ _ => post g Y σ ι H (f a st') K := by
  cases o with
  | ok a st' => exact fun _ _ _ _ _ => h
  | exc c w st' => exact excP.step h p s
  | stuck => exact h.elim
/-- the state at a loop's turn -/
structure LpInv (g : Gd) (E : XK) (ι : CL) (H1 : Hp) (f : EnvW → Store → Out (Fl × EnvW)) (D : Ends) (σ : L2.St) (H : Hp) : Prop where
  ex : ∃ (ι' : CL) (st' : Store) (env' : EnvW), CL.le ι ι' ∧ SR g ι' H st' ∧ Same (msk H1 ι) (msk H ι') ∧ ER g ι' H env' σ ∧ post g (YE E) [] ι H1 (f env' st') (KS g D)
theorem loopL_cons (b : W → EnvW → Store → Out (Fl × EnvW)) (x : W) (xs : List W) (env : EnvW) (st : Store) : loopL b (x :: xs) env st = (b x env st).bind fun r st' => match r.1 with
    | .nx => loopL b xs r.2 st'
    | .ct => loopL b xs r.2 st'
    | .bk => .ok (.nx, r.2) st'
    | .rt w => .ok (.rt w, r.2) st' := rfl
theorem ps_forW {tg iter : Expr} {body : List Stmt} {mt : MT} {it : IT} {ms : List MS} (hp : PassesOwn (model X.prog X.w) X.A X.env X.xe) (hc : X.calm = true) (hi : PI X tg iter (iM X G C (YE E) it)) (hg : PG X tg (gM (gd X) mt)) (hb : PSs X body (sMs X G C E ms))
    (hs : ∀ x, foldedSetIterable iter X.env x = pure x) : PS X (.For tg iter body [] pos) (sM X G C E (.forr mt it ms)) :=
  (ps_for hp hc hi hg hb hs).imp fun D σ H ⟨ι, st, env, S, Ee, h⟩ => by
    simp only [exS] at h
    refine ⟨ι, st, env, S, Ee, h.bind fun q st0 ι0 H1 p1 s1 S0 h1 J ks lk hJ => ?_⟩
    obtain ⟨ns, ws⟩ := q
    dsimp only at h1 hJ lk
    generalize eb : (fun x env st => match assignT st mt x env with
      | some e => exs G C ms e st
      | none => .stuck : W → EnvW → Store → Out (Fl × EnvW)) = b at h1
    have h2 : post (gd X) (YE E) [] (lkd ι0 ks) H1 (loopL b ws env (lockS st0 ns)) (KS (gd X) D) := by
      cases ns with
      | nil =>
        have := lk.nl rfl
        subst this
        exact post.slots h1
      | cons n ns =>
        have h1' : post (gd X) (YE E) σ ι0 H1 ((Sw.quiet (loopL b ws env (lockS st0 (n :: ns)))).bind fun r st => .ok r (unlockS st (n :: ns))) (KS (gd X) D) := h1
        refine (post.quietY h1').imp fun r st' ι' H' p s S' k => ?_
        have S'' := lk.un ι' H' st' p.1 p.2.2.symm S'
        have k2 := k ⟨ι'.c, ι'.h, ι0.k⟩ H' ⟨p.1, p.2.1, rfl⟩ s S''
        obtain ⟨f, env'⟩ := r
        cases f with
        | nx => exact fun σ' E' => k2 σ' (ER.monoC (ι := ι') (ι' := ⟨ι'.c, ι'.h, ι0.k⟩) E' (Same.refl _) (List.prefix_refl _))
        | ct => exact fun σ' E' => k2 σ' (ER.monoC (ι := ι') (ι' := ⟨ι'.c, ι'.h, ι0.k⟩) E' (Same.refl _) (List.prefix_refl _))
        | bk => exact fun σ' E' => k2 σ' (ER.monoC (ι := ι') (ι' := ⟨ι'.c, ι'.h, ι0.k⟩) E' (Same.refl _) (List.prefix_refl _))
        | rt w => exact fun v r => k2 v (Rep.monoC (ι := ι') (ι' := ⟨ι'.c, ι'.h, ι0.k⟩) (Same.refl _) (List.prefix_refl _) _ _ r)
    have S1 := lk.sr
    have Ee1 : ER (gd X) (lkd ι0 ks) H1 env σ := Ee.monoC (ι' := lkd ι0 ks) s1 p1.1
    generalize lkd ι0 ks = ι1 at hJ h2 S1 Ee1
    obtain ⟨n, P, Yd, rfl, hz, w, hP, hY⟩ := hJ
    refine for_it w (fun i σ' H' => LpInv (gd X) E ι1 H1 (fun env st => loopL b (ws.drop i) env st) D σ' H') ?_ ?_ ?_ ?_
    · exact ⟨ι1, lockS st0 ns, env, CL.le_refl _, S1, Same.refl _, Ee1, h2⟩
    · rintro i σ' H' _ ⟨ι', st', env', p, S', s, E', hq⟩
      exact hP ι' H' p.1 s fun q hq => (S'.lck q (p.2.2 ▸ hq)).1
    · rintro i x σ2 H2 H3 hlt ⟨ι2, st2, env2, p2, S2, s2, E2, hq⟩ y
      obtain ⟨S3, s3, ⟨wx, hwx, rx⟩, _⟩ := hY i H2 x H3 ι2 st2 hlt p2.1 s2 S2 y
      rw [List.drop_eq_getElem_cons hlt] at hq
      have ewx : ws[i] = wx := by rw [List.getElem?_eq_getElem hlt] at hwx; exact Option.some.inj hwx
      rw [ewx, loopL_cons] at hq
      have e0 : b wx env2 st2 = (match assignT st2 mt wx env2 with
        | some e => exs G C ms e st2
        | none => .stuck) := by rw [← eb]
      have hq' := hq
      rw [e0] at hq'
      cases ea : assignT st2 mt wx env2 with
      | none => rw [ea] at hq'; exact hq'.elim
      | some e =>
        rw [ea] at hq'
        dsimp only at hq'
        refine ⟨ι2, st2, env2, wx, e, S3, E2.mono s3 (CL.le_refl _), rx, ea, fun σ3 E3 _ => ⟨ι2, st2, e, S3, E3, ?_⟩⟩
        refine post.slots ((hq'.from_ p2 (s2.trans s3)).imp fun r st4 ι4 H4 p4 s4 S4 k => ?_)
        obtain ⟨f, env4⟩ := r
        cases f with
        | nx => exact fun σ4 E4 => ⟨ι4, st4, env4, p2.trans p4, S4, (s2.trans s3).trans s4, E4, k⟩
        | ct => exact fun σ4 E4 => ⟨ι4, st4, env4, p2.trans p4, S4, (s2.trans s3).trans s4, E4, k⟩
        | bk => exact k ι4 H4 (p2.trans p4) ((s2.trans s3).trans s4) S4
        | rt w => exact k ι4 H4 (p2.trans p4) ((s2.trans s3).trans s4) S4
    · rintro σ' H' ⟨ι', st', env', p, S', s, E', hq⟩
      rw [List.drop_length] at hq
      exact hq ι' H' p s S' σ' E'
theorem ps_whlW {c : Expr} {body : List Stmt} {mc : ME} {ms : List MS} (hp : PassesOwn (model X.prog X.w) X.A X.env X.xe) (hc : PT X c (tMt X G C (YE E) mc)) (hb : PSs X body (sMs X G C E ms)) : PS X (.While c body [] pos) (sM X G C E (.whl mc ms)) :=
  (ps_while hp hc hb).imp fun D σ H ⟨ι, st, env, S, Ee, h⟩ => by
    simp only [exS] at h
    refine ⟨fun m σ' H' => LpInv (gd X) E ι H (fun env st => loopW (fun env st => (ev G C mc env st).bind fun w st => .opt (truth st w) st) (fun env st => exs G C ms env st) m env st) D σ' H', ⟨G.fuel, ι, st, env, CL.le_refl _, S, Same.refl _, Ee, post.slots h⟩, ?_⟩
    rintro m σ2 H2 ⟨ι2, st2, env2, p2, S2, s2, E2, hq⟩
    cases m with
    | zero => exact hq.elim
    | succ m =>
      simp only [loopW] at hq
      refine ⟨ι2, st2, env2, S2, E2, post.slots ((hq.from_ p2 s2).imp fun t st3 ι3 H3 p3 s3 S3 k => ?_)⟩
      cases t with
      | false => exact k ι3 H3 (p2.trans p3) (s2.trans s3) S3 σ2 (E2.mono s3 p3)
      | true =>
        refine ⟨fun σ' H' => LpInv (gd X) E ι H (fun env st => loopW (fun env st => (ev G C mc env st).bind fun w st => .opt (truth st w) st) (fun env st => exs G C ms env st) m env st) D σ' H', fun σ' H' q => ⟨m, Nat.lt_succ_self _, q⟩, ?_⟩
        refine ⟨ι3, st3, env2, S3, E2.mono s3 p3, post.slots ((post.from_ k (p2.trans p3) (s2.trans s3)).imp fun r st4 ι4 H4 p4 s4 S4 k4 => ?_)⟩
        have pp := (p2.trans p3).trans p4
        have ss := (s2.trans s3).trans s4
        obtain ⟨f, env4⟩ := r
        cases f with
        | nx => exact fun σ4 E4 => ⟨ι4, st4, env4, pp, S4, ss, E4, k4⟩
        | ct => exact fun σ4 E4 => ⟨ι4, st4, env4, pp, S4, ss, E4, k4⟩
        | bk => exact k4 ι4 H4 pp ss S4
        | rt w => exact k4 ι4 H4 pp ss S4
/-- a, b = x, y of local names -/
theorem ps_parW {i j : Nat} {x y : Str} {a b : Expr} {ma mb : ME} {px py pt : Pos} {kt k2 : Nat} {pt2 : Pos} (hc : X.calm = true) (hN : X.N.Nodup) (hi : X.N[i]? = some x) (hj : X.N[j]? = some y) (hij : i ≠ j)
    (hx : X.env.scope.names.lookup x = some .local) (hy : X.env.scope.names.lookup y = some .local) (ha : PA X [a, b] (tMs X G C (YE E) [ma, mb]))
    (hw : swappedStores [.Tuple [.Name x px, .Name y py] kt pt] (.Tuple [a, b] k2 pt2) X.env = pure (some [x, y]))
    (hs : swapsWithSole [.Tuple [.Name x px, .Name y py] kt pt] (.Tuple [a, b] k2 pt2) pos.line X.env = pure false) :
    PS X (.Assign [.Tuple [.Name x px, .Name y py] kt pt] (.Tuple [a, b] k2 pt2) pos) (sM X G C E (.par [i, j] [ma, mb])) :=
  (ps_par hc hN hi hj hij hx hy ha hw hs).imp fun D σ H ⟨ι, st, env, S, Ee, h⟩ => by
    simp only [exS] at h
    refine tMs_of S Ee h fun ws st1 ι1 H1 hn p1 s1 S1 h1 vs rs => ?_
    match ws, hn with
    | [x, y], _ =>
      obtain ⟨v, u, rfl, r1, r2⟩ := reps2 rs
      refine ⟨v, u, rfl, ?_⟩
      have E1 := Ee.mono s1 p1
      simp only [List.map_cons, List.map_nil, assignTs, assignT] at h1
      by_cases hi' : i < env.length
      · rw [if_pos hi'] at h1
        simp only [Option.bind_some] at h1
        by_cases hj' : j < (env.set i (some x)).length
        · rw [if_pos hj'] at h1
          exact h1 ι1 H1 (CL.le_refl _) (Same.refl _) S1 _ ((E1.set hi' r1).set hj' r2)
        · rw [if_neg hj'] at h1; exact h1.elim
      · rw [if_neg hi'] at h1; exact h1.elim
/-- name = [..], name = the new cell of [..] -/
theorem ps_lcAsg {i : Nat} {y : Str} {py spos : Pos} {e : Expr} {it : IT} {mt : MT} {mts : List ME} {me : ME} {own : List Nat} (hown : ∀ i ∈ slotsT mt, i ∈ own)
    (h : PS X (.Assign [.Name y py] e spos) (tAsg (tLc (iM X G C (YE E) it) (gM (gd X) mt) (tMts X G C Y0 mts) (tM X G C Y0 me) own) (gName i))) :
    PS X (.Assign [.Name y py] e spos) (sM X G C E (.asg i (.comp me mt it mts own))) ∧ PS X (.Assign [.Name y py] e spos) (sM X G C E (.asg i (.box (.comp me mt it mts own)))) :=
  ⟨h.imp fun D σ H q => lc_imp hown (asg_imp q), h.imp fun D σ H q => lc_imp hown (box_imp rfl (asg_imp q))⟩
end
end Sw
end
section
set_option maxRecDepth 100000
set_option autoImplicit false
set_option maxHeartbeats 2000000
/-! SwX: a def's cells are written out when it returns. -/
namespace Sw
open CL
open PySem PySem.Spec PyProof.Rows L2
open PySem.SeqAt (EqAt)
section
variable {g : Gd} {ι ι2 : CL} {H H2 : Hp}
mutual
/-- a key knows no cells -/
theorem Rep.keyI (hs : Same H H2) : ∀ (w : W) (v : V) (q : NestedKey), keyOf w = some q → Rep g ι H w v → Rep g ι2 H2 w v
  | .non, v, q, e, h => h
  | .bl _, v, q, e, h => h
  | .int _, v, q, e, h => h
  | .str _, v, q, e, h => h
  | .tup xs, v, q, e, h => by
    obtain ⟨a, vs, e1, h1, r⟩ := h
    simp only [keyOf, Option.map_eq_some_iff] at e
    obtain ⟨qs, e2, _⟩ := e
    refine ⟨a, vs, e1, ?_, Reps.keyI hs xs vs qs e2 r⟩
    rcases h1 with (q | ⟨o, q⟩) | q
    · exact .inl (.inl (hs _ _ q))
    · exact .inl (.inr ⟨o, hs _ _ q⟩)
    · exact .inr q
  | .lst _, v, q, e, h => by simp [keyOf] at e
  | .dic _ _, v, q, e, h => by simp [keyOf] at e
  | .cell _, v, q, e, h => by simp [keyOf] at e
  | .fn _, v, q, e, h => by simp [keyOf] at e
  | .cls _, v, q, e, h => by simp [keyOf] at e
  | .exc _ _, v, q, e, h => by simp [keyOf] at e
  | .ty _, v, q, e, h => by simp [keyOf] at e
  | .ins _ _ _, v, q, e, h => by simp [keyOf] at e
  | .lok _, v, q, e, h => by simp [keyOf] at e
theorem Reps.keyI (hs : Same H H2) : ∀ (ws : List W) (vs : List V) (qs : List NestedKey), keysOf ws = some qs → Reps g ι H ws vs → Reps g ι2 H2 ws vs
  | [], vs, qs, e, h => h
  | x :: xs, vs, qs, e, h => by
    obtain ⟨v, r, rfl, h1, h2⟩ := h
    simp only [keysOf] at e
    split at e
    · exact ⟨v, r, rfl, Rep.keyI hs x v _ (by assumption) h1, Reps.keyI hs xs r _ (by assumption) h2⟩
    · cases e
end
mutual
/-- what was told with fewer cells is told with them still -/
theorem Rep.back {H0 : Hp} (hp : CL.le ι ι2) (hs : Same H H2) : ∀ (w : W) (v0 v : V), Rep g ι H0 w v0 → Rep g ι2 H w v → Rep g ι H2 w v
  | .non, _, v, _, h => h
  | .bl _, _, v, _, h => h
  | .int _, _, v, _, h => h
  | .str _, _, v, _, h => h
  | .fn _, _, v, _, h => h
  | .cls _, _, v, _, h => h
  | .ty _, _, v, _, h => h
  | .ins _ _ _, _, v, _, h => h.elim
  | .lok _, _, v, _, h => h.elim
  | .cell n, v0, v, h0, h => by
    obtain ⟨a, e, rfl⟩ := h0
    obtain ⟨b, e2, rfl⟩ := h
    have := prefix_get hp.1 e
    rw [e2] at this; cases this
    exact ⟨_, e, rfl⟩
  | .tup xs, v0, v, h0, h => by
    obtain ⟨_, vs0, _, _, r0⟩ := h0
    obtain ⟨a, vs, e1, h1, r⟩ := h
    refine ⟨a, vs, e1, ?_, Reps.back hp hs xs vs0 vs r0 r⟩
    rcases h1 with (q | ⟨o, q⟩) | q
    · exact .inl (.inl (hs _ _ q))
    · exact .inl (.inr ⟨o, hs _ _ q⟩)
    · exact .inr q
  | .lst xs, v0, v, h0, h => by
    obtain ⟨_, vs0, _, _, r0⟩ := h0
    obtain ⟨a, vs, e1, h1, r⟩ := h
    exact ⟨a, vs, e1, h1.to fun o q => hs _ o q, Reps.back hp hs xs vs0 vs r0 r⟩
  | .dic ks us, v0, v, h0, h => by
    obtain ⟨_, _, kv0, uv0, _, _, _, r1, r2, _⟩ := h0
    obtain ⟨d, es, kv, uv, e1, hd, ok, q1, q2, v1, v2⟩ := h
    exact ⟨d, es, kv, uv, e1, hd.same fun o q => hs _ o q, ok, Reps.back hp hs ks kv0 kv r1 q1, Reps.back hp hs us uv0 uv r2 q2, v1, v2⟩
  | .exc c w, v0, v, h0, h => by
    obtain ⟨_, _, _, u0, _, _, _, _, r0⟩ := h0
    obtain ⟨e, C, dx, u, e1, e2, e3, e4, r⟩ := h
    exact ⟨e, C, dx, u, e1, e2, hs _ _ e3, hs _ _ e4, Rep.back hp hs w u0 u r0 r⟩
theorem Reps.back {H0 : Hp} (hp : CL.le ι ι2) (hs : Same H H2) : ∀ (ws : List W) (vs0 vs : List V), Reps g ι H0 ws vs0 → Reps g ι2 H ws vs → Reps g ι H2 ws vs
  | [], _, vs, _, h => h
  | x :: xs, vs0, vs, h0, h => by
    obtain ⟨v0, r0, rfl, a1, a2⟩ := h0
    obtain ⟨v, r, rfl, b1, b2⟩ := h
    exact ⟨v, r, rfl, Rep.back hp hs x v0 v a1 b1, Reps.back hp hs xs r0 r a2 b2⟩
end
end
section
variable {g : Gd} {ι ι2 : CL} {H : Hp} {st st2 : Store}
/-- fewer cells: more stands -/
theorem le_same (p : CL.le ι ι2) : Same (msk H ι2) (msk H ι) := fun b u e => by
  obtain ⟨e1, e2⟩ := msk_some e
  rw [msk_out (fun h => e2 (p.sub h))]
  exact e1
/-- a cell that is not among the first ones -/
theorem not_old (S : SR g ι2 H st2) (p : CL.le ι ι2) {m : Nat} {a : Addr} (hm : ι.c.length ≤ m) (e : ι2.c[m]? = some a) : a ∉ ι := by
  have hnd : (ι2.c ++ ι2.h.map (·.1)).Nodup := S.nd
  rw [List.nodup_append] at hnd
  intro h
  rcases List.mem_append.mp h with h | h
  · obtain ⟨n, hn⟩ := List.mem_iff_getElem?.mp h
    have h2 := prefix_get p.1 hn
    have hl := (List.getElem?_eq_some_iff.mp hn).1
    have : n = m := (List.getElem?_inj (List.getElem?_eq_some_iff.mp h2).1 hnd.1).mp (h2.trans e.symm)
    omega
  · rw [p.2.1] at h
    exact hnd.2.2 a (List.mem_of_getElem? e) a h rfl
mutual
theorem Rep.frz (S : SR g ι2 H st2) (p : CL.le ι ι2) : ∀ (f : Nat) (w : W) (v : V) (d : W), frzW f ι.c.length st2 w = some d → Rep g ι2 (msk H ι2) w v → Rep g ι (msk H ι) d v
  | 0, w, v, d, e, h => by simp [frzW] at e
  | f + 1, .non, v, d, e, h => by simp only [frzW, Option.some.injEq] at e; subst e; exact h
  | f + 1, .bl _, v, d, e, h => by simp only [frzW, Option.some.injEq] at e; subst e; exact h
  | f + 1, .int _, v, d, e, h => by simp only [frzW, Option.some.injEq] at e; subst e; exact h
  | f + 1, .str _, v, d, e, h => by simp only [frzW, Option.some.injEq] at e; subst e; exact h
  | f + 1, .fn _, v, d, e, h => by simp only [frzW, Option.some.injEq] at e; subst e; exact h
  | f + 1, .cls _, v, d, e, h => by simp only [frzW, Option.some.injEq] at e; subst e; exact h
  | f + 1, .ty _, v, d, e, h => by simp only [frzW, Option.some.injEq] at e; subst e; exact h
  | f + 1, .exc _ _, v, d, e, h => by simp [frzW] at e
  | f + 1, .ins _ _ _, v, d, e, h => by simp [frzW] at e
  | f + 1, .lok _, v, d, e, h => h.elim
  | f + 1, .tup xs, v, d, e, h => by
    obtain ⟨a, vs, e1, h1, r⟩ := h
    simp only [frzW, Option.map_eq_some_iff] at e
    obtain ⟨ys, e2, rfl⟩ := e
    refine ⟨a, vs, e1, ?_, Reps.frz S p f xs vs ys e2 r⟩
    rcases h1 with (q | ⟨o, q⟩) | q
    · exact .inl (.inl (le_same p _ _ q))
    · exact .inl (.inr ⟨o, le_same p _ _ q⟩)
    · exact .inr q
  | f + 1, .lst xs, v, d, e, h => by
    obtain ⟨a, vs, e1, h1, r⟩ := h
    simp only [frzW, Option.map_eq_some_iff] at e
    obtain ⟨ys, e2, rfl⟩ := e
    exact ⟨a, vs, e1, h1.to fun o q => le_same p _ o q, Reps.frz S p f xs vs ys e2 r⟩
  | f + 1, .dic ks us, v, d, e, h => by
    obtain ⟨d', es, kv, uv, e1, hd, ok, q1, q2, v1, v2⟩ := h
    simp only [frzW, Option.map_eq_some_iff] at e
    obtain ⟨ys, e2, rfl⟩ := e
    obtain ⟨qs, hq, _⟩ := ok.keys
    exact ⟨d', es, kv, uv, e1, hd.same fun o q => le_same p _ o q, ok, Reps.keyI (le_same p) ks kv qs hq q1, Reps.frz S p f us uv ys e2 q2, v1, v2⟩
  | f + 1, .cell m, v, d, e, h => by
    simp only [frzW] at e
    by_cases hm : ι.c.length ≤ m
    · rw [if_pos hm] at e
      obtain ⟨a, c, rfl, ha, hc, cr⟩ := cell_of S h
      rw [hc] at e
      have hn := not_old S p hm ha
      have e : frzW f ι.c.length st2 (unl c) = some d := e
      unfold CellRep at cr
      generalize unl c = c at e cr
      cases c with
      | lst xs =>
        obtain ⟨vs, q, r⟩ := cr
        cases f with
        | zero => simp [frzW] at e
        | succ f =>
          simp only [frzW, Option.map_eq_some_iff] at e
          obtain ⟨ys, e2, rfl⟩ := e
          exact ⟨a, vs, rfl, .inl (.inl (by rw [msk_out hn]; exact q)), Reps.frz S p f xs vs ys e2 r⟩
      | dic ks us =>
        obtain ⟨es, kv, uv, hd, ok, q1, q2, v1, v2⟩ := cr
        cases f with
        | zero => simp [frzW] at e
        | succ f =>
          simp only [frzW, Option.map_eq_some_iff] at e
          obtain ⟨ys, e2, rfl⟩ := e
          obtain ⟨qs, hq, _⟩ := ok.keys
          exact ⟨a, es, kv, uv, rfl, hd.same fun o q => by rw [msk_out hn]; exact q, ok, Reps.keyI (le_same p) ks kv qs hq q1, Reps.frz S p f us uv ys e2 q2, v1, v2⟩
      | _ => exact cr.elim
    · rw [if_neg hm] at e
      cases e
      obtain ⟨a, ha, rfl⟩ := h
      have hl : m < ι.c.length := by omega
      refine ⟨a, ?_, rfl⟩
      have := prefix_get p.1 (List.getElem?_eq_getElem hl)
      rw [ha] at this; cases this
      exact List.getElem?_eq_getElem hl
theorem Reps.frz (S : SR g ι2 H st2) (p : CL.le ι ι2) : ∀ (f : Nat) (ws : List W) (vs : List V) (ds : List W), frzWs f ι.c.length st2 ws = some ds → Reps g ι2 (msk H ι2) ws vs → Reps g ι (msk H ι) ds vs
  | f, [], vs, ds, e, h => by simp only [frzWs, mapO, Option.some.injEq] at e; subst e; exact h
  | f, x :: xs, vs, ds, e, h => by
    obtain ⟨v, r, rfl, h1, h2⟩ := h
    simp only [frzWs, mapO] at e
    split at e
    · cases e
      exact ⟨v, r, rfl, Rep.frz S p f x v _ (by assumption) h1, Reps.frz S p f xs r _ (by assumption) h2⟩
    · cases e
end
theorem unl_lokU (w : W) : unl (lokU w) = unl w := by cases w <;> rfl
theorem lokU_lok (w : W) : ∃ x, lokU w = .lok x := by cases w <;> exact ⟨_, rfl⟩
/-- all cells are locked -/
theorem SR.lockAll (S : SR g ι H st) : ∃ ks, SR g (lkd ι ks) H (st.map lokU) ∧ ∀ (n : Nat) (a : Addr), ι.c[n]? = some a → ∃ o, H a = some o ∧ (a, o) ∈ ks := by
  have hall : ∀ (n : Nat) (a : Addr), ι.c[n]? = some a → ∃ o, H a = some o := fun n a e => S.there (CL.mem_get e)
  refine ⟨ι.c.filterMap fun a => (H a).map fun o => (a, o), ⟨by rw [List.length_map]; exact S.len, S.nd, fun n w e => ?_, S.hid, fun q hq => ?_, fun n w e => ?_⟩, fun n a e => ?_⟩
  · rw [List.getElem?_map] at e
    obtain ⟨w0, h0, rfl⟩ := Option.map_eq_some_iff.mp e
    obtain ⟨a, ha, c⟩ := S.cells n w0 h0
    refine ⟨a, ha, ?_⟩
    unfold CellRep at c ⊢
    rw [unl_lokU]
    exact CellR.stepC (ι := ι) c (fun _ q => q) (Same.refl _) (List.prefix_refl _)
  · rcases List.mem_append.mp hq with hq | hq
    · obtain ⟨a, ha, hq⟩ := List.mem_filterMap.mp hq
      obtain ⟨o, ho, rfl⟩ := Option.map_eq_some_iff.mp hq
      obtain ⟨n, hn⟩ := List.mem_iff_getElem?.mp ha
      have hl : n < st.length := by rw [← S.len]; exact (List.getElem?_eq_some_iff.mp hn).1
      obtain ⟨x, hx⟩ := lokU_lok st[n]
      exact ⟨ho, n, x, hn, by rw [List.getElem?_map, List.getElem?_eq_getElem hl, Option.map_some, hx]⟩
    · obtain ⟨e1, n, w, e2, e3⟩ := S.lck q hq
      exact ⟨e1, n, w, e2, by rw [List.getElem?_map, e3]; rfl⟩
  · rw [List.getElem?_map] at e
    obtain ⟨w0, h0, h1⟩ := Option.map_eq_some_iff.mp e
    have hl : n < ι.c.length := by rw [S.len]; exact (List.getElem?_eq_some_iff.mp h0).1
    obtain ⟨o, ho⟩ := hall n _ (List.getElem?_eq_getElem hl)
    have hmem : (ι.c[n], o) ∈ (ι.c.filterMap fun a => (H a).map fun o => (a, o)) := List.mem_filterMap.mpr ⟨ι.c[n], List.getElem_mem hl, by rw [ho]; rfl⟩
    refine ⟨fun x z => ?_, ι.c[n], o, List.getElem?_eq_getElem hl, List.mem_append_left _ hmem⟩
    subst z
    cases w0 with
    | lok y =>
      have : y = .lok x := by simpa [lokU] using h1
      exact (S.lkf n y h0).1 x this
    | _ => simp [lokU] at h1
  · obtain ⟨o, ho⟩ := hall n a e
    exact ⟨o, ho, List.mem_filterMap.mpr ⟨a, List.mem_of_getElem? e, by rw [ho]; rfl⟩⟩
/-- the store as it was -/
theorem SR.back2 {H' : Hp} {ι' : CL} {st' : Store} {ks : List (Addr × HO)} (S : SR g ι H st) (hks : ∀ (n : Nat) (a : Addr), ι.c[n]? = some a → ∃ o, H a = some o ∧ (a, o) ∈ ks) (S' : SR g ι' H' st') (p : CL.le (lkd ι ks) ι') (s : Same (msk H ι) (msk H' ι')) : SR g ι H' st := by
  have ls0 : Same (msk H' ι') (msk H' (lkd ι ks)) := le_same p
  have ls : Same (msk H' ι') (msk H' ι) := ls0
  refine ⟨S.len, S.nd, fun n w e => ?_, fun q hq => S'.hid q (p.2.1 ▸ hq), fun q hq => ⟨(S'.lck q (p.2.2 ▸ List.mem_append_right _ hq)).1, (S.lck q hq).2⟩, S.lkf⟩
  obtain ⟨a, ha, c⟩ := S.cells n w e
  obtain ⟨o, ho, hm⟩ := hks n a ha
  have h' := (S'.lck (a, o) (p.2.2 ▸ List.mem_append_left _ hm)).1
  exact ⟨a, ha, c.stepC (fun o' q => by rw [ho] at q; cases q; exact h') (s.trans ls) (List.prefix_refl _)⟩
theorem frzWs_get : ∀ {f n : Nat} {st : Store} {ws ds : List W}, frzWs f n st ws = some ds → ds.length = ws.length ∧ ∀ (i : Nat) (d : W), ds[i]? = some d → ∃ w, ws[i]? = some w ∧ frzW f n st w = some d
  | f, n, st, [], ds, e => by
    simp only [frzWs, mapO, Option.some.injEq] at e
    subst e
    exact ⟨rfl, fun i d h => by simp at h⟩
  | f, n, st, x :: xs, ds, e => by
    simp only [frzWs, mapO] at e
    split at e
    · rename_i y ys h1 h2
      cases e
      obtain ⟨l, g⟩ := frzWs_get h2
      refine ⟨by rw [List.length_cons, List.length_cons, l], fun i d h => ?_⟩
      cases i with
      | zero =>
        have h : y = d := by simpa using h
        subst h
        exact ⟨x, rfl, h1⟩
      | succ i => exact g i d (by simpa using h)
    · cases e
theorem cellR_frz (S : SR g ι2 H st2) (p : CL.le ι ι2) {a : Addr} : ∀ (f : Nat) (w d : W), frzW f ι.c.length st2 w = some d → CellR g ι2 H a (unl w) → CellR g ι H a (unl d)
  | 0, w, d, e, c => by simp [frzW] at e
  | f + 1, .lok w, d, e, c => by
    simp only [frzW, Option.map_eq_some_iff] at e
    obtain ⟨y, e1, rfl⟩ := e
    exact cellR_frz S p f w y e1 c
  | f + 1, .lst xs, d, e, c => by
    obtain ⟨vs, q, r⟩ := c
    simp only [frzW, Option.map_eq_some_iff] at e
    obtain ⟨ys, e2, rfl⟩ := e
    exact ⟨vs, q, Reps.frz S p f xs vs ys e2 r⟩
  | f + 1, .dic ks us, d, e, c => by
    obtain ⟨es, kv, uv, hd, ok, q1, q2, v1, v2⟩ := c
    simp only [frzW, Option.map_eq_some_iff] at e
    obtain ⟨ys, e2, rfl⟩ := e
    obtain ⟨qs, hq, _⟩ := ok.keys
    exact ⟨es, kv, uv, hd, ok, Reps.keyI (le_same p) ks kv qs hq q1, Reps.frz S p f us uv ys e2 q2, v1, v2⟩
  | f + 1, .non, d, e, c => c.elim
  | f + 1, .bl _, d, e, c => c.elim
  | f + 1, .int _, d, e, c => c.elim
  | f + 1, .str _, d, e, c => c.elim
  | f + 1, .tup _, d, e, c => c.elim
  | f + 1, .cell _, d, e, c => c.elim
  | f + 1, .fn _, d, e, c => c.elim
  | f + 1, .cls _, d, e, c => c.elim
  | f + 1, .exc _ _, d, e, c => c.elim
  | f + 1, .ty _, d, e, c => c.elim
  | f + 1, .ins _ _ _, d, e, c => c.elim
/-- the first cells, written out -/
theorem SR.dropF {H0 : Hp} {st3 : Store} (S0 : SR g ι H0 st) (S : SR g ι2 H st2) (p : CL.le ι ι2) (e : frzWs 20 ι.c.length st2 (st2.take ι.c.length) = some st3) : SR g ι H st3 := by
  obtain ⟨hl, hg⟩ := frzWs_get e
  have hle : ι.c.length ≤ st2.length := by rw [← S.len]; exact p.1.length_le
  have hnd : (ι2.c ++ ι2.h.map (·.1)).Nodup := S.nd
  rw [List.nodup_append] at hnd
  refine ⟨by rw [hl, List.length_take]; omega, S0.nd, fun n d he => ?_, fun q hq => S.hid q (p.2.1 ▸ hq), fun q hq => ?_, fun n y he => ?_⟩
  rotate_right
  · obtain ⟨w, hw, hf⟩ := hg n _ he
    have hn : n < ι.c.length := by
      have := (List.getElem?_eq_some_iff.mp hw).1
      rw [List.length_take] at this
      omega
    rw [List.getElem?_take, if_pos hn] at hw
    obtain ⟨a, ha, c⟩ := S.cells n w hw
    have ha2 := prefix_get p.1 (List.getElem?_eq_getElem hn)
    rw [ha] at ha2
    unfold CellRep at c
    cases w with
    | lok x =>
      obtain ⟨h1, b, o, h2, h3⟩ := S.lkf n x hw
      simp only [frzW, Option.map_eq_some_iff] at hf
      obtain ⟨y', hy, e'⟩ := hf
      cases e'
      have hx : (∃ xs, x = .lst xs) ∨ ∃ ks us, x = .dic ks us := by
        have c : CellR g ι2 H a (unl x) := c
        cases x with
        | lst xs => exact .inl ⟨xs, rfl⟩
        | dic ks us => exact .inr ⟨ks, us, rfl⟩
        | lok z => exact absurd rfl (h1 z)
        | _ => exact c.elim
      refine ⟨fun z e' => ?_, a, o, by rw [List.getElem?_eq_getElem hn]; exact ha2.symm, ?_⟩
      · rcases hx with ⟨xs, rfl⟩ | ⟨ks, us, rfl⟩
        · simp only [frzW, Option.map_eq_some_iff] at hy
          obtain ⟨_, _, rfl⟩ := hy
          cases e'
        · simp only [frzW, Option.map_eq_some_iff] at hy
          obtain ⟨_, _, rfl⟩ := hy
          cases e'
      · rw [ha] at h2; cases h2
        exact p.2.2 ▸ h3
    | lst xs => simp only [frzW, Option.map_eq_some_iff] at hf; obtain ⟨_, _, z⟩ := hf; cases z
    | dic ks us => simp only [frzW, Option.map_eq_some_iff] at hf; obtain ⟨_, _, z⟩ := hf; cases z
    | _ => exact c.elim
  · obtain ⟨w, hw, hf⟩ := hg n d he
    have hn : n < ι.c.length := by
      have := (List.getElem?_eq_some_iff.mp hw).1
      rw [List.length_take] at this
      omega
    rw [List.getElem?_take, if_pos hn] at hw
    obtain ⟨a, ha, c⟩ := S.cells n w hw
    have ha2 := prefix_get p.1 (List.getElem?_eq_getElem hn)
    rw [ha] at ha2
    exact ⟨a, by rw [List.getElem?_eq_getElem hn]; exact ha2.symm, cellR_frz S p 20 w d hf c⟩
  · obtain ⟨e1, m, w, e2, e3⟩ := S.lck q (p.2.2 ▸ hq)
    obtain ⟨_, n, w', f2, f3⟩ := S0.lck q hq
    have hn : n < ι.c.length := (List.getElem?_eq_some_iff.mp f2).1
    have hm : n = m := (List.getElem?_inj (List.getElem?_eq_some_iff.mp (prefix_get p.1 f2)).1 hnd.1).mp ((prefix_get p.1 f2).trans e2.symm)
    subst hm
    have hlt : n < st3.length := by rw [hl, List.length_take]; omega
    obtain ⟨w2, g1, g2⟩ := hg n st3[n] (List.getElem?_eq_getElem hlt)
    rw [List.getElem?_take, if_pos hn, e3] at g1
    cases g1
    simp only [frzW, Option.map_eq_some_iff] at g2
    obtain ⟨y, _, g3⟩ := g2
    exact ⟨e1, n, y, f2, by rw [List.getElem?_eq_getElem hlt, g3]⟩
end
end Sw
end
section
set_option maxRecDepth 100000
set_option autoImplicit false
set_option maxHeartbeats 2000000
/-! SwY: defs. -/
namespace Sw
open CL
open PySem PySem.Spec PyProof.Rows L2
open PySem.SeqAt (EqAt)
/-- a def's promise; as FnOk, for runs that guard nothing -/
structure FnG (P : Program) (w : World) (K : PySem.W.Frag) (mg : Str → Option Value) (base : Heap) (k : Nat) (f : Addr) (fd : FuncData) (ps : List Str) (sp : Sp) : Prop where
  len : ∀ vs H Q E, sp vs H Q E → vs.length = ps.length
  run : ∀ (A : Around) (outer : List Env) (s : Shared) (H : Hp) (args : Args) (us : List Value) (vs : List V) (Q : VK) (E : XK), Room k A → A.guards = some [] → Env0 P w K mg base A outer s H → BindsTo s fd args (ps.zip us) → Vals vs us → sp vs H Q E →
    codeAny (model P w) A (.call (.ref f) args) (CR (L2.CX P w) outer P w H s Q E) s
/-- what the mini language says of a def -/
def spD (g : Gd) (C : List W → Store → Out W) (np : Nat) : Sp := fun vs H Q E => vs.length = np ∧ ∃ ι st ws, SR g ι H st ∧ Reps g ι (msk H ι) ws vs ∧ post g (YE E) [] ι H (C ws st) (KV g false H Q)
theorem post.we {g : Gd} {Y : WX} {σ : L2.St} {ι : CL} {H : Hp} {α : Type} {o : Out α} {K : α → Store → CL → Hp → Prop} (h : post g Y σ ι H o K) : post g (YE (WE Y σ)) [] ι H o K := by
  cases o with
  | ok a st => exact h
  | exc c w st => exact h
  | stuck => exact h
section
variable {X : Cx} {G : Cfg} {C : Str → List W → Store → Out W} {Y : WX} {k : Nat} {f : Addr} {fd : FuncData} {ps : List Str} {x : Str} {p pos : Pos} {e : Expr} {es : List Expr} {ms : List ME} {np : Nat}
theorem run_fnG {sp : Sp} {E : XK} {pins : List (Addr × Obj)} {σ : L2.St} {H : Hp} {s : Shared} {Q : VK} {us : List Value} {vs : List V} (F : FnG X.prog X.w X.K X.mg X.base k f fd ps sp) (hr : Room k X.A) (hgd : X.A.guards = some []) (hb : Binds X.K fd ps []) (hx : PassesAt (L2.CX X.prog X.w) X σ E)
    (I : Inv X pins σ H s) (r : Vals vs us) (h : sp vs H Q E) : wpAny (model X.prog X.w) X.A (call (.ref f) us) (EP X pins σ Q) X.xe s := by
  have hl : us.length = ps.length := by rw [← r.length]; exact F.len _ _ _ _ h
  have b := hb s us I.kIn (by rw [List.append_nil]; exact hl)
  rw [List.append_nil] at b
  refine wpAny_call (codeAny_mono (F.run X.A X.stack s H ⟨us, []⟩ us vs Q E hr hgd I.env0 b r h) fun r s' hq => ?_)
  cases r with
  | error e => exact hx pins H s e s' I hq
  | ok fl =>
    cases fl with
    | ret u => exact I.after hq
    | next => exact False.elim hq
    | brk => exact False.elim hq
    | cont => exact False.elim hq
theorem pe_callW (F : FnG X.prog X.w X.K X.mg X.base k f fd ps (spD (gd X) (C x) np)) (hr : Room k X.A) (hgd : X.A.guards = some []) (hg : Gl X x) (hm : X.mg x = some (.ref f)) (hk : PySem.W.keepIn X.K (.ref f) = true) (hb : Binds X.K fd ps []) (hx : ∀ σ, PassesAt (L2.CX X.prog X.w) X σ (WE Y σ))
    (hn : ms.length = np) (ha : PA X (e :: es) (tMs X G C Y ms)) (hdb : (x == ("__debug__" : Str)) = false) (he : starEach (e :: es) X.env = (false, eval e X.env) :: starEach es X.env) (hpl : (backTo pos (starEach es X.env)).any (·.1) = false) :
    PE X (.Call (.Name x p) (e :: es) [] pos) (tM X G C Y (.call x ms)) := by
  refine ⟨fun pins s σ H Q I h => ?_⟩
  refine wpAny_Call_Name_kw (ld_glob I hg hm ?_ hdb)
  refine PySem.W.callWith_K (h₀ := X.base) I.ok.mod.kin hk (thn (ha.run pos pins s σ H (fun vs H1 => spD (gd X) (C x) np vs H1 Q (WE Y σ)) I ?_) fun us s1 ⟨vs, H1, I1, r, q⟩ => ⟨I1.kIn, ?_⟩) he hpl
  · obtain ⟨ι, st, env, S, Ee, h⟩ := h
    simp only [ev] at h
    refine tMs_of S Ee h fun ws st1 ι1 H1 hl p1 s1 S1 h1 vs rs => ⟨by rw [rs.len, hl, hn], ι1, st1, ws, S1, rs, ?_⟩
    exact (post.we h1).imp fun w st2 ι2 H2 _ _ _ k v r _ => k v r fun z => nomatch z
  · exact run_fnG F hr hgd hb (hx σ) I1 r q
end
/-- a def's body keeps its promise -/
theorem fn_ofG {P : Program} {w : World} {K : PySem.W.Frag} {mg : Str → Option Value} {base : Heap} {k : Nat} {f : Addr} {name qual : Str} {params : Arguments} {body : List Stmt} {scope : Scope} {dV kV doc pm cdv ct oc : Value} {an od : Option Addr}
    {osl : Array (Option Value)} {N ps : List Str} {sp : Sp} (lk : K.lookup f = some ⟨oc, od, .func (PySem.W.fnOf name qual params body scope dV kV doc pm an cdv ct), osl⟩) (hcd : PySem.W.codeIn K cdv qual = true) (S : FnScope N ps scope)
    (len : ∀ vs H Q E, sp vs H Q E → vs.length = ps.length)
    (hbody : ∀ (A : Around) (outer : List Env) (s : Shared) (H : Hp) (vs : List V) (Q : VK) (E : XK), Room k (A.deeper (envOfC qual scope s.heap.objs.size f cdv)) → A.guards = some [] → sp vs H Q E →
      ∃ t, PSs (cxOf (L2.CX P w) P w K mg base N qual scope f cdv A outer s H E) body t ∧ t { nx := fun _ H' => Q .non H', rt := Q } (L2.start N vs) H) :
    FnG P w K mg base (k + 1) f (PySem.W.fnOf name qual params body scope dV kV doc pm an cdv ct) ps sp := by
  refine ⟨len, fun A outer s H args us vs Q E hr hgd e0 hb r hsp => ?_⟩
  have hl := len _ _ _ _ hsp
  have KX : K.In s.heap := e0.mod.kin.keeps fun b o e => (e0.bs b o e).1
  have lim : s.heap.NoLimit := e0.mod.nolimit.keeps fun b o e => (e0.bs b o e).1
  have hkind : ∀ y ∈ ps.zip us, scope.names.lookup y.1 = some .local ∨ (scope.names.lookup y.1 = some .cell ∧ ((cellsFrom (s.heap.objs.size + 1) scope.names []).lookup y.1).isSome = true) := fun ⟨n, v⟩ hy => by
    rcases S.par n (List.of_mem_zip hy).1 with q | q
    · exact .inl q
    · exact .inr ⟨q, PySem.W.cellsFrom_some _ _ _ (.inl q)⟩
  refine codeAny_call_function hr.depth (KX _ _ lk) rfl S.co S.gen rfl (PySem.W.codeRec_of KX hcd) (hb _ _ _ _ ?_)
  refine wpAny_newFunctionEnv_cells S.kind hkind fun env he s1 x => ?_
  subst he
  refine ⟨lim.keeps x.toInCall.keep, codeAny_func ?_⟩
  obtain ⟨t, ht, hq⟩ := hbody A outer s H vs Q E (hr.deeper _) hgd hsp
  have I : Inv (cxOf (L2.CX P w) P w K mg base N qual scope f cdv A outer s H E) [] (L2.start N vs) H s1 := inv_start S hr.hd e0 hl r x
  refine wpAny_mono (ht.run [] s1 (L2.start N vs) H _ I hq) (fun fl s' hs => ?_) fun e s' hs => hs
  have fin : ∀ {σ' : L2.St} {H' : Hp} {v : V} {u : Value}, Inv (cxOf (L2.CX P w) P w K mg base N qual scope f cdv A outer s H E) [] σ' H' s' → RelV v u → Q v H' → CE outer P w H s Q u s' :=
    fun {σ' H' v u} J rv q => ⟨v, H', J.os, J.bare, J.base, J.hok, rv, q⟩
  cases fl with
  | ret u =>
    obtain ⟨v, σ', H', J, rv, q⟩ := hs
    exact fin J rv q
  | next =>
    obtain ⟨σ', H', J, q⟩ := hs
    exact fin (v := V.non) (u := Value.none) J rfl q
  | brk =>
    obtain ⟨_, _, _, q⟩ := hs
    exact False.elim q
  | cont =>
    obtain ⟨_, _, _, q⟩ := hs
    exact False.elim q
/-- the slots at a def's start -/
theorem er_start {g : Gd} {ι : CL} {H : Hp} {N : List Str} {ws : List W} {vs : List V} (r : Reps g ι (msk H ι) ws vs) : ER g ι H (ws.map some ++ List.replicate (N.length - ws.length) none) (L2.start N vs) := by
  have hl := r.len
  refine ⟨by simp [L2.start, hl], fun i w e => ?_⟩
  by_cases hi : i < ws.length
  · rw [List.getElem?_append_left (by simpa using hi), List.getElem?_map] at e
    rw [List.getElem?_eq_getElem hi] at e
    obtain ⟨v, hv, rv⟩ := r.get (List.getElem?_eq_getElem hi)
    have e : ws[i] = w := by simpa using e
    subst e
    refine ⟨v, ?_, rv⟩
    unfold L2.start
    rw [List.getElem?_append_left (by rw [List.length_map, hl]; exact hi), List.getElem?_map, hv]; rfl
  · rw [List.getElem?_append_right (by simpa using hi)] at e
    rw [List.getElem?_replicate] at e
    split at e <;> cases e
/-- what a def's end asks, by the mini language -/
theorem body_imp {g : Gd} {E : XK} {m : Nat} {st : Store} {ι : CL} {H : Hp} {Q : VK} {o : Store → Out (Fl × EnvW)} (S : SR g ι H st) (h : post g (YE E) [] ι H (outX m st (o (inS m st))) (KV g false H Q)) :
    ∃ ι1, SR g ι1 H (inS m st) ∧ List.IsPrefix ι.c ι1.c ∧ Same (msk H ι) (msk H ι1) ∧ post g (YE E) [] ι1 H (o (inS m st)) (KS g { nx := fun _ H' => Q .non H', rt := Q }) := by
  have other : (∀ x, outX m st x = x.bind fun r st' => match retW r.1 with
      | some w => outF m st.length st' w
      | none => .stuck) → inS m st = st → ∃ ι1, SR g ι1 H (inS m st) ∧ List.IsPrefix ι.c ι1.c ∧ Same (msk H ι) (msk H ι1) ∧ post g (YE E) [] ι1 H (o (inS m st)) (KS g { nx := fun _ H' => Q .non H', rt := Q }) := fun e1 e2 => by
    rw [e2] at h ⊢
    rw [e1] at h
    refine ⟨ι, S, List.prefix_refl _, Same.refl _, h.bindU fun r st' ι' H' p s S' k => ?_⟩
    obtain ⟨fl, env'⟩ := r
    have fin : ∀ (w : W), post g (YE E) [] ι H (outF m st.length st' w) (KV g false H Q) → ∀ v, Rep g ι' (msk H' ι') w v → Q v H' := fun w k v r => by
      unfold outF at k
      split at k
      · exact k ι' H' p s S' v r fun z => nomatch z
      · split at k
        · rename_i st3 w3 h1 h2
          rw [← S.len] at h1 h2
          unfold frozen at h2
          exact k ι H' (CL.le_refl _) (s.trans (le_same p)) (S.dropF S' p h1) v (Rep.frz S' p 20 w v w3 h2 r) fun z => nomatch z
        · exact k.elim
    cases fl with
    | nx => exact fun σ' _ => fin .non k .non rfl
    | rt w => exact fun v r => fin w k v r
    | bk => exact k.elim
    | ct => exact k.elim
  match m, h, other with
  | 0, h, other => exact other (fun _ => rfl) rfl
  | m + 2, h, other => exact other (fun _ => rfl) rfl
  | 1, h, _ =>
    obtain ⟨ks, SL, hks⟩ := S.lockAll
    refine ⟨lkd ι ks, SL, List.prefix_refl _, Same.refl _, ?_⟩
    have hn : st.length = (lkd ι ks).c.length := S.len.symm
    have h : post g (YE E) [] ι H (outX 1 st (o (st.map lokU))) (KV g false H Q) := h
    show post g (YE E) [] (lkd ι ks) H (o (st.map lokU)) _
    cases ho : o (st.map lokU) with
    | ok r st' =>
      rw [ho] at h
      intro ι' H' p s S'
      obtain ⟨fl, env'⟩ := r
      have s0 : Same (msk H ι) (msk H' ι') := s
      have bk := S.back2 hks S' p s0
      have ls : Same (msk H' ι') (msk H' (lkd ι ks)) := le_same p
      have ls' : Same (msk H' ι') (msk H' ι) := ls
      have fin : ∀ (w : W), post g (YE E) [] ι H (Out.opt (frozen st.length st' w) st) (KV g false H Q) → ∀ v, Rep g ι' (msk H' ι') w v → Q v H' := fun w k v r => by
        unfold frozen at k
        rw [hn] at k
        cases ef : frzW 20 (lkd ι ks).c.length st' w with
        | none => rw [ef] at k; exact k.elim
        | some d =>
          rw [ef] at k
          exact k ι H' (CL.le_refl _) (s0.trans ls') bk v (Rep.monoC (ι := lkd ι ks) (ι' := ι) (Same.refl _) (List.prefix_refl _) _ _ (Rep.frz S' p 20 w v d ef r)) fun z => nomatch z
      cases fl with
      | nx => exact fun σ' _ => fin .non h .non rfl
      | rt w => exact fun v r => fin w h v r
      | bk => exact (show False from h).elim
      | ct => exact (show False from h).elim
    | exc c w st' =>
      rw [ho] at h
      have h : post g (YE E) [] ι H (match frozen st.length st' w with
        | some w' => .exc c w' st
        | none => .stuck) (KV g false H Q) := h
      intro ι' H' Ca dx u p s S' hm hd r
      have s0 : Same (msk H ι) (msk H' ι') := s
      have bk := S.back2 hks S' p s0
      have ls : Same (msk H' ι') (msk H' (lkd ι ks)) := le_same p
      have ls' : Same (msk H' ι') (msk H' ι) := ls
      unfold frozen at h
      rw [hn] at h
      cases ef : frzW 20 (lkd ι ks).c.length st' w with
      | none => rw [ef] at h; exact h.elim
      | some d =>
        rw [ef] at h
        exact h ι H' Ca dx u (CL.le_refl _) (s0.trans ls') bk hm (ls' _ _ hd) (Rep.monoC (ι := lkd ι ks) (ι' := ι) (Same.refl _) (List.prefix_refl _) _ _ (Rep.frz S' p 20 w u d ef r))
    | stuck => rw [ho] at h; exact h.elim
end Sw
end
section
set_option maxRecDepth 100000
set_option autoImplicit false
set_option maxHeartbeats 4000000
/-! SxK: the program's exceptions: their __init__. -/
namespace Sw
open CL
open PySem PySem.Spec PyProof.Rows L2
open PySem.SeqAt (EqAt)
/-- def __init__(self, value): super().__init__(value); self.value = value -/
def iScope : Scope := { kind := .function, names := [("self", .local), ("value", .local), ("__class__", .free), ("super", .globalImplicit)], isGenerator := false, isCoroutine := false, more := [] }
def iBody : List Stmt :=
  [.Expr (.Call (.Attribute (.Call (.Name "super" ⟨5, 8, 5, 13⟩) [] [] ⟨5, 8, 5, 15⟩) "__init__" ⟨5, 8, 5, 24⟩) [.Name "value" ⟨5, 25, 5, 30⟩] [] ⟨5, 8, 5, 31⟩) ⟨5, 8, 5, 31⟩, .Assign [.Attribute (.Name "self" ⟨6, 8, 6, 12⟩) "value" ⟨6, 8, 6, 18⟩] (.Name "value" ⟨6, 21, 6, 26⟩) ⟨6, 8, 6, 26⟩]
def iPars (q1 q2 : Pos) : Arguments := { posonlyargs := [], args := [{ arg := "self", annotation := none, pos := q1 }, { arg := "value", annotation := none, pos := q2 }], vararg := none, kwonlyargs := [], kw_defaults := [], kwarg := none, defaults := [] }
abbrev veB : List Value := [.type "ValueError", .type "Exception", .type "BaseException", .type "object"]
/-- what the written part says of the __init__ at fI, and of a class C that has it -/
structure InitIn (prog : Program) (K : PySem.W.Frag) (C fI D : Addr) : Prop where
  fn : ∃ (oc : Value) (od : Option Addr) (osl : Array (Option Value)) (qual : Str) (q1 q2 : Pos) (kV doc pm ct : Value) (an : Option Addr) (cda cc : Addr),
    K.lookup fI = some ⟨oc, od, .func (PySem.W.ksFn "__init__" qual (iPars q1 q2) iBody iScope .none kV doc pm an (.ref cda) ct cc), osl⟩ ∧ PySem.W.codeIn K (.ref cda) qual = true ∧
    (∃ (ccl : Value) (cdd : Option Addr) (vs : Array Value) (ccs : Array (Option Value)) (file : Str) (tf : Tok), K.lookup cda = some ⟨ccl, cdd, .fields vs, ccs⟩ ∧ vs[2]? = some (.str file tf) ∧ ((prog.main.file : Str) == file) = true) ∧
    ∃ (cl : Value) (cld : Option Addr) (csl : Array (Option Value)), K.lookup cc = some ⟨cl, cld, .cell (some (.ref D)), csl⟩
  hD : (PySem.W.clsIn K D).isSome = true
  hsub : PySem.W.mroIn K C (.ref D) = some true
  htop : (prog.main.scope.names.lookup ("super" : Str)).isSome = false
  sup : PySem.W.ks_superIn K C D "__init__" = some (some (.builtin "ValueError.__init__"))
  sve : PySem.W.subIn K (.ref C) (.type "ValueError") = some true
  opq : PySem.W.nsIn K cStatics "thirdparty.any" = some none
  exi : PySem.W.excInitIn K C veB "ValueError.__new__" = true
  sa : PySem.W.findIn K (.ref C) "__setattr__" = some (some (.builtin "object.__setattr__"))
  mro : (PySem.W.clsIn K C).any (fun cd => PySem.HandSPX.refsVE cd.mro && cd.hasDict) = true
  nov : PySem.W.findIn K (.ref C) "value" = some none
section
variable {prog : Program} {w : World} {A : Around} {K : PySem.W.Frag} {C fI D x t : Addr} {hp : Heap} {s : Shared} {mg mb : Str → Option Value} {R : Result → Shared → Prop} {u : Value}
open PySem.W PySem.Calls
theorem init_run (J : InitIn prog K C fI D) (KX : K.In hp) (hg : hp.Ns mainGlobals mg) (hms : mg "super" = none) (hb : hp.Ns builtinsNs mb) (hbb : ∀ y : Str, y ≠ "__name__" → mb y = bootBuiltins y) (lim : hp.NoLimit)
    (hk : ∀ b o, hp.get? b = some o → s.heap.get? b = some o) (hsz : hp.objs.size ≤ s.heap.objs.size) (hxn : hp.get? x = none) (hx : s.heap.get? x = some (excObj C t none .none)) (hroom : A.depth < recursionLimit)
    (hq : ∀ h' tk dx t', (∀ b o, hp.get? b = some o → h'.get? b = some o) → h'.get? x = some (excObj C t' (some dx) .none) → h'.Ns1 dx (fun y => if y = "value" then some u else none) → dx ≠ x → hp.get? dx = none → s.heap.objs.size ≤ dx →
      R (.ok (.ret .none)) { s with heap := h', toks := tk }) :
    codeAny (model prog w) A (.call (.ref fI) ⟨[.ref x, u], []⟩) R s := by
  obtain ⟨oc, od, osl, qual, q1, q2, kV, doc, pm, ct, an, cda, cc, lk, hcd, ⟨ccl, cdd, vs, ccs, file, tf, hcode, hvs, hfile⟩, cl, cld, csl, hcell⟩ := J.fn
  have KS : K.In s.heap := fun b o e => hk _ _ (KX _ _ e)
  refine ks_codeAny_call_defAt (fd := ksFn "__init__" qual (iPars q1 q2) iBody iScope .none kV doc pm an (.ref cda) ct cc) (body := iBody) (binds := [("self", .ref x), ("value", u)])
    hroom (KS _ _ lk) rfl (lim.keeps hk) (codeRec_of KS hcd) rfl (BindsTo.of_eq rfl) (show ∀ y ∈ iScope.names, y.2 ≠ .cell by decide) (fun y hy => by
      rcases List.mem_cons.mp hy with rfl | hy
      · rfl
      · rcases List.mem_singleton.mp hy with rfl
        rfl) (fun h₁ hns hk₁ => ?_)
  have F : Fr hp s.heap.objs.size h₁ (fun y => ([("self", .ref x), ("value", u)] : List (Str × Value)).reverse.lookup y) := ⟨hns, fun b o e => hk₁ _ _ (hk _ _ e), hsz⟩
  have N : News hp s.heap.objs.size h₁ [(x, excObj C t none .none)] := fun p hp' => by
    rcases List.mem_singleton.mp hp' with rfl
    exact ⟨hk₁ _ _ hx, Nat.ne_of_lt (Heap.lt_size hx), hxn⟩
  have I1 : ∀ {h : Heap} {t' : Addr}, h.get? x = some (excObj C t' none .none) → InstAt h x (excObj C t' none .none) C none := fun e => ⟨e, rfl, rfl, trivial⟩
  obtain ⟨cdD, hD⟩ := Option.isSome_iff_exists.mp J.hD
  obtain ⟨cdC, hC, hCd⟩ := any_some J.mro
  rw [Bool.and_eq_true] at hCd
  have X1 : K.In h₁ := fun b o e => hk₁ _ _ (KS _ _ e)
  obtain ⟨oD, hD1, hD2⟩ : ∃ oD, h₁.get? D = some oD ∧ oD.data = .cls cdD := by
    unfold clsIn at hD
    split at hD
    · rename_i c d cd' sl ho
      cases hD
      exact ⟨_, X1 _ _ ho, rfl⟩
    · cases hD
  have k1 : ∀ b o, hp.get? b = some o → h₁.get? b = some o := F.keep
  have e1 := hk₁ _ _ hx
  refine ks_wpAt_execs_cons (ks_wpAt_Expr_any (ks_wpAt_MethodCall ?_))
  refine ks_wpAt_super_base (env := ksEnv qual iScope s.heap.objs.size fI (.ref cda) cc) rfl rfl rfl rfl (X1 _ _ lk) rfl rfl rfl (X1 _ _ hcode) rfl hvs hfile J.htop ?_
  refine ks_loadName_global rfl rfl (loadGlobal_builtin (env := ksEnv qual iScope s.heap.objs.size fI (.ref cda) cc) (hg.keeps k1) hms (hb.keeps k1) ((hbb _ (by decide)).trans (by first | boot_by_name | rfl | kernel_rfl)) ⟨rfl, ?_⟩)
  refine wpAny_loadName_free rfl rfl rfl ⟨_, X1 _ _ hcell, rfl⟩ ?_
  refine wpAny_loadName_local rfl rfl F.ns rfl ?_
  refine ks_wpAny_isType_cls hD1 hD2 ⟨rfl, ?_⟩
  refine ks_wpAny_call_super hD1 hD2 e1 rfl (fun c e => by cases e) (looks_mroIn X1 J.hsub) (fun h2 e k => ?_)
  obtain ⟨F2, N2, l2⟩ := ks_newsPush (s := { s with heap := h₁ }) F N rfl e k
  refine kxs_method kxs_ValueError F2 KX N2 List.mem_cons_self (I1 (k _ _ e1)) J.opq J.sup J.sve (by decide) (fun q h3 F3 N3 l3 => ?_)
  have nq1 : q ≠ x := Nat.ne_of_gt (l3 (x, excObj C t none .none) (by simp))
  have nq2 : h₁.objs.size ≠ x := Nat.ne_of_gt (l2 (x, excObj C t none .none) (by simp))
  refine kxs_callWith1 (rest := []) N3 List.mem_cons_self (Calls.spliced_cons ?_)
  refine wpAny_Name (wpAny_loadName_local rfl rfl F3.ns rfl ?_) rfl
  refine Calls.spliced_nil ⟨(N3 _ List.mem_cons_self).1, ?_⟩
  refine kxs_call F3 KX N3 _root_.PySem.F.excBase_ValueError J.exi List.mem_cons_self (.tail nq1 (.tail nq2 (.head fun _ z => nomatch z))) (by rw [sizeLine_eq]; show 1 ≤ _; omega) (fun t' h4 F4 N4 l4 => ?_)
  have X4 : K.In h4 := fun b o e => F4.keep _ _ (KX _ _ e)
  have ex4 := (N4 (x, excObj C t' none .none) (by simp)).1
  refine ks_wpAt_execs_cons (ks_wpAt_Assign_Attr (wpAt_of_wpAny ?_))
  refine wpAny_Name (wpAny_loadName_local rfl rfl F4.ns rfl ?_) rfl
  refine wpAny_Name (wpAny_loadName_local rfl rfl F4.ns rfl ?_) rfl
  refine set_plain X4 (I1 ex4) J.sa ?_
  refine PySem.HandSPX.exc_osa X4 ex4 hC hCd.1 hCd.2 J.nov (fun h5 tk5 dx k5 dn dne hx5 hn5 => ?_)
  refine wpAt_of_wpAny (wpAny_execs_nil ?_)
  have nx : ∀ {b : Addr} {o : Obj}, hp.get? b = some o → b ≠ x := fun {b o} z y => by rw [y, hxn] at z; cases z
  obtain ⟨oL, _, _, hL, _⟩ := F4.ns
  refine hq h5 tk5 dx t' (fun b o z => k5 b o (nx z) (F4.keep b o z)) hx5 hn5 dne ?_ (Nat.le_trans (Nat.le_of_lt (Heap.lt_size hL)) dn)
  cases z : hp.get? dx with
  | none => rfl
  | some o => exact absurd (Nat.lt_of_lt_of_le (Heap.lt_size (F4.keep _ _ z)) dn) (Nat.lt_irrefl _)
end
end Sw
end
section
set_option maxRecDepth 100000
set_option autoImplicit false
set_option maxHeartbeats 4000000
/-! SxL: raise. -/
namespace Sw
open CL
open PySem PySem.Spec PyProof.Rows L2
open PySem.SeqAt (EqAt)
/-- what is known of an exception class of the program -/
structure ExIn (prog : Program) (K : PySem.W.Frag) (C : Addr) : Prop where
  ini : ∃ fI D, InitIn prog K C fI D ∧ PySem.W.findIn K (.ref C) "__init__" = some (some (.ref fI)) ∧ PySem.W.typeIn K (.ref fI) = some (.type "function")
  cls : ∃ nm q N bs bm sn sub ab col dd k0 k1 k2 k3 k5, K.lookup C = some (excClassObj nm q C N bs bm true sn sub ab col dd k0 k1 k2 k3 k5 "ValueError.__new__") ∧ PySem.HandSPX.refsVE bm = true
  exC : PySem.W.subIn K (.ref C) (.type "BaseException") = some true
  tyC : PySem.W.typeIn K (.ref C) = some (.type "type")
  kC : PySem.W.keepIn K (.ref C) = true
section
variable {X : Cx} {x : Str} {C : Addr} {k : Nat} {e : Expr} {ta : TA} {p pos : Pos}
/-- C(e): an exception of the value e -/
theorem pmk_cls (J : ExIn X.prog X.K C) (hms : X.mg "super" = none) (hr : Room k X.A) (hg : Gl X x) (hm : X.mg x = some (.ref C)) (ha : PA X [e] ta)
    (hdb : (x == ("__debug__" : Str)) = false) (he : starEach [e] X.env = (false, eval e X.env) :: starEach [] X.env) (hpl : (backTo pos (starEach [] X.env)).any (·.1) = false) :
    PMk X (.Call (.Name x p) [e] [] pos) (fun σ H Q => ta σ H fun vs H1 => ∃ v, vs = [v] ∧ ∀ dx, H1 dx = none → Q (.ref C) (some dx) (L2.upd H1 dx (.xd [("value", v)]))) := by
  intro pins s σ H Q I h
  obtain ⟨nm, q, N, bs, bm, sn, sub, ab, col, dd, k0, k1, k2, k3, k5, hC, hbm⟩ := J.cls
  obtain ⟨fI, D, JI, iC, tI⟩ := J.ini
  refine wpAny_Call_Name_kw (ld_glob I hg hm ?_ hdb)
  refine PySem.W.callWith_K (h₀ := X.base) I.ok.mod.kin J.kC (thn (ha.run pos pins s σ H _ I h) fun us s1 ⟨vs, H1, I1, r1, v, ev, q1⟩ => ⟨I1.kIn, ?_⟩) he hpl
  subst ev
  cases r1 with
  | @cons _ u _ _ ru rn =>
  cases rn
  show wpAny _ _ (call (.ref C) [u]) _ _ _
  obtain ⟨hp, g, dr, tk, os⟩ := s1
  have kk : ∀ b o, hp.get? b = some o → ((hp.push (PySem.W.kdv_tup [u])).push (PySem.HandSPX.excO C hp.objs.size)).get? b = some o := fun b o e => Heap.get?_push_of_some _ (Heap.get?_push_of_some _ e)
  have hget : ((hp.push (PySem.W.kdv_tup [u])).push (PySem.HandSPX.excO C hp.objs.size)).get? (hp.objs.size + 1) = some (PySem.HandSPX.excO C hp.objs.size) := by heap_get
  obtain ⟨mb, hb1, hb2⟩ := I1.mod.blt
  have bk : ∀ b o, X.base.get? b = some o → hp.get? b = some o := I1.bk
  have na : H1 (hp.objs.size + 1) = none := I1.hok.fresh (Nat.le_succ _)
  have sz2 : ((hp.push (PySem.W.kdv_tup [u])).push (PySem.HandSPX.excO C hp.objs.size)).objs.size = hp.objs.size + 2 := by rw [Heap.size_push, Heap.size_push]
  refine wpAny_call (PySem.HandSPX.call_own F.excBase_ValueError (fun Y => PySem.HandSPX.refsVE_contains Y bm hbm) (I1.kIn _ _ hC) (PySem.W.looks_findIn I1.kIn iC) (fun self => PySem.W.bind_fn I1.kIn self tI) (by rw [sizeLine_eq]; show 1 ≤ _; omega) ?_)
  refine init_run (hp := hp) JI I1.kIn (I1.mod.glob.keeps bk) hms (hb1.keeps bk) hb2 (I1.mod.nolimit.keeps bk) kk (by rw [sz2]; exact Nat.le_add_right _ _) (Heap.get?_none_of_le (Nat.le_succ _)) hget (by have := hr.dp; rw [make_depth]; omega) ?_
  intro h' tk' dx t' kp hx hn dne hdn dsz
  refine ⟨rfl, ?_⟩
  obtain ⟨G, g1, g2⟩ := restrict h' fun b => decide (b ≠ hp.objs.size + 1)
  have gk : ∀ b, b ≠ hp.objs.size + 1 → G.get? b = h'.get? b := fun b hb => g1 b (decide_eq_true hb)
  have ge : G.get? (hp.objs.size + 1) = none := g2 _ (by simp)
  have hdx : hp.objs.size ≤ dx := Nat.le_trans (by rw [sz2]; exact Nat.le_add_right _ _) dsz
  have hd1 : H1 dx = none := I1.hok.fresh hdx
  have kG : ∀ b o, hp.get? b = some o → G.get? b = some o := fun b o z => (gk b (Nat.ne_of_lt (Nat.lt_succ_of_lt (Heap.lt_size z)))).trans (kp b o z)
  have new : ObjOk X.prog X.w (L2.upd H1 dx (.xd [("value", v)])) G dx (.xd [("value", v)]) := ⟨_, hn.at fun o y => (gk dx dne).trans y, relO_put (fs := []) ru fun g => True.intro⟩
  have I2 := I1.laid (t' := tk') kG hdx new
  refine ⟨hp.objs.size + 1, _, _, _, _, .ref C, some dx, rfl, I2, fun b o z => ?_, ge, hx, ⟨rfl, rfl⟩, rfl, rfl, ?_, rfl, I2.bare, raises_own J.exC J.tyC, q1 dx hd1⟩
  · by_cases hb : b = hp.objs.size + 1
    · subst hb
      have z' : G.get? _ = some o := z
      rw [ge] at z'; cases z'
    · exact (gk b hb).symm.trans z
  · rw [upd_ne (Ne.symm dne)]; exact na
end
end Sw
end
section
set_option maxRecDepth 100000
set_option autoImplicit false
set_option maxHeartbeats 4000000
/-! SxM: try .. except C as e: y = e. -/
namespace Sw
open CL
open PySem PySem.Spec PyProof.Rows L2
open PySem.SeqAt (EqAt)
theorem excO_ok {P : Program} {w : World} {H : Hp} {h : Heap} {a C dx : Addr} {oe : Obj} {vs : Array Value} (e : h.get? a = some oe) (hc : oe.cls = .ref C) (hd : oe.dict = some dx) (hv : oe.data = .fields vs) : ObjOk P w H h a (excO a C dx) :=
  ⟨⟨oe, vs, e, hc, hd, hv⟩, ⟨oe, e⟩, fun _ _ ⟨o, v, q, r⟩ k => ⟨o, v, k o q, r⟩⟩
section
variable {X : Cx} {pins : List (Addr × Obj)} {σ : L2.St} {H : Hp} {s : Shared}
/-- a pinned thing that is newer than the entry is tracked -/
theorem track {a : Addr} {oe : Obj} {o : HO} (I : Inv X ((a, oe) :: pins) σ H s) (n0 : X.s_0.heap.get? a = none) (np : ∀ p ∈ X.pn ++ pins, p.1 ≠ a) (new : ObjOk X.prog X.w (L2.upd H a o) s.heap a o) : Inv X pins σ (L2.upd H a o) s := by
  obtain ⟨ha, hn, hL, hF, hcell⟩ := I.pin (a, oe) (List.mem_append_right _ List.mem_cons_self)
  have ha : s.heap.get? a = some oe := ha
  have hn : H a = none := hn
  have ne0 : ∀ {b : Addr} {u : Obj}, X.s_0.heap.get? b = some u → b ≠ a := fun {b u} e z => by rw [z, n0] at e; cases e
  refine ⟨I.ok, I.os, I.bare, ⟨I.base.keep, I.base.slot, fun b u e n hq => by rw [upd_ne (ne0 e)]; exact I.base.free b u e n hq, I.base.there, fun b xs e => ?_, fun b u v e => ?_, fun b ps e => ?_⟩, I.loc, I.cell, ?_, fun x c e => ?_, fun p hp => ?_, fun b u e => ?_, I.len⟩
  · have q := I.base.tups b xs e
    rw [upd_ne (ne_of_none q hn)]; exact q
  · have q := I.base.frzs b u v e
    rw [upd_ne (ne_of_none q hn)]; exact q
  · obtain ⟨m, q⟩ := I.base.tbls b ps e
    exact ⟨m, by rw [upd_ne (ne_of_none q hn)]; exact q⟩
  · rw [upd_ne (Ne.symm hL)]; exact I.free
  · have hc : c ≠ a := fun z => by
      obtain ⟨v, oc, e1, e2⟩ := I.cell x c e
      rw [z, ha] at e1
      cases e1
      exact hcell _ e2
    rw [upd_ne hc]; exact I.freeC x c e
  · obtain ⟨e1, e2, e3⟩ := I.pin p (by
      rcases List.mem_append.mp hp with h | h
      · exact List.mem_append_left _ h
      · exact List.mem_append_right _ (List.mem_cons_of_mem _ h))
    exact ⟨e1, by rw [upd_ne (np p hp)]; exact e2, e3⟩
  · by_cases hb : b = a
    · subst hb
      rw [upd_same] at e
      cases e
      exact new
    · rw [upd_ne hb] at e
      exact (I.hok b u e).stay (fun c v _ q => q) (fun c q => by rw [upd_ne (ne_of_none q hn)]; exact q) fun c xs q => by rw [upd_ne (ne_of_none q hn)]; exact q
/-- the suite's end, the exception pinned -/
theorem unsuiteP {a : Addr} {q : Addr × Obj} {pn' : List (Addr × Obj)} (I : Inv (X.suite a (q :: (X.pn ++ pins))) pn' σ H s) (ok : X.Ok) : Inv X (q :: pins) σ H s :=
  ⟨ok, I.os, I.bare, I.base, I.loc, I.cell, I.free, I.freeC, fun p hp => I.pin p (List.mem_append_left _ (by
    rcases List.mem_append.mp hp with h | h
    · exact List.mem_cons_of_mem _ (List.mem_append_left _ h)
    · rcases List.mem_cons.mp h with h | h
      · rw [h]; exact List.mem_cons_self
      · exact List.mem_cons_of_mem _ (List.mem_append_right _ h))), I.hok, I.len⟩
end
/-- what the clause 'except x as n: y = n' wishes of an exception of the body: slot i is n's, slot j y's -/
def wKeep (K : PySem.W.Frag) (c : Value) (i j : Nat) (Wout : WX) (D : Ends) : WX := fun cls d σ H =>
  ∃ b, PySem.W.exmOne K cls c = some b ∧ (b = true → ∃ C dx, cls = .ref C ∧ d = some dx ∧ ∀ a, H a = none → D.nx (((σ.set i (some (.ref a))).set j (some (.ref a))).set i none) (L2.upd H a (excO a C dx))) ∧ (b = false → Wout cls d σ H)
section
variable {X : Cx} {x n y : Str} {c : Value} {i j : Nat} {body : List Stmt} {np' pos pos' q1 q2 q3 : Pos} {tb : WX → TS} {Wout : WX}
theorem ps_try_keep (hs : X.stack = X.env :: X.outer) (hf : X.env.frame = some X.env.locals) (hN : X.N.Nodup) (hi : X.N[i]? = some n) (hj : X.N[j]? = some y) (hij : i ≠ j) (hln : X.env.kindOf n = some .local) (hly : X.env.scope.names.lookup y = some .local)
    (hc : Names X x c) (hnd : (n == ("__debug__" : Str)) = false) (hnc : (n == ("__classdict__" : Str)) = false) (hex : X.ex = []) (tk : Takes X Wout) (hcal : X.calm = true)
    (hb : ∀ (W : WX) (pn : List (Addr × Obj)) (xe : Value → Shared → Prop), Takes (X.tr pn xe) W → PassesOwn (model X.prog X.w) X.A X.env xe → PSs (X.tr pn xe) body (tb W)) :
    PS X (.Try body [.ExceptHandler (some (.Name x np')) (some n) [.Assign [.Name y q2] (.Name n q1) q3] pos'] [] [] pos) (fun D σ H => tb (wKeep X.K c i j Wout D) D σ H) := by
  refine ⟨fun ps s σ H D I q => ?_⟩
  have ok := I.ok
  have fr0 : X.A.frames = some (X.env :: X.outer) := ok.frames.trans (congrArg some hs)
  refine wpAny_Try_except (wpAny_mono ((hb (wKeep X.K c i j Wout D) (X.pn ++ ps) (fun e t1 => wpAny (model X.prog X.w) X.A (noteFrame e X.env) (fun _ t2 => wpAny (model X.prog X.w) X.A (setFlight e none) (fun _ t3 =>
    wpAny (model X.prog X.w) X.A (handleBy e X.env [.ExceptHandler (some (.Name x np')) (some n) [.Assign [.Name y q2] (.Name n q1) q3] pos']) (SP X ps D) X.xe t3) X.xe t2) X.xe t1) (fun u t z => ?_) PassesOwn.looking).run [] s σ H D (I.toTry _) q) (fun f t z => ?_) fun e t z => z)
  · obtain ⟨a, B, sI, p1, σ', H', cls, d, rfl, J0, nb, up, sky, na, os, ag, b, hb1, hyes, hno⟩ := z
    have J : Inv X ps σ' H' sI := J0.ofTry ok
    rw [show (X.tr (X.pn ++ ps) _).stack = X.env :: X.outer from hs] at sky
    refine Sky.land Zc.steady fr0 hf sky fun g3 fl3 up3 => ?_
    have J3 : Inv X ps σ' H' { t with heap := g3 } := J.landed nb fl3.1 (up.trans up3) os ag
    obtain ⟨oe3, vs3, he3, hz3, hd3⟩ := fl3.there
    have nfr : a ∉ frs (X.env :: X.outer) := fun hm => by
      obtain ⟨_, o', e', hnf⟩ := fl3.2.2.1.mem hm
      rw [he3] at e'; cases e'
      exact hnf _ hd3
    have nL : a ≠ X.env.locals := fun z => nfr (List.mem_filterMap.mpr ⟨X.env, List.mem_cons_self, by rw [hf, z]⟩)
    have nF : a ∉ X.fs := fun hm => by
      obtain ⟨e, he, q'⟩ := List.mem_filterMap.mp hm
      exact nfr (List.mem_filterMap.mpr ⟨e, List.mem_cons_of_mem _ he, q'⟩)
    have aI : sI.heap.get? a = none := by
      cases z : sI.heap.get? a with
      | none => rfl
      | some o =>
        have z2 := nb a o z (by rw [show (X.tr (X.pn ++ ps) _).stack = X.env :: X.outer from hs]; exact nfr)
        rw [fl3.2.1] at z2; cases z2
    have n0 : X.s_0.heap.get? a = none := by
      cases z : X.s_0.heap.get? a with
      | none => rfl
      | some o =>
        obtain ⟨o', z2⟩ := J.base.there a o z (by rw [hex]; exact fun z => nomatch z)
        rw [aI] at z2; cases z2
    have np : ∀ p ∈ X.pn ++ ps, p.1 ≠ a := fun p hp z => by
      have z2 := (J.pin p hp).1
      rw [z, aI] at z2; cases z2
    have S3 := J3.suite he3 hd3 na nL nF
    refine wpAny_handleBy_cons (codeAny_handlers_test ?_) (by intro z; cases z)
    have LT : PySem.W.Looks (model X.prog X.w) g3 (typeOf (.ref a)) cls := fun A Q E s k z => wpAny_typeOf_ref (k _ _ he3) (by rw [hz3.1]; exact z)
    have LM := PySem.W.exm_one (M := model X.prog X.w) J3.kIn LT hb1
    obtain ⟨hg, hdb, hm⟩ := hc
    have test : ∀ {Q : Value → Shared → Prop} {E : Value → Shared → Prop}, Q c { t with heap := g3 } → wpAny (model X.prog X.w) (X.A.mark (some (.ref a))) (eval (.Name x np') X.env) Q E { t with heap := g3 } := fun {Q E} z => by
      rcases hm with hm | ⟨hm, hv, hnn⟩
      · exact ld_glob (X := X.suite a ((a, oe3) :: (X.pn ++ ps))) S3 hg hm z hdb
      · exact ld_blt (X := X.suite a ((a, oe3) :: (X.pn ++ ps))) S3 hg hm hv z hnn hdb
    refine test (LM.here ?_)
    cases b with
    | true =>
      obtain ⟨C, dx, rfl, rfl, hy⟩ := hyes rfl
      refine codeAny_handlers_suite_as (HandSPX.lands_againZ fl3 fun g4 fl4 up4 => ?_)
      have J4 : Inv X ps σ' H' { t with heap := g4 } := J.landed nb fl4.1 ((up.trans up3).trans up4) os ag
      obtain ⟨oe4, vs4, he4, hz4, hd4⟩ := fl4.there
      have S4 := J4.suite he4 hd4 na nL nF
      refine store_ok (X := X.suite a ((a, oe4) :: (X.pn ++ ps))) (v := .ref a) S4 hN hi (.inl hln) rfl (fun s5 S5 => ?_) (.inr hln)
      have P : PSs (X.suite a ((a, oe4) :: (X.pn ++ ps))) [.Assign [.Name y q2] (.Name n q1) q3] _ := pss_cons (ps_set (X := X.suite a ((a, oe4) :: (X.pn ++ ps))) hN hj (.inl hly) (pe_var (X := X.suite a ((a, oe4) :: (X.pn ++ ps))) hi (.inl hln) hnd hnc) rfl (.inr hly)) pss_nil
      refine wpAny_mono (P.run [] s5 _ H' { nx := fun σ6 H6 => σ6 = (σ'.set i (some (.ref a))).set j (some (.ref a)) ∧ H6 = H', rt := fun _ _ => False } S5 ?_) (fun f s6 z => ?_) fun _ _ z => z.elim
      · have hl : i < σ'.length := by rw [J4.len]; exact (List.getElem?_eq_some_iff.mp hi).1
        exact ⟨.ref a, List.getElem?_set_self hl, rfl, rfl⟩
      · cases f with
        | next =>
          obtain ⟨σ6, H6, S6, rfl, rfl⟩ := z
          refine gone_ok (unsuiteP S6 ok) hN hi hln fun s7 J7 => ⟨_, _, track J7 n0 np (excO_ok (J7.pin (a, oe4) (List.mem_append_right _ List.mem_cons_self)).1 hz4.1 hz4.2 hd4), hy a na⟩
        | brk => obtain ⟨_, _, _, z⟩ := z; exact z.elim
        | cont => obtain ⟨_, _, _, z⟩ := z; exact z.elim
        | ret u => obtain ⟨_, _, _, _, _, z⟩ := z; exact z.elim
    | false =>
      refine wpAny_handleBy_nil ?_
      obtain ⟨k1, k2, k3, oe, ws, T, oT, ts', he, hz, hd, h1, hr⟩ := id fl3
      unfold PySem.passOn
      refine wpAny_bind (wpAny_field he hd h1 ?_)
      rw [if_neg (show ¬ ((Value.ref T == Value.none) = true) by simp)]
      have fin : wpAny (model X.prog X.w) X.A (setFlight (.ref a) X.env.frame) (fun _ t4 => wpAny (model X.prog X.w) X.A (throw (.ref a) : Sem Flow) (SP X ps D) X.xe t4) X.xe { t with heap := g3 } := by
        rw [hf]
        exact HandSPX.setFlight_upZ fl3 fun g4 hh4 up4 => wpAny_throw (tk _ _ ⟨a, B, sI, ps, σ', H', cls, d, rfl, J, nb, (up.trans up3).trans up4, .inr (.inr (by rw [hs]; exact hh4)), na, os, ag, hno rfl⟩)
      first
        | exact wpAny_bind (wpAny_pure (wpAny_bind fin))
        | exact wpAny_bind fin
  · cases f with
    | next => let ⟨σ1, H1, J1, q1⟩ := z; exact wpAny_execs_nil ⟨σ1, H1, J1.ofTry ok, q1⟩
    | brk => let ⟨σ1, H1, J1, q1⟩ := z; exact ⟨σ1, H1, J1.ofTry ok, q1⟩
    | cont => let ⟨σ1, H1, J1, q1⟩ := z; exact ⟨σ1, H1, J1.ofTry ok, q1⟩
    | ret u => let ⟨v, σ1, H1, J1, r1, q1⟩ := z; exact ⟨v, σ1, H1, J1.ofTry ok, r1, q1⟩
end
end Sw
end
section
set_option maxRecDepth 100000
set_option autoImplicit false
set_option maxHeartbeats 4000000
/-! SxN: raise, except, e.value in the mini language. -/
namespace Sw
open CL
open PySem PySem.Spec PyProof.Rows L2
open PySem.SeqAt (EqAt)
/-- what isinstance asks of a class -/
structure IsC (K : PySem.W.Frag) (C : Addr) : Prop where
  ac : PySem.W.findIn K (.ref C) "__class__" = some (some (.builtin "object.__class__"))
  ns : PySem.W.specialIn K (.builtin "object.__class__") "__get__" = some (some (.builtin "getset_descriptor.__get__"))
  tk : PySem.W.takesIn K (.builtin "object.__class__") = some true
  mo : PySem.W.mroIn K C (.type "object") = some true
  ty : ∀ T ∈ ["NoneType", "bool", "int", "str", "tuple", "list", "dict"], PySem.W.kitOne K (.type T) (.ref C) = some false
  no : ∀ n ∈ ["int", "bool", "str", "tuple", "list", "dict"], PySem.W.kitOne K (.ref C) (.type n) = some false
/-- what is known of the classes that the table sub tells -/
structure ExT (X : Cx) (sub : Str → Str → Bool) : Prop where
  isc : ∀ c C, sub c c = true → X.mg c = some (.ref C) → IsC X.K C
  isi : ∀ c d C D, sub c c = true → sub d d = true → X.mg c = some (.ref C) → X.mg d = some (.ref D) → PySem.W.kitOne X.K (.ref C) (.ref D) = some (sub c d)
  cls : ∀ c, sub c c = true → ∃ C, X.mg c = some (.ref C) ∧ ExIn X.prog X.K C ∧ XfC X.K C ∧ PySem.W.findIn X.K (.ref C) "value" = some none
  sub : ∀ c d C D, sub c c = true → sub d d = true → X.mg c = some (.ref C) → X.mg d = some (.ref D) → PySem.W.exmOne X.K (.ref C) (.ref D) = some (sub c d)
  sup : X.mg "super" = none
section
variable {X : Cx} {G : Cfg} {C : Str → List W → Store → Out W} {Y : WX} {a : Expr} {m : ME} {pos : Pos}
theorem pe_attW (T : ExT X G.sub) (ha : PE X a (tM X G C Y m)) (hb : attributeBase a "value" X.env (eval a X.env) = eval a X.env) : PE X (.Attribute a "value" pos) (tM X G C Y (.att m "value")) := by
  refine ⟨fun pins s σ H Q I ⟨ι, st, env, S, E, h⟩ => ?_⟩
  simp only [ev] at h
  refine attr_of hb (thn (ha.run pins s σ H (fun v H1 => ∃ (e Cc dx : Addr) (u : V), v = .ref e ∧ XfC X.K Cc ∧ PySem.W.findIn X.K (.ref Cc) "value" = some none ∧ H1 e = some (excO e Cc dx) ∧ H1 dx = some (.xd [("value", u)]) ∧ Q u H1) I ⟨ι, st, env, S, E, h.bind fun x st1 ι1 H1 p1 s1 S1 h1 v r _ => ?_⟩) fun u s1 hh => ?_)
  · cases e : see st1 x with
    | exc c w =>
      rw [e] at h1
      dsimp only at h1
      split at h1
      · rename_i hc
        have ex := see_flat S1 r e (by intro _ z; cases z) (by intro _ _ z; cases z)
        subst ex
        obtain ⟨ea, Cc, dx, u, rfl, hm, h3, h4, h5⟩ := r
        obtain ⟨C', hm', _, xf, no⟩ := T.cls c hc.2
        rw [show X.mg c = some (.ref Cc) from hm] at hm'
        cases hm'
        exact ⟨ea, Cc, dx, u, rfl, xf, no, (msk_some h3).1, (msk_some h4).1, here_of S1 h1 h5 fun z => nomatch z⟩
      · exact h1.elim
    | _ => rw [e] at h1; exact h1.elim
  · obtain ⟨v, H1, I1, r1, ea, Cc, dx, w, rfl, xf, no, h3, h4, q⟩ := hh
    obtain rfl : u = Value.ref ea := r1
    have z1 : ObjOk X.prog X.w H1 s1.heap ea (excO ea Cc dx) := I1.hok ea _ h3
    have z2 : ObjOk X.prog X.w H1 s1.heap dx (.xd [("value", w)]) := I1.hok dx _ h4
    obtain ⟨⟨oe, vs, ho, hc, hd, hv⟩, _⟩ := z1
    obtain ⟨mA, hns, hr⟩ := z2
    obtain ⟨od, hod, hl⟩ := lookIn_ns hns
    obtain ⟨u, hu, ru⟩ := RelO.some_of (v := w) (o := mA "value") (hr "value")
    have J : PySem.W.InstAt s1.heap ea oe Cc (some od) := ⟨ho, hc, by unfold PySem.W.notCls; rw [hv], by rw [hd]; exact hod⟩
    exact HandSPX.exc_get I1.kIn J xf.ga xf.gg xf.exC (PySem.W.findObj_own xf.hdC no rfl (by rw [hl, hu])) (handed_of ru) ⟨w, H1, I1.tok _, ru, q⟩
variable {E : XK} {c : Str} {k : Nat} {p p2 : Pos}
theorem ps_raiseW (T : ExT X G.sub) (hc : X.calm = true) (tk : Takes X (YE E)) (hr : Room k X.A) (hg : Gl X c) (hs : G.sub c c = true) (ha : PE X a (tM X G C (YE E) m)) (hdb : (c == ("__debug__" : Str)) = false)
    (he : starEach [a] X.env = (false, eval a X.env) :: starEach [] X.env) (hpl : (backTo p2 (starEach [] X.env)).any (·.1) = false) : PS X (.Raise (some (.Call (.Name c p) [a] [] p2)) none pos) (sM X G C E (.raise c m)) := by
  obtain ⟨Ca, hm, J, _, _⟩ := T.cls c hs
  refine (ps_raise hc tk (pmk_cls J T.sup hr hg hm (pa_cons ha pa_nil he) hdb he hpl)).imp fun D σ H ⟨ι, st, env, S, Ee, h⟩ => ?_
  simp only [exS] at h
  refine ⟨ι, st, env, S, Ee, h.bind fun w st1 ι1 H1 p1 s1 S1 h1 v r _ => ⟨v, rfl, fun dx hdx => ?_⟩⟩
  obtain ⟨S2, s2⟩ := S1.upd (o := .xd [("value", v)]) hdx
  exact h1 ι1 _ Ca dx v (CL.le_refl _) s2 S2 hm (by rw [msk_out (S1.fresh hdx)]; exact upd_same) (r.mono s2 (CL.le_refl _) _ _)
end
end Sw
end
section
set_option maxRecDepth 100000
set_option autoImplicit false
set_option maxHeartbeats 4000000
/-! SxO: bodies of try: expressions and ifs alone. -/
namespace Sw
open CL
open PySem PySem.Spec PyProof.Rows L2
open PySem.SeqAt (EqAt)
mutual
def qS : MS → Bool
  | .ex _ => true
  | .pass => true
  | .iff _ a b => qSs a && qSs b
  | _ => false
def qSs : List MS → Bool
  | [] => true
  | s :: ss => qS s && qSs ss
end
section
variable (G : Cfg) (C : Str → List W → Store → Out W)
mutual
/-- they leave the names as they are -/
theorem qS_env : ∀ (m : MS) (env : EnvW) (st st' : Store) (r : Fl × EnvW), qS m = true → exS G C m env st = .ok r st' → r = (.nx, env)
  | .ex e, env, st, st', r, _, h => by
    simp only [exS] at h
    cases z : ev G C e env st with
    | ok a s1 => rw [z] at h; cases h; rfl
    | exc c w s1 => rw [z] at h; cases h
    | stuck => rw [z] at h; cases h
  | .pass, env, st, st', r, _, h => by simp only [exS] at h; cases h; rfl
  | .iff c a b, env, st, st', r, q, h => by
    simp only [qS, Bool.and_eq_true] at q
    simp only [exS] at h
    cases z : ev G C c env st with
    | ok w s1 =>
      rw [z] at h
      simp only [Out.bind_ok] at h
      cases t : truth s1 w with
      | none => rw [t] at h; cases h
      | some x =>
        rw [t] at h
        cases x with
        | true => exact qSs_env a env s1 st' r q.1 h
        | false => exact qSs_env b env s1 st' r q.2 h
    | exc c w s1 => rw [z] at h; cases h
    | stuck => rw [z] at h; cases h
theorem qSs_env : ∀ (ms : List MS) (env : EnvW) (st st' : Store) (r : Fl × EnvW), qSs ms = true → exs G C ms env st = .ok r st' → r = (.nx, env)
  | [], env, st, st', r, _, h => by simp only [exs] at h; cases h; rfl
  | m :: ms, env, st, st', r, q, h => by
    simp only [qSs, Bool.and_eq_true] at q
    simp only [exs] at h
    cases z : exS G C m env st with
    | ok a s1 =>
      rw [z] at h
      have e := qS_env m env st s1 a q.1 z
      subst e
      exact qSs_env ms env s1 st' r q.2 h
    | exc c w s1 => rw [z] at h; cases h
    | stuck => rw [z] at h; cases h
end
end
section
variable (X : Cx) (G : Cfg) (C : Str → List W → Store → Out W) (Y : WX)
def qM (m : MS) : TS := fun D σ H => ∃ ι st env, SR (gd X) ι H st ∧ ER (gd X) ι H env σ ∧ post (gd X) Y σ ι H (exS G C m env st) fun _ _ _ H' => D.nx σ H'
def qMs (ms : List MS) : TS := fun D σ H => ∃ ι st env, SR (gd X) ι H st ∧ ER (gd X) ι H env σ ∧ post (gd X) Y σ ι H (exs G C ms env st) fun _ _ _ H' => D.nx σ H'
end
section
variable {X : Cx} {G : Cfg} {C : Str → List W → Store → Out W} {Y : WX} {pos : Pos}
theorem qs_nil : PSs X [] (qMs X G C Y []) := pss_nil.imp fun D σ H ⟨ι, st, env, S, Ee, h⟩ => h ι H (CL.le_refl _) (Same.refl _) S
theorem qs_cons {s : Stmt} {ss : List Stmt} {m : MS} {ms : List MS} (q : qS m = true) (h1 : PS X s (qM X G C Y m)) (h2 : PSs X ss (qMs X G C Y ms)) : PSs X (s :: ss) (qMs X G C Y (m :: ms)) :=
  (pss_cons h1 h2).imp fun D σ H ⟨ι, st, env, S, Ee, h⟩ => by
    simp only [exs] at h
    refine ⟨ι, st, env, S, Ee, ?_⟩
    cases z : exS G C m env st with
    | ok a s1 =>
      rw [z] at h
      have e := qS_env G C m env st s1 a q z
      subst e
      exact fun ι1 H1 p1 s1' S1 => ⟨ι1, s1, env, S1, Ee.mono s1' p1, post.step (o := exs G C ms env s1) h p1 s1'⟩
    | exc c w s1 => rw [z] at h; exact h
    | stuck => rw [z] at h; exact h
theorem q_pass : PS X (.Pass pos) (qM X G C Y .pass) := ps_pass.imp fun D σ H ⟨ι, st, env, S, Ee, h⟩ => h ι H (CL.le_refl _) (Same.refl _) S
theorem q_ex {e : Expr} {m : ME} (he : PE X e (tM X G C Y m)) (hs : swapsWith e none pos.line X.env = pure false) : PS X (.Expr e pos) (qM X G C Y (.ex m)) :=
  (ps_expr he hs).imp fun D σ H ⟨ι, st, env, S, Ee, h⟩ => by
    simp only [exS] at h
    exact ⟨ι, st, env, S, Ee, h.bind fun w st1 ι1 H1 p1 s1 S1 h1 v r _ => h1 ι1 H1 (CL.le_refl _) (Same.refl _) S1⟩
theorem q_iff {c : Expr} {a b : List Stmt} {mc : ME} {ma mb : List MS} (hc : PT X c (tMt X G C Y mc)) (ha : PSs X a (qMs X G C Y ma)) (hb : PSs X b (qMs X G C Y mb)) : PS X (.If c a b pos) (qM X G C Y (.iff mc ma mb)) :=
  (ps_if hc ha hb).imp fun D σ H ⟨ι, st, env, S, Ee, h⟩ => by
    simp only [exS] at h
    refine ⟨ι, st, env, S, Ee, h.cong fun w st1 h1 => ?_⟩
    cases e : truth st1 w with
    | none => rw [e] at h1; exact h1.elim
    | some t =>
      rw [e] at h1
      cases t with
      | true => exact fun ι1 H1 p s S1 => ⟨ι1, st1, env, S1, Ee.mono s p, h1.step p s⟩
      | false => exact fun ι1 H1 p s S1 => ⟨ι1, st1, env, S1, Ee.mono s p, h1.step p s⟩
end
end Sw
end
section
set_option maxRecDepth 100000
set_option autoImplicit false
set_option maxHeartbeats 4000000
/-! SxP: try in the mini language. -/
namespace Sw
open CL
open PySem PySem.Spec PyProof.Rows L2
open PySem.SeqAt (EqAt)
section
variable {X : Cx} {G : Cfg} {C : Str → List W → Store → Out W} {E : XK} {x n y : Str} {i j : Nat} {body : List Stmt} {ms : List MS} {np' pos pos' q1 q2 q3 : Pos}
theorem ps_triW (T : ExT X G.sub) (hs : X.stack = X.env :: X.outer) (hf : X.env.frame = some X.env.locals) (hN : X.N.Nodup) (hi : X.N[i]? = some n) (hj : X.N[j]? = some y) (hij : i ≠ j) (hln : X.env.kindOf n = some .local) (hly : X.env.scope.names.lookup y = some .local)
    (hg : Gl X x) (hdb : (x == ("__debug__" : Str)) = false) (hx : G.sub x x = true) (hnd : (n == ("__debug__" : Str)) = false) (hnc : (n == ("__classdict__" : Str)) = false) (hex : X.ex = []) (tk : Takes X (YE E)) (hcal : X.calm = true) (q : qSs ms = true)
    (hb : ∀ (W : WX) (pn : List (Addr × Obj)) (xe : Value → Shared → Prop), Takes (X.tr pn xe) W → PassesOwn (model X.prog X.w) X.A X.env xe → PSs (X.tr pn xe) body (qMs (X.tr pn xe) G C W ms)) :
    PS X (.Try body [.ExceptHandler (some (.Name x np')) (some n) [.Assign [.Name y q2] (.Name n q1) q3] pos'] [] [] pos) (sM X G C E (.tri ms x i [.asg j (.v i)])) := by
  obtain ⟨Cx, hm, J, _, _⟩ := T.cls x hx
  refine (ps_try_keep (tb := fun W => qMs X G C W ms) hs hf hN hi hj hij hln hly ⟨hg, hdb, .inl hm⟩ hnd hnc hex tk hcal hb).imp fun D σ H ⟨ι, st, env, S, Ee, h⟩ => ?_
  simp only [exS] at h
  refine ⟨ι, st, env, S, Ee, ?_⟩
  cases z : exs G C ms env st with
  | ok a s1 =>
    rw [z] at h
    have e := qSs_env G C ms env st s1 a q z
    subst e
    exact fun ι1 H1 p1 s1' S1 => h ι1 H1 p1 s1' S1 σ (Ee.mono s1' p1)
  | stuck => rw [z] at h; exact h.elim
  | exc c w s1 =>
    rw [z] at h
    dsimp only at h
    intro ι1 H1 Ca dx u p1 s1' S1 hc hd r
    by_cases hcc : G.sub c c = true
    · rw [if_pos hcc] at h
      refine ⟨G.sub c x, T.sub c x Ca Cx hcc hx hc hm, fun hb1 => ⟨Ca, dx, rfl, rfl, fun a ha => ?_⟩, fun hb1 => ?_⟩
      · rw [if_pos hb1] at h
        split at h
        · rename_i hi'
          have ev1 : (env.set i (some (W.exc c w))).getD i none = some (W.exc c w) := by rw [List.getD_eq_getElem?_getD, List.getElem?_set_self hi']; rfl
          simp only [exs, exS, ev, ev1, Out.opt_some, Out.bind_ok] at h
          split at h
          · rename_i hj'
            simp only [Out.bind_ok] at h
            obtain ⟨S2, s2⟩ := S1.upd (o := excO a Ca dx) ha
            have hne : dx ≠ a := ne_of_none (msk_some hd).1 ha
            have rp : Rep (gd X) ι1 (msk (L2.upd H1 a (excO a Ca dx)) ι1) (.exc c w) (.ref a) := ⟨a, Ca, dx, u, rfl, hc, by rw [msk_out (S1.fresh ha)]; exact upd_same, s2 _ _ hd, r.mono s2 (CL.le_refl _) _ _⟩
            have E1 := Ee.mono (s1'.trans s2) p1
            exact h ι1 _ p1 (s1'.trans s2) S2 _ (((E1.set hi' rp).set hj' rp).wipe [i])
          · exact h.elim
        · exact h.elim
      · rw [if_neg (by rw [hb1]; decide)] at h
        exact h ι1 H1 Ca dx u p1 s1' S1 hc hd r
    · rw [if_neg hcc] at h; exact h.elim
end
end Sw
end
section
set_option maxRecDepth 100000
set_option autoImplicit false
set_option maxHeartbeats 4000000
/-! SyA: isinstance. -/
namespace Sw
open CL
open PySem PySem.Spec PyProof.Rows L2
open PySem.SeqAt (EqAt)
section
variable {X : Cx} {sub : Str → Str → Bool} {pins : List (Addr × Obj)} {σ : L2.St} {H : Hp} {s : Shared} {ι : CL} {st : Store}
/-- a class as the mini language has it, and the machine's -/
theorem cls_val {w : W} {g : Gd} {ι : CL} {H : Hp} {x : V} {u : Value} (r : Rep g ι H w x) (rx : RelV x u) : (∀ n, w = .ty n → u = .type n) ∧ ∀ c, w = .cls c → ∃ C, u = .ref C ∧ g.mg c = some (.ref C) := by
  refine ⟨fun n e => ?_, fun c e => ?_⟩
  · subst e
    have r : x = .ty n := r
    subst r
    exact rx
  · subst e
    obtain ⟨f, rfl, hm⟩ := r
    cases rx
    exact ⟨f, rfl, hm⟩
/-- one class's answer for a value whose type is t -/
def Ans (X : Cx) (sub : Str → Str → Bool) (c : W) (t : Value) : Prop := ∀ (y : W) (b : Bool) (u : Value), isi1 sub c y = some b → (∀ n, y = .ty n → u = .type n) → (∀ d, y = .cls d → ∃ C, u = .ref C ∧ X.mg d = some (.ref C)) → PySem.W.kitOne X.K t u = some b
def six : List String := ["int", "bool", "str", "tuple", "list", "dict"]
theorem six_of {n : String} {c : Bool} {k : Bool} (h : (if ["int", "bool", "str", "tuple", "list", "dict"].contains n then some k else none) = some c) : n ∈ ["int", "bool", "str", "tuple", "list", "dict"] ∧ k = c := by
  split at h
  · rename_i hc
    exact ⟨by simpa using hc, Option.some.inj h⟩
  · cases h
theorem ans_flat (T : ExT X sub) {c : W} {t : String} (ht : t ∈ ["NoneType", "bool", "int", "str", "tuple", "list", "dict"]) (h1 : ∀ n b, tyOf n c = some b → kitB t n = some b) (h2 : ∀ d b, isi1 sub c (.cls d) = some b → sub d d = true ∧ b = false) : Ans X sub c (.type t) := by
  intro y b u e k1 k2
  cases y with
  | ty n =>
    rw [k1 n rfl]
    have e : (if excOk sub c = true then tyOf n c else none) = some b := e
    split at e
    · exact kit_ty (h1 n b e)
    · cases e
  | cls d =>
    obtain ⟨C, rfl, hm⟩ := k2 d rfl
    obtain ⟨hd, rfl⟩ := h2 d b e
    exact (T.isc d C hd hm).ty t ht
  | _ => cases e
theorem if_false {p : Bool} {b : Bool} (h : (if p = true then some false else none) = some b) : p = true ∧ b = false := by
  split at h
  · rename_i hp; cases h; exact ⟨hp, rfl⟩
  · cases h
/-- the kit's answers about a value -/
theorem kit_seen (T : ExT X sub) (I : Inv X pins σ H s) (S : SR (gd X) ι H st) {wx : W} {x : V} {v : Value} (hx : Rep (gd X) ι (msk H ι) wx x) (rx : RelV x v) {y : W} {b : Bool} (e : isi1 sub (see st wx) y = some b) :
    ∃ (t : Value) (P : Heap → Prop), PySem.W.KitX X.K v t P ∧ P s.heap ∧ v ≠ .builtin "__main__.__loader__#opaque" ∧ Ans X sub (see st wx) t := by
  cases hw : see st wx with
  | non =>
    have := see_non S hx hw; subst this; cases rx
    refine ⟨_, _, PySem.W.kitx_none, True.intro, (fun z => nomatch z), ans_flat T (by simp) (fun n b h => ?_) fun d b h => if_false h⟩
    unfold tyOf at h
    obtain ⟨hn, rfl⟩ := six_of h
    revert n; decide +kernel
  | bl c =>
    have := see_bl S hx hw; subst this; cases rx
    refine ⟨_, _, PySem.W.kitx_bool, True.intro, (fun z => nomatch z), ans_flat T (by simp) (fun n b h => ?_) fun d b h => if_false h⟩
    unfold tyOf at h
    obtain ⟨hn, rfl⟩ := six_of h
    clear h; revert n; decide +kernel
  | int c =>
    have := see_int S hx hw; subst this; obtain ⟨t, rfl⟩ := rx
    refine ⟨_, _, PySem.W.kitx_int, True.intro, (fun z => nomatch z), ans_flat T (by simp) (fun n b h => ?_) fun d b h => if_false h⟩
    unfold tyOf at h
    obtain ⟨hn, rfl⟩ := six_of h
    clear h; revert n; decide +kernel
  | str c =>
    have := see_str S hx hw; subst this; obtain ⟨t, rfl⟩ := rx
    refine ⟨_, _, PySem.W.kitx_str, True.intro, (fun z => nomatch z), ans_flat T (by simp) (fun n b h => ?_) fun d b h => if_false h⟩
    unfold tyOf at h
    obtain ⟨hn, rfl⟩ := six_of h
    clear h; revert n; decide +kernel
  | tup c =>
    obtain ⟨a, vs, rfl, h1, r1⟩ := see_tup S hx hw; cases rx
    obtain ⟨its, r', ⟨o, h1, h2, _⟩, hz⟩ := I.tuple h1
    refine ⟨_, _, PySem.W.kitx_tuple, ⟨o, h1, h2⟩, (fun z => nomatch z), ans_flat T (by simp) (fun n b h => ?_) fun d b h => if_false h⟩
    unfold tyOf at h
    obtain ⟨hn, rfl⟩ := six_of h
    clear h; revert n; decide +kernel
  | lst c =>
    obtain ⟨a, vs, rfl, h1, r1⟩ := see_lst S hx hw; cases rx
    obtain ⟨z, its, n', r', hl, h1⟩ := rdL I h1
    refine ⟨_, _, PySem.W.kitx_list, ⟨_, h1, rfl⟩, (fun z => nomatch z), ans_flat T (by simp) (fun n b h => ?_) fun d b h => if_false h⟩
    unfold tyOf at h
    obtain ⟨hn, rfl⟩ := six_of h
    clear h; revert n; decide +kernel
  | dic c c' =>
    obtain ⟨d, es, qs, rfl, D⟩ := see_dict I S hx hw; cases rx
    obtain ⟨ep, h1⟩ := D.obj
    refine ⟨_, _, PySem.W.kitx_dict, ⟨_, h1, rfl⟩, (fun z => nomatch z), ans_flat T (by simp) (fun n b h => ?_) fun d b h => if_false h⟩
    unfold tyOf at h
    obtain ⟨hn, rfl⟩ := six_of h
    clear h; revert n; decide +kernel
  | exc c w =>
    have ex := see_flat S hx hw (by intro _ z; cases z) (by intro _ _ z; cases z)
    subst ex
    obtain ⟨ea, Cc, dx, u, rfl, hm, h3, h4, h5⟩ := hx
    cases rx
    by_cases hcc : sub c c = true
    · obtain ⟨C', hm', J, xf, no⟩ := T.cls c hcc
      rw [show X.mg c = some (.ref Cc) from hm] at hm'
      cases hm'
      have ic := T.isc c Cc hcc hm
      obtain ⟨⟨oe, vs, ho, hc, hd, hv⟩, _⟩ := (show ObjOk X.prog X.w H s.heap ea (excO ea Cc dx) from I.hok ea _ (msk_some h3).1)
      obtain ⟨mA, hns, hr⟩ := (show ObjOk X.prog X.w H s.heap dx (.xd [("value", u)]) from I.hok dx _ (msk_some h4).1)
      obtain ⟨od, hod, hl⟩ := lookIn_ns hns
      have J2 : PySem.W.InstAt s.heap ea oe Cc (some od) := ⟨ho, hc, by unfold PySem.W.notCls; rw [hv], by rw [hd]; exact hod⟩
      obtain ⟨cd, hcd, _⟩ := PySem.W.any_some xf.hdC
      refine ⟨_, _, PySem.W.kitx_exc (by rw [hcd]; rfl) xf.ga xf.gg xf.exC ic.ac ic.ns ic.tk ic.mo, J2, (fun z => nomatch z), fun y b u' e k1 k2 => ?_⟩
      cases y with
      | ty n =>
        rw [k1 n rfl]
        have e : (if sub c c = true then tyOf n (.exc c w) else none) = some b := e
        rw [if_pos hcc] at e
        unfold tyOf at e
        obtain ⟨hn, rfl⟩ := six_of e
        exact ic.no n hn
      | cls d =>
        obtain ⟨C, rfl, hmd⟩ := k2 d rfl
        simp only [isi1] at e
        split at e
        · rename_i hd'
          cases e
          exact T.isi c d Cc C hcc hd' hm hmd
        · cases e
      | _ => cases e
    · exfalso
      rw [hw] at e
      cases y with
      | ty n =>
        have e : (if sub c c = true then tyOf n (.exc c w) else none) = some b := e
        rw [if_neg hcc] at e
        cases e
      | cls d =>
        simp only [isi1] at e
        split at e
        · cases e
        · cases e
      | _ => cases e
  | _ => rw [hw] at e; cases y <;> simp [isi1, tyOf] at e
/-- several classes -/
theorem kit_many (T : ExT X sub) {c : W} {t : Value} (A : Ans X sub c t) : ∀ {ys : List W} {vs : List V} {us : List Value} {b : Bool} {ι : CL} {H : Hp}, isiAny sub c ys = some b → Reps (gd X) ι H ys vs → Vals vs us → PySem.W.kitAny X.K t us = some b
  | [], vs, us, b, ι, H, e, r, v => by
    have r : vs = [] := r
    subst r; cases v; cases e; rfl
  | y :: ys, vs, us, b, ι, H, e, r, v => by
    obtain ⟨x, r', rfl, r1, r2⟩ := r
    cases v with
    | cons v1 v2 =>
      obtain ⟨k1, k2⟩ := cls_val r1 v1
      simp only [isiAny] at e
      split at e
      · rename_i h; cases e
        exact kitAny_cons (A y _ _ h k1 k2) (fun z => nomatch z) fun _ => rfl
      · rename_i h
        exact kitAny_cons (A y _ _ h k1 k2) (fun _ => kit_many T A e r2 v2) fun z => nomatch z
      · cases e
theorem cl_isi {X : Cx} {sub : Str → Str → Bool} (T : ExT X sub) : CallR X (.builtin "isinstance") (c2R (gd X) fun x y st => callB sub .isinst [x, y] st) := by
  intro pins s σ H xs us Q I r ⟨ι, st, wx, wy, x, y, w, ex, S, hx, hy, e, A⟩
  subst ex
  obtain ⟨u1, u2, rfl, r1, r2⟩ := vals2 r
  have e : isiF sub st wx wy = some w := e
  have one : ∀ b, isi1 sub (see st wx) wy = some b → w = .bl b → wpAny (model X.prog X.w) X.A (call (.builtin "isinstance") [u1, u2]) (fun v s' => ∃ x H', Inv X pins σ H' s' ∧ RelV x v ∧ Q x H') X.xe s := fun b e1 ew => by
    subst ew
    obtain ⟨t, P, Z, p, hx', An⟩ := kit_seen T I S hx r1 e1
    obtain ⟨k1, k2⟩ := cls_val hy r2
    exact PySem.W.kia_one Z I.kIn p (An wy b u2 e1 k1 k2) hx' fun tk => ⟨.bl b, H, I.tok tk, rfl, A.here S rfl⟩
  cases wy with
  | tup ys =>
    cases ys with
    | nil => cases e
    | cons y0 ys =>
      have e : (isiAny sub (see st wx) (y0 :: ys)).map W.bl = some w := e
      obtain ⟨b, e1, rfl⟩ := Option.map_eq_some_iff.mp e
      have e0 : ∃ b0, isi1 sub (see st wx) y0 = some b0 := by
        simp only [isiAny] at e1
        split at e1
        · rename_i h; exact ⟨_, h⟩
        · rename_i h; exact ⟨_, h⟩
        · cases e1
      obtain ⟨b0, e0⟩ := e0
      obtain ⟨t, P, Z, p, hx', An⟩ := kit_seen T I S hx r1 e0
      obtain ⟨a, vs, rfl, h1, r3⟩ := hy
      cases r2
      obtain ⟨its, rv, ⟨o, h2, h3, n, h4⟩, hz⟩ := I.tuple (SqT.unmask h1)
      obtain ⟨oc, od, dt, sl⟩ := o
      simp only at h3 h4
      subst h3 h4
      exact PySem.W.kia_tup Z I.kIn p h2 (kit_many T An e1 r3 rv) hx' fun tk => ⟨.bl b, H, I.tok tk, rfl, A.here S rfl⟩
  | _ =>
    unfold isiF at e
    obtain ⟨b, e1, ew⟩ := Option.map_eq_some_iff.mp e
    exact one b e1 ew.symm
end
end Sw
end
section
set_option maxRecDepth 100000
set_option autoImplicit false
set_option maxHeartbeats 4000000
/-! SyB: dict displays. -/
namespace Sw
open CL
open PySem PySem.Spec PyProof.Rows L2
open PySem.SeqAt (EqAt)
/-- a dict's content -/
structure DV (g : Gd) (ι : CL) (H0 : Hp) (d : Addr) (ks us : List W) (es : List DictEntry) : Prop where
  ok : DicOk g.w d ks es
  kr : ∃ kv, Reps g ι H0 ks kv ∧ Vals kv (es.map (·.key))
  ur : ∃ uv, Reps g ι H0 us uv ∧ Vals uv (es.map (·.val))
section
variable {g : Gd} {ι ι' : CL} {H0 H1 : Hp} {d : Addr} {ks us : List W} {es : List DictEntry}
theorem DV.mono (h : DV g ι H0 d ks us es) (s : Same H0 H1) (p : List.IsPrefix ι.c ι'.c) : DV g ι' H1 d ks us es :=
  ⟨h.ok, let ⟨v, a, b⟩ := h.kr; ⟨v, a.monoC s p _ _, b⟩, let ⟨v, a, b⟩ := h.ur; ⟨v, a.monoC s p _ _, b⟩⟩
theorem DV.empty (h : (d == sysModules) = false) : DV g ι H0 d [] [] [] :=
  ⟨⟨Nat.zero_le _, h, [], rfl, rfl, List.nodup_nil, fun _ z => absurd z List.not_mem_nil⟩, ⟨[], Reps.nil, .nil⟩, ⟨[], Reps.nil, .nil⟩⟩
theorem DV.lk (h : DV g ι H0 d ks us es) : ks.length = es.length ∧ us.length = es.length := by
  obtain ⟨kv, r1, v1⟩ := h.kr
  obtain ⟨uv, r2, v2⟩ := h.ur
  have l1 := r1.len
  have l2 := r2.len
  have l3 := v1.length
  have l4 := v2.length
  rw [List.length_map] at l3 l4
  omega
theorem DV.cell {H : Hp} {ep : Nat} (h : DV g ι (msk H ι) d ks us es) (e : H d = some (dicO d es ep)) : CellRep g ι H d (.dic ks us) := by
  obtain ⟨kv, r1, v1⟩ := h.kr
  obtain ⟨uv, r2, v2⟩ := h.ur
  exact ⟨es, kv, uv, ⟨ep, e⟩, h.ok, r1, r2, v1, v2⟩
theorem DV.rep {H : Hp} {ep : Nat} (h : DV g ι H d ks us es) (e : H d = some (dicO d es ep)) : Rep g ι H (.dic ks us) (.ref d) := by
  obtain ⟨kv, r1, v1⟩ := h.kr
  obtain ⟨uv, r2, v2⟩ := h.ur
  exact ⟨d, es, kv, uv, rfl, ⟨ep, e⟩, h.ok, r1, r2, v1, v2⟩
end
section
variable {X : Cx} {pins : List (Addr × Obj)} {σ : L2.St} {H H0 : Hp} {s : Shared} {ι : CL} {st : Store} {E : Value → Shared → Prop}
/-- d[k] = v, wherever the dict stands -/
theorem dstore {d : Addr} {ks us : List W} {es : List DictEntry} {wi wv : W} {i v : V} {iv u : Value} {q : NestedKey} {Q : Unit → Shared → Prop} (I : Inv X pins σ H s) (hu : X.A.units + 200 < cLine) (h0 : Same H0 H) (hd : HasD H d es) (dv : DV (gd X) ι H0 d ks us es)
    (hk : keyW wi = some q) (ri : Rep (gd X) ι H0 wi i) (rvi : RelV i iv) (rw' : Rep (gd X) ι H0 wv v) (rvv : RelV v u) (hz : es.length < sizeLine)
    (hq : ∀ s' es' ep', Inv X pins σ (upd H d (dicO d es' ep')) s' → DV (gd X) ι H0 d (put q wi wv ks us).1 (put q wi wv ks us).2 es' → es'.length ≤ es.length + 1 → Q () s') : wpAny (model X.prog X.w) X.A (dictSet d iv u) Q E s := by
  obtain ⟨k1, k2, k3⟩ := keyW_of hk
  obtain ⟨kv, r1, v1⟩ := dv.kr
  obtain ⟨uv, r2, v2⟩ := dv.ur
  obtain ⟨l1, l2⟩ := dv.lk
  obtain ⟨qs, e1, e2, e3, e4⟩ := dv.ok.keys
  have en := ents_of I h0 dv.ok r1 v1 e1
  obtain ⟨ep, hob⟩ := rdD I hd
  have hn := Rep.nested I h0 wi i iv q ri k2 rvi
  refine dset_any hob en hn k3 (by omega) (by rw [List.size_toArray]; exact dv.ok.len) (fun hno h' ep' sb he => ?_) fun j hj h' ep' sb he => ?_
  · have he' : h'.get? d = some (dictObj (es ++ [({ hash := q.hash X.w, key := iv, val := u } : DictEntry)]).toArray ep') := by
      rw [he]; simp
    refine hq _ _ _ (Inv.dput I hd sb he') ?_ (by rw [List.length_append]; exact Nat.le_refl _)
    rw [put_none e1 (by omega) hno]
    exact ⟨dv.ok.push (key := iv) (v := u) k2 k3 e1 hno hz, ⟨_, r1.app (Reps.cons ri Reps.nil), by rw [List.map_append]; exact v1.append (.cons rvi .nil)⟩, ⟨_, r2.app (Reps.cons rw' Reps.nil), by rw [List.map_append]; exact v2.append (.cons rvv .nil)⟩⟩
  · have he' : h'.get? d = some (dictObj (es.modify j fun e => { e with val := u }).toArray ep') := by
      rw [he]; simp
    refine hq _ _ _ (Inv.dput I hd sb he') ?_ (by rw [List.length_modify]; exact Nat.le_succ _)
    rw [put_at e1 e3 (by omega) hj]
    exact ⟨dv.ok.modify j u, ⟨kv, r1, by rw [modify_key]; exact v1⟩, ⟨_, r2.set rw' j, by rw [modify_val]; exact v2.set rvv j⟩⟩
theorem upd_upd {o o' : HO} {a : Addr} : upd (upd H a o) a o' = upd H a o' := by
  funext b
  by_cases hb : b = a
  · subst hb; rw [upd_same, upd_same]
  · rw [upd_ne hb, upd_ne hb, upd_ne hb]
theorem upd_self {o : HO} {a : Addr} (h : H a = some o) : upd H a o = H := by
  funext b
  by_cases hb : b = a
  · subst hb; rw [upd_same, h]
  · rw [upd_ne hb]
/-- keys and values by turns -/
def flat : List (Value × Value) → List Value
  | [] => []
  | p :: r => p.1 :: p.2 :: flat r
/-- all pairs are put into a dict -/
theorem dstoreAll (hu : X.A.units + 200 < cLine) {d : Addr} (h0 : Same H0 H) (hn : H0 d = none) : ∀ (ps : List (Value × Value)) (ws : List W) (vs : List V) (ks us ks' us' : List W) (es : List DictEntry) (ep : Nat) (s : Shared) (Q : PUnit → Shared → Prop),
    Vals vs (flat ps) → Reps (gd X) ι H0 ws vs → dictE ws (ks, us) = some (ks', us') → Inv X pins σ (upd H d (dicO d es ep)) s → DV (gd X) ι H0 d ks us es → es.length + ps.length ≤ sizeLine →
    (∀ s' es' ep', Inv X pins σ (upd H d (dicO d es' ep')) s' → DV (gd X) ι H0 d ks' us' es' → Q PUnit.unit s') →
    wpAny (model X.prog X.w) X.A (forIn ps PUnit.unit fun (x : Value × Value) (_ : PUnit) => (do dictSet d x.1 x.2; pure (ForInStep.yield PUnit.unit) : Sem (ForInStep PUnit))) Q E s
  | [], ws, vs, ks, us, ks', us', es, ep, s, Q, hv, hr, he, I, dv, hz, hq => by
    cases hv
    have hl := hr.len
    have : ws = [] := List.eq_nil_of_length_eq_zero hl.symm
    subst this
    cases he
    rw [List.forIn_nil]
    exact wpAny_pure (hq s es ep I dv)
  | (a, b) :: ps, ws, vs, ks, us, ks', us', es, ep, s, Q, hv, hr, he, I, dv, hz, hq => by
    cases hv with
    | @cons x _ xs _ rx hv =>
    cases hv with
    | @cons y _ ys _ ry hv =>
    match ws, hr with
    | wk :: wv :: wr, hr =>
      obtain ⟨_, _, e1, r1, _, _, e2, r2, r3⟩ := hr
      cases e1; cases e2
      simp only [dictE] at he
      obtain ⟨q, hk, he⟩ := Option.bind_eq_some_iff.mp he
      rw [List.forIn_cons]
      rw [List.length_cons] at hz
      have hs : Same H0 (upd H d (dicO d es ep)) := fun z o e => by
        rw [upd_ne (ne_of_none e hn)]; exact h0 _ _ e
      refine wpAny_bind (wpAny_bind (dstore I hu hs ⟨ep, upd_same⟩ dv hk r1 rx r2 ry (by omega) fun s' es' ep' I' dv' hl' => wpAny_pure ?_))
      rw [upd_upd] at I'
      exact dstoreAll hu h0 hn ps wr _ _ _ ks' us' es' ep' s' Q hv r3 he I' dv' (by omega) hq
    | [_], hr =>
      obtain ⟨_, _, e1, r1, e2⟩ := hr
      cases e1; cases e2
    | [], hr => cases hr
end
/-- the pairs of a display, told as their keys and values by turns -/
structure PPw (X : Cx) (pos : Pos) (keys : List (Option Expr)) (values : List Expr) (ta : TA) : Prop where
  run : ∀ (pins : List (Addr × Obj)) (s : Shared) (σ : L2.St) (H : Hp) (Q : List V → Hp → Prop), Inv X pins σ H s → ta σ H Q →
    wpAny (model X.prog X.w) X.A (evalPairs (pairTrees keys values X.env pos)) (fun ps s' => ∃ vs H', Inv X pins σ H' s' ∧ Vals vs (flat ps) ∧ Q vs H') X.xe s
section
variable {X : Cx} {G : Cfg} {C : Str → List W → Store → Out W} {Y : WX} {pos : Pos}
theorem ppw_nil : PPw X pos [] [] (tMs X G C Y []) := ⟨fun pins s σ H Q I ⟨ι, st, env, S, Ee, h⟩ => by
  simp only [evs] at h
  exact pairTrees_nil_walk ⟨[], H, I, .nil, h ι H (CL.le_refl _) (Same.refl _) S [] Reps.nil⟩⟩
theorem ppw_cons {k v : Expr} {ks : List (Option Expr)} {vs : List Expr} {mk mv : ME} {ms : List ME} (hk : PE X k (tM X G C Y mk)) (hv : PE X v (tM X G C Y mv)) (hr : PPw X pos ks vs (tMs X G C Y ms)) : PPw X pos (some k :: ks) (v :: vs) (tMs X G C Y (mk :: mv :: ms)) :=
  ⟨fun pins s σ H Q I ⟨ι, st, env, S, Ee, h⟩ => by
    simp only [evs] at h
    refine pairTrees_cons_walk (thn (hk.run pins s σ H (fun x H1 => tM X G C Y mv σ H1 fun y H2 => tMs X G C Y ms σ H2 fun zs H3 => Q (x :: y :: zs) H3) I ⟨ι, st, env, S, Ee, h.bind fun x st1 ι1 H1 p1 s1 S1 h1 v r _ => ?_⟩)
      fun u s1 ⟨x, H1, I1, rx, q1⟩ => thn (hv.run pins s1 σ H1 _ I1 q1) fun w2 s2 ⟨y, H2, I2, ry, q2⟩ => thn (hr.run pins s2 σ H2 _ I2 q2) fun ps s3 ⟨zs, H3, I3, rz, q3⟩ => ⟨x :: y :: zs, H3, I3, .cons rx (.cons ry rz), q3⟩)
    refine ⟨ι1, st1, env, S1, Ee.mono s1 p1, ?_⟩
    rw [Out.bind_assoc] at h1
    refine h1.bind fun y st2 ι2 H2 p2 s2 S2 h2 v2 r2 _ => ?_
    rw [Out.bind_assoc] at h2
    refine ⟨ι2, st2, env, S2, (Ee.mono s1 p1).mono s2 p2, h2.bind fun zs st3 ι3 H3 p3 s3 S3 h3 vz rz => ?_⟩
    exact h3 ι3 H3 (CL.le_refl _) (Same.refl _) S3 (v :: v2 :: vz) (Reps.cons ((r.mono s2 p2 _ _).mono s3 p3 _ _) (Reps.cons (r2.mono s3 p3 _ _) rz))⟩
/-- a new dict, after its pairs -/
theorem dic_fin {ι ι2 : CL} {H H2 : Hp} {st st2 : Store} {σ : L2.St} {p : Addr} {es : List DictEntry} {ep ep2 : Nat} {es0 : List DictEntry} {ks us : List W} {Q : VK} {fr : Bool} (S : SR (gd X) ι H st) (hp : H p = none) (S2 : SR (gd X) (hide ι2 p (dicO p es0 ep)) H2 st2) (le : CL.le ι ι2) (s2 : Same (msk H ι) (msk H2 (hide ι2 p (dicO p es0 ep))))
    (dv : DV (gd X) (hide ι2 p (dicO p es0 ep)) (msk H2 (hide ι2 p (dicO p es0 ep))) p ks us es)
    (h : post (gd X) Y σ ι H (Out.ok (W.dic ks us) st2) (KV (gd X) fr H Q)) : Q (.ref p) (upd H2 p (dicO p es ep2)) := by
  have S3 := S2.hideSet (o' := dicO p es ep2)
  have em : msk (upd H2 p (dicO p es ep2)) (hide ι2 p (dicO p es ep2)) = msk H2 (hide ι2 p (dicO p es0 ep)) := hide_upd
  rw [← em] at dv
  have S4 := S3.unhide
  obtain ⟨hn, hD⟩ := S3.hid_not
  have hs : Same (msk (upd H2 p (dicO p es ep2)) (hide ι2 p (dicO p es ep2))) (msk (upd H2 p (dicO p es ep2)) ι2) := hide_same
  refine h ι2 _ le (s2.trans (by rw [← em]; exact hs)) S4 (.ref p) ((dv.mono (ι' := ι2) hs (List.prefix_refl _)).rep (by rw [msk_out hn]; exact hD)) fun _ _ => ⟨p, rfl, hp, S3.hideCell (by intro _ z; cases z) ?_⟩
  refine (dv.mono (ι' := ι2.add p) (fun b u e => ?_) (List.prefix_append _ _)).cell hD
  obtain ⟨e1, e2⟩ := msk_some e
  rw [msk_out (fun h => e2 (mem_hide.mpr (CL.mem_add.mp h)))]
  exact e1
theorem pe_dicW (hu : X.A.units + 200 < cLine) {keys : List (Option Expr)} {values : List Expr} {ms : List ME} (h : PPw X pos keys values (tMs X G C Y ms)) (hall : keys.all (·.isSome) = true) (hl : keys.length = values.length) (h0 : keys ≠ []) (h15 : keys.length ≤ 15) :
    PE X (.Dict keys values pos) (tM X G C Y (.dic ms)) := by
  refine ⟨fun pins s σ H Q I ⟨ι, st, env, S, Ee, hp⟩ => ?_⟩
  simp only [ev] at hp
  generalize hpe : s.heap.objs.size = p
  have hn : H p = none := I.hok.fresh (Nat.le_of_eq hpe)
  have hb : (p == sysModules) = false := by
    rw [← hpe]
    exact beq_eq_false_iff_ne.mpr (Ne.symm (Nat.ne_of_lt I.big))
  have ho : (s.heap.push { cls := .type "dict", data := .dict #[] }).get? p = some (dictObj ([] : List DictEntry).toArray 0) := by
    rw [← hpe]; exact Heap.get?_push_size _ rfl
  have I1 := I.laid (a := p) (o := dicO p [] 0) (h' := s.heap.push { cls := .type "dict", data := .dict #[] }) (t' := s.toks) (fun _ _ q => Heap.get?_push_of_some _ q) (Nat.le_of_eq hpe) (dicO_ok ho)
  obtain ⟨Sh, sh⟩ := S.hide (o := dicO p [] 0) hn
  have lp := pairTrees_length keys values X.env pos hall hl
  rw [arm_eval_Dict, zip_pairTrees keys values X.env pos hall hl, dictDisplay_pairs _ (fun z => h0 (by rw [z] at lp; exact List.length_eq_zero_iff.mp lp.symm)) (by omega)]
  refine wpAny_bind (wpAny_standAt (wpAny_bind ?_))
  unfold subDict
  refine wpAny_bind (wpAny_alloc ?_)
  refine wpAny_bind (wpAny_holding ?_)
  rw [if_pos (by omega), hpe]
  have start : tMs X G C Y ms σ (upd H p (dicO p [] 0)) fun vs H2 => ∃ (ι2 : CL) (st2 : Store) (ws : List W), CL.le ι ι2 ∧ SR (gd X) (hide ι2 p (dicO p [] 0)) H2 st2 ∧ Same (msk H ι) (msk H2 (hide ι2 p (dicO p [] 0))) ∧ Reps (gd X) (hide ι2 p (dicO p [] 0)) (msk H2 (hide ι2 p (dicO p [] 0))) ws vs ∧
      post (gd X) Y σ ι H (Out.opt ((dictE ws ([], [])).map fun d => W.dic d.1 d.2) st2) (KV (gd X) (fresh (.dic ms)) H Q) := by
    refine ⟨hide ι p (dicO p [] 0), st, env, Sh, Ee.monoC sh (List.prefix_refl _), (post.quietY hp).imp fun ws st2 ι2 H2 p2 s2 S2 q2 vs rs => ?_⟩
    have eι := hide_eta p2
    refine ⟨⟨ι2.c, ι.h, ι.k⟩, st2, ws, ⟨p2.1, rfl, rfl⟩, eι ▸ S2, ?_, ?_, q2⟩
    · rw [← eι]; exact sh.trans s2
    · rw [← eι]; exact rs
  refine wpAny_bind (wpAny_mono (wpAny_evalPairs_len (thn (h.run pins _ σ _ _ I1 start) fun ps s2 z => z)) (fun ps s2 ⟨hlen, vs, H2, I2, rv, ι2, st2, ws, le, S2, s2', rs, q2⟩ => ?_) fun _ _ e => e)
  refine wpAny_holding ?_
  obtain ⟨hn2, hD2⟩ := S2.hid_not
  cases hd : dictE ws ([], []) with
  | none => rw [hd] at q2; exact q2.elim
  | some dd =>
    obtain ⟨ks', us'⟩ := dd
    rw [hd] at q2
    have q2 : post (gd X) Y σ ι H (Out.ok (W.dic ks' us') st2) (KV (gd X) (fresh (.dic ms)) H Q) := q2
    have hnone : msk H2 (hide ι2 p (dicO p [] 0)) p = none := msk_in (mem_hide.mpr (.inr rfl))
    refine wpAny_bind (dstoreAll (H := H2) (ι := hide ι2 p (dicO p [] 0)) hu msk_same hnone ps ws vs [] [] ks' us' [] 0 s2 _ rv rs hd (by rw [upd_self hD2]; exact I2) (DV.empty hb) (by rw [sizeLine_eq, List.length_nil]; omega) fun s3 es ep I3 dv => wpAny_pure (wpAny_pure (wpAny_pure ⟨.ref p, _, I3, rfl, ?_⟩)))
    exact dic_fin S hn S2 le s2' dv q2
theorem pe_dic0W : PE X (.Dict [] [] pos) (tM X G C Y (.dic [])) := by
  refine ⟨fun pins s σ H Q I ⟨ι, st, env, S, Ee, hp⟩ => ?_⟩
  simp only [ev, evs, quiet, Out.bind_ok, dictE, Option.map_some, Out.opt_some] at hp
  have hn : H s.heap.objs.size = none := I.hok.fresh (Nat.le_refl _)
  have hb : (s.heap.objs.size == sysModules) = false := beq_eq_false_iff_ne.mpr (Ne.symm (Nat.ne_of_lt I.big))
  obtain ⟨Sh, sh⟩ := S.hide (o := dicO s.heap.objs.size [] 0) hn
  have I1 := I.laid (a := s.heap.objs.size) (o := dicO s.heap.objs.size [] 0) (h' := s.heap.push { cls := .type "dict", data := .dict #[] }) (t' := s.toks) (fun _ _ q => Heap.get?_push_of_some _ q) (Nat.le_refl _) (dicO_ok (Heap.get?_push_size _ rfl))
  have := dic_fin (ep2 := 0) S hn Sh (CL.le_refl _) sh (DV.empty hb) hp
  rw [upd_upd] at this
  exact wpAny_Dict_empty ⟨.ref s.heap.objs.size, _, I1, rfl, this⟩
end
end Sw
end
section
set_option maxRecDepth 100000
set_option autoImplicit false
set_option maxHeartbeats 4000000
/-! SyC: dict comprehensions. -/
namespace Sw
open CL
open PySem PySem.Spec PyProof.Rows L2
open PySem.SeqAt (EqAt)
section
variable {X : Cx}
/-- key y, value z go to the dict at D -/
def Put1 (X : Cx) (D : Addr) (y z : V) (H : Hp) (Nx : Hp → Prop) : Prop := ∃ (ι : CL) (H0 : Hp) (ks us : List W) (es : List DictEntry) (wi wv : W) (q : NestedKey), Same H0 H ∧ HasD H D es ∧ DV (gd X) ι H0 D ks us es ∧ keyW wi = some q ∧ Rep (gd X) ι H0 wi y ∧ Rep (gd X) ι H0 wv z ∧ es.length < sizeLine ∧
  ∀ es' ep', DV (gd X) ι H0 D (put q wi wv ks us).1 (put q wi wv ks us).2 es' → es'.length ≤ es.length + 1 → Nx (upd H D (dicO D es' ep'))
/-- one turn's wish -/
def tTurn (X : Cx) (g : TG) (tt : TT) (tk tv : TE) (vs : List Nat) (σ : L2.St) (D : Addr) (Nx : Hp → Prop) (x : V) (H : Hp) : Prop := g x (L2.wipe σ vs) H fun σ2 H2 => L2.wipe σ2 vs = L2.wipe σ vs ∧ tt σ2 H2 fun b H3 =>
  if b = true then tk σ2 H3 fun y H4 => tv σ2 H4 fun z H5 => Put1 X D y z H5 Nx else Nx H3
/-- {k: v for target in iter if ..}: D the new dict -/
def tDcE (X : Cx) (wi : TI) (g : TG) (tt : TT) (tk tv : TE) (vs : List Nat) : TE := fun σ H Q => wi σ H fun J H1 => ∀ D, H1 D = none → (D == sysModules) = false → ∃ P : Nat → Nat → Hp → Prop, (∃ m, P 0 m (upd H1 D (dicO D [] 0))) ∧
  ∀ i m H', P i m H' → (J.stop i H' ∧ Q (.ref D) H') ∨ (J.go i H' ∧ ∃ Nx : Hp → Prop, (∀ H2, Nx H2 → ∃ m', m' < m ∧ P (i + 1) m' H2) ∧ ∀ x H2, J.yld i H' x H2 → tTurn X g tt tk tv vs σ D Nx x H2)
theorem pe_dcE (hu : X.A.units + 200 < cLine) {kx vx tg iter : Expr} {ifs : List Expr} {scope : Scope} {own : List (Str × Nat)} {pos : Pos} {wi : TI} {g : TG} {tt : TT} {tk tv : TE} (hc : X.calm = true) (hN : X.N.Nodup) (hi : PI X tg iter wi) (ok : BlkOk X.N X.env.scope scope own)
    (hg : ∀ (s : Shared) (H : Hp) (C' : Addr) (cl : List (Str × Addr)) (fp : List Addr), PG (X.blk s H scope (compEnvC scope cl C' X.env) fp) tg g)
    (ht : ∀ (s : Shared) (H : Hp) (C' : Addr) (cl : List (Str × Addr)) (fp : List Addr), PTs (X.blk s H scope (compEnvC scope cl C' X.env) fp) ifs tt)
    (hk : ∀ (s : Shared) (H : Hp) (C' : Addr) (cl : List (Str × Addr)) (fp : List Addr), PE (X.blk s H scope (compEnvC scope cl C' X.env) fp) kx tk)
    (hv : ∀ (s : Shared) (H : Hp) (C' : Addr) (cl : List (Str × Addr)) (fp : List Addr), PE (X.blk s H scope (compEnvC scope cl C' X.env) fp) vx tv)
    (hs : ∀ x, foldedSetIterable iter X.env x = pure x) : PE X (.DictComp kx vx [⟨tg, iter, ifs, 0⟩] scope pos) (tDcE X wi g tt tk tv (own.map (·.2))) := by
  refine ⟨fun pins s σ H Q I h => ?_⟩
  rw [arm_eval_DictComp]
  have fr : ∀ y ∈ scope.names, y.2 = .free → ∃ c, X.env.cells.lookup y.1 = some c := fun y hy e => by
    rcases ok.free y hy e with k | k
    · exact I.ok.has _ (.inl k)
    · exact I.ok.has _ (.inr k)
  refine wpAny_comprehension_free (use := none) rfl hs (closure_ok fr) ok.kind (fun y hy e => by rw [ok.uniq y hy, e]) (thn (hi.run pins s σ H _ I h) fun _ s1 hx => thn hx fun _ s2 got => ?_)
  obtain ⟨it, fp, tn, J, H2, rfl, I2, T, at0, off, q⟩ := got
  refine wpAny_newObj_type (newEnv_comp ?_)
  obtain ⟨P, ⟨m0, p0⟩, turn⟩ := q s2.heap.objs.size (I2.hok.fresh (Nat.le_refl _)) (beq_eq_false_iff_ne.mpr (Ne.symm (Nat.ne_of_lt I2.big)))
  have dNone : H2 s2.heap.objs.size = none := I2.hok.fresh (Nat.le_refl _)
  have small : ∀ b ∈ fp, b < s2.heap.objs.size := fun b hb => let ⟨_, e, _⟩ := T.obj _ _ at0 b hb; Heap.lt_size e
  -- the state with the new dict
  have I3 : Inv X pins σ (upd H2 s2.heap.objs.size (dicO s2.heap.objs.size [] 0)) { s2 with heap := s2.heap.push (dictObj #[] 0) } :=
    I2.laid (t' := s2.toks) (fun b o e => Heap.get?_push_of_some _ e) (Nat.le_refl _) (dicO_ok (Heap.get?_push_size _ rfl))
  generalize hD : s2.heap.objs.size = D at I3 p0 turn dNone small
  generalize hH3 : upd H2 D (dicO D [] 0) = H3 at I3 p0
  have e3 : ∀ b ∈ fp, FpOk X pins H3 b ∧ b < (s2.heap.push (dictObj #[] 0)).objs.size := fun b hb => by
    have lt := small b hb
    refine ⟨⟨?_, (off b hb).2⟩, by rw [Heap.size_push, hD]; exact Nat.lt_succ_of_lt lt⟩
    rw [← hH3, upd_ne (Nat.ne_of_lt lt)]
    exact (off b hb).1
  have at3 : tn 0 (s2.heap.push (dictObj #[] 0)) := T.keep _ _ _ at0 fun b _ o e => Heap.get?_push_of_some _ e
  show codeAny _ _ (.compStart _ 0 (.ref it) (.ref D) (compEnvC scope (cellsFrom ((s2.heap.push (dictObj #[] 0)).objs.size + 1) scope.names (cloFrom X.env.cells scope.names [])) (s2.heap.push (dictObj #[] 0)).objs.size X.env)) (compPost (model X.prog X.w) X.A X.xe none _ (.ref D) (s2.heap.push (dictObj #[] 0)).objs.size)
    { s2 with heap := pushCells ((s2.heap.push (dictObj #[] 0)).push { cls := .type "dict", data := .dict #[] }) scope.names }
  have I4 := block_start I3 ok hN e3
  generalize hce : compEnvC scope (cellsFrom ((s2.heap.push (dictObj #[] 0)).objs.size + 1) scope.names (cloFrom X.env.cells scope.names [])) (s2.heap.push (dictObj #[] 0)).objs.size X.env = ce at I4 ⊢
  have envL : ce.locals = (s2.heap.push (dictObj #[] 0)).objs.size := by rw [← hce]; rfl
  have PGg := hg { s2 with heap := s2.heap.push (dictObj #[] 0) } H3 (s2.heap.push (dictObj #[] 0)).objs.size (cellsFrom ((s2.heap.push (dictObj #[] 0)).objs.size + 1) scope.names (cloFrom X.env.cells scope.names [])) fp
  have PTt := ht { s2 with heap := s2.heap.push (dictObj #[] 0) } H3 (s2.heap.push (dictObj #[] 0)).objs.size (cellsFrom ((s2.heap.push (dictObj #[] 0)).objs.size + 1) scope.names (cloFrom X.env.cells scope.names [])) fp
  have PEk := hk { s2 with heap := s2.heap.push (dictObj #[] 0) } H3 (s2.heap.push (dictObj #[] 0)).objs.size (cellsFrom ((s2.heap.push (dictObj #[] 0)).objs.size + 1) scope.names (cloFrom X.env.cells scope.names [])) fp
  have PEv := hv { s2 with heap := s2.heap.push (dictObj #[] 0) } H3 (s2.heap.push (dictObj #[] 0)).objs.size (cellsFrom ((s2.heap.push (dictObj #[] 0)).objs.size + 1) scope.names (cloFrom X.env.cells scope.names [])) fp
  rw [hce] at PGg PTt PEk PEv
  have at4 : tn 0 (pushCells ((s2.heap.push (dictObj #[] 0)).push { cls := .type "dict", data := .dict #[] }) scope.names) := T.keep _ _ _ at3 fun b _ o e => pushCells_keeps _ _ _ _ (Heap.get?_push_of_some _ e)
  have blkStat : ∀ {τ : L2.St} {H' : Hp} {t : Shared}, Inv (X.blk { s2 with heap := s2.heap.push (dictObj #[] 0) } H3 scope ce fp) [] τ H' t → (∀ b ∈ fp, H' b = none) → ∀ b ∈ fp, FpOk (X.blk { s2 with heap := s2.heap.push (dictObj #[] 0) } H3 scope ce fp) [] H' b :=
    fun {τ H' t} I' no b hb => ⟨no b hb, (I'.ok.exf b hb).1, I'.ok.exfs b hb, .inl hb, fun x c e => (I'.ok.exf b hb).2 x c e, fun p hp => by cases hp⟩
  have run := compLoop_anyD (prog := X.prog) (w := X.w) (A := X.A) (kx := kx) (vx := vx) (target := tg) (iter := iter) (ifs := ifs) (scope := scope) (pos := pos) (it := .ref it) (D := D) (env := ce)
    (R := compPost (model X.prog X.w) X.A X.xe none (fun v s' => ∃ x H', Inv X pins σ H' s' ∧ RelV x v ∧ Q x H') (.ref D) (s2.heap.push (dictObj #[] 0)).objs.size)
    (fun n t => ∃ i H', Inv (X.blk { s2 with heap := s2.heap.push (dictObj #[] 0) } H3 scope ce fp) [] (L2.wipe σ (own.map (·.2))) H' t ∧ tn i t.heap ∧ (∀ b ∈ fp, H' b = none) ∧ P i n H')
    (fun n t ⟨i, H5, I5, at5, no5, p5⟩ => ?_) m0 ⟨0, H3, I4, at4, fun b hb => (e3 b hb).1.1, p0⟩
  · exact codeAny_compStart_dict run (T.self X.A 0 _ _ _ at4 run)
  rcases turn i n H5 p5 with ⟨stop, fin⟩ | ⟨go, Nx, hNx, step⟩
  · -- nothing is left
    refine thnF (T.done (X.blk { s2 with heap := s2.heap.push (dictObj #[] 0) } H3 scope ce fp) rfl rfl rfl hc i [] t _ H5 (fun _ _ => False) I5 (blkStat I5 no5) at5 stop) fun r t1 ⟨hr, I6⟩ => ?_
    subst hr
    have back : Inv X pins σ H5 t1 := I3.call' (ch := fp) I6.os I6.base I6.hok I6.bare fun b hb => ⟨(e3 b hb).1.2.2.2.1, (e3 b hb).1.2.1, (e3 b hb).1.2.2.2.2.1, (e3 b hb).1.2.2.2.2.2⟩
    have locN : H5 (s2.heap.push (dictObj #[] 0)).objs.size = none := envL ▸ (show H5 ce.locals = none from I6.free)
    obtain ⟨mm, ns, _⟩ := I6.loc
    have ns : t1.heap.Ns (s2.heap.push (dictObj #[] 0)).objs.size mm := envL ▸ (show t1.heap.Ns ce.locals mm from ns)
    refine ⟨mm, ns, fun h'' sb => ?_⟩
    obtain ⟨f0, f1, f2, f3, f4, f5⟩ := I3.fpOk (Nat.le_refl _) locN
    exact ⟨.ref D, H5, back.turned (t' := t1.toks) (fun b o hb e => (sb.2 b hb).trans e) f0 f1 f3 f4 f5, rfl, fin⟩
  · -- a turn
    refine thnF (T.item (X.blk { s2 with heap := s2.heap.push (dictObj #[] 0) } H3 scope ce fp) rfl rfl rfl hc i [] t _ H5 (fun _ _ => False) I5 (blkStat I5 no5) at5 go) fun r t1 ⟨u, hr, h6⟩ => ?_
    subst hr
    refine thnF h6 fun _ t2 ⟨x, H7, I7, r7, y7, at7, no7⟩ => ?_
    have I7' := I7.pinned (blkStat I7 no7) (T.obj _ _ at7)
    refine thnF (PGg.run _ t2 _ H7 x u _ I7' r7 (step x H7 y7)) fun _ t3 ⟨σ8, H8, I8, same8, q8⟩ => ?_
    refine thnF (PTt.run _ t3 σ8 H8 _ I8 q8) fun b t4 ⟨H9, I9, q9⟩ => ?_
    have close : ∀ {t' : Shared} {H' : Hp}, Inv (X.blk { s2 with heap := s2.heap.push (dictObj #[] 0) } H3 scope ce fp) ([] ++ pinsAt fp t2.heap) σ8 H' t' → Nx H' →
        ∃ m, m < n ∧ ∃ i H', Inv (X.blk { s2 with heap := s2.heap.push (dictObj #[] 0) } H3 scope ce fp) [] (L2.wipe σ (own.map (·.2))) H' t' ∧ tn i t'.heap ∧ (∀ b ∈ fp, H' b = none) ∧ P i m H' := fun {t' H'} I' nx => by
      obtain ⟨m', lt, p'⟩ := hNx H' nx
      have pinned : ∀ b ∈ fp, ∀ o, t2.heap.get? b = some o → t'.heap.get? b = some o ∧ H' b = none := fun b hb o e =>
        ⟨(I'.pin (b, o) (List.mem_append_right _ (List.mem_append_right _ (mem_pinsAt hb e)))).1, (I'.pin (b, o) (List.mem_append_right _ (List.mem_append_right _ (mem_pinsAt hb e)))).2.1⟩
      refine ⟨m', lt, i + 1, H', (I'.unpinned (pins := [])).weak (by rw [← same8, wipe_length]) (fun j v e => ?_), T.keep _ _ _ at7 fun b hb o e => (pinned b hb o e).1, fun b hb => ?_, p'⟩
      · rw [← same8] at e
        exact (wipe_some e).1
      · obtain ⟨o, e, _⟩ := T.obj _ _ at7 b hb
        exact (pinned b hb o e).2
    cases b with
    | false =>
      simp only [Bool.false_eq_true, if_false] at q9 ⊢
      exact close I9 q9
    | true =>
      simp only [if_true] at q9 ⊢
      refine thnF (PEk.run _ t4 σ8 H9 _ I9 q9) fun _ t5 ⟨yk, H10, I10, r10, q10⟩ => ?_
      refine thnF (PEv.run _ t5 σ8 H10 _ I10 q10) fun _ t6 ⟨yv, H11, I11, r11, ι, H0, ks, us, es, wk, wv, kq, h0, hd, dv, hkq, rk, rv, hz, nx⟩ => ?_
      exact dstore (X := X.blk { s2 with heap := s2.heap.push (dictObj #[] 0) } H3 scope ce fp) I11 hu h0 hd dv hkq rk r10 rv r11 hz fun t7 es' ep' I12 dv' hl' => close I12 (nx es' ep' dv' hl')
end
end Sw
end
section
set_option maxRecDepth 100000
set_option autoImplicit false
set_option maxHeartbeats 4000000
/-! SyD: dict comprehensions in the mini language. -/
namespace Sw
open CL
open PySem PySem.Spec PyProof.Rows L2
open PySem.SeqAt (EqAt)
section
variable {X : Cx} {G : Cfg} {C : Str → List W → Store → Out W} {Y : WX}
theorem wipe_twice (σ : L2.St) (vs : List Nat) : L2.wipe (L2.wipe σ vs) vs = L2.wipe σ vs := by
  have key : ∀ (us : List Nat) (τ : L2.St), (∀ i ∈ us, i ∈ vs) → L2.wipe (L2.wipe τ us) vs = L2.wipe τ vs := by
    intro us
    induction us with
    | nil => intro τ _; rfl
    | cons k us ih =>
      intro τ hk
      show L2.wipe ((L2.wipe τ us).set k none) vs = _
      rw [wipe_set (hk k List.mem_cons_self), ih τ fun i hi => hk i (List.mem_cons_of_mem _ hi)]
  exact key vs σ fun i hi => hi
theorem loopD_cons (b : W → Store → Out (Option (W × W))) (x : W) (xs : List W) (acc : List W × List W) (st : Store) : loopD b (x :: xs) acc st = (b x st).bind fun r st' => match r with
    | some (k, v) => match keyW k with
      | some q => loopD b xs (put q k v acc.1 acc.2) st'
      | none => .stuck
    | none => loopD b xs acc st' := by
  simp only [loopD] <;> rfl
/-- the dict so far, D hidden -/
structure DcInv (g : Gd) (Y : WX) (σ : L2.St) (ι : CL) (H1 : Hp) (b : W → Store → Out (Option (W × W))) (ws : List W) (K : List W × List W → Store → CL → Hp → Prop) (D : Addr) (i : Nat) (H : Hp) : Prop where
  ex : ∃ (ι' : CL) (st' : Store) (es : List DictEntry) (ep : Nat) (ks us : List W), CL.le ι ι' ∧ SR g (hide ι' D (dicO D es ep)) H st' ∧ Same (msk H1 ι) (msk H (hide ι' D (dicO D es ep))) ∧ DV g (hide ι' D (dicO D es ep)) (msk H (hide ι' D (dicO D es ep))) D ks us es ∧ es.length ≤ i ∧
    post g Y σ ι H1 (loopD b (ws.drop i) (ks, us) st') K
theorem dc_imp {own : List Nat} {it : IT} {mt : MT} {mts : List ME} {mk mv : ME} (hown : ∀ i ∈ slotsT mt, i ∈ own) {σ : L2.St} {H : Hp} {Q : VK} (h : tM X G C Y (.dcomp mk mv mt it mts own) σ H Q) :
    tDcE X (iM X G C Y it) (gM (gd X) mt) (tMts X G C Y0 mts) (tM X G C Y0 mk) (tM X G C Y0 mv) own σ H Q := by
  obtain ⟨ι, st, env, S, E, h⟩ := h
  simp only [ev] at h
  refine ⟨ι, st, env, S, E, h.bind fun q st1 ι0 H1 p1 s1 S0 h1 J kk lk hJ => ?_⟩
  obtain ⟨ns, ws⟩ := q
  dsimp only at h1 hJ lk
  intro D hD hsys
  obtain ⟨n, P, Yd, rfl, hz, w, hP, hY⟩ := hJ
  generalize hb : (fun x st => match assignT st mt x (wipeE env own) with
      | some e => quiet ((tests G C mts e st).bind fun b st => if b then (ev G C mk e st).bind fun k st => (ev G C mv e st).bind fun v st => .ok (some (k, v)) st else .ok none st)
      | none => .stuck : W → Store → Out (Option (W × W))) = b at h1
  have S1 := lk.sr
  have h2 : post (gd X) Y σ (lkd ι0 kk) H1 (loopD b ws ([], []) (lockS st1 ns)) fun acc st' ι' H' => ∀ (v : V), Rep (gd X) ι' (msk H' ι') (.dic acc.1 acc.2) v → FreshAt (gd X) ⟨ι'.c, ι'.h, ι0.k⟩ H H' (unlockS st' ns) v (.dic acc.1 acc.2) → Q v H' :=
    (post.quietY h1).imp fun acc st' ι' H' p s S' k v r f => k ⟨ι'.c, ι'.h, ι0.k⟩ H' ⟨p.1, p.2.1, rfl⟩ s (lk.un ι' H' st' p.1 p.2.2.symm S') v (Rep.monoC (ι := ι') (ι' := ⟨ι'.c, ι'.h, ι0.k⟩) (Same.refl _) (List.prefix_refl _) _ _ r) fun _ _ => f
  generalize hι1 : lkd ι0 kk = ι1 at *
  have p1' : List.IsPrefix ι.c ι1.c := by rw [← hι1]; exact p1.1
  have s1' : Same (msk H ι) (msk H1 ι1) := by rw [← hι1]; exact s1
  have hk1 : ι1.k = kk ++ ι0.k := by rw [← hι1]; rfl
  have hc1 : ι1.c = ι0.c := by rw [← hι1]; rfl
  let Inv' : Nat → Hp → Prop := DcInv (gd X) Y σ ι1 H1 b ws (fun acc st' ι' H' => ∀ (v : V), Rep (gd X) ι' (msk H' ι') (.dic acc.1 acc.2) v → FreshAt (gd X) ⟨ι'.c, ι'.h, ι0.k⟩ H H' (unlockS st' ns) v (.dic acc.1 acc.2) → Q v H') D
  refine ⟨fun i m H' => m = ws.length - i ∧ i ≤ ws.length ∧ Inv' i H', ⟨ws.length, by simp, Nat.zero_le _, ?_⟩, ?_⟩
  · obtain ⟨Sh, sh⟩ := S1.hide (o := dicO D [] 0) hD
    exact ⟨ι1, lockS st1 ns, [], 0, [], [], CL.le_refl _, Sh, sh, DV.empty hsys, Nat.le_refl _, h2⟩
  rintro i m H2 ⟨rfl, hi, ⟨ι2, st2, es, ep, ks, us, p2, S2, s2, dv, hl, hq⟩⟩
  have stands := hP (hide ι2 D (dicO D es ep)) H2 p2.1 s2 fun q hq => (S2.lck q (by show q ∈ ι2.k; rw [← p2.2.2]; exact hq)).1
  by_cases hlt : i < ws.length
  · refine .inr ⟨w.goes i H2 hlt stands, Inv' (i + 1), fun H' p' => ⟨ws.length - (i + 1), by omega, rfl, hlt, p'⟩, fun x H3 y0 => ?_⟩
    have y := w.yields i H2 x H3 hlt stands y0
    obtain ⟨S3, s3, ⟨wx, hwx, rx⟩, _⟩ := hY i H2 x H3 (hide ι2 D (dicO D es ep)) st2 hlt p2.1 s2 S2 y
    rw [List.drop_eq_getElem_cons hlt] at hq
    have ewx : ws[i] = wx := by rw [List.getElem?_eq_getElem hlt] at hwx; exact Option.some.inj hwx
    rw [ewx, loopD_cons] at hq
    have E3 : ER (gd X) (hide ι2 D (dicO D es ep)) H3 (wipeE env own) (L2.wipe σ own) := ((E.monoC s1' p1').monoC (s2.trans s3) p2.1).wipe _
    have e0 : b wx st2 = (match assignT st2 mt wx (wipeE env own) with
      | some e => quiet ((tests G C mts e st2).bind fun b st => if b then (ev G C mk e st).bind fun k st => (ev G C mv e st).bind fun v st => .ok (some (k, v)) st else .ok none st)
      | none => .stuck) := by rw [← hb]
    have hq' := hq
    rw [e0] at hq'
    cases ea : assignT st2 mt wx (wipeE env own) with
    | none => rw [ea] at hq'; exact hq'.elim
    | some e =>
      rw [ea] at hq'
      dsimp only at hq'
      refine ⟨hide ι2 D (dicO D es ep), st2, _, wx, e, S3, E3, rx, ea, fun σ2 E2 hw => ⟨?_, ?_⟩⟩
      · rw [hw _ hown]
        exact wipe_twice _ _
      have hq2 := hq'.quiet (σ2 := σ2) (ι2 := hide ι2 D (dicO D es ep)) (H2 := H3)
      refine ⟨hide ι2 D (dicO D es ep), st2, e, S3, E2, hq2.bind fun bt st4 ι4 H4 p4 s4 S4 k4 => ?_⟩
      cases bt with
      | false =>
        have k5 := k4 ι4 H4 (CL.le_refl _) (Same.refl _) S4
        have eι := hide_eta p4
        refine ⟨⟨ι4.c, ι2.h, ι2.k⟩, st4, es, ep, ks, us, ⟨p2.1.trans p4.1, p2.2⟩, eι ▸ S4, ?_, ?_, by omega, k5⟩
        · rw [← eι]; exact (s2.trans s3).trans s4
        · rw [← eι]; exact dv.mono (s3.trans s4) p4.1
      | true =>
        refine ⟨_, st4, e, S4, E2.mono s4 p4, (post.bind (f := fun k st => (ev G C mv e st).bind fun v st => .ok (some (k, v)) st) k4 fun wy st5 ι5 H5 p5 s5 S5 k5 => ?_)⟩
        intro yv ry _
        refine ⟨ι5, st5, e, S5, (E2.mono s4 p4).mono s5 p5, (post.bind (f := fun v st => .ok (some (wy, v)) st) k5 fun wz st6 ι6 H6 p6 s6 S6 k6 => ?_)⟩
        intro zv rz _
        have p456 := (p4.trans p5).trans p6
        have eι := hide_eta p456
        have S6' : SR (gd X) (hide ⟨ι6.c, ι2.h, ι2.k⟩ D (dicO D es ep)) H6 st6 := eι ▸ S6
        have k7 : post (gd X) Y σ ι1 H1 (match keyW wy with
          | some q => loopD b (ws.drop (i + 1)) (put q wy wz ks us) st6
          | none => .stuck) _ := k6 ι6 H6 (CL.le_refl _) (Same.refl _) S6
        cases hk : keyW wy with
        | none => rw [hk] at k7; exact k7.elim
        | some q =>
          rw [hk] at k7
          dsimp only at k7
          refine ⟨ι6, msk H6 ι6, ks, us, es, wy, wz, q, msk_same, ⟨ep, S6'.hid_not.2⟩, dv.mono ((s3.trans s4).trans (s5.trans s6)) p456.1, hk, ry.mono s6 p6 _ _, rz, by omega, fun es' ep' dv' hl' => ?_⟩
          have em : msk H6 ι6 = msk (upd H6 D (dicO D es' ep')) (hide ⟨ι6.c, ι2.h, ι2.k⟩ D (dicO D es' ep')) := by rw [hide_upd (o := dicO D es ep), ← eι]
          refine ⟨⟨ι6.c, ι2.h, ι2.k⟩, st6, es', ep', _, _, ⟨p2.1.trans p456.1, p2.2⟩, S6'.hideSet, ?_, ?_, by omega, k7⟩
          · rw [← em]; exact ((s2.trans s3).trans s4).trans (s5.trans s6)
          · rw [← em]
            exact dv'.mono (Same.refl _) (List.prefix_refl _)
  · have ei : i = ws.length := by omega
    subst ei
    refine .inl ⟨w.stops H2 stands, ?_⟩
    rw [List.drop_length] at hq
    obtain ⟨hn, hD'⟩ := S2.hid_not
    have hq : post (gd X) Y σ ι1 H1 (.ok (ks, us) st2) _ := hq
    refine hq ι2 H2 p2 (s2.trans hide_same) S2.unhide (.ref D) ((dv.mono (ι' := ι2) hide_same (List.prefix_refl _)).rep (by rw [msk_out hn]; exact hD')) ⟨D, rfl, there_mono S S0 p1 s1 hD, ?_⟩
    have S3 := lk.un (hide ι2 D (dicO D es ep)) H2 st2 (by rw [← hc1]; exact p2.1) (by show ι2.k = _; rw [← p2.2.2, hk1]) S2
    have S3 : SR (gd X) (hide ⟨ι2.c, ι2.h, ι0.k⟩ D (dicO D es ep)) H2 (unlockS st2 ns) := S3
    refine S3.hideCell (by intro _ z; cases z) ?_
    refine (dv.mono (ι' := (⟨ι2.c, ι2.h, ι0.k⟩ : CL).add D) (fun b u e => ?_) (List.prefix_append _ _)).cell hD'
    obtain ⟨e1, e2⟩ := msk_some e
    rw [msk_out (ι := (⟨ι2.c, ι2.h, ι0.k⟩ : CL).add D) (fun h => e2 (mem_hide.mpr ((CL.mem_add (ι := ι2)).mp h)))]
    exact e1
theorem pe_dcW (hu : X.A.units + 200 < cLine) {kx vx tg iter : Expr} {ifs : List Expr} {scope : Scope} {own : List (Str × Nat)} {pos : Pos} {it : IT} {mt : MT} {mts : List ME} {mk mv : ME} (hc : X.calm = true) (hN : X.N.Nodup) (hi : PI X tg iter (iM X G C Y it)) (ok : BlkOk X.N X.env.scope scope own)
    (hown : ∀ i ∈ slotsT mt, i ∈ own.map (·.2))
    (hg : ∀ (s : Shared) (H : Hp) (C' : Addr) (cl : List (Str × Addr)) (fp : List Addr), PG (X.blk s H scope (compEnvC scope cl C' X.env) fp) tg (gM (gd X) mt))
    (ht : ∀ (s : Shared) (H : Hp) (C' : Addr) (cl : List (Str × Addr)) (fp : List Addr), PTs (X.blk s H scope (compEnvC scope cl C' X.env) fp) ifs (tMts X G C Y0 mts))
    (hk : ∀ (s : Shared) (H : Hp) (C' : Addr) (cl : List (Str × Addr)) (fp : List Addr), PE (X.blk s H scope (compEnvC scope cl C' X.env) fp) kx (tM X G C Y0 mk))
    (hv : ∀ (s : Shared) (H : Hp) (C' : Addr) (cl : List (Str × Addr)) (fp : List Addr), PE (X.blk s H scope (compEnvC scope cl C' X.env) fp) vx (tM X G C Y0 mv))
    (hs : ∀ x, foldedSetIterable iter X.env x = pure x) : PE X (.DictComp kx vx [⟨tg, iter, ifs, 0⟩] scope pos) (tM X G C Y (.dcomp mk mv mt it mts (own.map (·.2)))) :=
  (pe_dcE hu hc hN hi ok hg ht hk hv hs).imp fun σ H Q h => dc_imp hown h
end
end Sw
end
section
set_option maxRecDepth 100000
set_option autoImplicit false
set_option maxHeartbeats 4000000
/-! SyE: calls with keywords, calls of held defs, list(range(..)), xs[::-1], three names at once. -/
namespace Sw
open CL
open PySem PySem.Spec PyProof.Rows L2
open PySem.SeqAt (EqAt)
/-- the names of keywords -/
def kwNames : List Keyword → Option (List Str)
  | [] => some []
  | ⟨some x, _, _⟩ :: r => (kwNames r).map (x :: ·)
  | _ => none
/-- how keywords bind -/
structure KwB (fd : FuncData) (ps ks : List Str) (perm : List Nat) : Prop where
  len : perm.length = ps.length
  lt : ∀ i ∈ perm, i < ks.length
  to : ∀ us : List Value, us.length = ks.length → bindArgs fd ⟨[], ks.zip us⟩ = pure (ps.zip (perm.map fun i => us.getD i .none))
section
variable {X : Cx} {G : Cfg} {C : Str → List W → Store → Out W} {Y : WX} {k : Nat} {f : Addr} {fd : FuncData} {ps ks : List Str} {perm : List Nat} {x : Str} {p pos : Pos} {e : Expr} {es : List Expr} {ms : List ME} {np : Nat} {kws : List Keyword}
theorem pk_nilW : PK X [] (tMs X G C Y []) := ⟨fun pos pins s σ H Q I ⟨ι, st, env, S, Ee, h⟩ => by
  simp only [evs] at h
  exact wpAny_evalAll_nil ⟨[], H, I, .nil, h ι H (CL.le_refl _) (Same.refl _) S [] Reps.nil⟩⟩
theorem pk_consW {nm : Option Str} {m : ME} {kpos : Pos} (ha : PE X e (tM X G C Y m)) (hr : PK X kws (tMs X G C Y ms)) : PK X (⟨nm, e, kpos⟩ :: kws) (tMs X G C Y (m :: ms)) :=
  ⟨fun pos pins s σ H Q I ⟨ι, st, env, S, Ee, h⟩ => by
    simp only [evs] at h
    refine (pk_cons (te := tM X G C Y m) (t := tMs X G C Y ms) ha hr).run pos pins s σ H Q I ⟨ι, st, env, S, Ee, h.bind fun w st1 ι1 H1 p1 s1 S1 h1 v r _ => ⟨ι1, st1, env, S1, Ee.mono s1 p1, h1.bind fun ws st2 ι2 H2 p2 s2 S2 h2 vs rs => ?_⟩⟩
    exact h2 ι2 H2 (CL.le_refl _) (Same.refl _) S2 (v :: vs) (Reps.cons (r.mono s2 p2 _ _) rs)⟩
theorem vals_get {vs : List V} {us : List Value} (r : Vals vs us) {i : Nat} (h : i < vs.length) : RelV (vs.getD i .non) (us.getD i .none) := by
  induction r generalizing i with
  | nil => exact absurd h (Nat.not_lt_zero _)
  | cons h1 h2 ih =>
    cases i with
    | zero => exact h1
    | succ i => exact ih (by simpa using h)
theorem vals_perm {vs : List V} {us : List Value} (r : Vals vs us) : ∀ {perm : List Nat}, (∀ i ∈ perm, i < vs.length) → Vals (perm.map fun i => vs.getD i .non) (perm.map fun i => us.getD i .none)
  | [], _ => .nil
  | i :: perm, h => .cons (vals_get r (h i List.mem_cons_self)) (vals_perm r fun j hj => h j (List.mem_cons_of_mem _ hj))
theorem reps_get {g : Gd} {ι : CL} {H : Hp} : ∀ {ws : List W} {vs : List V} {i : Nat}, Reps g ι H ws vs → i < ws.length → Rep g ι H (ws.getD i .non) (vs.getD i .non)
  | [], _, i, _, h => absurd h (Nat.not_lt_zero _)
  | w :: ws, _, 0, ⟨v, r, rfl, h1, h2⟩, _ => h1
  | w :: ws, _, i + 1, ⟨v, r, rfl, h1, h2⟩, h => reps_get (i := i) h2 (by simpa using h)
theorem reps_perm {g : Gd} {ι : CL} {H : Hp} {ws : List W} {vs : List V} (r : Reps g ι H ws vs) : ∀ {perm : List Nat}, (∀ i ∈ perm, i < ws.length) → Reps g ι H (perm.map fun i => ws.getD i .non) (perm.map fun i => vs.getD i .non)
  | [], _ => Reps.nil
  | i :: perm, h => Reps.cons (reps_get r (h i List.mem_cons_self)) (reps_perm r fun j hj => h j (List.mem_cons_of_mem _ hj))
theorem run_fnK {sp : Sp} {E : XK} {pins : List (Addr × Obj)} {σ : L2.St} {H : Hp} {s : Shared} {Q : VK} {us : List Value} {vs : List V} (F : FnG X.prog X.w X.K X.mg X.base k f fd ps sp) (hr : Room k X.A) (hgd : X.A.guards = some []) (hb : KwB fd ps ks perm) (hx : PassesAt (L2.CX X.prog X.w) X σ E)
    (I : Inv X pins σ H s) (r : Vals vs us) (hl : us.length = ks.length) (h : sp (perm.map fun i => vs.getD i .non) H Q E) : wpAny (model X.prog X.w) X.A (call (.ref f) [] (ks.zip us)) (EP X pins σ Q) X.xe s := by
  have hl2 : vs.length = ks.length := by rw [r.length]; exact hl
  refine wpAny_call (codeAny_mono (F.run X.A X.stack s H ⟨[], ks.zip us⟩ (perm.map fun i => us.getD i .none) _ Q E hr hgd I.env0 (.of_eq (hb.to us hl)) (vals_perm r fun i hi => by rw [hl2]; exact hb.lt i hi) h) fun r s' hq => ?_)
  cases r with
  | error e => exact hx pins H s e s' I hq
  | ok fl =>
    cases fl with
    | ret u => exact I.after hq
    | next => exact False.elim hq
    | brk => exact False.elim hq
    | cont => exact False.elim hq
theorem kwNames_plain {env : Env} : ∀ {kws : List Keyword} {ks : List Str}, kwNames kws = some ks → (backToKw pos (keywordEach kws env)).all (·.1.isSome) = true ∧ (backToKw pos (keywordEach kws env)).filterMap (·.1) = ks ∧ (backToKw pos (keywordEach kws env)).any (·.1.isNone) = false ∧ ks.length = kws.length
  | [], ks, h => by cases h; exact ⟨rfl, rfl, rfl, rfl⟩
  | ⟨some x, v, p⟩ :: r, ks, h => by
    obtain ⟨ks', h1, rfl⟩ := Option.map_eq_some_iff.mp h
    obtain ⟨a, b, c, d⟩ := kwNames_plain (env := env) h1
    refine ⟨?_, ?_, ?_, by rw [List.length_cons, List.length_cons, d]⟩
    · show (true && _) = true
      rw [Bool.true_and]; exact a
    · show x :: _ = x :: ks'
      rw [← b]; rfl
    · show (false || _) = false
      rw [Bool.false_or]; exact c
  | ⟨none, v, p⟩ :: r, ks, h => by cases h
theorem pe_callkW (F : FnG X.prog X.w X.K X.mg X.base k f fd ps (spD (gd X) (C x) np)) (hr : Room k X.A) (hgd : X.A.guards = some []) (hg : Gl X x) (hm : X.mg x = some (.ref f)) (hk : PySem.W.keepIn X.K (.ref f) = true) (hb : KwB fd ps ks perm) (hx : ∀ σ, PassesAt (L2.CX X.prog X.w) X σ (WE Y σ))
    (hn : ps.length = np) (ha : PK X kws (tMs X G C Y ms)) (hks : kwNames kws = some ks) (hml : ms.length = kws.length) (hdb : (x == ("__debug__" : Str)) = false) : PE X (.Call (.Name x p) [] kws pos) (tM X G C Y (.callk x ms perm)) := by
  refine ⟨fun pins s σ H Q I h => ?_⟩
  obtain ⟨a1, a2, a3, a4⟩ := kwNames_plain (pos := pos) (env := X.env) hks
  refine wpAny_Call_Name_kw (ld_glob I hg hm ?_ hdb)
  refine PySem.W.callWith_KW0 (h₀ := X.base) I.ok.mod.kin hk a1 (thn (ha.run pos pins s σ H (fun vs H1 => vs.length = ks.length ∧ spD (gd X) (C x) np (perm.map fun i => vs.getD i .non) H1 Q (WE Y σ)) I ?_) fun us s1 ⟨vs, H1, I1, r, hl, q⟩ => ⟨I1.kIn, ?_⟩) (by show (false || _) = false; rw [a3]; rfl)
  · obtain ⟨ι, st, env, S, Ee, h⟩ := h
    simp only [ev] at h
    refine tMs_of S Ee h fun ws st1 ι1 H1 hl p1 s1 S1 h1 vs rs => ⟨by rw [rs.len, hl, hml, a4], by rw [List.length_map, hb.len, hn], ι1, st1, _, S1, reps_perm rs fun i hi => by rw [hl, hml, ← a4]; exact hb.lt i hi, ?_⟩
    exact (post.we h1).imp fun w st2 ι2 H2 _ _ _ k v r _ => k v r fun z => nomatch z
  · rw [a2]
    exact run_fnK F hr hgd hb (hx σ) I1 r (by rw [← r.length]; exact hl) q
/-- what is known of the defs that are held -/
def Held (X : Cx) (G : Cfg) (C : Str → List W → Store → Out W) (k : Nat) : Prop := ∀ x y, G.glob x = some (.fn y) → ∃ (np : Nat) (f : Addr) (fd : FuncData) (ps : List Str), X.mg x = some (.ref f) ∧ PySem.W.keepIn X.K (.ref f) = true ∧ Binds X.K fd ps [] ∧ FnG X.prog X.w X.K X.mg X.base k f fd ps (spD (gd X) (C x) np) ∧ ∀ ws st, ws.length ≠ np → C x ws st = .stuck
theorem pe_callvW {i : Nat} (D : Held X G C k) (hr : Room k X.A) (hgd : X.A.guards = some []) (hx : ∀ σ, PassesAt (L2.CX X.prog X.w) X σ (WE Y σ)) (hN : X.N[i]? = some x) (hvis : Vis X.env.scope x) (hdb : (x == ("__debug__" : Str)) = false) (hcd : (x == ("__classdict__" : Str)) = false) (ha : PA X (e :: es) (tMs X G C Y ms))
    (he : starEach (e :: es) X.env = (false, eval e X.env) :: starEach es X.env) (hpl : (backTo pos (starEach es X.env)).any (·.1) = false) : PE X (.Call (.Name x p) (e :: es) [] pos) (tM X G C Y (.callv i ms)) := by
  refine ⟨fun pins s σ H Q I ⟨ι, st, env, S, Ee, h⟩ => ?_⟩
  simp only [ev] at h
  obtain ⟨g, y, f, hg, hσ, hm, hp⟩ : ∃ g y f, G.glob g = some (.fn y) ∧ σ[i]? = some (some (.ref f)) ∧ X.mg g = some (.ref f) ∧ post (gd X) Y σ ι H ((evs G C ms env st).bind fun ws st => C g ws st) (KV (gd X) false H Q) := by
    split at h
    · rename_i g h2
      split at h
      · rename_i y hg
        have es' : (env[i]? : Option (Option W)) = some (some (.fn g)) := by
          rw [List.getD_eq_getElem?_getD] at h2
          cases q : env[i]? with
          | none => rw [q] at h2; cases h2
          | some z => rw [q] at h2; exact congrArg some h2
        obtain ⟨v, h3, f, rfl, h4⟩ := Ee.get i _ es'
        exact ⟨g, y, f, hg, h3, h4, h⟩
      · exact h.elim
    · exact h.elim
  obtain ⟨np, f', fd, ps, q1, q2, q3, q4, q5⟩ := D g y hg
  rw [hm] at q1
  cases q1
  refine wpAny_Call_Name_kw (thn ((pe_var hN hvis hdb hcd).run pins s σ H (fun v H1 => H1 = H ∧ v = .ref f) I ⟨.ref f, hσ, rfl, rfl⟩) fun u s1 ⟨v, H1, I1, r1, e1, e2⟩ => ?_)
  subst e1 e2
  cases r1
  refine PySem.W.callWith_K (h₀ := X.base) I.ok.mod.kin q2 (thn (ha.run pos pins s1 σ H1 (fun vs H2 => spD (gd X) (C g) np vs H2 Q (WE Y σ)) I1 ?_) fun us s2 ⟨vs, H2, I2, r, q⟩ => ⟨I2.kIn, ?_⟩) he hpl
  · refine tMs_of S Ee hp fun ws st1 ι1 H2 hl p1 s1 S1 h1 vs rs => ?_
    by_cases hw : ws.length = np
    · exact ⟨by rw [rs.len, hw], ι1, st1, ws, S1, rs, (post.we h1).imp fun w st2 ι2 H3 _ _ _ k v r _ => k v r fun z => nomatch z⟩
    · rw [q5 ws st1 hw] at h1; exact h1.elim
  · exact run_fnG q4 hr hgd q3 (hx σ) I2 r q
/-! ### list(range(..)), xs[::-1], three names at once -/
theorem reps_rg {g : Gd} {ι : CL} {H : Hp} {a b : Int} : Reps g ι H (rngL a b) (rgV a b) := by
  have : ∀ l : List Nat, Reps g ι H (l.map fun (i : Nat) => W.int (a + i)) (l.map fun (i : Nat) => V.int (a + i)) := by
    intro l
    induction l with
    | nil => exact Reps.nil
    | cons i l ih => exact Reps.cons rfl ih
  exact this _
theorem pe_listRg1W {a : Expr} {m : ME} {p2 pos2 : Pos} (hc : X.calm = true) (hg : Gl X "list") (hm : X.mg "list" = none) (hg2 : Gl X "range") (hm2 : X.mg "range" = none) (ha : PE X a (tM X G C Y m)) (na : starEach [a] X.env = (false, eval a X.env) :: starEach [] X.env) :
    PE X (.Call (.Name "list" p) [.Call (.Name "range" p2) [a] [] pos2] [] pos) (tM X G C Y (.listI (.rng [m]))) :=
  (pe_listRg hc hg hm (prg_1 hg2 hm2 ha na)).imp fun σ H Q ⟨ι, st, env, S, Ee, h⟩ => by
    simp only [ev, evI, evs, Out.bind_assoc, Out.bind_ok] at h
    refine ⟨ι, st, env, S, Ee, h.bind fun x st1 ι1 H1 p1 s1 S1 h1 v r1 _ => ?_⟩
    cases x with
    | int j =>
      have r1 : v = .int j := r1
      subst r1
      dsimp only at h1
      split at h1
      · rename_i ok
        simp only [Bool.and_eq_true, decide_eq_true_eq, rngOk] at ok
        obtain ⟨⟨o1, o2⟩, o3⟩ := ok
        refine ⟨j, rfl, ⟨by decide, by decide, o1, o2, o3⟩, ?_⟩
        exact (after_of (fr := true) (fr' := true) S S1 p1 s1 (fun z => z) h1).lst S1 reps_rg
      · exact h1.elim
    | _ => exact (show False from h1).elim
theorem pe_listRg2W {a b : Expr} {m m' : ME} {p2 pos2 : Pos} (hc : X.calm = true) (hg : Gl X "list") (hm : X.mg "list" = none) (hg2 : Gl X "range") (hm2 : X.mg "range" = none) (ha : PE X a (tM X G C Y m)) (hb : PE X b (tM X G C Y m'))
    (na : starEach [a, b] X.env = (false, eval a X.env) :: starEach [b] X.env) (nb : starEach [b] X.env = (false, eval b X.env) :: starEach [] X.env) (hp : (backTo pos2 (starEach [b] X.env)).any (·.1) = false) :
    PE X (.Call (.Name "list" p) [.Call (.Name "range" p2) [a, b] [] pos2] [] pos) (tM X G C Y (.listI (.rng [m, m']))) :=
  (pe_listRg hc hg hm (prg_2 hg2 hm2 ha hb na nb hp)).imp fun σ H Q ⟨ι, st, env, S, Ee, h⟩ => by
    simp only [ev, evI, evs, Out.bind_assoc, Out.bind_ok] at h
    refine ⟨ι, st, env, S, Ee, h.bind fun x st1 ι1 H1 p1 s1 S1 h1 v r1 _ => ⟨ι1, st1, env, S1, Ee.mono s1 p1, h1.bind fun y st2 ι2 H2 p2 s2 S2 h2 u r2 _ => ?_⟩⟩
    cases x with
    | int i =>
      cases y with
      | int j =>
        have r1 : v = .int i := r1
        have r2 : u = .int j := r2
        subst r1 r2
        dsimp only at h2
        split at h2
        · rename_i ok
          simp only [Bool.and_eq_true, decide_eq_true_eq, rngOk] at ok
          obtain ⟨⟨⟨o1, o2⟩, o3, o4⟩, o5⟩ := ok
          refine ⟨i, j, rfl, rfl, ⟨o1, o2, o3, o4, o5⟩, ?_⟩
          exact (after_of (fr := true) (fr' := true) S S2 (p1.trans p2) (s1.trans s2) (fun z => z) h2).lst S2 reps_rg
        · exact h2.elim
      | _ => exact (show False from h2).elim
    | _ => exact (show False from h2).elim
theorem pe_revW {a : Expr} {m : ME} {kk : Nat} {p1 p2 p3 : Pos} (ha : PE X a (tM X G C Y m)) : PE X (.Subscript a (.Slice none none (some (.UnaryOp .USub (.Constant (.int 1) kk p1) p2)) p3) pos) (tM X G C Y (.rev m)) :=
  (pe_revL ha).imp fun σ H Q ⟨ι, st, env, S, Ee, h⟩ => by
    simp only [ev] at h
    refine ⟨ι, st, env, S, Ee, h.bind fun x st1 ι1 H1 p1 s1 S1 h1 v r1 _ => ?_⟩
    unfold revW at h1
    split at h1
    · rename_i xs e1
      obtain ⟨b, vs, rfl, h2, r2⟩ := see_lst S1 r1 e1
      exact ⟨b, vs, rfl, h2.sq, (after_of (fr := true) (fr' := true) S S1 p1 s1 (fun z => z) h1).lst S1 r2.rev⟩
    · exact h1.elim
theorem reps3 {g : Gd} {ι : CL} {H : Hp} {x y z : W} {vs : List V} (r : Reps g ι H [x, y, z] vs) : ∃ v u w, vs = [v, u, w] ∧ Rep g ι H x v ∧ Rep g ι H y u ∧ Rep g ι H z w := by
  obtain ⟨v, r1, rfl, h1, r2⟩ := r
  obtain ⟨u, w, rfl, h2, h3⟩ := reps2 r2
  exact ⟨v, u, w, rfl, h1, h2, h3⟩
theorem ps_par3W {E : XK} {i j l : Nat} {x y z : Str} {a b c : Expr} {ma mb mc : ME} {px py pz pt : Pos} {kt k2 : Nat} {pt2 : Pos} (hc : X.calm = true) (hN : X.N.Nodup) (hi : X.N[i]? = some x) (hj : X.N[j]? = some y) (hl : X.N[l]? = some z) (hij : i ≠ j) (hil : i ≠ l) (hjl : j ≠ l)
    (hx : X.env.scope.names.lookup x = some .local) (hy : X.env.scope.names.lookup y = some .local) (hz : X.env.scope.names.lookup z = some .local) (ha : PA X [a, b, c] (tMs X G C (YE E) [ma, mb, mc]))
    (hw : swappedStores [.Tuple [.Name x px, .Name y py, .Name z pz] kt pt] (.Tuple [a, b, c] k2 pt2) X.env = pure (some [x, y, z]))
    (hs : swapsWithSole [.Tuple [.Name x px, .Name y py, .Name z pz] kt pt] (.Tuple [a, b, c] k2 pt2) pos.line X.env = pure false) :
    PS X (.Assign [.Tuple [.Name x px, .Name y py, .Name z pz] kt pt] (.Tuple [a, b, c] k2 pt2) pos) (sM X G C E (.par [i, j, l] [ma, mb, mc])) :=
  (ps_par3 hc hN hi hj hl hij hil hjl hx hy hz ha hw hs).imp fun D σ H ⟨ι, st, env, S, Ee, h⟩ => by
    simp only [exS] at h
    refine tMs_of S Ee h fun ws st1 ι1 H1 hn p1 s1 S1 h1 vs rs => ?_
    match ws, hn with
    | [x, y, z], _ =>
      obtain ⟨v, u, w, rfl, r1, r2, r3⟩ := reps3 rs
      refine ⟨v, u, w, rfl, ?_⟩
      have E1 := Ee.mono s1 p1
      simp only [List.map_cons, List.map_nil, assignTs, assignT] at h1
      by_cases hi' : i < env.length
      · rw [if_pos hi'] at h1
        simp only [Option.bind_some] at h1
        by_cases hj' : j < (env.set i (some x)).length
        · rw [if_pos hj'] at h1
          simp only [Option.bind_some] at h1
          by_cases hl' : l < ((env.set i (some x)).set j (some y)).length
          · rw [if_pos hl'] at h1
            exact h1 ι1 H1 (CL.le_refl _) (Same.refl _) S1 _ (((E1.set hi' r1).set hj' r2).set hl' r3)
          · rw [if_neg hl'] at h1; exact h1.elim
        · rw [if_neg hj'] at h1; exact h1.elim
      · rw [if_neg hi'] at h1; exact h1.elim
end
end Sw
end
section
set_option maxRecDepth 100000
set_option autoImplicit false
set_option maxHeartbeats 2000000
/-! SxA: from Python's syntax to the mini language: expressions. -/
namespace Sw
open CL
open PySem PySem.Spec PyProof.Rows L2
open PySem.SeqAt (EqAt)

/-- names in reach: the slots' names, the scope -/
structure Sc where
  N : List Str
  sc : Scope
  own : Str → Bool
def idx (N : List Str) (x : Str) : Option Nat := if N[N.findIdx (· == x)]? == some x then some (N.findIdx (· == x)) else none
def visB (sc : Scope) (x : Str) : Bool := sc.names.lookup x == some .local || sc.names.lookup x == some .cell || sc.names.lookup x == some .free
def glB (sc : Scope) (x : Str) : Bool := sc.names.lookup x == some .globalImplicit
def odd (x : Str) : Bool := x == ("__debug__" : Str) || x == ("__classdict__" : Str) || x == ("__name__" : Str)
def plainE : Expr → Bool
  | .Set _ _ _ => false
  | .Starred _ _ => false
  | .Slice _ _ _ _ => false
  | _ => true
def noCall : Expr → Bool
  | .Call _ _ _ _ => false
  | _ => true
def bopOf : Operator → Option Bop
  | .Add => some .add | .Sub => some .sub | .Mult => some .mul | .FloorDiv => some .fdiv | .Mod => some .mod | .Pow => some .pow | .BitXor => some .xor | _ => none
def copO : CmpOp → Option Cop
  | .Eq => some .eq | .NotEq => some .ne | .Lt => some .lt | .LtE => some .le | .Gt => some .gt | .GtE => some .ge | .Is => some .is | .IsNot => some .isnot | .In => some .inn | .NotIn => some .notin
/-- built-in functions -/
def biF (x : Str) (n : Nat) : Option (BI × String) :=
  if x == ("len" : Str) && n == 1 then some (.len, "len") else
  if x == ("sum" : Str) && n == 1 then some (.sum, "sum") else
  if x == ("max" : Str) && n == 2 then some (.max, "max") else
  if x == ("min" : Str) && n == 2 then some (.min, "min") else
  if x == ("sorted" : Str) && n == 1 then some (.sorted, "sorted") else
  if x == ("abs" : Str) && n == 1 then some (.abs, "abs") else
  if x == ("isinstance" : Str) && n == 2 then some (.isinst, "isinstance") else
  if x == ("all" : Str) && n == 1 then some (.all, "all") else
  if x == ("any" : Str) && n == 1 then some (.any, "any") else
  if x == ("repr" : Str) && n == 1 then some (.repr, "repr") else none
/-- built-in types, called -/
def biT (x : Str) (n : Nat) : Option (BI × String) :=
  if x == ("list" : Str) && n == 1 then some (.list, "list") else
  if x == ("tuple" : Str) && n == 1 then some (.tuple, "tuple") else
  if x == ("int" : Str) && n == 1 then some (.int, "int") else
  if x == ("str" : Str) && n == 1 then some (.str, "str") else none
/-- built-in types as values -/
def tyN (x : Str) : Option String :=
  if x == ("int" : Str) then some "int" else if x == ("bool" : Str) then some "bool" else if x == ("str" : Str) then some "str" else if x == ("tuple" : Str) then some "tuple" else if x == ("list" : Str) then some "list" else if x == ("dict" : Str) then some "dict" else none
def mtO (x : Str) (n : Nat) : Option (MI × String) :=
  if x == ("append" : Str) && n == 1 then some (.append, "list.append") else
  if x == ("pop" : Str) && n == 0 then some (.pop, "list.pop") else
  if x == ("pop" : Str) && n == 1 then some (.popAt, "list.pop") else
  if x == ("get" : Str) && n == 1 then some (.get, "dict.get") else
  if x == ("get" : Str) && n == 2 then some (.get2, "dict.get") else
  if x == ("bit_length" : Str) && n == 0 then some (.bitlen, "int.bit_length") else none
/-- the names of built-ins -/
def biNames : List Str := ["len", "sum", "max", "min", "sorted", "abs", "isinstance", "all", "any", "repr", "list", "tuple", "int", "str", "bool", "dict", "range", "zip", "enumerate", "super"]
/-- what the compiler knows of the program: the defs' numbers of parameters, the names that stand for values -/
structure Sg where
  np : Str → Option Nat
  /-- the parameters' names -/
  pn : Str → List Str
  glob : Str → Option W
  cls : Str → Bool
  /-- the keywords of a call: which of them each parameter takes -/
  kw : Str → List Str → Option (List Nat)
  /-- where new lists and dicts are cells -/
  bx : Nat → Nat → Bool
def Sg.box (G : Sg) (p : Pos) : Bool := G.bx p.line p.col
def bxE (b : Bool) (m : ME) : ME := if b && fresh m then .box m else m
section
variable (G : Sg)
mutual
def cT (Γ : Sc) : Nat → Expr → Option MT
  | 0, _ => none
  | n + 1, e => match e with
    | .Name x _ => if (Γ.sc.names.lookup x == some .local) || ((Γ.sc.names.lookup x == some .cell) && Γ.own x) then (idx Γ.N x).map .nm else none
    | .Tuple es _ _ => (cTs Γ n es).map .tp
    | _ => none
def cTs (Γ : Sc) : Nat → List Expr → Option (List MT)
  | _, [] => some []
  | 0, _ => none
  | n + 1, e :: es => match cT Γ n e, cTs Γ n es with
    | some t, some ts => some (t :: ts)
    | _, _ => none
end
/-- the slots of a block's own names -/
def ownOf (N : List Str) (scope : Scope) : List (Str × Nat) := scope.names.filterMap fun y => match y.2 with
  | .local => (idx N y.1).map fun i => (y.1, i)
  | .cell => (idx N y.1).map fun i => (y.1, i)
  | _ => none
mutual
def cE : Nat → Sc → Expr → Option ME
  | 0, _, _ => none
  | n + 1, Γ, e => match e with
    | .Constant c _ _ => match c with
      | .none => some (.k .non)
      | .bool b => some (.k (.bl b))
      | .int i => some (.k (.int i))
      | .str s => some (.k (.str s))
      | _ => none
    | .Name x _ => if odd x then none else if visB Γ.sc x then (idx Γ.N x).map .v else if glB Γ.sc x then (if biNames.contains x then (tyN x).map fun t => .k (.ty t) else match G.glob x with | some _ => some (.g x) | none => none) else none
    | .BinOp a op b _ => match bopOf op, cE n Γ a, cE n Γ b with | some o, some x, some y => some (.bin o x y) | _, _, _ => none
    | .UnaryOp .USub a _ => (cE n Γ a).map .neg
    | .UnaryOp .Not a _ => (cE n Γ a).map .not
    | .BoolOp _ [a] _ => cE n Γ a
    | .BoolOp .And (a :: b :: r) p => match cE n Γ a, cE n Γ (.BoolOp .And (b :: r) p) with | some x, some y => some (.and x y) | _, _ => none
    | .BoolOp .Or (a :: b :: r) p => match cE n Γ a, cE n Γ (.BoolOp .Or (b :: r) p) with | some x, some y => some (.or x y) | _, _ => none
    | .Compare a [op] [b] _ => match copO op, cE n Γ a, cE n Γ b with | some o, some x, some y => some (.cmp o x y) | _, _, _ => none
    | .Compare a [op, op'] [b, c] _ => match copO op, copO op', cE n Γ a, cE n Γ b, cE n Γ c with | some o, some o', some x, some y, some z => some (.chn o o' x y z) | _, _, _, _, _ => none
    | .IfExp c a b _ => match cE n Γ c, cE n Γ a, cE n Γ b with | some x, some y, some z => some (.ife x y z) | _, _, _ => none
    | .Subscript a (.Slice none none (some (.UnaryOp .USub (.Constant (.int 1) _ _) _)) _) pos => (cE n Γ a).map fun m => bxE (G.box pos) (.rev m)
    | .Subscript a (.Slice lo hi none _) _ => match cE n Γ a, cP n Γ lo, cP n Γ hi with | some x, some y, some z => some (.slc x y z) | _, _, _ => none
    | .Subscript a b _ => match cE n Γ a, cE n Γ b with | some x, some y => some (.idx x y) | _, _ => none
    | .Tuple es _ _ => (cEs n Γ es).bind fun ms => if ms.length ≤ 1000 then some (.tup ms) else none
    | .List es pos => (cEs n Γ es).bind fun ms => if ms.length ≤ 1000 then some (bxE (G.box pos) (.lst ms)) else none
    | .Dict [] [] pos => some (bxE (G.box pos) (.dic []))
    | .Dict keys values pos => if keys.all (·.isSome) && keys.length == values.length && !keys.isEmpty && decide (keys.length ≤ 15) then (cPs n Γ keys values).map fun ms => bxE (G.box pos) (.dic ms) else none
    | .Call (.Name x _) [] (kw :: kws) _ => if odd x || !glB Γ.sc x || biNames.contains x then none else match G.np x, kwNames (kw :: kws), cEs n Γ ((kw :: kws).map (·.value)) with
        | some _, some ks, some ms => (G.kw x ks).map fun perm => .callk x ms perm
        | _, _, _ => none
    | .Call (.Name x _) [.Call (.Name y p2) [a] [] pos2] [] pos => if x == ("list" : Str) && y == ("range" : Str) && glB Γ.sc x && glB Γ.sc y then (cE n Γ a).map fun m => bxE (G.box pos) (.listI (.rng [m]))
      else cC n Γ x (.Call (.Name y p2) [a] [] pos2) [] pos
    | .Call (.Name x _) [.Call (.Name y p2) [a, b] [] pos2] [] pos => if x == ("list" : Str) && y == ("range" : Str) && glB Γ.sc x && glB Γ.sc y then (match cE n Γ a, cE n Γ b with | some m, some m' => some (bxE (G.box pos) (.listI (.rng [m, m']))) | _, _ => none)
      else cC n Γ x (.Call (.Name y p2) [a, b] [] pos2) [] pos
    | .Call (.Name x _) (a :: es) [] pos => cC n Γ x a es pos
    | .Call (.Attribute o name apos) args [] cpos => if apos.endLine == cpos.line && noCall o && decide (args.length < 20) then
        match mtO name args.length, cE n Γ o, cEs n Γ args with | some (m, _), some x, some ms => some (.mt m x ms) | _, _, _ => none else none
    | .Attribute a name _ => if name == ("value" : Str) && noCall a then (cE n Γ a).map fun m => .att m "value" else none
    | .ListComp elt [⟨tg, iter, ifs, 0⟩] scope pos =>
        let own := ownOf Γ.N scope
        let Γ' : Sc := ⟨Γ.N, relS scope Γ.sc, fun x => scope.names.lookup x == some .cell⟩
        if blkC Γ.N Γ.sc scope own && decide (ifs.length ≤ 1) then match cT Γ' n tg, cI n Γ iter, cEs n Γ' ifs, cE n Γ' elt with
          | some t, some it, some ms, some m => if (slotsT t).all fun i => (own.map (·.2)).contains i then some (bxE (G.box pos) (.comp m t it ms (own.map (·.2)))) else none
          | _, _, _, _ => none
        else none
    | .DictComp kx vx [⟨tg, iter, ifs, 0⟩] scope pos =>
        let own := ownOf Γ.N scope
        let Γ' : Sc := ⟨Γ.N, relS scope Γ.sc, fun x => scope.names.lookup x == some .cell⟩
        if blkC Γ.N Γ.sc scope own && decide (ifs.length ≤ 1) then match cT Γ' n tg, cI n Γ iter, cEs n Γ' ifs, cE n Γ' kx, cE n Γ' vx with
          | some t, some it, some ms, some m1, some m2 => if (slotsT t).all fun i => (own.map (·.2)).contains i then some (bxE (G.box pos) (.dcomp m1 m2 t it ms (own.map (·.2)))) else none
          | _, _, _, _, _ => none
        else none
    | _ => none
/-- a call of a name -/
def cC : Nat → Sc → Str → Expr → List Expr → Pos → Option ME
  | 0, _, _, _, _, _ => none
  | n + 1, Γ, x, a, es, pos => if odd x then none else if visB Γ.sc x then match idx Γ.N x, cEs n Γ (a :: es) with
        | some i, some ms => some (.callv i ms)
        | _, _ => none
      else if !glB Γ.sc x then none else (cEs n Γ (a :: es)).bind fun ms =>
        if biNames.contains x then match biF x ms.length with
          | some (b, _) => some (bxE (G.box pos) (.bi b ms))
          | none => (biT x ms.length).map fun b => bxE (G.box pos) (.bi b.1 ms)
        else match G.np x with | some np => if ms.length == np then some (.call x ms) else none | none => none
def cPs : Nat → Sc → List (Option Expr) → List Expr → Option (List ME)
  | _, _, [], [] => some []
  | n + 1, Γ, some k :: ks, v :: vs => match cE n Γ k, cE n Γ v, cPs n Γ ks vs with | some m1, some m2, some ms => some (m1 :: m2 :: ms) | _, _, _ => none
  | _, _, _, _ => none
def cP : Nat → Sc → Option Expr → Option ME
  | _, _, none => some (.k .non)
  | 0, _, _ => none
  | n + 1, Γ, some e => match cE n Γ e with | some (.k .non) => none | r => r
def cEs : Nat → Sc → List Expr → Option (List ME)
  | _, _, [] => some []
  | 0, _, _ => none
  | n + 1, Γ, e :: es => match cE n Γ e, cEs n Γ es with | some m, some ms => some (m :: ms) | _, _ => none
def cI : Nat → Sc → Expr → Option IT
  | 0, _, _ => none
  | n + 1, Γ, e => match e with
    | .Call (.Name x _) [a] [] _ => if x == ("range" : Str) && glB Γ.sc x then (cE n Γ a).map fun m => .rng [m] else (cE n Γ e).map .of
    | .Call (.Name x _) [a, b] [] _ => if x == ("range" : Str) && glB Γ.sc x then (match cE n Γ a, cE n Γ b with | some x, some y => some (.rng [x, y]) | _, _ => none) else (cE n Γ e).map .of
    | e => (cE n Γ e).map .of
end
end
/-- what is known in a def's body, or in a block of it -/
structure Amb (X : Cx) (Z : Sg) (G : Cfg) (C : Str → List W → Store → Out W) (Y : WX) (k : Nat) : Prop where
  calm : X.calm = true
  nd : X.N.Nodup
  room : Room k X.A
  guard : X.A.guards = some []
  sys : ∃ o, X.base.get? sysModules = some o ∧ o.cls = .type "dict"
  pas : ∀ σ, PassesAt (L2.CX X.prog X.w) X σ (WE Y σ)
  defs : ∀ x np, Z.np x = some np → ∃ f fd ps, X.mg x = some (.ref f) ∧ PySem.W.keepIn X.K (.ref f) = true ∧ Binds X.K fd ps [] ∧ FnG X.prog X.w X.K X.mg X.base k f fd ps (spD (gd X) (C x) np) ∧ ps.length = np ∧ ∀ ks perm, Z.kw x ks = some perm → KwB fd ps ks perm
  ar : ∀ x np ws st, Z.np x = some np → ws.length ≠ np → C x ws st = .stuck
  fnv : ∀ x y, G.glob x = some (.fn y) → ∃ np, Z.np x = some np
  glob : ∀ x w, Z.glob x = some w → G.glob x = some w ∧ ∃ v u, X.mg x = some u ∧ RelV v u ∧ ∀ ι H, Rep (gd X) ι H w v
  bis : ∀ x ∈ biNames, X.mg x = none
  ext : ExT X G.sub
end Sw
end
section
set_option maxRecDepth 100000
set_option autoImplicit false
set_option maxHeartbeats 4000000
/-! SxB: what is compiled is meant. -/
namespace Sw
open CL
open PySem PySem.Spec PyProof.Rows L2
open PySem.SeqAt (EqAt)
structure Tie (Γ : Sc) (X : Cx) : Prop where
  N : X.N = Γ.N
  sc : X.env.scope = Γ.sc
  own : ∀ x, Γ.own x = true → X.fn x = true
theorem idx_of {N : List Str} {x : Str} {i : Nat} (h : idx N x = some i) : N[i]? = some x := by
  unfold idx at h
  split at h
  · rename_i e
    cases h
    exact eq_of_beq e
  · cases h
theorem visB_of {sc : Scope} {x : Str} (h : visB sc x = true) : Vis sc x := by
  unfold visB at h
  simp only [Bool.or_eq_true, beq_iff_eq] at h
  rcases h with (h | h) | h
  · exact .inl h
  · exact .inr (.inl h)
  · exact .inr (.inr h)
theorem glB_of {Γ : Sc} {X : Cx} (T : Tie Γ X) {x : Str} (h : glB Γ.sc x = true) : Gl X x := by
  unfold glB at h
  show X.env.scope.names.lookup x = _
  rw [T.sc]
  exact eq_of_beq h
theorem odd_of {x : Str} (h : odd x = false) : (x == ("__debug__" : Str)) = false ∧ (x == ("__classdict__" : Str)) = false ∧ x ≠ "__name__" := by
  unfold odd at h
  simp only [Bool.or_eq_false_iff] at h
  exact ⟨h.1.1, h.1.2, fun z => by have := h.2; rw [z] at this; simp at this⟩
theorem bop_of {op : Operator} {o : Bop} (h : bopOf op = some o) : op = opOf o := by cases op <;> cases h <;> rfl
theorem cop_of {op : CmpOp} {o : Cop} (h : copO op = some o) : op = copOf o := by cases op <;> cases h <;> rfl
/-! ### plain expressions -/
theorem star_plain {e : Expr} {es : List Expr} {env : Env} (h : plainE e = true) : starEach (e :: es) env = (false, eval e env) :: starEach es env := by
  cases e <;> first | rfl | cases h
theorem marks_plain {e : Expr} {op : CmpOp} (h : plainE e = true) : behindInMarks op e = false := by
  cases e <;> first | rfl | cases h
theorem fold_plain {e : Expr} {env : Env} (h : plainE e = true) : ∀ x, foldedSetIterable e env x = pure x := by
  cases e <;> first | exact fun _ => rfl | cases h
theorem ix_plain {e : Expr} (h : plainE e = true) : PlainIx e := by
  cases e <;> first | exact fun _ _ => rfl | cases h
theorem stars_plain {env : Env} {pos : Pos} : ∀ {es : List Expr}, (∀ e ∈ es, plainE e = true) → (backTo pos (starEach es env)).any (·.1) = false ∧ (backTo pos (starEach es env)).all (fun x => !x.1) = true
  | [], _ => ⟨rfl, rfl⟩
  | e :: es, h => by
    rw [star_plain (h e List.mem_cons_self)]
    obtain ⟨h1, h2⟩ := stars_plain (env := env) (pos := pos) (es := es) fun e he => h e (List.mem_cons_of_mem _ he)
    exact ⟨by show (false || _) = false; rw [Bool.false_or]; exact h1, by show (!false && _) = true; rw [Bool.not_false, Bool.true_and]; exact h2⟩
theorem cE_plain {Z : Sg} {n : Nat} {Γ : Sc} {e : Expr} {m : ME} (h : cE Z n Γ e = some m) : plainE e = true := by
  cases n with
  | zero => simp [cE] at h
  | succ n => cases e <;> first | rfl | (simp [cE] at h; done)
theorem cEs_plain {Z : Sg} {Γ : Sc} : ∀ {n : Nat} {es : List Expr} {ms : List ME}, cEs Z n Γ es = some ms → (∀ e ∈ es, plainE e = true) ∧ ms.length = es.length
  | _, [], ms, h => by
    have : ms = [] := by cases ‹Nat› <;> simp [cEs] at h <;> exact h
    subst this
    exact ⟨fun _ h => absurd h List.not_mem_nil, rfl⟩
  | 0, _ :: _, _, h => by simp [cEs] at h
  | n + 1, e :: es, ms, h => by
    simp only [cEs] at h
    split at h
    · rename_i m ms' h1 h2
      cases h
      obtain ⟨h3, h4⟩ := cEs_plain h2
      refine ⟨fun x hx => ?_, by rw [List.length_cons, List.length_cons, h4]⟩
      rcases List.mem_cons.mp hx with rfl | hx
      · exact cE_plain h1
      · exact h3 x hx
    · cases h
/-! ### built-ins -/
theorem callB_len {sub : Str → Str → Bool} {b : BI} {ws : List W} {st : Store} {w : W} (h : callB sub b ws st = some w) : ∃ x, ws = [x] ∨ ∃ y, ws = [x, y] := by
  match ws with
  | [] => cases b <;> cases h
  | [x] => exact ⟨x, .inl rfl⟩
  | [x, y] => exact ⟨x, .inr ⟨y, rfl⟩⟩
  | x :: y :: z :: r => cases b <;> cases h
section
variable {X : Cx} {Z : Sg} {G : Cfg} {C : Str → List W → Store → Out W} {Y : WX} {k : Nat}
theorem one_of {f : Value} {b : BI} (h : CallR X f (c1R (gd X) fun x st => callB G.sub b [x] st)) (h2 : ∀ x y st, callB G.sub b [x, y] st = none) : CallR X f (clR (gd X) (callB G.sub b)) :=
  c1_of h (fun pins s σ H xs us Q I r ⟨ι, st, wx, wy, x, y, w, ex, S, hx, hy, e, A⟩ => by dsimp only at e; rw [h2] at e; cases e) fun ws st w e => callB_len e
theorem two_of {f : Value} {b : BI} (h : CallR X f (c2R (gd X) fun x y st => callB G.sub b [x, y] st)) (h2 : ∀ x st, callB G.sub b [x] st = none) : CallR X f (clR (gd X) (callB G.sub b)) :=
  c1_of (fun pins s σ H xs us Q I r ⟨ι, st, wx, x, w, ex, S, hx, e, A⟩ => by dsimp only at e; rw [h2] at e; cases e) h fun ws st w e => callB_len e
theorem Amb.room200 (A : Amb X Z G C Y k) : X.A.units + 200 < cLine := by have := A.room.un; omega
theorem biF_of (A : Amb X Z G C Y k) {x : Str} {n : Nat} {b : BI} {id : String} (h : biF x n = some (b, id)) : CallR X (.builtin id) (clR (gd X) (callB G.sub b)) ∧ bootBuiltins x = some (.builtin id) := by
  have hu := A.room200
  unfold biF at h
  split at h
  · rename_i e; cases h; simp only [Bool.and_eq_true, beq_iff_eq] at e; rw [e.1]; exact ⟨one_of cl_len fun _ _ _ => rfl, by decide +kernel⟩
  split at h
  · rename_i e; cases h; simp only [Bool.and_eq_true, beq_iff_eq] at e; rw [e.1]; exact ⟨one_of (cl_sum A.calm) fun _ _ _ => rfl, by decide +kernel⟩
  split at h
  · rename_i e; cases h; simp only [Bool.and_eq_true, beq_iff_eq] at e; rw [e.1]; exact ⟨two_of (cl_max2 A.calm) fun _ _ => rfl, by decide +kernel⟩
  split at h
  · rename_i e; cases h; simp only [Bool.and_eq_true, beq_iff_eq] at e; rw [e.1]; exact ⟨two_of (cl_min2 A.calm) fun _ _ => rfl, by decide +kernel⟩
  split at h
  · rename_i e; cases h; simp only [Bool.and_eq_true, beq_iff_eq] at e; rw [e.1]; exact ⟨one_of (cl_sorted A.calm hu) fun _ _ _ => rfl, by decide +kernel⟩
  split at h
  · rename_i e; cases h; simp only [Bool.and_eq_true, beq_iff_eq] at e; rw [e.1]; exact ⟨one_of cl_abs fun _ _ _ => rfl, by decide +kernel⟩
  split at h
  · rename_i e; cases h; simp only [Bool.and_eq_true, beq_iff_eq] at e; rw [e.1]
    exact ⟨two_of (cl_isi A.ext) fun _ _ => rfl, by decide +kernel⟩
  split at h
  · rename_i e; cases h; simp only [Bool.and_eq_true, beq_iff_eq] at e; rw [e.1]; exact ⟨one_of (cl_all A.calm) fun _ _ _ => rfl, by decide +kernel⟩
  split at h
  · rename_i e; cases h; simp only [Bool.and_eq_true, beq_iff_eq] at e; rw [e.1]; exact ⟨one_of (cl_any A.calm) fun _ _ _ => rfl, by decide +kernel⟩
  split at h
  · rename_i e; cases h; simp only [Bool.and_eq_true, beq_iff_eq] at e; rw [e.1]; exact ⟨one_of (cl_repr hu A.guard A.sys) fun _ _ _ => rfl, by decide +kernel⟩
  cases h
theorem biT_of (A : Amb X Z G C Y k) {x : Str} {n : Nat} {b : BI} {id : String} (h : biT x n = some (b, id)) : CallR X (.type id) (clR (gd X) (callB G.sub b)) ∧ bootBuiltins x = some (.type id) := by
  unfold biT at h
  split at h
  · rename_i e; cases h; simp only [Bool.and_eq_true, beq_iff_eq] at e; rw [e.1]; exact ⟨one_of (cl_list A.calm) fun _ _ _ => rfl, by decide +kernel⟩
  split at h
  · rename_i e; cases h; simp only [Bool.and_eq_true, beq_iff_eq] at e; rw [e.1]; exact ⟨one_of cl_tuple fun _ _ _ => rfl, by decide +kernel⟩
  split at h
  · rename_i e; cases h; simp only [Bool.and_eq_true, beq_iff_eq] at e; rw [e.1]; exact ⟨one_of cl_int fun _ _ _ => rfl, by decide +kernel⟩
  split at h
  · rename_i e; cases h; simp only [Bool.and_eq_true, beq_iff_eq] at e; rw [e.1]; exact ⟨one_of cl_str fun _ _ _ => rfl, by decide +kernel⟩
  cases h
theorem tyN_of {x : Str} {t : String} (h : tyN x = some t) : bootBuiltins x = some (.type t) := by
  unfold tyN at h
  repeat' (split at h)
  all_goals first | (cases h; done) | (rename_i e; cases h; have e := eq_of_beq e; rw [e]; decide +kernel)
theorem mtO_of (A : Amb X Z G C Y k) {x : Str} {n : Nat} {b : MI} {id : String} (h : mtO x n = some (b, id)) : MtR X id (mtR (gd X) b) ∧ PlainAttrs (tyM b) ∧ Slot (tyM b) x id ∧ typeOf (.builtin id) = pure (.type "method_descriptor") := by
  have hu := A.room200
  unfold mtO at h
  split at h
  · rename_i e; cases h; simp only [Bool.and_eq_true, beq_iff_eq] at e; rw [e.1]; exact ⟨mt_appendW, F.plainAttrs_list, F.slot_list_append, F.type_list_append⟩
  split at h
  · rename_i e; cases h; simp only [Bool.and_eq_true, beq_iff_eq] at e; rw [e.1]; exact ⟨mt_popW, F.plainAttrs_list, F.slot_list_pop, F.type_list_pop⟩
  split at h
  · rename_i e; cases h; simp only [Bool.and_eq_true, beq_iff_eq] at e; rw [e.1]; exact ⟨mt_popAtW, F.plainAttrs_list, F.slot_list_pop, F.type_list_pop⟩
  split at h
  · rename_i e; cases h; simp only [Bool.and_eq_true, beq_iff_eq] at e; rw [e.1]; exact ⟨mt_getW hu, F.plainAttrs_dict, F.slot_dict_get, F.type_dict_get⟩
  split at h
  · rename_i e; cases h; simp only [Bool.and_eq_true, beq_iff_eq] at e; rw [e.1]; exact ⟨mt_get2W hu, F.plainAttrs_dict, F.slot_dict_get, F.type_dict_get⟩
  split at h
  · rename_i e; cases h; simp only [Bool.and_eq_true, beq_iff_eq] at e; rw [e.1]; exact ⟨mt_bitW, F.plainAttrs_int, PyProof.Rows.slot_int_bit_length, PyProof.Rows.type_int_bit_length⟩
  cases h
end
end Sw
end
section
set_option maxRecDepth 100000
set_option autoImplicit false
set_option maxHeartbeats 8000000
/-! SxC: what is compiled is meant: expressions. -/
namespace Sw
open CL
open PySem PySem.Spec PyProof.Rows L2
open PySem.SeqAt (EqAt)
section
variable {X : Cx} {Z : Sg} {G : Cfg} {C : Str → List W → Store → Out W} {Y : WX}
theorem pt_ifeW {a b c : Expr} {m m' mc : ME} {pos : Pos} (hc : PT X c (tMt X G C Y mc)) (ha : PT X a (tMt X G C Y m)) (hb : PT X b (tMt X G C Y m')) : PT X (.IfExp c a b pos) (tMt X G C Y (.ife mc m m')) := by
  refine ⟨fun pins s σ H Q I ⟨ι, st, env, S, E, h⟩ => ?_⟩
  simp only [ev, Out.bind_assoc] at h
  show wpAny (model X.prog X.w) X.A (do if ← isTrue c X.env (eval c X.env) then isTrue a X.env (eval a X.env) else isTrue b X.env (eval b X.env)) _ _ _
  refine wpAny_bind (thn (hc.run pins s σ H (fun t H1 => if t = true then tMt X G C Y m σ H1 Q else tMt X G C Y m' σ H1 Q) I ⟨ι, st, env, S, E, h.cong fun x st1 h1 => ?_⟩) fun t s1 ⟨H1, I1, q1⟩ => ?_)
  · cases e : truth st1 x with
    | none => rw [e] at h1; exact h1.elim
    | some t =>
      rw [e] at h1
      cases t with
      | true => exact fun ι1 H1 p s S1 => ⟨ι1, st1, env, S1, E.mono s p, h1.step p s⟩
      | false => exact fun ι1 H1 p s S1 => ⟨ι1, st1, env, S1, E.mono s p, h1.step p s⟩
  · cases t with
    | true => exact ha.run pins s1 σ H1 Q I1 q1
    | false => exact hb.run pins s1 σ H1 Q I1 q1
end
/-- the targets -/
theorem cT_len {Γ : Sc} : ∀ {n : Nat} {es : List Expr} {ts : List MT}, cTs Γ n es = some ts → ts.length = es.length
  | n, [], ts, h => by
    have : ts = [] := by cases n <;> simp [cTs] at h <;> exact h
    subst this; rfl
  | 0, _ :: _, _, h => by simp [cTs] at h
  | n + 1, e :: es, ts, h => by
    simp only [cTs] at h
    split at h
    · cases h
      rw [List.length_cons, List.length_cons, cT_len (by assumption)]
    · cases h
theorem asg_len {env : Env} : ∀ {es : List Expr}, (assignEach es env).length = es.length
  | [] => rfl
  | e :: es => by cases e <;> (show (assignEach es env).length + 1 = es.length + 1; rw [asg_len])
theorem cT_star {Γ : Sc} {n : Nat} {e : Expr} {t : MT} (h : cT Γ n e = some t) {es : List Expr} {env : Env} : assignEach (e :: es) env = (false, assign e env) :: assignEach es env := by
  cases n with
  | zero => simp [cT] at h
  | succ n => cases e <;> first | rfl | (simp [cT] at h; done)
theorem cTs_star {Γ : Sc} {env : Env} : ∀ {n : Nat} {es : List Expr} {ts : List MT}, cTs Γ n es = some ts → ∀ q ∈ assignEach es env, q.1 = false
  | _, [], _, _, q, h => by cases h
  | 0, _ :: _, _, h, _, _ => by simp [cTs] at h
  | n + 1, e :: es, ts, h, q, hq => by
    simp only [cTs] at h
    split at h
    · rename_i t ts' h1 h2
      rw [cT_star h1] at hq
      rcases List.mem_cons.mp hq with hq | hq
      · rw [hq]
      · exact cTs_star h2 q hq
    · cases h
section
variable {X : Cx} {Γ : Sc}
mutual
theorem cT_of (T : Tie Γ X) (hc : X.calm = true) (hN : X.N.Nodup) : ∀ (n : Nat) (e : Expr) (t : MT), cT Γ n e = some t → PG X e (gM (gd X) t)
  | 0, _, _, h => by simp [cT] at h
  | n + 1, e, t, h => by
    simp only [cT] at h
    split at h
    · rename_i x p
      split at h
      · rename_i hl
        obtain ⟨i, hi, rfl⟩ := Option.map_eq_some_iff.mp h
        have hi : X.N[i]? = some x := by rw [T.N]; exact idx_of hi
        rw [Bool.or_eq_true] at hl
        rcases hl with hl | hl
        · have hl := eq_of_beq hl
          exact pg_nmW hN hi (.inl (by rw [T.sc]; exact hl)) (.inr (by rw [T.sc]; exact hl))
        · rw [Bool.and_eq_true] at hl
          have hl1 := eq_of_beq hl.1
          exact pg_nmW hN hi (.inr (by rw [T.sc]; exact hl1)) (.inl (T.own x hl.2))
      · cases h
    · rename_i es kk p
      obtain ⟨ts, ht, rfl⟩ := Option.map_eq_some_iff.mp h
      refine pg_tupW hc (cTs_of T hc hN n es ts ht) (by rw [asg_len, cT_len ht]) ?_
      rw [List.findIdx?_eq_none_iff]
      exact fun q hq => cTs_star ht q hq
    · cases h
theorem cTs_of (T : Tie Γ X) (hc : X.calm = true) (hN : X.N.Nodup) : ∀ (n : Nat) (es : List Expr) (ts : List MT), cTs Γ n es = some ts → PGs X es (gMs (gd X) ts)
  | n, [], ts, h => by
    have : ts = [] := by cases n <;> simp [cTs] at h <;> exact h
    subst this
    exact pgs_nilW
  | 0, _ :: _, _, h => by simp [cTs] at h
  | n + 1, e :: es, ts, h => by
    simp only [cTs] at h
    split at h
    · rename_i t ts' h1 h2
      cases h
      exact pgs_consW (cT_of T hc hN n e t h1) (cTs_of T hc hN n es ts' h2) (by rw [cT_star h1]; rfl)
    · cases h
end
end
/-! ### blocks -/
theorem Amb.blk {X : Cx} {Z : Sg} {G : Cfg} {C : Str → List W → Store → Out W} {Y : WX} {k : Nat} (A : Amb X Z G C Y k) (s : Shared) (H : Hp) (scope : Scope) (env : Env) (fp : List Addr) : Amb (X.blk s H scope env fp) Z G C Y0 k :=
  ⟨A.calm, A.nd, A.room, A.guard, A.sys, fun σ pins H' s' e s'' I c => by
    obtain ⟨_, _, _, _, _, _, _, _, _, _, _, _, hf⟩ := c
    exact hf.elim, A.defs, A.ar, A.fnv, A.glob, A.bis, ⟨A.ext.isc, A.ext.isi, A.ext.cls, A.ext.sub, A.ext.sup⟩⟩
theorem Tie.blk {X : Cx} {Γ : Sc} (T : Tie Γ X) (s : Shared) (H : Hp) (scope : Scope) (C' : Addr) (cl : List (Str × Addr)) (fp : List Addr) : Tie ⟨Γ.N, relS scope Γ.sc, fun x => scope.names.lookup x == some .cell⟩ (X.blk s H scope (compEnvC scope cl C' X.env) fp) :=
  ⟨T.N, by rw [← T.sc]; rfl, fun x h => h⟩
end Sw
end
section
set_option maxRecDepth 100000
set_option autoImplicit false
set_option maxHeartbeats 16000000
/-! SxD: what is compiled is meant: the main induction for expressions. -/
namespace Sw
open CL
open PySem PySem.Spec PyProof.Rows L2
open PySem.SeqAt (EqAt)
/-- an expression and its test -/
def Both (X : Cx) (G : Cfg) (C : Str → List W → Store → Out W) (Y : WX) (e : Expr) (m : ME) : Prop := PE X e (tM X G C Y m) ∧ PT X e (tMt X G C Y m)
/-- what is claimed at a depth -/
structure Clm (Z : Sg) (G : Cfg) (C : Str → List W → Store → Out W) (k n : Nat) : Prop where
  E : ∀ (X : Cx) (Y : WX) (Γ : Sc) (e : Expr) (m : ME), Amb X Z G C Y k → Tie Γ X → cE Z n Γ e = some m → Both X G C Y e m
  P : ∀ (X : Cx) (Y : WX) (Γ : Sc) (e : Option Expr) (m : ME), Amb X Z G C Y k → Tie Γ X → cP Z n Γ e = some m → PO X e (tPO X G C Y m)
  L : ∀ (X : Cx) (Y : WX) (Γ : Sc) (es : List Expr) (ms : List ME), Amb X Z G C Y k → Tie Γ X → cEs Z n Γ es = some ms → PA X es (tMs X G C Y ms) ∧ (ms.length ≤ 1 → PTs X es (tMts X G C Y ms))
  I : ∀ (X : Cx) (Y : WX) (Γ : Sc) (tg e : Expr) (it : IT), Amb X Z G C Y k → Tie Γ X → cI Z n Γ e = some it → PI X tg e (iM X G C Y it) ∧ plainE e = true
  D : ∀ (X : Cx) (Y : WX) (Γ : Sc) (keys : List (Option Expr)) (values : List Expr) (ms : List ME) (pos : Pos), Amb X Z G C Y k → Tie Γ X → cPs Z n Γ keys values = some ms → PPw X pos keys values (tMs X G C Y ms)
  K : ∀ (X : Cx) (Y : WX) (Γ : Sc) (kws : List Keyword) (ms : List ME), Amb X Z G C Y k → Tie Γ X → cEs Z n Γ (kws.map (·.value)) = some ms → PK X kws (tMs X G C Y ms)
  F : ∀ (X : Cx) (Y : WX) (Γ : Sc) (x : Str) (p : Pos) (a : Expr) (es : List Expr) (pos : Pos) (m : ME), Amb X Z G C Y k → Tie Γ X → cC Z n Γ x a es pos = some m → PE X (.Call (.Name x p) (a :: es) [] pos) (tM X G C Y m)
section
variable {Z : Sg} {G : Cfg} {C : Str → List W → Store → Out W} {k : Nat}
theorem bx_of {X : Cx} {Y : WX} {e : Expr} {m : ME} {b : Bool} (h : PE X e (tM X G C Y m)) : PE X e (tM X G C Y (bxE b m)) := by
  unfold bxE
  split
  · rename_i hb
    rw [Bool.and_eq_true] at hb
    exact pe_boxW h hb.2
  · exact h
theorem Amb.held {X : Cx} {Y : WX} (A : Amb X Z G C Y k) : Held X G C k := fun x y e => by
  obtain ⟨np, hn⟩ := A.fnv x y e
  obtain ⟨f, fd, ps, q1, q2, q3, q4, q5, q6⟩ := A.defs x np hn
  exact ⟨np, f, fd, ps, q1, q2, q3, q4, fun ws st hw => A.ar x np ws st hn hw⟩
theorem cPs_ok {n : Nat} (h : Clm Z G C k n) {X : Cx} {Y : WX} {Γ : Sc} {pos : Pos} (A : Amb X Z G C Y k) (T : Tie Γ X) : ∀ (keys : List (Option Expr)) (values : List Expr) (ms : List ME), cPs Z (n + 1) Γ keys values = some ms → PPw X pos keys values (tMs X G C Y ms)
  | [], [], ms, e => by simp only [cPs, Option.some.injEq] at e; subst e; exact ppw_nil
  | some a :: ks, b :: vs, ms, e => by
    simp only [cPs] at e
    split at e
    · rename_i mk mv ms' h1 h2 h3
      cases e
      exact ppw_cons (h.E X Y Γ a mk A T h1).1 (h.E X Y Γ b mv A T h2).1 (h.D X Y Γ ks vs ms' pos A T h3)
    · cases e
  | none :: _, _, ms, e => by simp [cPs] at e
  | some _ :: _, [], ms, e => by simp [cPs] at e
  | [], _ :: _, ms, e => by simp [cPs] at e
theorem clm_K {n : Nat} (h : Clm Z G C k n) : ∀ (X : Cx) (Y : WX) (Γ : Sc) (kws : List Keyword) (ms : List ME), Amb X Z G C Y k → Tie Γ X → cEs Z (n + 1) Γ (kws.map (·.value)) = some ms → PK X kws (tMs X G C Y ms)
  | X, Y, Γ, [], ms, A, T, e => by simp only [List.map_nil, cEs, Option.some.injEq] at e; subst e; exact pk_nilW
  | X, Y, Γ, ⟨nm, v, p⟩ :: r, ms, A, T, e => by
    simp only [List.map_cons, cEs] at e
    split at e
    · rename_i m ms' h1 h2
      cases e
      exact pk_consW (h.E X Y Γ v m A T h1).1 (h.K X Y Γ r ms' A T h2)
    · cases e
theorem clm_F {n : Nat} (h : Clm Z G C k n) : ∀ (X : Cx) (Y : WX) (Γ : Sc) (x : Str) (p : Pos) (a : Expr) (es : List Expr) (pos : Pos) (m : ME), Amb X Z G C Y k → Tie Γ X → cC Z (n + 1) Γ x a es pos = some m → PE X (.Call (.Name x p) (a :: es) [] pos) (tM X G C Y m) := by
  intro X Y Γ x p a es pos m A T he
  simp only [cC] at he
  split at he
  · cases he
  · rename_i hx
    obtain ⟨o1, o2, o3⟩ := odd_of (by simpa using hx)
    split at he
    · rename_i hv
      split at he
      · rename_i i ms h1 h2
        cases he
        obtain ⟨pl, hl⟩ := cEs_plain h2
        exact pe_callvW A.held A.room A.guard A.pas (by rw [T.N]; exact idx_of h1) (by rw [T.sc]; exact visB_of hv) o1 o2 (h.L X Y Γ _ ms A T h2).1 (star_plain (es := es) (env := X.env) (pl a List.mem_cons_self))
          (stars_plain (env := X.env) (pos := pos) (es := es) fun e he => pl e (List.mem_cons_of_mem _ he)).1
      · cases he
    · split at he
      · cases he
      · rename_i hg
        have hg := glB_of T (by simpa using hg)
        obtain ⟨ms, h1, he⟩ := Option.bind_eq_some_iff.mp he
        obtain ⟨pl, hl⟩ := cEs_plain h1
        have hs := star_plain (es := es) (env := X.env) (pl a List.mem_cons_self)
        have hr := (stars_plain (env := X.env) (pos := pos) (es := es) fun e he => pl e (List.mem_cons_of_mem _ he)).1
        split at he
        · rename_i hb
          have hm := A.bis x (by simpa using hb)
          split at he
          · rename_i b id hf
            cases he
            obtain ⟨c1, c2⟩ := biF_of A hf
            exact bx_of (pe_biW c1 hg hm c2 (h.L X Y Γ _ ms A T h1).1 o3 o1 hs hr)
          · obtain ⟨b, hf, rfl⟩ := Option.map_eq_some_iff.mp he
            obtain ⟨b, id⟩ := b
            obtain ⟨c1, c2⟩ := biT_of A hf
            exact bx_of (pe_btW c1 hg hm c2 (h.L X Y Γ _ ms A T h1).1 o3 o1 hs hr)
        · split at he
          · rename_i d hd
            split at he
            · rename_i hn
              cases he
              obtain ⟨f, fd, ps, q1, q2, q3, q4, q5, q6⟩ := A.defs x d hd
              exact pe_callW q4 A.room A.guard hg q1 q2 q3 A.pas (eq_of_beq hn) (h.L X Y Γ _ ms A T h1).1 o1 hs hr
            · cases he
          · cases he
theorem clm_P {n : Nat} (h : Clm Z G C k n) : ∀ (X : Cx) (Y : WX) (Γ : Sc) (e : Option Expr) (m : ME), Amb X Z G C Y k → Tie Γ X → cP Z (n + 1) Γ e = some m → PO X e (tPO X G C Y m)
  | X, Y, Γ, none, m, A, T, e => by simp only [cP, Option.some.injEq] at e; subst e; exact po_noneW
  | X, Y, Γ, some e, m, A, T, he => by
    simp only [cP] at he
    split at he
    · cases he
    · rename_i hn
      exact po_someW (h.E X Y Γ e m A T he).1 fun w z hz => hn (by rw [he, z, hz])
theorem clm_L {n : Nat} (h : Clm Z G C k n) : ∀ (X : Cx) (Y : WX) (Γ : Sc) (es : List Expr) (ms : List ME), Amb X Z G C Y k → Tie Γ X → cEs Z (n + 1) Γ es = some ms → PA X es (tMs X G C Y ms) ∧ (ms.length ≤ 1 → PTs X es (tMts X G C Y ms))
  | X, Y, Γ, [], ms, A, T, e => by simp only [cEs, Option.some.injEq] at e; subst e; exact ⟨pa_nilW, fun _ => pts_nilW⟩
  | X, Y, Γ, e :: es, ms, A, T, he => by
    simp only [cEs] at he
    split at he
    · rename_i m ms' h1 h2
      cases he
      obtain ⟨b1, b2⟩ := h.E X Y Γ e m A T h1
      refine ⟨pa_consW b1 (h.L X Y Γ es ms' A T h2).1 (star_plain (cE_plain h1)), fun hl => ?_⟩
      have : ms' = [] := by
        cases ms' with
        | nil => rfl
        | cons _ _ => simp at hl
      subst this
      obtain ⟨_, hl2⟩ := cEs_plain h2
      have : es = [] := List.eq_nil_of_length_eq_zero hl2.symm
      subst this
      exact pts_oneW b2
    · cases he
theorem clm_I {n : Nat} (h : Clm Z G C k n) : ∀ (X : Cx) (Y : WX) (Γ : Sc) (tg e : Expr) (it : IT), Amb X Z G C Y k → Tie Γ X → cI Z (n + 1) Γ e = some it → PI X tg e (iM X G C Y it) ∧ plainE e = true := by
  intro X Y Γ tg e it A T he
  have of : (cE Z n Γ e).map IT.of = some it → PI X tg e (iM X G C Y it) ∧ plainE e = true := fun he => by
    obtain ⟨m, hm, rfl⟩ := Option.map_eq_some_iff.mp he
    exact ⟨pi_ofW (h.E X Y Γ e m A T hm).1, cE_plain hm⟩
  have bn : ∀ x : Str, x == ("range" : Str) → X.mg "range" = none := fun x _ => A.bis _ (by decide)
  simp only [cI] at he
  split at he
  · rename_i x p a pos
    split at he
    · rename_i hx
      rw [Bool.and_eq_true] at hx
      obtain ⟨m, hm, rfl⟩ := Option.map_eq_some_iff.mp he
      have e1 : x = "range" := eq_of_beq hx.1
      subst e1
      have ps := star_plain (es := []) (env := X.env) (cE_plain hm)
      exact ⟨pi_rng1W (glB_of T hx.2) (A.bis _ (by decide)) (pa_consW (h.E X Y Γ a m A T hm).1 pa_nilW ps) ps, rfl⟩
    · exact of he
  · rename_i x p a b pos
    split at he
    · rename_i hx
      rw [Bool.and_eq_true] at hx
      split at he
      · rename_i m m' h1 h2
        cases he
        have e1 : x = "range" := eq_of_beq hx.1
        subst e1
        have ps2 := star_plain (es := []) (env := X.env) (cE_plain h2)
        have ps1 := star_plain (es := [b]) (env := X.env) (cE_plain h1)
        exact ⟨pi_rng2W (glB_of T hx.2) (A.bis _ (by decide)) (pa_consW (h.E X Y Γ a m A T h1).1 (pa_consW (h.E X Y Γ b m' A T h2).1 pa_nilW ps2) ps1) (by rw [ps1, ps2]; rfl) ps2, rfl⟩
      · cases he
    · exact of he
  · exact of he
end
end Sw
end
section
set_option maxRecDepth 100000
set_option autoImplicit false
set_option maxHeartbeats 16000000
/-! SxE: the step for expressions. -/
namespace Sw
open CL
open PySem PySem.Spec PyProof.Rows L2
open PySem.SeqAt (EqAt)
section
variable {Z : Sg} {G : Cfg} {C : Str → List W → Store → Out W} {k : Nat}
theorem pw_bool {X : Cx} {Y : WX} {op : BoolOp} {es : List Expr} {pos : Pos} {m : ME} (h : PT X (.BoolOp op es pos) (tMt X G C Y m)) : PW X (.BoolOp op es pos) (tMt X G C Y m) := ⟨fun wh pins s σ H Q I q => h.run pins s σ H Q I q⟩
theorem clm_E {n : Nat} (h : Clm Z G C k n) : ∀ (X : Cx) (Y : WX) (Γ : Sc) (e : Expr) (m : ME), Amb X Z G C Y k → Tie Γ X → cE Z (n + 1) Γ e = some m → Both X G C Y e m := by
  intro X Y Γ e m A T he
  have hu := A.room200
  have both : ∀ {e : Expr} {m : ME}, PE X e (tM X G C Y m) → (∀ whole, isTrue e X.env whole = (do let v ← whole; standAt e.pos; holding [v] (truthy v))) → Both X G C Y e m := fun h1 h2 => ⟨h1, pt_truthW h1 h2⟩
  simp only [cE] at he
  split at he
  · -- a constant
    rename_i c kk pos
    split at he
    · cases he; exact both (pe_kW pe_non fun _ _ => rfl) fun _ => rfl
    · cases he; exact both (pe_kW pe_bl fun _ _ => rfl) fun _ => rfl
    · cases he; exact both (pe_kW pe_int fun _ _ => rfl) fun _ => rfl
    · cases he; exact both (pe_kW pe_str fun _ _ => rfl) fun _ => rfl
    · cases he
  · -- a name
    rename_i x pos
    split at he
    · cases he
    · rename_i ho
      obtain ⟨o1, o2, o3⟩ := odd_of (by simpa using ho)
      split at he
      · rename_i hv
        obtain ⟨i, hi, rfl⟩ := Option.map_eq_some_iff.mp he
        exact both (pe_varW (by rw [T.N]; exact idx_of hi) (by rw [T.sc]; exact visB_of hv) o1 o2) fun _ => rfl
      · split at he
        · rename_i hg
          have hg := glB_of T hg
          split at he
          · rename_i hb
            obtain ⟨t, ht, rfl⟩ := Option.map_eq_some_iff.mp he
            exact both (pe_kW (pe_bltn (v := .ty t) hg (A.bis _ (by simpa using hb)) (tyN_of ht) rfl o3 o1) fun _ _ => rfl) fun _ => rfl
          · split at he
            · rename_i w hw
              cases he
              obtain ⟨h0, v, u, h1, h2, h3⟩ := A.glob x w hw
              exact both (pe_globW hg h1 h0 h2 h3 o1) fun _ => rfl
            · cases he
        · cases he
  · -- a op b
    split at he
    · rename_i o x y h1 h2 h3
      cases he
      rw [bop_of h1]
      exact both (pe_binW o (h.E X Y Γ _ x A T h2).1 (h.E X Y Γ _ y A T h3).1) fun _ => rfl
    · cases he
  · obtain ⟨x, hx, rfl⟩ := Option.map_eq_some_iff.mp he
    exact both (pe_negW (h.E X Y Γ _ x A T hx).1) fun _ => rfl
  · obtain ⟨x, hx, rfl⟩ := Option.map_eq_some_iff.mp he
    exact ⟨pe_notW (h.E X Y Γ _ x A T hx).1, pt_notW (h.E X Y Γ _ x A T hx).2⟩
  · -- one of and, or
    rename_i op a pos
    obtain ⟨b1, b2⟩ := h.E X Y Γ a m A T he
    refine ⟨pe_one b1, ?_⟩
    cases op with
    | And => exact (pw_and1 b2).pt
    | Or => exact (pw_or1 b2).pt
  · split at he
    · rename_i x y h1 h2
      cases he
      obtain ⟨b1, b2⟩ := h.E X Y Γ _ x A T h1
      obtain ⟨c1, c2⟩ := h.E X Y Γ _ y A T h2
      exact ⟨pe_andW b1 c1, (pw_andW b2 (pw_bool c2)).pt⟩
    · cases he
  · split at he
    · rename_i x y h1 h2
      cases he
      obtain ⟨b1, b2⟩ := h.E X Y Γ _ x A T h1
      obtain ⟨c1, c2⟩ := h.E X Y Γ _ y A T h2
      exact ⟨pe_orW b1 c1, (pw_orW b2 (pw_bool c2)).pt⟩
    · cases he
  · split at he
    · rename_i o x y h1 h2 h3
      cases he
      rw [cop_of h1]
      exact ⟨pe_cmpW hu o (h.E X Y Γ _ x A T h2).1 (h.E X Y Γ _ y A T h3).1 (marks_plain (cE_plain h3)), pt_cmpW hu o (h.E X Y Γ _ x A T h2).1 (h.E X Y Γ _ y A T h3).1 (marks_plain (cE_plain h3))⟩
    · cases he
  · split at he
    · rename_i o o' x y z h1 h2 h3 h4 h5
      cases he
      rw [cop_of h1, cop_of h2]
      have hm : ∀ (a b : Expr), plainE b = true → lastMarks [copOf o, copOf o'] [a, b] = false := fun a b hb => marks_plain (op := copOf o') hb
      exact ⟨pe_chnW hu o o' (h.E X Y Γ _ x A T h3).1 (h.E X Y Γ _ y A T h4).1 (h.E X Y Γ _ z A T h5).1 (hm _ _ (cE_plain h5)), pt_chnW hu o o' (h.E X Y Γ _ x A T h3).1 (h.E X Y Γ _ y A T h4).1 (h.E X Y Γ _ z A T h5).1 (hm _ _ (cE_plain h5))⟩
    · cases he
  · split at he
    · rename_i x y z h1 h2 h3
      cases he
      exact ⟨pe_ifeW (h.E X Y Γ _ x A T h1).2 (h.E X Y Γ _ y A T h2).1 (h.E X Y Γ _ z A T h3).1, pt_ifeW (h.E X Y Γ _ x A T h1).2 (h.E X Y Γ _ y A T h2).2 (h.E X Y Γ _ z A T h3).2⟩
    · cases he
  · obtain ⟨m', h1, rfl⟩ := Option.map_eq_some_iff.mp he
    exact both (bx_of (pe_revW (h.E X Y Γ _ m' A T h1).1)) fun _ => rfl
  · split at he
    · rename_i x y z h1 h2 h3
      cases he
      exact both (pe_slcW (h.E X Y Γ _ x A T h1).1 (h.P X Y Γ _ y A T h2) (h.P X Y Γ _ z A T h3)) fun _ => rfl
    · cases he
  · split at he
    · rename_i x y h1 h2
      cases he
      exact both (pe_idxW hu (h.E X Y Γ _ x A T h1).1 (h.E X Y Γ _ y A T h2).1 (ix_plain (cE_plain h2))) fun _ => rfl
    · cases he
  · obtain ⟨ms, h1, he⟩ := Option.bind_eq_some_iff.mp he
    split at he
    · cases he
      exact both (pe_tupW (by assumption) (h.L X Y Γ _ ms A T h1).1) fun _ => rfl
    · cases he
  · obtain ⟨ms, h1, he⟩ := Option.bind_eq_some_iff.mp he
    split at he
    · cases he
      exact both (bx_of (pe_lstW (by assumption) (h.L X Y Γ _ ms A T h1).1)) fun _ => rfl
    · cases he
  · cases he; exact both (bx_of pe_dic0W) fun _ => rfl
  · -- a dict display
    rename_i keys values pos _
    split at he
    · rename_i hx
      simp only [Bool.and_eq_true, decide_eq_true_eq, Bool.not_eq_true'] at hx
      obtain ⟨ms, h1, rfl⟩ := Option.map_eq_some_iff.mp he
      exact both (bx_of (pe_dicW hu (h.D X Y Γ keys values ms pos A T h1) hx.1.1.1 (eq_of_beq hx.1.1.2) (fun z => by rw [z] at hx; simp at hx) hx.2)) fun _ => rfl
    · cases he
  · -- a call with keywords
    rename_i x p kw kws pos
    split at he
    · cases he
    · rename_i hx
      simp only [Bool.or_eq_true, Bool.not_eq_true', not_or, Bool.not_eq_true, Bool.not_eq_false] at hx
      obtain ⟨o1, o2, o3⟩ := odd_of hx.1.1
      have hg := glB_of T hx.1.2
      split at he
      · rename_i np ks ms h1 h2 h3
        obtain ⟨perm, h4, rfl⟩ := Option.map_eq_some_iff.mp he
        obtain ⟨f, fd, ps, q1, q2, q3, q4, q5, q6⟩ := A.defs x np h1
        exact both (pe_callkW q4 A.room A.guard hg q1 q2 (q6 ks perm h4) A.pas q5 (h.K X Y Γ (kw :: kws) ms A T h3) h2 (by rw [(cEs_plain h3).2, List.length_map]) o1) fun _ => rfl
      · cases he
  · -- list(range(..))
    rename_i x p y p2 a pos2 pos
    split at he
    · rename_i hx
      simp only [Bool.and_eq_true] at hx
      obtain ⟨m', h1, rfl⟩ := Option.map_eq_some_iff.mp he
      have e1 : x = "list" := eq_of_beq hx.1.1.1
      have e2 : y = "range" := eq_of_beq hx.1.1.2
      subst e1 e2
      have ps := star_plain (es := []) (env := X.env) (cE_plain h1)
      exact both (bx_of (pe_listRg1W A.calm (glB_of T hx.1.2) (A.bis _ (by decide)) (glB_of T hx.2) (A.bis _ (by decide)) (h.E X Y Γ a m' A T h1).1 ps)) fun _ => rfl
    · exact both (h.F X Y Γ _ _ _ _ _ m A T he) fun _ => rfl
  · rename_i x p y p2 a b pos2 pos
    split at he
    · rename_i hx
      simp only [Bool.and_eq_true] at hx
      split at he
      · rename_i m1 m2 h1 h2
        cases he
        have e1 : x = "list" := eq_of_beq hx.1.1.1
        have e2 : y = "range" := eq_of_beq hx.1.1.2
        subst e1 e2
        have ps2 := star_plain (es := []) (env := X.env) (cE_plain h2)
        have ps1 := star_plain (es := [b]) (env := X.env) (cE_plain h1)
        exact both (bx_of (pe_listRg2W A.calm (glB_of T hx.1.2) (A.bis _ (by decide)) (glB_of T hx.2) (A.bis _ (by decide)) (h.E X Y Γ a m1 A T h1).1 (h.E X Y Γ b m2 A T h2).1 ps1 ps2
          (stars_plain (env := X.env) (pos := pos2) (es := [b]) fun e he => by rw [List.mem_singleton] at he; subst he; exact cE_plain h2).1)) fun _ => rfl
      · cases he
    · exact both (h.F X Y Γ _ _ _ _ _ m A T he) fun _ => rfl
  · exact both (h.F X Y Γ _ _ _ _ _ m A T he) fun _ => rfl
  · -- a method
    rename_i o name apos args cpos
    split at he
    · rename_i hx
      simp only [Bool.and_eq_true, decide_eq_true_eq] at hx
      obtain ⟨⟨x1, x2⟩, x3⟩ := hx
      split at he
      · rename_i mi id x ms h1 h2 h3
        cases he
        obtain ⟨c1, c2, c3, c4⟩ := mtO_of A h1
        obtain ⟨pl, hl⟩ := cEs_plain h3
        have hbase : attributeBase o name X.env (eval o X.env) = eval o X.env := by
          cases o <;> first | rfl | cases x2
        cases args with
        | nil =>
          have : ms = [] := List.eq_nil_of_length_eq_zero hl
          subst this
          exact both (pe_mt0W c2 c3 c4 c1 (h.E X Y Γ _ x A T h2).1 hbase x1) fun _ => rfl
        | cons a es =>
          have hs := star_plain (es := es) (env := X.env) (pl a List.mem_cons_self)
          have hr := (stars_plain (env := X.env) (pos := cpos) (es := es) fun e he => pl e (List.mem_cons_of_mem _ he)).1
          have ha := (stars_plain (env := X.env) (pos := cpos) (es := a :: es) pl).2
          refine both (pe_mtW c2 c3 c4 c1 (h.E X Y Γ _ x A T h2).1 (h.L X Y Γ _ ms A T h3).1 hbase ?_ x1 hs hr) fun _ => rfl
          rw [ha]
          show (true && true && decide _) = true
          simp only [Bool.true_and, decide_eq_true_eq]
          simp only [List.length_nil, List.isEmpty_nil, if_true]
          omega
      · cases he
    · cases he
  · -- e.value
    rename_i a name pos
    split at he
    · rename_i hx
      rw [Bool.and_eq_true] at hx
      obtain ⟨m', h1, rfl⟩ := Option.map_eq_some_iff.mp he
      have en := eq_of_beq hx.1
      subst en
      have hbase : attributeBase a "value" X.env (eval a X.env) = eval a X.env := by
        cases a <;> first | rfl | cases hx.2
      exact both (pe_attW A.ext (h.E X Y Γ a m' A T h1).1 hbase) fun _ => rfl
    · cases he
  · -- a comprehension
    rename_i elt tg iter ifs scope pos
    split at he
    · rename_i hx
      rw [Bool.and_eq_true] at hx
      split at he
      · rename_i t it ms mm h1 h2 h3 h4
        split at he
        · rename_i ho
          cases he
          have ok : BlkOk X.N X.env.scope scope (ownOf Γ.N scope) := by rw [T.N, T.sc]; exact blkOk_by hx.1
          have hl : ms.length ≤ 1 := by
            have := of_decide_eq_true hx.2
            rw [(cEs_plain h3).2]; exact this
          refine both (bx_of (pe_lcW A.calm A.nd (h.I X Y Γ tg _ it A T h2).1 ok (fun i hi => ?_) (fun s H C' cl fp => ?_) (fun s H C' cl fp => ?_) (fun s H C' cl fp => ?_) (fold_plain (h.I X Y Γ tg _ it A T h2).2))) fun _ => rfl
          · have := List.all_eq_true.mp ho i hi
            simpa using this
          · exact cT_of (T.blk s H scope C' cl fp) A.calm A.nd n tg t h1
          · exact (h.L _ Y0 _ ifs ms (A.blk s H scope _ fp) (T.blk s H scope C' cl fp) h3).2 hl
          · exact (h.E _ Y0 _ elt mm (A.blk s H scope _ fp) (T.blk s H scope C' cl fp) h4).1
        · cases he
      · cases he
    · cases he
  · -- a dict comprehension
    rename_i kx vx tg iter ifs scope pos
    split at he
    · rename_i hx
      rw [Bool.and_eq_true] at hx
      split at he
      · rename_i t it ms mk mv h1 h2 h3 h4 h5
        split at he
        · rename_i ho
          cases he
          have ok : BlkOk X.N X.env.scope scope (ownOf Γ.N scope) := by rw [T.N, T.sc]; exact blkOk_by hx.1
          have hl : ms.length ≤ 1 := by
            have := of_decide_eq_true hx.2
            rw [(cEs_plain h3).2]; exact this
          refine both (bx_of (pe_dcW hu A.calm A.nd (h.I X Y Γ tg _ it A T h2).1 ok (fun i hi => ?_) (fun s H C' cl fp => ?_) (fun s H C' cl fp => ?_) (fun s H C' cl fp => ?_) (fun s H C' cl fp => ?_) (fold_plain (h.I X Y Γ tg _ it A T h2).2))) fun _ => rfl
          · have := List.all_eq_true.mp ho i hi
            simpa using this
          · exact cT_of (T.blk s H scope C' cl fp) A.calm A.nd n tg t h1
          · exact (h.L _ Y0 _ ifs ms (A.blk s H scope _ fp) (T.blk s H scope C' cl fp) h3).2 hl
          · exact (h.E _ Y0 _ kx mk (A.blk s H scope _ fp) (T.blk s H scope C' cl fp) h4).1
          · exact (h.E _ Y0 _ vx mv (A.blk s H scope _ fp) (T.blk s H scope C' cl fp) h5).1
        · cases he
      · cases he
    · cases he
  · cases he
end
end Sw
end
section
set_option maxRecDepth 100000
set_option autoImplicit false
set_option maxHeartbeats 16000000
/-! SxF: statements compiled. -/
namespace Sw
open CL
open PySem PySem.Spec PyProof.Rows L2
open PySem.SeqAt (EqAt)
theorem clm (Z : Sg) (G : Cfg) (C : Str → List W → Store → Out W) (k : Nat) : ∀ n, Clm Z G C k n
  | 0 => by
    refine ⟨fun X Y Γ e m A T h => by simp [cE] at h, fun X Y Γ e m A T h => ?_, fun X Y Γ es ms A T h => ?_, fun X Y Γ tg e it A T h => by simp [cI] at h, fun X Y Γ keys values ms pos A T h => ?_, fun X Y Γ kws ms A T h => ?_, fun X Y Γ x p a es pos m A T h => by simp [cC] at h⟩
    · cases e with
      | none => simp only [cP, Option.some.injEq] at h; subst h; exact po_noneW
      | some e => simp [cP] at h
    · cases es with
      | nil => simp only [cEs, Option.some.injEq] at h; subst h; exact ⟨pa_nilW, fun _ => pts_nilW⟩
      | cons _ _ => simp [cEs] at h
    · cases keys with
      | nil => cases values with
        | nil => simp only [cPs, Option.some.injEq] at h; subst h; exact ppw_nil
        | cons _ _ => simp [cPs] at h
      | cons _ _ => simp [cPs] at h
    · cases kws with
      | nil => simp only [List.map_nil, cEs, Option.some.injEq] at h; subst h; exact pk_nilW
      | cons _ _ => simp [cEs] at h
  | n + 1 => let h := clm Z G C k n; ⟨clm_E h, clm_P h, clm_L h, clm_I h, fun X Y Γ keys values ms pos A T e => cPs_ok h A T keys values ms e, clm_K h, clm_F h⟩
/-- is it a comprehension -/
def isComp : Expr → Bool
  | .ListComp _ _ _ _ => true
  | .SetComp _ _ _ _ => true
  | .DictComp _ _ _ _ _ => true
  | _ => false
/-- does name = [..] store within the comprehension -/
def swB (Γ : Sc) (x : Str) (p : Pos) (e : Expr) : Bool := match e with
  | .ListComp _ _ scope pos => Γ.sc.kind == .function && Γ.sc.names.lookup x == some .local && p.line == pos.line && !(scope.names.any fun (n, k) => n == x && (k == .local || k == .cell))
  | _ => false
def isTup : Expr → Bool
  | .Tuple _ _ _ => true
  | _ => false
section
variable (Z : Sg) (bx : Str → Bool)
/-- the slot that a name is stored to -/
def cN (Γ : Sc) (x : Str) : Option Nat := if (Γ.sc.names.lookup x == some .local) || ((Γ.sc.names.lookup x == some .cell) && Γ.own x) then idx Γ.N x else none
mutual
def cS : Nat → Sc → Stmt → Option MS
  | 0, _, _ => none
  | n + 1, Γ, s => match s with
    | .Pass _ => some .pass
    | .Break _ => some .brk
    | .Continue _ => some .cnt
    | .Return none _ => some .retN
    | .Return (some e) _ => (cE Z n Γ e).map .ret
    | .Expr (.Constant (.str _) _ _) _ => some .pass
    | .Expr e _ => if isComp e then none else (cE Z n Γ e).map .ex
    | .Assign [.Name x p] (.ListComp elt [⟨tg, iter, ifs, 0⟩] scope pos) _ => match cN Γ x, cE Z n Γ (.ListComp elt [⟨tg, iter, ifs, 0⟩] scope pos) with
      | some i, some m => some (.asg i (bxE (bx x) m))
      | _, _ => none
    | .Assign [.Name x p] e _ => if isComp e then none else match cN Γ x, cE Z n Γ e with
      | some i, some m => some (.asg i (bxE (bx x) m))
      | _, _ => none
    | .Assign [.Tuple [.Name x px, .Name y py] _ _] (.Tuple [a, b] _ _) _ =>
      if Γ.sc.kind == .function && Γ.sc.names.lookup x == some .local && Γ.sc.names.lookup y == some .local && px.line == py.line && x != y && !([a, b].all (foldedForSure 8)) && !([a, b].all (constantsAlone 8)) && plainE a && plainE b then
        match idx Γ.N x, idx Γ.N y, cE Z n Γ a, cE Z n Γ b with
        | some i, some j, some ma, some mb => some (.par [i, j] [bxE (bx x) ma, bxE (bx y) mb])
        | _, _, _, _ => none
      else none
    | .Assign [.Tuple [.Name x px, .Name y py, .Name z pz] _ _] (.Tuple [a, b, c] _ _) _ =>
      if Γ.sc.kind == .function && Γ.sc.names.lookup x == some .local && Γ.sc.names.lookup y == some .local && Γ.sc.names.lookup z == some .local && px.line == py.line && px.line == pz.line && x != y && x != z && y != z && !([a, b, c].all (foldedForSure 8)) && !([a, b, c].all (constantsAlone 8)) && plainE a && plainE b && plainE c then
        match idx Γ.N x, idx Γ.N y, idx Γ.N z, cE Z n Γ a, cE Z n Γ b, cE Z n Γ c with
        | some i, some j, some l, some ma, some mb, some mc => some (.par [i, j, l] [bxE (bx x) ma, bxE (bx y) mb, bxE (bx z) mc])
        | _, _, _, _, _, _ => none
      else none
    | .Assign [.Subscript o i _] e _ => if isComp e then none else match cE Z n Γ e, cE Z n Γ o, cE Z n Γ i with | some m, some mo, some mi => some (.setI mo mi m) | _, _, _ => none
    | .Assign [.Tuple ts a b] e _ => if isComp e || (isTup e && decide (ts.length < 4)) then none else match cE Z n Γ e, cT Γ n (.Tuple ts a b) with | some m, some t => some (.unp t m) | _, _ => none
    | .If c a b _ => match cE Z n Γ c, cSs n Γ a, cSs n Γ b with | some m, some x, some y => some (.iff m x y) | _, _, _ => none
    | .For tg iter body [] _ => match cT Γ n tg, cI Z n Γ iter, cSs n Γ body with | some t, some it, some x => some (.forr t it x) | _, _, _ => none
    | .Raise (some (.Call (.Name c _) [a] [] _)) none _ => if Z.cls c && glB Γ.sc c && !odd c then (cE Z n Γ a).map (.raise c) else none
    | .Try body [.ExceptHandler (some (.Name c _)) (some e) [.Assign [.Name y _] (.Name e' _) _] _] [] [] _ =>
      if Z.cls c && glB Γ.sc c && !odd c && !odd e && e == e' && e != y && Γ.sc.names.lookup e == some .local && Γ.sc.names.lookup y == some .local then
        match idx Γ.N e, idx Γ.N y, cSs n Γ body with
        | some i, some j, some ms => if qSs ms then some (.tri ms c i [.asg j (.v i)]) else none
        | _, _, _ => none
      else none
    | .While c body [] _ => match cE Z n Γ c, cSs n Γ body with | some m, some x => some (.whl m x) | _, _ => none
    | _ => none
def cSs : Nat → Sc → List Stmt → Option (List MS)
  | _, _, [] => some []
  | 0, _, _ => none
  | n + 1, Γ, s :: ss => match cS n Γ s, cSs n Γ ss with | some m, some ms => some (m :: ms) | _, _ => none
end
end
/-- what is known in a def's body -/
structure AmbS (X : Cx) (Z : Sg) (G : Cfg) (C : Str → List W → Store → Out W) (E : XK) (k : Nat) : Prop where
  amb : Amb X Z G C (YE E) k
  own : PassesOwn (model X.prog X.w) X.A X.env X.xe
  kind : X.env.scope.kind = .function
  ext : ExT X G.sub
  cls : ∀ c, Z.cls c = true → G.sub c c = true
  tk : Takes X (YE E)
  stk : X.stack = X.env :: X.outer
  frm : X.env.frame = some X.env.locals
  exn : X.ex = []
theorem swaps_none {e : Expr} {n : Nat} {env : Env} {t : Option Expr} (h : isComp e = false) : swapsWith e t n env = pure false := by
  cases e <;> first | rfl | cases h
theorem swaps_sub {o i e : Expr} {p : Pos} {n : Nat} {env : Env} : swapsWithSole [.Subscript o i p] e n env = pure false := by
  cases e <;> rfl
end Sw
end
section
set_option maxRecDepth 100000
set_option autoImplicit false
set_option maxHeartbeats 16000000
/-! SxG: statements compiled are meant. -/
namespace Sw
open CL
open PySem PySem.Spec PyProof.Rows L2
open PySem.SeqAt (EqAt)
section
variable {Z : Sg} {G : Cfg} {C : Str → List W → Store → Out W} {k : Nat} {bx : Str → Bool} {E : XK}
theorem cN_of {X : Cx} {Γ : Sc} (T : Tie Γ X) {x : Str} {i : Nat} (h : cN Γ x = some i) : X.N[i]? = some x ∧ Loc X.env.scope x ∧ (X.fn x = true ∨ X.env.scope.names.lookup x = some .local) := by
  unfold cN at h
  split at h
  · rename_i hl
    refine ⟨by rw [T.N]; exact idx_of h, ?_⟩
    rw [T.sc]
    rw [Bool.or_eq_true] at hl
    rcases hl with hl | hl
    · exact ⟨.inl (eq_of_beq hl), .inr (eq_of_beq hl)⟩
    · rw [Bool.and_eq_true] at hl
      exact ⟨.inr (eq_of_beq hl.1), .inl (T.own x hl.2)⟩
  · cases h
theorem block_fn {X : Cx} (h : X.env.scope.kind = .function) : X.env.blockKind = .function := by
  unfold Env.blockKind
  rw [h]; rfl
theorem swaps_lc {X : Cx} {Γ : Sc} (T : Tie Γ X) (hk : X.env.scope.kind = .function) {elt : Expr} {gens : List Comprehension} {scope : Scope} {pos p : Pos} {x : Str} {n : Nat} : swapsWith (.ListComp elt gens scope pos) (some (.Name x p)) n X.env = pure (swB Γ x p (.ListComp elt gens scope pos)) := by
  show (pure (X.env.blockKind == .function && X.env.scope.names.lookup x == some .local && p.line == pos.line && !(scope.names.any fun (n, k) => n == x && (k == .local || k == .cell))) : Sem Bool) = _
  unfold swB
  rw [block_fn hk, ← T.sc, hk]
/-- a name = [..] that the comprehension stores -/
theorem asg_comp {X : Cx} {Γ : Sc} {n : Nat} (A : AmbS X Z G C E k) (T : Tie Γ X) {elt tg iter : Expr} {ifs : List Expr} {scope : Scope} {pos p spos : Pos} {x : Str} {i : Nat} {m : ME} (hi : X.N[i]? = some x) (hm : cE Z (n + 1) Γ (.ListComp elt [⟨tg, iter, ifs, 0⟩] scope pos) = some m)
    (hs : swB Γ x p (.ListComp elt [⟨tg, iter, ifs, 0⟩] scope pos) = true) (b : Bool) : PS X (.Assign [.Name x p] (.ListComp elt [⟨tg, iter, ifs, 0⟩] scope pos) spos) (sM X G C E (.asg i (bxE b m))) := by
  have hsw := swaps_lc (n := spos.line) T A.kind (elt := elt) (gens := [⟨tg, iter, ifs, 0⟩]) (scope := scope) (pos := pos) (p := p) (x := x)
  rw [hs] at hsw
  have hl : X.env.scope.names.lookup x = some .local := by
    simp only [swB, Bool.and_eq_true] at hs
    rw [T.sc]
    exact eq_of_beq hs.1.1.2
  have h := clm Z G C k n
  simp only [cE] at hm
  split at hm
  · rename_i hx
    rw [Bool.and_eq_true] at hx
    split at hm
    · rename_i t it ms mm h1 h2 h3 h4
      split at hm
      · rename_i ho
        cases hm
        have ok : BlkOk X.N X.env.scope scope (ownOf Γ.N scope) := by rw [T.N, T.sc]; exact blkOk_by hx.1
        have hl2 : ms.length ≤ 1 := by
          have := of_decide_eq_true hx.2
          rw [(cEs_plain h3).2]; exact this
        have hown : ∀ i ∈ slotsT t, i ∈ (ownOf Γ.N scope).map (·.2) := fun i hi => by
          have := List.all_eq_true.mp ho i hi
          simpa using this
        have key := ps_lcAsg (C := C) (G := G) (E := E) hown (ps_lcW (spos := spos) (i := i) A.amb.calm A.amb.nd hi hl hsw (h.I X (YE E) Γ tg iter it A.amb T h2).1 ok hown
          (fun s H C' cl fp => cT_of (T.blk s H scope C' cl fp) A.amb.calm A.amb.nd n tg t h1)
          (fun s H C' cl fp => (h.L _ Y0 _ ifs ms (A.amb.blk s H scope _ fp) (T.blk s H scope C' cl fp) h3).2 hl2)
          (fun s H C' cl fp => (h.E _ Y0 _ elt mm (A.amb.blk s H scope _ fp) (T.blk s H scope C' cl fp) h4).1)
          (fold_plain (h.I X (YE E) Γ tg iter it A.amb T h2).2))
        generalize Z.box pos = b'
        cases b' with
        | true => cases b <;> exact key.2
        | false => cases b with
          | true => exact key.2
          | false => exact key.1
      · cases hm
    · cases hm
  · cases hm
theorem par_swaps {X : Cx} {x y : Str} {px py pt pt2 : Pos} {kt k2 : Nat} {a b : Expr} (hk : X.env.scope.kind = .function) (hx : X.env.scope.names.lookup x = some .local) (hy : X.env.scope.names.lookup y = some .local) (hl : (px.line == py.line) = true) (hne : (x != y) = true)
    (h1 : [a, b].all (foldedForSure 8) = false) (h2 : [a, b].all (constantsAlone 8) = false) (pa : plainE a = true) (pb : plainE b = true) :
    swappedStores [.Tuple [.Name x px, .Name y py] kt pt] (.Tuple [a, b] k2 pt2) X.env = pure (some [x, y]) := by
  have hb := block_fn hk
  have kx : (X.env.kindOf x == some NameKind.local) = true := by
    show (X.env.scope.names.lookup x == _) = true
    rw [hx]; rfl
  have ky : (X.env.kindOf y == some NameKind.local) = true := by
    show (X.env.scope.names.lookup y == _) = true
    rw [hy]; rfl
  have pp : (Expr.Name x px).pos = px := rfl
  have ly : (py.line == px.line) = true := by rw [eq_of_beq hl]; exact beq_self_eq_true _
  have hany : ([a, b].any fun x => match x with | .Starred _ _ => true | _ => false) = false := by
    simp only [List.any_cons, List.any_nil, Bool.or_false]
    rw [Bool.or_eq_false_iff]
    constructor
    · cases a <;> first | rfl | cases pa
    · cases b <;> first | rfl | cases pb
  have hne' : (y == x) = false := by
    rw [beq_eq_false_iff_ne]
    intro z
    rw [z] at hne
    simp at hne
  have hd : ([x, y] : List Str).eraseDups.length = 2 := by
    have : ([x, y] : List Str).eraseDups = [x, y] := by
      rw [List.eraseDups_cons]
      simp [hne', List.eraseDups_cons]
    rw [this]; rfl
  unfold swappedStores
  simp only [List.length_cons, List.length_nil, List.head?_cons, Option.map_some, Option.getD_some]
  rw [hb, if_neg (by decide)]
  refine (if_neg (fun z => Bool.false_ne_true (hany.symm.trans z))).trans ?_
  simp only [List.filterMap_cons, List.filterMap_nil, pp, kx, ky, ly, beq_self_eq_true, Bool.and_self, if_true]
  rw [if_neg (by rw [hd]; simp), if_neg (by rw [h1]; decide), if_neg (by rw [h2]; decide)]
theorem par3_swaps {X : Cx} {x y z : Str} {px py pz pt pt2 : Pos} {kt k2 : Nat} {a b c : Expr} (hk : X.env.scope.kind = .function) (hx : X.env.scope.names.lookup x = some .local) (hy : X.env.scope.names.lookup y = some .local) (hz : X.env.scope.names.lookup z = some .local) (hl : (px.line == py.line) = true) (hl2 : (px.line == pz.line) = true)
    (hne : (x != y) = true) (hne2 : (x != z) = true) (hne3 : (y != z) = true) (h1 : [a, b, c].all (foldedForSure 8) = false) (h2 : [a, b, c].all (constantsAlone 8) = false) (pa : plainE a = true) (pb : plainE b = true) (pc : plainE c = true) :
    swappedStores [.Tuple [.Name x px, .Name y py, .Name z pz] kt pt] (.Tuple [a, b, c] k2 pt2) X.env = pure (some [x, y, z]) := by
  have hb := block_fn hk
  have kx : (X.env.kindOf x == some NameKind.local) = true := by
    show (X.env.scope.names.lookup x == _) = true
    rw [hx]; rfl
  have ky : (X.env.kindOf y == some NameKind.local) = true := by
    show (X.env.scope.names.lookup y == _) = true
    rw [hy]; rfl
  have kz : (X.env.kindOf z == some NameKind.local) = true := by
    show (X.env.scope.names.lookup z == _) = true
    rw [hz]; rfl
  have pp : (Expr.Name x px).pos = px := rfl
  have ly : (py.line == px.line) = true := by rw [eq_of_beq hl]; exact beq_self_eq_true _
  have lz : (pz.line == px.line) = true := by rw [eq_of_beq hl2]; exact beq_self_eq_true _
  have one : ∀ e : Expr, plainE e = true → (match e with | .Starred _ _ => true | _ => false) = false := fun e h => by cases e <;> first | rfl | cases h
  have hany : ([a, b, c].any fun x => match x with | .Starred _ _ => true | _ => false) = false := by
    simp only [List.any_cons, List.any_nil, Bool.or_false]
    rw [Bool.or_eq_false_iff, Bool.or_eq_false_iff]
    exact ⟨one a pa, one b pb, one c pc⟩
  have ne : ∀ {u v : Str}, (u != v) = true → (v == u) = false := fun {u v} h => by
    rw [beq_eq_false_iff_ne]
    intro q
    rw [q] at h
    simp at h
  have n1 := ne hne
  have n2 := ne hne2
  have n3 := ne hne3
  have hd : ([x, y, z] : List Str).eraseDups.length = 3 := by
    have : ([x, y, z] : List Str).eraseDups = [x, y, z] := by
      rw [List.eraseDups_cons]
      simp [n1, n2, n3, List.eraseDups_cons]
    rw [this]; rfl
  unfold swappedStores
  simp only [List.length_cons, List.length_nil, List.head?_cons, Option.map_some, Option.getD_some]
  rw [hb, if_neg (by decide)]
  refine (if_neg (fun q => Bool.false_ne_true (hany.symm.trans q))).trans ?_
  simp only [List.filterMap_cons, List.filterMap_nil, pp, kx, ky, kz, ly, lz, beq_self_eq_true, Bool.and_self, if_true]
  rw [if_neg (by rw [hd]; simp), if_neg (by rw [h1]; decide), if_neg (by rw [h2]; decide)]
theorem long_swaps {X : Cx} {ts : List Expr} {kt : Nat} {pt : Pos} {e : Expr} (h : isTup e = false ∨ 4 ≤ ts.length) : swappedStores [.Tuple ts kt pt] e X.env = pure none := by
  rcases h with h | h
  · cases e <;> first | rfl | cases h
  · cases e with
    | Tuple vs k p =>
      unfold swappedStores
      have : (!(ts.length == 2 || ts.length == 3)) = true := by
        have a : ¬ ts.length = 2 := by omega
        have b : ¬ ts.length = 3 := by omega
        simp [a, b]
      simp only [this, Bool.true_or, if_true]
    | _ => rfl
end
end Sw
end
section
set_option maxRecDepth 100000
set_option autoImplicit false
set_option maxHeartbeats 16000000
/-! SxH: statements compiled are meant: the induction. -/
namespace Sw
open CL
open PySem PySem.Spec PyProof.Rows L2
open PySem.SeqAt (EqAt)
theorem asg_sub {o i : Expr} {pos : Pos} {env : Env} (pl : plainE i = true) : ∀ v, assign (.Subscript o i pos) env v = (do
      let ov ← holding [v] (eval o env)
      let iv ← holding [v, ov] (eval i env)
      standAt pos
      holding [v, ov, iv] (setItem ov iv v)
      release [v, ov, iv] []) := by
  cases i <;> first | exact fun _ => rfl | cases pl
theorem Amb.tr {X : Cx} {Z : Sg} {G : Cfg} {C : Str → List W → Store → Out W} {Y W : WX} {k : Nat} (A : Amb X Z G C Y k) {pn : List (Addr × Obj)} {xe : Value → Shared → Prop} (tk : Takes (X.tr pn xe) W) : Amb (X.tr pn xe) Z G C W k :=
  ⟨A.calm, A.nd, A.room, A.guard, A.sys, fun σ => passAt tk σ, A.defs, A.ar, A.fnv, A.glob, A.bis, ⟨A.ext.isc, A.ext.isi, A.ext.cls, A.ext.sub, A.ext.sup⟩⟩
theorem Tie.tr {Γ : Sc} {X : Cx} (T : Tie Γ X) {pn : List (Addr × Obj)} {xe : Value → Shared → Prop} : Tie Γ (X.tr pn xe) := ⟨T.N, T.sc, T.own⟩
section
variable {Z : Sg} {G : Cfg} {C : Str → List W → Store → Out W} {k : Nat} {bx : Str → Bool} {Y : WX}
mutual
/-- the body of a try -/
theorem cQ_of {X : Cx} {Γ : Sc} (A : Amb X Z G C Y k) (T : Tie Γ X) : ∀ (n : Nat) (s : Stmt) (m : MS), cS Z bx n Γ s = some m → qS m = true → PS X s (qM X G C Y m)
  | 0, _, _, h, _ => by simp [cS] at h
  | n + 1, s, m, he, q => by
    have h := clm Z G C k n
    simp only [cS] at he
    split at he
    · cases he; exact q_pass
    · cases he; cases q
    · cases he; cases q
    · cases he; cases q
    · obtain ⟨x, hx, rfl⟩ := Option.map_eq_some_iff.mp he
      cases q
    · cases he
      exact ps_doc.imp fun D σ H ⟨ι, st, env, S, Ee, q⟩ => q ι H (CL.le_refl _) (Same.refl _) S
    · split at he
      · cases he
      · rename_i hc
        obtain ⟨x, hx, rfl⟩ := Option.map_eq_some_iff.mp he
        exact q_ex (h.E X _ Γ _ x A T hx).1 (swaps_none (by simpa using hc))
    · split at he
      · cases he; cases q
      · cases he
    · split at he
      · cases he
      · split at he
        · cases he; cases q
        · cases he
    · split at he
      · split at he
        · cases he; cases q
        · cases he
      · cases he
    · split at he
      · split at he
        · cases he; cases q
        · cases he
      · cases he
    · split at he
      · cases he
      · split at he
        · cases he; cases q
        · cases he
    · split at he
      · cases he
      · split at he
        · cases he; cases q
        · cases he
    · split at he
      · rename_i mm ma mb h1 h2 h3
        cases he
        simp only [qS, Bool.and_eq_true] at q
        exact q_iff (h.E X _ Γ _ mm A T h1).2 (cQs_of A T n _ ma h2 q.1) (cQs_of A T n _ mb h3 q.2)
      · cases he
    · split at he
      · cases he; cases q
      · cases he
    · split at he
      · obtain ⟨x, hx, rfl⟩ := Option.map_eq_some_iff.mp he
        cases q
      · cases he
    · split at he
      · split at he
        · split at he
          · cases he; cases q
          · cases he
        · cases he
      · cases he
    · split at he
      · cases he; cases q
      · cases he
    · cases he
theorem cQs_of {X : Cx} {Γ : Sc} (A : Amb X Z G C Y k) (T : Tie Γ X) : ∀ (n : Nat) (ss : List Stmt) (ms : List MS), cSs Z bx n Γ ss = some ms → qSs ms = true → PSs X ss (qMs X G C Y ms)
  | n, [], ms, h, _ => by
    have : ms = [] := by cases n <;> simp [cSs] at h <;> exact h
    subst this
    exact qs_nil
  | 0, _ :: _, _, h, _ => by simp [cSs] at h
  | n + 1, s :: ss, ms, h, q => by
    simp only [cSs] at h
    split at h
    · rename_i m ms' h1 h2
      cases h
      simp only [qSs, Bool.and_eq_true] at q
      exact qs_cons q.1 (cQ_of A T n s m h1 q.1) (cQs_of A T n ss ms' h2 q.2)
    · cases h
end
end
section
variable {Z : Sg} {G : Cfg} {C : Str → List W → Store → Out W} {k : Nat} {bx : Str → Bool} {E : XK}
mutual
theorem cS_of {X : Cx} {Γ : Sc} (A : AmbS X Z G C E k) (T : Tie Γ X) : ∀ (n : Nat) (s : Stmt) (m : MS), cS Z bx n Γ s = some m → PS X s (sM X G C E m)
  | 0, _, _, h => by simp [cS] at h
  | n + 1, s, m, he => by
    have h := clm Z G C k n
    have hu := A.amb.room200
    simp only [cS] at he
    split at he
    · cases he; exact ps_passW
    · cases he; exact ps_brkW
    · cases he; exact ps_cntW
    · cases he; exact ps_retNW
    · obtain ⟨x, hx, rfl⟩ := Option.map_eq_some_iff.mp he
      exact ps_retW (h.E X _ Γ _ x A.amb T hx).1
    · cases he
      exact ps_doc.imp fun D σ H ⟨ι, st, env, S, Ee, q⟩ => q ι H (CL.le_refl _) (Same.refl _) S σ Ee
    · split at he
      · cases he
      · rename_i hc
        obtain ⟨x, hx, rfl⟩ := Option.map_eq_some_iff.mp he
        exact ps_exW (h.E X _ Γ _ x A.amb T hx).1 (swaps_none (by simpa using hc))
    · -- name = [..]
      rename_i x p elt tg iter ifs scope pos spos
      split at he
      · rename_i i mm h1 h2
        cases he
        obtain ⟨q1, q2, q3⟩ := cN_of T h1
        cases hs : swB Γ x p (.ListComp elt [⟨tg, iter, ifs, 0⟩] scope pos) with
        | true =>
          cases n with
          | zero => simp [cE] at h2
          | succ n => exact asg_comp A T q1 h2 hs _
        | false =>
          have hsw := swaps_lc (n := spos.line) T A.kind (elt := elt) (gens := [⟨tg, iter, ifs, 0⟩]) (scope := scope) (pos := pos) (p := p) (x := x)
          rw [hs] at hsw
          exact ps_asgW A.amb.nd q1 q2 (bx_of (h.E X _ Γ _ mm A.amb T h2).1) hsw q3
      · cases he
    · split at he
      · cases he
      · rename_i hc
        split at he
        · rename_i i mm h1 h2
          cases he
          obtain ⟨q1, q2, q3⟩ := cN_of T h1
          exact ps_asgW A.amb.nd q1 q2 (bx_of (h.E X _ Γ _ mm A.amb T h2).1) (swaps_none (by simpa using hc)) q3
        · cases he
    · -- a, b = x, y
      rename_i x px y py kt pt a b k2 pt2 spos
      split at he
      · rename_i hc
        simp only [Bool.and_eq_true, Bool.not_eq_true'] at hc
        obtain ⟨⟨⟨⟨⟨⟨⟨⟨c1, c2⟩, c3⟩, c4⟩, c5⟩, c6⟩, c7⟩, c8⟩, c9⟩ := hc
        split at he
        · rename_i i j ma mb h1 h2 h3 h4
          cases he
          have hx := eq_of_beq c2
          have hy := eq_of_beq c3
          have sa := star_plain (es := [b]) (env := X.env) c8
          have sb := star_plain (es := []) (env := X.env) c9
          have hi : X.N[i]? = some x := by rw [T.N]; exact idx_of h1
          have hj : X.N[j]? = some y := by rw [T.N]; exact idx_of h2
          refine ps_parW A.amb.calm A.amb.nd hi hj (fun z => ?_) (by rw [T.sc]; exact hx) (by rw [T.sc]; exact hy)
            (pa_consW (bx_of (h.E X _ Γ a ma A.amb T h3).1) (pa_consW (bx_of (h.E X _ Γ b mb A.amb T h4).1) pa_nilW sb) sa)
            (par_swaps A.kind (by rw [T.sc]; exact hx) (by rw [T.sc]; exact hy) c4 c5 c6 c7 c8 c9) rfl
          rw [z, hj] at hi
          cases hi
          simp at c5
        · cases he
      · cases he
    · -- a, b, c = x, y, z
      rename_i x px y py z pz kt pt a b c k2 pt2 spos
      split at he
      · rename_i hc
        simp only [Bool.and_eq_true, Bool.not_eq_true'] at hc
        obtain ⟨⟨⟨⟨⟨⟨⟨⟨⟨⟨⟨⟨⟨c1, c2⟩, c3⟩, c4⟩, c5⟩, c6⟩, c7⟩, c8⟩, c9⟩, c10⟩, c11⟩, c12⟩, c13⟩, c14⟩ := hc
        split at he
        · rename_i i j l ma mb mc h1 h2 h3 h4 h5 h6
          cases he
          have hx := eq_of_beq c2
          have hy := eq_of_beq c3
          have hz := eq_of_beq c4
          have sa := star_plain (es := [b, c]) (env := X.env) c12
          have sb := star_plain (es := [c]) (env := X.env) c13
          have sc' := star_plain (es := []) (env := X.env) c14
          have hi : X.N[i]? = some x := by rw [T.N]; exact idx_of h1
          have hj : X.N[j]? = some y := by rw [T.N]; exact idx_of h2
          have hl : X.N[l]? = some z := by rw [T.N]; exact idx_of h3
          refine ps_par3W A.amb.calm A.amb.nd hi hj hl (fun q => ?_) (fun q => ?_) (fun q => ?_) (by rw [T.sc]; exact hx) (by rw [T.sc]; exact hy) (by rw [T.sc]; exact hz)
            (pa_consW (bx_of (h.E X _ Γ a ma A.amb T h4).1) (pa_consW (bx_of (h.E X _ Γ b mb A.amb T h5).1) (pa_consW (bx_of (h.E X _ Γ c mc A.amb T h6).1) pa_nilW sc') sb) sa)
            (par3_swaps A.kind (by rw [T.sc]; exact hx) (by rw [T.sc]; exact hy) (by rw [T.sc]; exact hz) c5 c6 c7 c8 c9 c10 c11 c12 c13 c14) rfl
          · rw [q, hj] at hi; cases hi; simp at c7
          · rw [q, hl] at hi; cases hi; simp at c8
          · rw [q, hl] at hj; cases hj; simp at c9
        · cases he
      · cases he
    · -- o[i] = e
      split at he
      · cases he
      · rename_i hc
        split at he
        · rename_i mm mo mi h1 h2 h3
          cases he
          have pl := cE_plain h3
          refine ps_setIW hu (h.E X _ Γ _ mm A.amb T h1).1 (h.E X _ Γ _ mo A.amb T h2).1 (h.E X _ Γ _ mi A.amb T h3).1 swaps_sub rfl ?_
          exact asg_sub pl
        · cases he
    · -- (a, b, ..) = e
      rename_i ts kt pt e spos _ _
      split at he
      · cases he
      · rename_i hc
        simp only [Bool.or_eq_true, not_or, Bool.not_eq_true, Bool.and_eq_false_iff, decide_eq_false_iff_not, Nat.not_lt] at hc
        split at he
        · rename_i mm t h1 h2
          cases he
          refine ps_unpW (h.E X _ Γ _ mm A.amb T h1).1 (cT_of T A.amb.calm A.amb.nd n _ t h2) ?_ (long_swaps hc.2) (by rw [cT_star h2]; rfl)
          · show swapsWith e (some (.Tuple ts kt pt)) spos.line X.env = pure false
            exact swaps_none hc.1
        · cases he
    · split at he
      · rename_i mm ma mb h1 h2 h3
        cases he
        exact ps_iffW (h.E X _ Γ _ mm A.amb T h1).2 (cSs_of A T n _ ma h2) (cSs_of A T n _ mb h3)
      · cases he
    · split at he
      · rename_i t it mm h1 h2 h3
        cases he
        exact ps_forW A.own A.amb.calm (h.I X _ Γ _ _ it A.amb T h2).1 (cT_of T A.amb.calm A.amb.nd n _ t h1) (cSs_of A T n _ mm h3) (fold_plain (h.I X (YE E) Γ (.Constant .none 0 default) _ it A.amb T h2).2)
      · cases he
    · -- raise c(e)
      rename_i c cp a p2 rp
      split at he
      · rename_i hc
        simp only [Bool.and_eq_true, Bool.not_eq_true'] at hc
        obtain ⟨mm, hx, rfl⟩ := Option.map_eq_some_iff.mp he
        have pl := cE_plain hx
        have sa := star_plain (es := []) (env := X.env) pl
        exact ps_raiseW A.ext A.amb.calm A.tk A.amb.room (glB_of T hc.1.2) (A.cls c hc.1.1) (h.E X _ Γ _ mm A.amb T hx).1 (odd_of hc.2).1 sa rfl
      · cases he
    · -- try
      rename_i body c cp e y yp e' ep ap hp tp
      split at he
      · rename_i hc
        simp only [Bool.and_eq_true, Bool.not_eq_true'] at hc
        obtain ⟨⟨⟨⟨⟨⟨⟨c1, c2⟩, c3⟩, c4⟩, c5⟩, c6⟩, c7⟩, c8⟩ := hc
        have ee := eq_of_beq c5
        subst ee
        split at he
        · rename_i i j ms h1 h2 h3
          split at he
          · rename_i hq
            cases he
            have hi : X.N[i]? = some e := by rw [T.N]; exact idx_of h1
            have hj : X.N[j]? = some y := by rw [T.N]; exact idx_of h2
            refine ps_triW A.ext A.stk A.frm A.amb.nd hi hj (fun z => ?_) (by show X.env.scope.names.lookup e = _; rw [T.sc]; exact eq_of_beq c7) (by rw [T.sc]; exact eq_of_beq c8) (glB_of T c2) (odd_of c3).1 (A.cls c c1) (odd_of c4).1 (odd_of c4).2.1 A.exn A.tk A.amb.calm hq
              fun W pn xe tk hp => cQs_of (A.amb.tr tk) T.tr n body ms h3 hq
            rw [z, hj] at hi
            cases hi
            simp at c6
          · cases he
        · cases he
      · cases he
    · split at he
      · rename_i mm mb h1 h2
        cases he
        exact ps_whlW A.own (h.E X _ Γ _ mm A.amb T h1).2 (cSs_of A T n _ mb h2)
      · cases he
    · cases he
theorem cSs_of {X : Cx} {Γ : Sc} (A : AmbS X Z G C E k) (T : Tie Γ X) : ∀ (n : Nat) (ss : List Stmt) (ms : List MS), cSs Z bx n Γ ss = some ms → PSs X ss (sMs X G C E ms)
  | n, [], ms, h => by
    have : ms = [] := by cases n <;> simp [cSs] at h <;> exact h
    subst this
    exact pss_nilW
  | 0, _ :: _, _, h => by simp [cSs] at h
  | n + 1, s :: ss, ms, h => by
    simp only [cSs] at h
    split at h
    · rename_i m ms' h1 h2
      cases h
      exact pss_consW (cS_of A T n s m h1) (cSs_of A T n ss ms' h2)
    · cases h
end
end
end Sw
end
section
set_option maxRecDepth 100000
set_option autoImplicit false
set_option maxHeartbeats 16000000
/-! SxI: a whole program. -/
namespace Sw
open CL
open PySem PySem.Spec PyProof.Rows L2
open PySem.SeqAt (EqAt)
/-- a def as it stands in the source; bx: the names whose new lists are cells; frz: what it returns holds no new cell -/
structure PD where
  name : Str
  params : Arguments
  ps : List Str
  N : List Str
  scope : Scope
  body : List Stmt
  bx : List Str
  frz : Nat
  kws : List (List Str × List Nat) := []
def PD.comp (Z : Sg) (d : PD) : Option Def := (cSs Z (fun x => d.bx.contains x) 400 ⟨d.N, d.scope, fun _ => true⟩ d.body).map fun ms => ⟨d.ps.length, d.N.length, ms, d.frz⟩
/-- what is known of a def in the machine -/
def PDok (K : PySem.W.Frag) (mg : Str → Option Value) (d : PD) : Prop := ∃ (f : Addr) (oc : Value) (od : Option Addr) (osl : Array (Option Value)) (kV doc pm : Value) (an : Option Addr) (cdv ct : Value),
  mg d.name = some (.ref f) ∧ PySem.W.keepIn K (.ref f) = true ∧ K.lookup f = some ⟨oc, od, .func (PySem.W.fnOf d.name d.name d.params d.body d.scope .none kV doc pm an cdv ct), osl⟩ ∧ PySem.W.codeIn K cdv d.name = true ∧ FnScope d.N d.ps d.scope ∧
  (∀ us : List Value, us.length = d.ps.length → bindArgs (PySem.W.fnOf d.name d.name d.params d.body d.scope .none kV doc pm an cdv ct) ⟨us, []⟩ = pure (d.ps.zip us)) ∧
  ∀ ks perm, d.kws.lookup ks = some perm → KwB (PySem.W.fnOf d.name d.name d.params d.body d.scope .none kV doc pm an cdv ct) d.ps ks perm
/-- the compiler's and the interpreter's tables fit the program -/
structure Fits (K : PySem.W.Frag) (mg : Str → Option Value) (P : Program) (w : World) (Z : Sg) (G : Cfg) : Prop where
  np : ∀ x np, Z.np x = some np → ∃ d D, d.name = x ∧ PDok K mg d ∧ d.comp Z = some D ∧ G.defs x = some D ∧ d.ps.length = np ∧ (∀ ks, Z.kw x ks = d.kws.lookup ks) ∧ d.ps = Z.pn x
  fnv : ∀ x y, G.glob x = some (.fn y) → ∃ np, Z.np x = some np
  glob : ∀ x w', Z.glob x = some w' → G.glob x = some w' ∧ ∃ v u, mg x = some u ∧ RelV v u ∧ ∀ ι H, Rep ⟨P, w, K, mg⟩ ι H w' v
  bis : ∀ x ∈ biNames, mg x = none
  cls : ∀ c, Z.cls c = true → G.sub c c = true
  ecl : ∀ c, G.sub c c = true → ∃ C, mg c = some (.ref C) ∧ ExIn P K C ∧ XfC K C ∧ PySem.W.findIn K (.ref C) "value" = some none
  eis : ∀ c C, G.sub c c = true → mg c = some (.ref C) → IsC K C
  eisi : ∀ c d C D, G.sub c c = true → G.sub d d = true → mg c = some (.ref C) → mg d = some (.ref D) → PySem.W.kitOne K (.ref C) (.ref D) = some (G.sub c d)
  esub : ∀ c d C D, G.sub c c = true → G.sub d d = true → mg c = some (.ref C) → mg d = some (.ref D) → PySem.W.exmOne K (.ref C) (.ref D) = some (G.sub c d)
theorem arity {P : Program} {w : World} {K : PySem.W.Frag} {mg : Str → Option Value} {Z : Sg} {G : Cfg} (F : Fits K mg P w Z G) : ∀ (k : Nat) (x : Str) (np : Nat) (ws : List W) (st : Store), Z.np x = some np → ws.length ≠ np → callF G k x ws st = .stuck
  | 0, x, np, ws, st, h, hw => rfl
  | k + 1, x, np, ws, st, h, hw => by
    obtain ⟨d, D, hx, _, hc, hd, hn, _⟩ := F.np x np h
    unfold PD.comp at hc
    obtain ⟨ms, hm, rfl⟩ := Option.map_eq_some_iff.mp hc
    simp only [callF, hd]
    rw [if_neg (by rw [hn]; exact hw)]
/-- the machine's base says what is asked -/
def SysB (base : Heap) : Prop := ∃ o, base.get? sysModules = some o ∧ o.cls = .type "dict"
theorem prog_ok {P : Program} {w : World} {K : PySem.W.Frag} {mg : Str → Option Value} {Z : Sg} {G : Cfg} (F : Fits K mg P w Z G) : ∀ (k : Nat) (x : Str) (np : Nat), Z.np x = some np →
    ∃ f fd ps, mg x = some (.ref f) ∧ PySem.W.keepIn K (.ref f) = true ∧ Binds K fd ps [] ∧ (∀ base : Heap, SysB base → FnG P w K mg base k f fd ps (spD ⟨P, w, K, mg⟩ (callF G k x) np)) ∧ ps.length = np ∧ (∀ ks perm, Z.kw x ks = some perm → KwB fd ps ks perm) ∧
      ps = Z.pn x ∧ ∀ us : List Value, us.length = ps.length → bindArgs fd ⟨us, []⟩ = pure ((Z.pn x).zip us)
  | 0, x, np, h => by
    obtain ⟨d, D, hx, ⟨f, oc, od, osl, kV, doc, pm, an, cdv, ct, q1, q2, q3, q4, q5, q6, q7⟩, hc, hd, hn, hkw, hpn⟩ := F.np x np h
    subst hx
    refine ⟨f, _, d.ps, q1, q2, Binds.all q6, fun base hs => ?_, hn, fun ks perm e => q7 ks perm (by rw [← hkw]; exact e), hpn, hpn ▸ q6⟩
    refine ⟨fun vs H Q E h => by rw [h.1, hn], fun A outer s H args us vs Q E _ _ _ _ _ hsp => ?_⟩
    obtain ⟨_, ι, st, ws, _, _, hp⟩ := hsp
    exact hp.elim
  | k + 1, x, np, h => by
    obtain ⟨d, D, hx, ⟨f, oc, od, osl, kV, doc, pm, an, cdv, ct, q1, q2, q3, q4, q5, q6, q7⟩, hc, hd, hn, hkw, hpn⟩ := F.np x np h
    subst hx
    refine ⟨f, _, d.ps, q1, q2, Binds.all q6, fun base hs => fn_ofG q3 q4 q5 (fun vs H Q E h => by rw [h.1, hn]) fun A outer s H vs Q E hr hgd hsp => ?_, hn, fun ks perm e => q7 ks perm (by rw [← hkw]; exact e), hpn, hpn ▸ q6⟩
    obtain ⟨hl, ι, st, ws, S, r, hp⟩ := hsp
    unfold PD.comp at hc
    obtain ⟨ms, hm, rfl⟩ := Option.map_eq_some_iff.mp hc
    have tk : Takes (cxOf (L2.CX P w) P w K mg base d.N d.name d.scope f cdv A outer s H E) (YE E) := takes_of rfl rfl rfl rfl
    have amb : AmbS (cxOf (L2.CX P w) P w K mg base d.N d.name d.scope f cdv A outer s H E) Z G (callF G k) E k :=
      ⟨⟨rfl, q5.nd, hr, hgd, hs, fun σ => passAt tk σ, fun y np' h' => let ⟨f', fd', ps', a1, a2, a3, a4, a5, a6, _⟩ := prog_ok F k y np' h'; ⟨f', fd', ps', a1, a2, a3, a4 base hs, a5, a6⟩, arity F k, F.fnv, F.glob, F.bis, ⟨F.eis, F.eisi, F.ecl, F.esub, F.bis _ (by decide)⟩⟩, passes_of rfl, q5.kind, ⟨F.eis, F.eisi, F.ecl, F.esub, F.bis _ (by decide)⟩, F.cls, tk, rfl, rfl, rfl⟩
    have hwl : ws.length = d.ps.length := by rw [← r.len, hl, hn]
    simp only [callF, hd] at hp
    rw [if_pos hwl] at hp
    obtain ⟨ι1, S1, hpre, hsm, hb⟩ := body_imp (g := ⟨P, w, K, mg⟩) (m := d.frz) (st := st) (E := E) (Q := Q) (o := fun st => exs G (callF G k) ms (ws.map some ++ List.replicate (d.N.length - d.ps.length) none) st) S hp
    refine ⟨_, cSs_of amb ⟨rfl, rfl, fun _ _ => rfl⟩ 400 d.body ms hm, ?_⟩
    refine ⟨ι1, _, _, S1, ?_, post.slots hb⟩
    have := er_start (g := ⟨P, w, K, mg⟩) (N := d.N) r
    rw [hwl] at this
    exact this.monoC hsm hpre
end Sw
end
section
set_option maxRecDepth 100000
set_option autoImplicit false
set_option maxHeartbeats 16000000
/-! SxJ: the law's end. -/
namespace Sw
open CL
open PySem PySem.Spec PyProof.Rows L2
open PySem.SeqAt (EqAt)
theorem noCX {P : Program} {w : World} {H : Hp} {s : Shared} {e : Value} {s' : Shared} (h : L2.CX P w [] H s (fun _ _ _ => False) e s') : False := by
  obtain ⟨_, _, _, _, _, _, _, _, _, _, _, _, hf⟩ := h
  exact hf
/-- the law is called with the script -/
theorem call_law {P : Program} {w : World} {K : PySem.W.Frag} {mg mb : Str → Option Value} {k : Nat} {fa a : Addr} {fd : FuncData} {x : Str} {sp : Sp} {s₁ : Shared} {vs : List Value} {ns : List Int}
    (KX : K.In s₁.heap) (hns : s₁.heap.Ns mainGlobals mg) (hb : s₁.heap.Ns builtinsNs mb) (hbb : ∀ x : Str, x ≠ "__name__" → mb x = bootBuiltins x) (hlim : s₁.heap.NoLimit) (hg : s₁.gens = #[])
    (ha : s₁.heap.get? a = some { cls := .type "list", data := .seq vs.toArray }) (hi : IntsAre vs ns) (hl : ns.length ≤ sizeLine) (hr : Room k callerA)
    (F : ∀ base : Heap, K.In base → base.Ns mainGlobals mg → FnG P w K mg base k fa fd [x] sp) (hbind : ∀ (s : Shared) (u : Value), BindsTo s fd ⟨[u], []⟩ [(x, u)])
    (hsp : ∀ H : Hp, Ls K H a (ns.map V.int) → sp [.ref a] H (fun v _ => v = .bl true) fun _ _ _ => False) :
    codeAny (model P w) callerA (.call (.ref fa) ⟨[.ref a], []⟩) (fun r s' => r = .ok (.ret (.bool true)) ∧ OldK s₁.heap s'.heap ∧ s'.os = s₁.os ∧ AllBare s'.gens) s₁ := by
  have rv := vals_ints hi
  have lenV := hi.length
  have core : ∀ H : Hp, Only H → Ls K H a (ns.map V.int) → HOk P w H s₁.heap → (∀ b, H b ≠ none → b = a) → (H a ≠ none → K.lookup a = none) →
      codeAny (model P w) callerA (.call (.ref fa) ⟨[.ref a], []⟩) (fun r s' => r = .ok (.ret (.bool true)) ∧ OldK s₁.heap s'.heap ∧ s'.os = s₁.os ∧ AllBare s'.gens) s₁ := by
    intro H hO hS hok hA hK
    have noA : ∀ {b : Addr} {o : Obj} {es : Array DictEntry} {ep : Nat}, s₁.heap.get? b = some o → o.data = .dict es ep → H b = none := fun {b o es ep} e d => by
      cases q : H b with
      | none => rfl
      | some u =>
        have e' : b = a := hA b (by rw [q]; simp)
        rw [e', ha] at e
        cases e
        cases d
    have nsK : ∀ {b : Addr} {m : Str → Option Value}, s₁.heap.Ns b m → (hidT s₁.heap H).Ns b m := fun {b m} ⟨o, es, ep, e, d, r⟩ => ⟨o, es, ep, hidT_get e (noA e d), d, r⟩
    have hKb : K.In (hidT s₁.heap H) := fun b o e => hidT_get (KX b o e) (by
      cases q : H b with
      | none => rfl
      | some u =>
        have e' : b = a := hA b (by rw [q]; simp)
        rw [e', hK (by rw [← e', q]; simp)] at e
        cases e)
    have hM : Mod K mg (hidT s₁.heap H) := ⟨hKb, nsK hns, ⟨mb, nsK hb, hbb⟩, let ⟨mc, h1, h2⟩ := hlim; ⟨mc, nsK h1, h2⟩⟩
    have e0 : Env0 P w K mg (hidT s₁.heap H) callerA [] s₁ H := ⟨rfl, hM, fun b o e => of_hidT e, Nat.le_of_eq (hidT_size _ _), trivial, fun b hb => absurd (show b ∈ ([] : List Addr) from hb) (by simp), hok, .of_eq hg⟩
    refine codeAny_mono ((F _ hKb (nsK hns)).run callerA [] s₁ H ⟨[.ref a], []⟩ [.ref a] [.ref a] _ _ hr rfl e0 (hbind s₁ (.ref a)) (.cons rfl .nil) (hsp H hS)) fun r s' h => ?_
    cases r with
    | error e => exact (noCX h).elim
    | ok fl =>
      cases fl with
      | next => exact False.elim h
      | brk => exact False.elim h
      | cont => exact False.elim h
      | ret u =>
        obtain ⟨v, H', os, bare, un, hok', r', q⟩ := h
        have q' : v = .bl true := q
        subst q'
        have eu : u = Value.bool true := r'
        subst eu
        refine ⟨rfl, OldK.of_keep fun b o e => ?_, os, bare⟩
        cases q : H b with
        | none => exact un.keep b o e q (fun z => absurd (show b ∈ ([] : List Addr) from z) (by simp)) (by simp)
        | some u =>
          rcases hO b with z | ⟨ob, xs, z⟩
          · rw [q] at z; cases z
          · obtain ⟨e1, _⟩ := hok b _ z
            obtain ⟨e2, _⟩ := hok' b _ (un.frzs b ob _ z)
            rw [e] at e1; cases e1
            exact e2
  cases hk : K.lookup a with
  | some o =>
    have e := KX a o hk
    rw [ha] at e
    cases e
    exact core (fun _ => none) (fun _ => .inl rfl) (.inr ⟨vs.toArray, _, hk, by rw [List.size_toArray, lenV]; exact hl, by simpa using rv⟩) (fun b u z => nomatch z) (fun b z => absurd rfl z) fun z => absurd rfl z
  | none =>
    refine core (fun b => if b = a then some (.frz { cls := .type "list", data := .seq vs.toArray } (.lst (ns.map V.int))) else none) (fun b => ?_) (.inl (.inr ⟨{ cls := .type "list", data := .seq vs.toArray }, if_pos rfl⟩)) (fun b u z => ?_) (fun b z => ?_) fun _ => hk
    · by_cases hb : b = a
      · exact .inr ⟨_, _, if_pos hb⟩
      · exact .inl (if_neg hb)
    · by_cases hb : b = a
      · have z' := (if_pos hb).symm.trans z
        cases z'
        subst hb
        exact ⟨ha, by rw [List.length_map]; exact hl, vs, _, rv, ha⟩
      · have z' := (if_neg hb).symm.trans z
        cases z'
    · by_cases hb : b = a
      · exact hb
      · exact absurd (if_neg hb) z
/-- the law's promise, by the mini language -/
theorem law_sp {P : Program} {w : World} {K : PySem.W.Frag} {mg : Str → Option Value} {C : List W → Store → Out W} {ns : List Int} {a : Addr} {H : Hp} (hS : Ls K H a (ns.map V.int)) {st : Store} (h : C [.lst (ns.map W.int)] [] = .ok (.bl true) st) :
    spD ⟨P, w, K, mg⟩ C 1 [.ref a] H (fun v _ => v = .bl true) fun _ _ _ => False := by
  have hints : ∀ ms : List Int, Reps (⟨P, w, K, mg⟩ : Gd) CL.nil (msk H CL.nil) (ms.map W.int) (ms.map V.int) := by
    intro ms
    induction ms with
    | nil => exact Reps.nil
    | cons m ms ih => exact Reps.cons rfl ih
  refine ⟨rfl, CL.nil, [], [.lst (ns.map W.int)], ⟨rfl, List.nodup_nil, fun n w e => by simp at e, (fun p h => by cases h), (fun p h => by cases h), fun n w e => by simp at e⟩, Reps.cons ⟨a, ns.map V.int, rfl, by rw [msk_nil]; exact hS, hints ns⟩ Reps.nil, ?_⟩
  rw [h]
  exact fun ι' H' _ _ _ v r _ => r
/-- the walk's end -/
theorem walk_ofG {l : PySem.W.OpenLaw} {n k : Nat} {q : Program} {loose : List Str} {XP : (Str → Option Value) → Heap → Prop} {YP : World → Heap → Prop} {d : DefRec} {x : Str}
    (hn : l.most = some n) (hn2 : n ≤ sizeLine) (hdf : d.params.defaults = []) (hr : Room k callerA)
    (F : ∀ (w : World) (mg : Str → Option Value) (fa : Addr) (h : Heap), YP w h → h.Ns mainGlobals mg → mg d.name = some (.ref fa) →
      ∃ (K : PySem.W.Frag) (fd : FuncData) (sp : Sp), K.In h ∧ (∀ (s : Shared) (u : Value), BindsTo s fd ⟨[u], []⟩ [(x, u)]) ∧
        (∀ (H : Hp) (a : Addr) (ns : List Int), ns.length ≤ n → Ls K H a (ns.map V.int) → sp [.ref a] H (fun v _ => v = .bl true) fun _ _ _ => False) ∧
        ∀ base : Heap, K.In base → base.Ns mainGlobals mg → FnG l.prog w K mg base k fa fd [x] sp) :
    PySem.W.WalkO q loose XP YP l.row.toRowW d [] (fun f vs => PySem.call f vs) := by
  refine Att.attach_call hn hdf fun w s₀ s₁ mg mb fa o pm cd doc a vs ns G Y ho hd hcd hmg hobj hints hlen hg => ?_
  obtain ⟨K, fd, sp, KX, hb, hsp, hF⟩ := F w mg fa _ Y G.T.g hmg
  exact call_law KX G.T.g G.T.b G.T.builtins G.T.nolimit hg hobj hints (Nat.le_trans hlen hn2) hr hF hb fun H hS => hsp H a ns hlen hS
end Sw
end
section
set_option maxRecDepth 100000
set_option autoImplicit false
set_option maxHeartbeats 4000000
/-! SyH: what the head tells of the program's defs and classes. -/
namespace Sw
open CL
open PySem PySem.Spec PyProof.Rows L2
open PySem.SeqAt (EqAt)
abbrev FnI : Type := Option (Str × Arguments × FuncBody × Scope × Addr × Value × Addr)
def obsI (K : PySem.W.Frag) (f : Addr) : FnI := match K.lookup f with
  | some ⟨_, _, .func fd, _⟩ => some (fd.name, fd.params, fd.body, fd.scope, fd.globals, fd.defaults, fd.builtins)
  | _ => none
def valI : FnI := some ("__init__", iPars ⟨4, 17, 4, 21⟩ ⟨4, 23, 4, 28⟩, .stmts iBody, iScope, mainGlobals, .none, builtinsNs)
/-- the closure, the code of the __init__ -/
def iniB (prog : Program) (K : PySem.W.Frag) (f D : Addr) : Bool := match K.lookup f with
  | some ⟨_, _, .func fd, _⟩ => (match fd.closure with
    | [(y, cc)] => y == ("__class__" : Str) && (match K.lookup cc with
      | some ⟨_, _, .cell (some (.ref D')), _⟩ => D' == D
      | _ => false)
    | _ => false) && (match fd.code with
    | .ref cda => PySem.W.codeIn K (.ref cda) fd.qualname && (match K.lookup cda with
      | some ⟨_, _, .fields vs, _⟩ => (match (vs[2]? : Option Value) with
        | some (Value.str file _) => (prog.main.file : Str) == file
        | _ => false)
      | _ => false)
    | _ => false)
  | _ => false
def objB (K : PySem.W.Frag) (C : Addr) : Bool := match K.lookup C with
  | some ⟨.type t, _, .cls cd, sl⟩ => t == "type" && cd.hasDict && !cd.hasDel && (match cd.mro, sl.toList with
    | .ref C' :: bm, [_, _, _, _, some (.builtin n), _] => C' == C && n == "ValueError.__new__" && PySem.HandSPX.refsVE bm
    | _, _ => false)
  | _ => false
def tysL : List String := ["NoneType", "bool", "int", "str", "tuple", "list", "dict"]
def sixL : List String := ["int", "bool", "str", "tuple", "list", "dict"]
/-- one exception class C; D the class that has the __init__ f -/
def exC1 (K : PySem.W.Frag) (C f D : Addr) : Bool :=
  decide (PySem.W.mroIn K C (.ref D) = some true) && decide (PySem.W.ks_superIn K C D "__init__" = some (some (.builtin "ValueError.__init__"))) && decide (PySem.W.subIn K (.ref C) (.type "ValueError") = some true) &&
  PySem.W.excInitIn K C veB "ValueError.__new__" && decide (PySem.W.findIn K (.ref C) "__setattr__" = some (some (.builtin "object.__setattr__"))) && (PySem.W.clsIn K C).any (fun cd => PySem.HandSPX.refsVE cd.mro && cd.hasDict) &&
  decide (PySem.W.findIn K (.ref C) "value" = some none) && decide (PySem.W.findIn K (.ref C) "__init__" = some (some (.ref f))) && objB K C && decide (PySem.W.subIn K (.ref C) (.type "BaseException") = some true) &&
  decide (PySem.W.typeIn K (.ref C) = some (.type "type")) && PySem.W.keepIn K (.ref C) && xfB K C && decide (PySem.W.findIn K (.ref C) "__class__" = some (some (.builtin "object.__class__"))) && decide (PySem.W.mroIn K C (.type "object") = some true) &&
  tysL.all (fun T => decide (PySem.W.kitOne K (.type T) (.ref C) = some false)) && sixL.all (fun n => decide (PySem.W.kitOne K (.ref C) (.type n) = some false))
def exB (prog : Program) (K : PySem.W.Frag) (r : Str) (cs : List Str) (sub : Str → Str → Bool) : Bool :=
  (match K.lookup sysModules with | some o => decide (o.cls = .type "dict") | none => false) && (PySem.W.clsIn K (He.ga K r)).isSome && iniB prog K (He.ma K (He.ga K r) "__init__") (He.ga K r) &&
  decide (PySem.W.typeIn K (.ref (He.ma K (He.ga K r) "__init__")) = some (.type "function")) && decide (PySem.W.nsIn K cStatics "thirdparty.any" = some none) &&
  decide (PySem.W.specialIn K (.builtin "object.__class__") "__get__" = some (some (.builtin "getset_descriptor.__get__"))) && decide (PySem.W.takesIn K (.builtin "object.__class__") = some true) &&
  cs.all (fun c => He.eqO (PySem.W.nsIn K mainGlobals c) (some (some (.ref (He.ga K c)))) && exC1 K (He.ga K c) (He.ma K (He.ga K r) "__init__") (He.ga K r)) &&
  cs.all fun c => cs.all fun d => decide (PySem.W.exmOne K (.ref (He.ga K c)) (.ref (He.ga K d)) = some (sub c d)) && decide (PySem.W.kitOne K (.ref (He.ga K c)) (.ref (He.ga K d)) = some (sub c d))
theorem iniB_ok {prog : Program} {K : PySem.W.Frag} {f D : Addr} (h : iniB prog K f D = true) (e : obsI K f = valI) : ∃ (oc : Value) (od : Option Addr) (osl : Array (Option Value)) (qual : Str) (q1 q2 : Pos) (kV doc pm ct : Value) (an : Option Addr) (cda cc : Addr),
    K.lookup f = some ⟨oc, od, .func (PySem.W.ksFn "__init__" qual (iPars q1 q2) iBody iScope .none kV doc pm an (.ref cda) ct cc), osl⟩ ∧ PySem.W.codeIn K (.ref cda) qual = true ∧
    (∃ (ccl : Value) (cdd : Option Addr) (vs : Array Value) (ccs : Array (Option Value)) (file : Str) (tf : Tok), K.lookup cda = some ⟨ccl, cdd, .fields vs, ccs⟩ ∧ vs[2]? = some (.str file tf) ∧ ((prog.main.file : Str) == file) = true) ∧
    ∃ (cl : Value) (cld : Option Addr) (csl : Array (Option Value)), K.lookup cc = some ⟨cl, cld, .cell (some (.ref D)), csl⟩ := by
  unfold iniB at h
  unfold obsI at e
  split at h
  · rename_i oc od fd osl hl
    rw [hl] at e
    obtain ⟨n1, n2, n3, n4, n5, n6, n7, n8, n9, n10, n11, n12, n13, n14, n15⟩ := fd
    have e : (some (n1, n3, n4, n5, n6, n8, n15) : FnI) = (some (("__init__" : Str), iPars ⟨4, 17, 4, 21⟩ ⟨4, 23, 4, 28⟩, FuncBody.stmts iBody, iScope, mainGlobals, Value.none, builtinsNs) : FnI) := e
    simp only [Option.some.injEq, Prod.mk.injEq] at e
    obtain ⟨h1, h2, h3, h4, h5, h6, h7⟩ := e
    subst h1 h2 h3 h4 h5 h6 h7
    rw [Bool.and_eq_true] at h
    obtain ⟨g1, g2⟩ := h
    split at g1
    · rename_i y cc hy
      dsimp only at hy
      subst hy
      rw [Bool.and_eq_true] at g1
      have hy := eq_of_beq g1.1
      subst hy
      have g1 := g1.2
      split at g1
      · rename_i cl cld D' csl hc
        have hD := eq_of_beq g1
        subst hD
        split at g2
        · rename_i cda hcd
          dsimp only at hcd g2
          subst hcd
          rw [Bool.and_eq_true] at g2
          obtain ⟨g3, g2⟩ := g2
          split at g2
          · rename_i ccl cdd vs ccs hv
            split at g2
            · rename_i file tf hf
              exact ⟨_, _, _, _, _, _, _, _, _, _, _, _, _, hl, g3, ⟨_, _, _, _, _, _, hv, hf, g2⟩, _, _, _, hc⟩
            · cases g2
          · cases g2
        · cases g2
      · cases g1
    · cases g1
  · cases h
theorem objB_ok {K : PySem.W.Frag} {C : Addr} (h : objB K C = true) : ∃ nm q N bs bm sn sub ab col dd k0 k1 k2 k3 k5, K.lookup C = some (excClassObj nm q C N bs bm true sn sub ab col dd k0 k1 k2 k3 k5 "ValueError.__new__") ∧ PySem.HandSPX.refsVE bm = true := by
  unfold objB at h
  split at h
  · rename_i t dd cd sl hl
    simp only [Bool.and_eq_true, Bool.not_eq_true'] at h
    obtain ⟨⟨⟨h1, h2⟩, h3⟩, h4⟩ := h
    split at h4
    · rename_i C' bm k0 k1 k2 k3 n k5 hm hs
      simp only [Bool.and_eq_true] at h4
      obtain ⟨⟨h5, h6⟩, h7⟩ := h4
      have h1 := eq_of_beq h1
      have h5 := eq_of_beq h5
      have h6 := eq_of_beq h6
      subst h1 h5 h6
      obtain ⟨nm, bs, mro, ns, qn, hd, sn, sub, ab, col, del⟩ := cd
      dsimp only at hm h2 h3
      subst hm h2 h3
      have hsl : sl = #[k0, k1, k2, k3, some (.builtin "ValueError.__new__"), k5] := by
        obtain ⟨l⟩ := sl
        simp only at hs
        rw [hs]
      subst hsl
      exact ⟨nm, qn, ns, bs, bm, sn, sub, ab, col, dd, k0, k1, k2, k3, k5, hl, h7⟩
    · cases h4
  · cases h
/-- all that the head tells of the classes -/
theorem exB_ok {prog : Program} {K : PySem.W.Frag} {h : Heap} {mg : Str → Option Value} {r : Str} {cs : List Str} {sub : Str → Str → Bool} (X : K.In h) (G : h.Ns mainGlobals mg) (hB : exB prog K r cs sub = true) (e : obsI K (He.ma K (He.ga K r) "__init__") = valI) (ht : (prog.main.scope.names.lookup ("super" : Str)).isSome = false) :
    (∃ o, K.lookup sysModules = some o ∧ o.cls = .type "dict") ∧ ∀ c ∈ cs, mg c = some (.ref (He.ga K c)) ∧ ExIn prog K (He.ga K c) ∧ XfC K (He.ga K c) ∧ PySem.W.findIn K (.ref (He.ga K c)) "value" = some none ∧ IsC K (He.ga K c) ∧
      ∀ d ∈ cs, PySem.W.exmOne K (.ref (He.ga K c)) (.ref (He.ga K d)) = some (sub c d) ∧ PySem.W.kitOne K (.ref (He.ga K c)) (.ref (He.ga K d)) = some (sub c d) := by
  unfold exB at hB
  simp only [Bool.and_eq_true] at hB
  obtain ⟨⟨⟨⟨⟨⟨⟨⟨b1, b2⟩, b3⟩, b4⟩, b5⟩, b6⟩, b7⟩, b8⟩, b9⟩ := hB
  refine ⟨?_, fun c hc => ?_⟩
  · split at b1
    · rename_i o ho
      exact ⟨o, ho, of_decide_eq_true b1⟩
    · cases b1
  · have c8 := List.all_eq_true.mp b8 c hc
    have c9 := List.all_eq_true.mp b9 c hc
    rw [Bool.and_eq_true] at c8
    obtain ⟨g, c8⟩ := c8
    unfold exC1 at c8
    simp only [Bool.and_eq_true] at c8
    obtain ⟨⟨⟨⟨⟨⟨⟨⟨⟨⟨⟨⟨⟨⟨⟨⟨d1, d2⟩, d3⟩, d4⟩, d5⟩, d6⟩, d7⟩, d8⟩, d9⟩, d10⟩, d11⟩, d12⟩, d13⟩, d14⟩, d15⟩, d16⟩, d17⟩ := c8
    refine ⟨PySem.W.mg_of X G (He.eqO_ok g), ⟨⟨_, _, ⟨iniB_ok b3 e, b2, of_decide_eq_true d1, ht, of_decide_eq_true d2, of_decide_eq_true d3, of_decide_eq_true b5, d4, of_decide_eq_true d5, d6, of_decide_eq_true d7⟩, of_decide_eq_true d8, of_decide_eq_true b4⟩, objB_ok d9, of_decide_eq_true d10, of_decide_eq_true d11, d12⟩,
      xfB_ok d13, of_decide_eq_true d7, ⟨of_decide_eq_true d14, of_decide_eq_true b6, of_decide_eq_true b7, of_decide_eq_true d15, fun T hT => of_decide_eq_true (List.all_eq_true.mp d16 T hT), fun n hn => of_decide_eq_true (List.all_eq_true.mp d17 n hn)⟩, fun d hd => ?_⟩
    have c10 := List.all_eq_true.mp c9 d hd
    rw [Bool.and_eq_true] at c10
    exact ⟨of_decide_eq_true c10.1, of_decide_eq_true c10.2⟩
/-! ### the hook -/
abbrev AlS : Type := He.AlD × (Bool × FnI)
def frS (g : Addr → Option Obj) (n : Nat) : PySem.W.Frag := He.frG g (sysModules :: cStatics :: He.asD g n)
def obsS (prog : Program) (fa : List He.Fa) (fn : List He.DefD) (r : Str) (cs : List Str) (sub : Str → Str → Bool) (K : PySem.W.Frag) : AlS := (He.obsD fa fn K, (exB prog K r cs sub, obsI K (He.ma K (He.ga K r) "__init__")))
def valS (fn : List He.DefD) : AlS := (He.valD fn, (true, valI))
def hookS (prog : Program) (n : Nat) (fa : List He.Fa) (fn : List He.DefD) (r : Str) (cs : List Str) (sub : Str → Str → Bool) : PySem.W.Hook where
  α := AlS
  obs := fun s => obsS prog fa fn r cs sub (frS s.heap.get? n)
  val := fun _ => valS fn
  says := fun _ h => ∃ K : PySem.W.Frag, K.In h ∧ obsS prog fa fn r cs sub K = valS fn
  of := fun _ _ e => ⟨_, He.frG_in, e⟩
  keeps := fun _ _ _ ⟨K, hK, c⟩ k => ⟨K, PySem.W.Frag.In.keeps hK k, c⟩
theorem obsS_eq {prog : Program} {n : Nat} {fa : List He.Fa} {fn : List He.DefD} {r : Str} {cs : List Str} {sub : Str → Str → Bool} {g : Addr → Option Obj} {s : Shared} (h : ∀ a, g a = s.heap.get? a) : obsS prog fa fn r cs sub (frS g n) = (hookS prog n fa fn r cs sub).obs s := by
  have e : g = s.heap.get? := funext h
  rw [e] <;> rfl
/-- the def's datum -/
def PD.dat (d : PD) : He.DefD := ⟨(d.name, none), d.name, d.name, d.params, d.body, d.scope, [], []⟩
theorem pd_ok {K : PySem.W.Frag} {h : Heap} {mg : Str → Option Value} {fa : List He.Fa} {ds : List PD} (X : K.In h) (G : h.Ns mainGlobals mg) (c : He.SaysD fa (ds.map PD.dat) K) {d : PD} (hd : d ∈ ds) (hg : He.Fa.glo d.name ∈ fa) (sc : FnScope d.N d.ps d.scope)
    (hb : ∀ (doc pm : Value) (an : Option Addr) (kV cdv ct : Value) (us : List Value), us.length = d.ps.length → bindArgs (PySem.W.fnOf d.name d.name d.params d.body d.scope .none kV doc pm an cdv ct) ⟨us, []⟩ = pure (d.ps.zip us))
    (hk : ∀ (doc pm : Value) (an : Option Addr) (kV cdv ct : Value) (ks : List Str) (perm : List Nat), d.kws.lookup ks = some perm → KwB (PySem.W.fnOf d.name d.name d.params d.body d.scope .none kV doc pm an cdv ct) d.ps ks perm) : PDok K mg d := by
  obtain ⟨i, hi⟩ := List.mem_iff_getElem?.mp hd
  obtain ⟨j, hj⟩ := List.mem_iff_getElem?.mp hg
  obtain ⟨fd, F⟩ := c.def_ i (d := d.dat) (by rw [List.getElem?_map, hi]; rfl)
  obtain ⟨⟨oc, od, dV, kV, doc, pm, an, cdv, ct, osl, rfl, q2, q3, q4, q5⟩, kp⟩ := F
  have hdV : dV = .none := by
    rcases q4 with ⟨q, _⟩ | ⟨q, _⟩
    · first | exact q | assumption
    · exact absurd rfl q
  subst hdV
  have g : mg d.name = some (.ref (He.ga K d.name)) := He.glo_ok X G (c.fact j hj)
  exact ⟨_, oc, od, osl, kV, doc, pm, an, cdv, ct, g, kp, q2, q3, sc, fun us hl => hb doc pm an kV cdv ct us hl, fun ks perm e => hk doc pm an kV cdv ct ks perm e⟩
end Sw
end
section
set_option maxRecDepth 100000
set_option autoImplicit false
set_option maxHeartbeats 4000000
/-! SyI: a program as a datum. -/
namespace Sw
open CL
open PySem PySem.Spec PyProof.Rows L2
open PySem.SeqAt (EqAt)
theorem filterMap_same {α β : Type} {f g : α → Option β} : ∀ {l : List α}, (∀ a ∈ l, f a = g a) → l.filterMap f = l.filterMap g
  | [], _ => rfl
  | a :: l, h => by
    rw [List.filterMap_cons, List.filterMap_cons, h a List.mem_cons_self, filterMap_same fun b hb => h b (List.mem_cons_of_mem _ hb)]
theorem zip_lookup {α β : Type} [BEq α] [LawfulBEq α] : ∀ (ps : List α) (us : List β), ps.Nodup → us.length = ps.length → ps.filterMap (fun n => ((ps.zip us).lookup n).map (n, ·)) = ps.zip us
  | [], us, _, _ => by simp
  | p :: ps, [], _, h => by simp at h
  | p :: ps, u :: us, nd, h => by
    obtain ⟨h1, h2⟩ := List.nodup_cons.mp nd
    rw [List.zip_cons_cons, List.filterMap_cons]
    simp only [List.lookup_cons_self, Option.map_some]
    congr 1
    refine (filterMap_same fun n hn => ?_).trans (zip_lookup ps us h2 (by simpa using h))
    have : (n == p) = false := by
      rw [beq_eq_false_iff_ne]; intro z; rw [z] at hn; exact h1 hn
    rw [List.lookup_cons, this]
theorem bind_plain {fd : FuncData} {ps : List Str} (h1 : fd.params.posonlyargs = []) (h2 : fd.params.args.map (·.arg) = ps) (h3 : fd.params.kwonlyargs = []) (h4 : fd.params.vararg = none) (h5 : fd.params.kwarg = none) (h6 : fd.defaults = .none) (nd : ps.Nodup) (us : List Value) (hl : us.length = ps.length) :
    bindArgs fd ⟨us, []⟩ = pure (ps.zip us) := by
  have e : (seqItems? fd.defaults) = pure none := by rw [h6]; rfl
  have z := zip_lookup ps us nd hl
  have m : (ps.filter fun n => ((ps.zip us).lookup n).isNone) = [] := by
    rw [List.filter_eq_nil_iff]
    intro n hn
    have : n ∈ (ps.zip us).map (·.1) := by rw [List.map_fst_zip (by omega)]; exact hn
    cases q : (ps.zip us).lookup n with
    | some v => simp
    | none =>
      rw [List.lookup_eq_none_iff] at q
      obtain ⟨p, hp, rfl⟩ := List.mem_map.mp this
      have := q p hp
      simp at this
  unfold bindArgs
  simp [h1, h2, h3, h4, h5, e, hl, z, m]
/-- a program: its defs as they stand and as they are compiled, its ints, its exception classes (r their root), where new lists and dicts are cells -/
structure Prog where
  ds : List PD
  Ds : List (Str × Def)
  ic : List (Str × Int)
  r : Str
  cs : List Str
  bx : List (Nat × Nat)
  fuel : Nat
namespace Prog
def gl (p : Prog) (x : Str) : Option W := if (p.ds.find? (·.name == x)).isSome then some (.fn x) else if p.cs.contains x then some (.cls x) else (p.ic.lookup x).map .int
def sub (p : Prog) (c d : Str) : Bool := p.cs.contains c && p.cs.contains d && (c == d || d == p.r)
def Z (p : Prog) : Sg where
  np := fun x => (p.ds.find? (·.name == x)).map (·.ps.length)
  pn := fun x => ((p.ds.find? (·.name == x)).map (·.ps)).getD []
  glob := p.gl
  cls := p.cs.contains
  kw := fun x ks => (p.ds.find? (·.name == x)).bind (·.kws.lookup ks)
  bx := fun l c => p.bx.contains (l, c)
def G (p : Prog) : Cfg where
  defs := fun x => p.Ds.lookup x
  glob := p.gl
  sub := p.sub
  fuel := p.fuel
def fa (p : Prog) : List He.Fa := p.ds.map (fun d => He.Fa.glo d.name) ++ (p.ic.map (fun q => He.Fa.int q.1 q.2) ++ biNames.map He.Fa.free)
def fn (p : Prog) : List He.DefD := p.ds.map PD.dat
/-- the parameters are plain -/
def plainP (d : PD) : Bool := d.params.posonlyargs.isEmpty && decide (d.params.args.map (·.arg) = d.ps) && d.params.kwonlyargs.isEmpty && d.params.vararg.isNone && d.params.kwarg.isNone && C8.scC d.N d.ps d.scope
/-- what is to be seen of the text -/
structure Ok (p : Prog) (P : Program) : Prop where
  comp : p.ds.map (fun d => d.comp p.Z) = p.Ds.map (fun q => some q.2)
  names : p.ds.map (·.name) = p.Ds.map (·.1)
  plain : p.ds.all plainP = true
  nd : (p.ds.map (·.name)).Nodup
  root : p.cs.contains p.r = true
  kws : ∀ d ∈ p.ds, ∀ (doc pm : Value) (an : Option Addr) (kV cdv ct : Value) (ks : List Str) (perm : List Nat), d.kws.lookup ks = some perm → KwB (PySem.W.fnOf d.name d.name d.params d.body d.scope .none kV doc pm an cdv ct) d.ps ks perm
  sup : (P.main.scope.names.lookup ("super" : Str)).isSome = false
theorem find_mem {p : Prog} {x : Str} {d : PD} (h : p.ds.find? (·.name == x) = some d) : d ∈ p.ds ∧ d.name = x := ⟨List.mem_of_find?_eq_some h, eq_of_beq (by simpa using List.find?_some h)⟩
theorem Ok.lookup {p : Prog} {P : Program} (o : Ok p P) {d : PD} (hd : d ∈ p.ds) : ∃ D, d.comp p.Z = some D ∧ p.Ds.lookup d.name = some D := by
  obtain ⟨i, hi⟩ := List.mem_iff_getElem?.mp hd
  have h1 : (p.Ds.map (fun q => some q.2))[i]? = some (d.comp p.Z) := by rw [← o.comp, List.getElem?_map, hi]; rfl
  have h2 : (p.Ds.map (·.1))[i]? = some d.name := by rw [← o.names, List.getElem?_map, hi]; rfl
  rw [List.getElem?_map] at h1 h2
  cases q : p.Ds[i]? with
  | none => rw [q] at h1; cases h1
  | some z =>
    rw [q] at h1 h2
    obtain ⟨x, D⟩ := z
    have e1 : some D = d.comp p.Z := Option.some.inj h1
    have e2 : x = d.name := Option.some.inj h2
    refine ⟨D, e1.symm, ?_⟩
    have nd : (p.Ds.map (·.1)).Nodup := by rw [← o.names]; exact o.nd
    clear h1 h2 e1
    subst e2
    have key : ∀ (l : List (Str × Def)) (i : Nat) (x : Str) (D : Def), (l.map (·.1)).Nodup → l[i]? = some (x, D) → l.lookup x = some D := by
      intro l
      induction l with
      | nil => intro i x D _ h; simp at h
      | cons a l ih =>
        intro i x D nd h
        obtain ⟨y, E⟩ := a
        obtain ⟨n1, n2⟩ := List.nodup_cons.mp nd
        cases i with
        | zero =>
          simp at h
          obtain ⟨rfl, rfl⟩ := h
          exact List.lookup_cons_self
        | succ i =>
          have h : l[i]? = some (x, D) := by simpa using h
          have hne : (x == y) = false := by
            rw [beq_eq_false_iff_ne]
            intro z
            refine n1 ?_
            rw [← z]
            exact List.mem_map.mpr ⟨(x, D), List.mem_of_getElem? h, rfl⟩
          rw [List.lookup_cons, hne]
          exact ih i x D n2 h
    exact key _ i _ D nd q
theorem sub_self {p : Prog} {c : Str} (h : p.sub c c = true) : c ∈ p.cs := by
  unfold Prog.sub at h
  simp only [Bool.and_eq_true] at h
  simpa using h.1.1
theorem fits {p : Prog} {P : Program} {w : World} {K : PySem.W.Frag} {h : Heap} {mg : Str → Option Value} (o : Ok p P) (X : K.In h) (Gm : h.Ns mainGlobals mg) (e : obsS P p.fa p.fn p.r p.cs p.sub K = valS p.fn) :
    Fits K mg P w p.Z p.G ∧ ∃ ob, K.lookup sysModules = some ob ∧ ob.cls = .type "dict" := by
  have e1 : He.SaysD p.fa p.fn K := congrArg (fun z : AlS => z.1) e
  have e2 : exB P K p.r p.cs p.sub = true := congrArg (fun z : AlS => z.2.1) e
  have e3 : obsI K (He.ma K (He.ga K p.r) "__init__") = valI := congrArg (fun z : AlS => z.2.2) e
  obtain ⟨sys, cl⟩ := exB_ok X Gm e2 e3 o.sup
  have fact : ∀ f ∈ p.fa, f.ok K = true := fun f hf => by
    obtain ⟨i, hi⟩ := List.mem_iff_getElem?.mp hf
    exact e1.fact i hi
  have g : ∀ d ∈ p.ds, mg d.name = some (.ref (He.ga K d.name)) := fun d hd => He.glo_ok X Gm (fact (.glo d.name) (List.mem_append_left _ (List.mem_map.mpr ⟨d, hd, rfl⟩)))
  have at_ : ∀ c C, c ∈ p.cs → mg c = some (.ref C) → C = He.ga K c := fun c C hc hm => by
    rw [(cl c hc).1] at hm
    cases hm; rfl
  refine ⟨⟨fun x np hx => ?_, fun x y hx => ?_, fun x v hx => ?_, fun x hx => ?_, fun c hc => ?_, fun c hc => ?_, fun c C hc hm => ?_, fun c d C D hc hd h1 h2 => ?_, fun c d C D hc hd h1 h2 => ?_⟩, sys⟩
  · obtain ⟨d, hd, rfl⟩ := Option.map_eq_some_iff.mp hx
    obtain ⟨hm, hn⟩ := find_mem hd
    obtain ⟨D, h1, h2⟩ := o.lookup hm
    have pl := List.all_eq_true.mp o.plain d hm
    unfold plainP at pl
    simp only [Bool.and_eq_true, List.isEmpty_iff, decide_eq_true_eq, Option.isNone_iff_eq_none] at pl
    obtain ⟨⟨⟨⟨⟨p1, p2⟩, p3⟩, p4⟩, p5⟩, p6⟩ := pl
    have sc := C8.fnScope_by p6
    have nd : d.ps.Nodup := by
      rw [← sc.pre]
      exact sc.nd.sublist (List.take_sublist _ _)
    refine ⟨d, D, hn, pd_ok X Gm e1 hm (List.mem_append_left _ (List.mem_map.mpr ⟨d, hm, rfl⟩)) sc (fun doc pm an kV cdv ct us hl => bind_plain p1 p2 p3 p4 p5 rfl nd us hl) (fun doc pm an kV cdv ct ks perm ek => o.kws d hm doc pm an kV cdv ct ks perm ek), h1, hn ▸ h2, rfl, fun ks => ?_, ?_⟩
    · show (p.ds.find? (·.name == x)).bind (·.kws.lookup ks) = _
      rw [hd]; rfl
    · show _ = ((p.ds.find? (·.name == x)).map (·.ps)).getD []
      rw [hd]; rfl
  · have hx : p.gl x = some (.fn y) := hx
    unfold gl at hx
    split at hx
    · rename_i hs
      obtain ⟨d, hd⟩ := Option.isSome_iff_exists.mp hs
      exact ⟨d.ps.length, by show (p.ds.find? (·.name == x)).map _ = _; rw [hd]; rfl⟩
    · split at hx
      · cases hx
      · obtain ⟨i, _, hi⟩ := Option.map_eq_some_iff.mp hx
        cases hi
  · refine ⟨hx, ?_⟩
    have hx : p.gl x = some v := hx
    unfold gl at hx
    split at hx
    · rename_i hs
      obtain ⟨d, hd⟩ := Option.isSome_iff_exists.mp hs
      obtain ⟨hm, rfl⟩ := find_mem hd
      cases hx
      exact ⟨.ref (He.ga K d.name), _, g d hm, rfl, fun _ _ => ⟨_, rfl, g d hm⟩⟩
    · split at hx
      · rename_i hc
        cases hx
        have hm := (cl x (by simpa using hc)).1
        exact ⟨.ref (He.ga K x), _, hm, rfl, fun _ _ => ⟨_, rfl, hm⟩⟩
      · obtain ⟨i, hi, rfl⟩ := Option.map_eq_some_iff.mp hx
        have hmem : (x, i) ∈ p.ic := by
          have key : ∀ l : List (Str × Int), l.lookup x = some i → (x, i) ∈ l := by
            intro l
            induction l with
            | nil => intro h; cases h
            | cons a l ih =>
              intro h
              obtain ⟨y, j⟩ := a
              rw [List.lookup_cons] at h
              split at h
              · rename_i hb
                cases h
                rw [eq_of_beq hb]
                exact List.mem_cons_self
              · exact List.mem_cons_of_mem _ (ih h)
          exact key _ hi
        obtain ⟨t, ht⟩ := He.int_ok X Gm (fact (.int x i) (List.mem_append_right _ (List.mem_append_left _ (List.mem_map.mpr ⟨(x, i), hmem, rfl⟩))))
        exact ⟨.int i, _, ht, ⟨t, rfl⟩, fun _ _ => rfl⟩
  · exact He.free_ok X Gm (fact (.free x) (List.mem_append_right _ (List.mem_append_right _ (List.mem_map.mpr ⟨x, hx, rfl⟩))))
  · show p.sub c c = true
    unfold Prog.sub
    have hc : p.cs.contains c = true := hc
    rw [hc]; simp
  · have := cl c (sub_self hc)
    exact ⟨_, this.1, this.2.1, this.2.2.1, this.2.2.2.1⟩
  · have hc := sub_self hc
    rw [at_ c C hc hm]
    exact (cl c hc).2.2.2.2.1
  · have hc := sub_self hc
    have hd := sub_self hd
    rw [at_ c C hc h1, at_ d D hd h2]
    exact ((cl c hc).2.2.2.2.2 d hd).2
  · have hc := sub_self hc
    have hd := sub_self hd
    rw [at_ c C hc h1, at_ d D hd h2]
    exact ((cl c hc).2.2.2.2.2 d hd).1
/-- keywords, one list after the other -/
theorem kw_by {fd : FuncData} {ps : List Str} {kws : List (List Str × List Nat)} {ks : List Str} {perm : List Nat} (h1 : ∀ q ∈ kws, q.2.length = ps.length) (h2 : ∀ q ∈ kws, ∀ i ∈ q.2, i < q.1.length)
    (h3 : ∀ q ∈ kws, ∀ us : List Value, us.length = q.1.length → bindArgs fd ⟨[], q.1.zip us⟩ = pure (ps.zip (q.2.map fun i => us.getD i .none))) (h : kws.lookup ks = some perm) : KwB fd ps ks perm := by
  have hm : (ks, perm) ∈ kws := by
    induction kws with
    | nil => cases h
    | cons a l ih =>
      obtain ⟨y, j⟩ := a
      rw [List.lookup_cons] at h
      split at h
      · rename_i hb
        cases h
        rw [eq_of_beq hb]
        exact List.mem_cons_self
      · exact List.mem_cons_of_mem _ (ih (fun q hq => h1 q (List.mem_cons_of_mem _ hq)) (fun q hq => h2 q (List.mem_cons_of_mem _ hq)) (fun q hq => h3 q (List.mem_cons_of_mem _ hq)) h)
  exact ⟨h1 _ hm, h2 _ hm, h3 _ hm⟩
/-- the hook of the program -/
def hook (p : Prog) (P : Program) : PySem.W.Hook := hookS P 4 p.fa p.fn p.r p.cs p.sub
def ob (p : Prog) (P : Program) (s : PySem.W.SharedT) : AlS := obsS P p.fa p.fn p.r p.cs p.sub (frS (HandSHeadRun.getT s) 4)
theorem ob_eq (p : Prog) (P : Program) (s : PySem.W.SharedT) : p.ob P s = (p.hook P).obs s.abs := obsS_eq (HandSHeadRun.getT_eq s)
end Prog
/-- a law holds, if the mini language says so -/
theorem law_walk {l : PySem.W.OpenLaw} {k : Nat} {q : Program} {loose : List Str} {XP : (Str → Option Value) → Heap → Prop} {d : DefRec} {p : Prog} {dl : PD}
    (hn : l.most = some 63) (hdf : d.params.defaults = []) (hr : Room k callerA) (o : Prog.Ok p l.prog) (hd : p.ds.find? (·.name == d.name) = some dl) (hps : dl.ps = [("script" : Str)])
    (run : ∀ ns : List Int, ns.length ≤ 63 → ∃ st, callF p.G k d.name [.lst (ns.map W.int)] [] = .ok (.bl true) st) :
    PySem.W.WalkO q loose XP (p.hook l.prog).says l.row.toRowW d [] (fun f vs => PySem.call f vs) := by
  refine walk_ofG (n := 63) (k := k) (x := "script") hn (by rw [sizeLine_eq]; decide) hdf hr fun w mg fa h Y Gm hmg => ?_
  obtain ⟨K, KX, e⟩ := Y
  obtain ⟨F, ob, hs, hcls⟩ := Prog.fits (w := w) o KX Gm e
  have hnp : p.Z.np d.name = some 1 := by
    show (p.ds.find? (·.name == d.name)).map _ = _
    rw [hd]
    show some dl.ps.length = _
    rw [hps]; rfl
  obtain ⟨f, fd, ps, q1, q2, q3, q4, q5, q6, q8, q7⟩ := prog_ok F k d.name 1 hnp
  rw [hmg] at q1
  cases q1
  have hpn : p.Z.pn d.name = [("script" : Str)] := by
    show ((p.ds.find? (·.name == d.name)).map _).getD [] = _
    rw [hd]
    exact hps
  rw [hpn] at q7 q8
  subst q8
  refine ⟨K, fd, spD ⟨l.prog, w, K, mg⟩ (callF p.G k d.name) 1, KX, fun s u => .of_eq (q7 [u] rfl), fun H a ns hl hS => ?_, fun base KB NB => q4 base ⟨ob, KB _ _ hs, hcls⟩⟩
  obtain ⟨st, hst⟩ := run ns hl
  exact law_sp hS hst
end Sw
end
section
set_option maxRecDepth 100000
set_option autoImplicit false
/-! DfA: names and compiled defs (written by gen.py). -/
namespace Sw
open PySem
def n_is_whole : Str := ⟨#[105, 115, 95, 119, 104, 111, 108, 101]⟩
def n_is_count : Str := ⟨#[105, 115, 95, 99, 111, 117, 110, 116]⟩
def s_field : Str := ⟨#[102, 105, 101, 108, 100]⟩
def n_is_field : Str := ⟨#[105, 115, 95, 102, 105, 101, 108, 100]⟩
def n_InvalidField : Str := ⟨#[73, 110, 118, 97, 108, 105, 100, 70, 105, 101, 108, 100]⟩
def n_check_field : Str := ⟨#[99, 104, 101, 99, 107, 95, 102, 105, 101, 108, 100]⟩
def n_is_cell_of : Str := ⟨#[105, 115, 95, 99, 101, 108, 108, 95, 111, 102]⟩
def n_are_cells_of : Str := ⟨#[97, 114, 101, 95, 99, 101, 108, 108, 115, 95, 111, 102]⟩
def n_cells_of : Str := ⟨#[99, 101, 108, 108, 115, 95, 111, 102]⟩
def n_around : Str := ⟨#[97, 114, 111, 117, 110, 100]⟩
def n_InvalidLayout : Str := ⟨#[73, 110, 118, 97, 108, 105, 100, 76, 97, 121, 111, 117, 116]⟩
def n_check_layout : Str := ⟨#[99, 104, 101, 99, 107, 95, 108, 97, 121, 111, 117, 116]⟩
def n_stones_around : Str := ⟨#[115, 116, 111, 110, 101, 115, 95, 97, 114, 111, 117, 110, 100]⟩
def s_board : Str := ⟨#[98, 111, 97, 114, 100]⟩
def n_MOST_TOLD : Str := ⟨#[77, 79, 83, 84, 95, 84, 79, 76, 68]⟩
def n_is_board : Str := ⟨#[105, 115, 95, 98, 111, 97, 114, 100]⟩
def n_InvalidBoard : Str := ⟨#[73, 110, 118, 97, 108, 105, 100, 66, 111, 97, 114, 100]⟩
def n_check_board : Str := ⟨#[99, 104, 101, 99, 107, 95, 98, 111, 97, 114, 100]⟩
def s_odd : Str := ⟨#[111, 100, 100]⟩
def n_is_odd_board : Str := ⟨#[105, 115, 95, 111, 100, 100, 95, 98, 111, 97, 114, 100]⟩
def n_check_odd : Str := ⟨#[99, 104, 101, 99, 107, 95, 111, 100, 100]⟩
def n_odd_board : Str := ⟨#[111, 100, 100, 95, 98, 111, 97, 114, 100]⟩
def n_fits_odd : Str := ⟨#[102, 105, 116, 115, 95, 111, 100, 100]⟩
def n_sum_of_lots : Str := ⟨#[115, 117, 109, 95, 111, 102, 95, 108, 111, 116, 115]⟩
def n_added : Str := ⟨#[97, 100, 100, 101, 100]⟩
def n_reduced : Str := ⟨#[114, 101, 100, 117, 99, 101, 100]⟩
def n_rows_of : Str := ⟨#[114, 111, 119, 115, 95, 111, 102]⟩
def n_free_in : Str := ⟨#[102, 114, 101, 101, 95, 105, 110]⟩
def n_power_of_two : Str := ⟨#[112, 111, 119, 101, 114, 95, 111, 102, 95, 116, 119, 111]⟩
def n_how_many_odd : Str := ⟨#[104, 111, 119, 95, 109, 97, 110, 121, 95, 111, 100, 100]⟩
def n_first_odd : Str := ⟨#[102, 105, 114, 115, 116, 95, 111, 100, 100]⟩
def n_lot_with : Str := ⟨#[108, 111, 116, 95, 119, 105, 116, 104]⟩
def n_free_lots : Str := ⟨#[102, 114, 101, 101, 95, 108, 111, 116, 115]⟩
def n_odd_paper : Str := ⟨#[111, 100, 100, 95, 112, 97, 112, 101, 114]⟩
def n_is_odd_paper : Str := ⟨#[105, 115, 95, 111, 100, 100, 95, 112, 97, 112, 101, 114]⟩
def n_sure_odd : Str := ⟨#[115, 117, 114, 101, 95, 111, 100, 100]⟩
def n_odd_in : Str := ⟨#[111, 100, 100, 95, 105, 110]⟩
def n_is_still : Str := ⟨#[105, 115, 95, 115, 116, 105, 108, 108]⟩
def n_how_many_still : Str := ⟨#[104, 111, 119, 95, 109, 97, 110, 121, 95, 115, 116, 105, 108, 108]⟩
def n_odd_cells : Str := ⟨#[111, 100, 100, 95, 99, 101, 108, 108, 115]⟩
def n__law_hash : Str := ⟨#[95, 108, 97, 119, 95, 104, 97, 115, 104]⟩
def n__law_cell : Str := ⟨#[95, 108, 97, 119, 95, 99, 101, 108, 108]⟩
def n__law_generator : Str := ⟨#[95, 108, 97, 119, 95, 103, 101, 110, 101, 114, 97, 116, 111, 114]⟩
def n__law_random : Str := ⟨#[95, 108, 97, 119, 95, 114, 97, 110, 100, 111, 109]⟩
def n__law_drawn_order : Str := ⟨#[95, 108, 97, 119, 95, 100, 114, 97, 119, 110, 95, 111, 114, 100, 101, 114]⟩
def n__law_call : Str := ⟨#[95, 108, 97, 119, 95, 99, 97, 108, 108]⟩
def n_FieldError : Str := ⟨#[70, 105, 101, 108, 100, 69, 114, 114, 111, 114]⟩
def n_value : Str := ⟨#[118, 97, 108, 117, 101]⟩
def n__law_caught : Str := ⟨#[95, 108, 97, 119, 95, 99, 97, 117, 103, 104, 116]⟩
def s_odds : Str := ⟨#[111, 100, 100, 115]⟩
def s_a : Str := ⟨#[97]⟩
def s_0 : Str := ⟨#[48]⟩
def s_1 : Str := ⟨#[49]⟩
def s_cells : Str := ⟨#[99, 101, 108, 108, 115]⟩
def s_fields : Str := ⟨#[102, 105, 101, 108, 100, 115]⟩
def s_3 : Str := ⟨#[51]⟩
def n__law_odds : Str := ⟨#[95, 108, 97, 119, 95, 111, 100, 100, 115]⟩
def s_more : Str := ⟨#[109, 111, 114, 101]⟩
def n_law : Str := ⟨#[108, 97, 119]⟩
def d_is_whole : Def := ⟨1, 1, [(.ret (.and (.bi .isinst [(.v 0), (.k (.ty "int"))]) (.not (.bi .isinst [(.v 0), (.k (.ty "bool"))]))))], 1⟩
def d_is_count : Def := ⟨1, 1, [(.ret (.and (.call n_is_whole [(.v 0)]) (.cmp .ge (.v 0) (.k (.int 0)))))], 1⟩
def d_is_field : Def := ⟨1, 2, [(.iff (.or (.not (.bi .isinst [(.v 0), (.k (.ty "tuple"))])) (.or (.cmp .ne (.bi .len [(.v 0)]) (.k (.int 3))) (.or (.not (.bi .isinst [(.idx (.v 0) (.k (.int 0))), (.k (.ty "str"))])) (.cmp .ne (.idx (.v 0) (.k (.int 0))) (.k (.str s_field)))))) [(.ret (.k (.bl false)))] []), (.ret (.bi .all [(.comp (.and (.call n_is_count [(.v 1)]) (.cmp .gt (.v 1) (.k (.int 0)))) (.nm 1) (.of (.slc (.v 0) (.k (.int 1)) (.k .non))) [] [1])]))], 1⟩
def d_check_field : Def := ⟨1, 1, [(.iff (.not (.call n_is_field [(.v 0)])) [(.raise n_InvalidField (.v 0))] [])], 1⟩
def d_is_cell_of : Def := ⟨2, 2, [(.iff (.or (.not (.bi .isinst [(.v 1), (.k (.ty "tuple"))])) (.or (.cmp .ne (.bi .len [(.v 1)]) (.k (.int 2))) (.or (.not (.call n_is_count [(.idx (.v 1) (.k (.int 0)))])) (.not (.call n_is_count [(.idx (.v 1) (.k (.int 1)))]))))) [(.ret (.k (.bl false)))] []), (.ret (.and (.cmp .lt (.idx (.v 1) (.k (.int 0))) (.idx (.v 0) (.k (.int 1)))) (.cmp .lt (.idx (.v 1) (.k (.int 1))) (.idx (.v 0) (.k (.int 2))))))], 1⟩
def d_are_cells_of : Def := ⟨2, 4, [(.iff (.or (.not (.bi .isinst [(.v 1), (.k (.ty "list"))])) (.not (.bi .all [(.comp (.call n_is_cell_of [(.v 0), (.v 3)]) (.nm 3) (.of (.v 1)) [] [3])]))) [(.ret (.k (.bl false)))] []), (.ret (.bi .all [(.comp (.cmp .lt (.idx (.v 1) (.bin .sub (.v 2) (.k (.int 1)))) (.idx (.v 1) (.v 2))) (.nm 2) (.rng [(.k (.int 1)), (.bi .len [(.v 1)])]) [] [2])]))], 1⟩
def d_cells_of : Def := ⟨1, 4, [(.asg 1 (.lst [])), (.forr (.nm 2) (.rng [(.idx (.v 0) (.k (.int 1)))]) [(.asg 1 (.bin .add (.v 1) (.comp (.tup [(.v 2), (.v 3)]) (.nm 3) (.rng [(.idx (.v 0) (.k (.int 2)))]) [] [3])))]), (.ret (.v 1))], 1⟩
def d_around : Def := ⟨2, 7, [(.asg 2 (.lst [])), (.forr (.nm 3) (.rng [(.bi .max [(.k (.int 0)), (.bin .sub (.idx (.v 1) (.k (.int 0))) (.k (.int 1)))]), (.bi .min [(.idx (.v 0) (.k (.int 1))), (.bin .add (.idx (.v 1) (.k (.int 0))) (.k (.int 2)))])]) [(.par [4, 5] [(.bi .max [(.k (.int 0)), (.bin .sub (.idx (.v 1) (.k (.int 1))) (.k (.int 1)))]), (.bi .min [(.idx (.v 0) (.k (.int 2))), (.bin .add (.idx (.v 1) (.k (.int 1))) (.k (.int 2)))])]), (.asg 2 (.bin .add (.v 2) (.comp (.tup [(.v 3), (.v 6)]) (.nm 6) (.rng [(.v 4), (.v 5)]) [(.cmp .ne (.tup [(.v 3), (.v 6)]) (.v 1))] [6])))]), (.ret (.v 2))], 1⟩
def d_check_layout : Def := ⟨2, 2, [(.ex (.call n_check_field [(.v 0)])), (.iff (.not (.call n_are_cells_of [(.v 0), (.v 1)])) [(.raise n_InvalidLayout (.v 1))] [])], 1⟩
def d_stones_around : Def := ⟨3, 4, [(.ret (.bi .len [(.comp (.v 3) (.nm 3) (.of (.call n_around [(.v 0), (.v 2)])) [(.cmp .inn (.v 3) (.v 1))] [3])]))], 1⟩
def d_is_board : Def := ⟨1, 2, [(.iff (.or (.not (.bi .isinst [(.v 0), (.k (.ty "tuple"))])) (.or (.cmp .ne (.bi .len [(.v 0)]) (.k (.int 3))) (.or (.not (.bi .isinst [(.idx (.v 0) (.k (.int 0))), (.k (.ty "str"))])) (.cmp .ne (.idx (.v 0) (.k (.int 0))) (.k (.str s_board)))))) [(.ret (.k (.bl false)))] []), (.iff (.or (.not (.call n_is_field [(.idx (.v 0) (.k (.int 1)))])) (.not (.bi .isinst [(.idx (.v 0) (.k (.int 2))), (.k (.ty "dict"))]))) [(.ret (.k (.bl false)))] []), (.iff (.not (.bi .all [(.comp (.call n_is_cell_of [(.idx (.v 0) (.k (.int 1))), (.v 1)]) (.nm 1) (.of (.idx (.v 0) (.k (.int 2)))) [] [1])])) [(.ret (.k (.bl false)))] []), (.ret (.bi .all [(.comp (.and (.call n_is_count [(.idx (.idx (.v 0) (.k (.int 2))) (.v 1))]) (.cmp .le (.idx (.idx (.v 0) (.k (.int 2))) (.v 1)) (.g n_MOST_TOLD))) (.nm 1) (.of (.idx (.v 0) (.k (.int 2)))) [] [1])]))], 1⟩
def d_check_board : Def := ⟨1, 1, [(.iff (.not (.call n_is_board [(.v 0)])) [(.raise n_InvalidBoard (.v 0))] [])], 1⟩
def d_is_odd_board : Def := ⟨1, 2, [(.iff (.or (.not (.bi .isinst [(.v 0), (.k (.ty "tuple"))])) (.or (.cmp .ne (.bi .len [(.v 0)]) (.k (.int 3))) (.or (.not (.bi .isinst [(.idx (.v 0) (.k (.int 0))), (.k (.ty "str"))])) (.cmp .ne (.idx (.v 0) (.k (.int 0))) (.k (.str s_odd)))))) [(.ret (.k (.bl false)))] []), (.iff (.or (.not (.call n_is_field [(.idx (.v 0) (.k (.int 1)))])) (.not (.bi .isinst [(.idx (.v 0) (.k (.int 2))), (.k (.ty "dict"))]))) [(.ret (.k (.bl false)))] []), (.iff (.not (.bi .all [(.comp (.call n_is_cell_of [(.idx (.v 0) (.k (.int 1))), (.v 1)]) (.nm 1) (.of (.idx (.v 0) (.k (.int 2)))) [] [1])])) [(.ret (.k (.bl false)))] []), (.ret (.bi .all [(.comp (.and (.call n_is_count [(.idx (.idx (.v 0) (.k (.int 2))) (.v 1))]) (.cmp .lt (.idx (.idx (.v 0) (.k (.int 2))) (.v 1)) (.k (.int 2)))) (.nm 1) (.of (.idx (.v 0) (.k (.int 2)))) [] [1])]))], 1⟩
def d_check_odd : Def := ⟨1, 1, [(.iff (.not (.call n_is_odd_board [(.v 0)])) [(.raise n_InvalidBoard (.v 0))] [])], 1⟩
def d_odd_board : Def := ⟨1, 2, [(.ex (.call n_check_board [(.v 0)])), (.ret (.tup [(.k (.str s_odd)), (.idx (.v 0) (.k (.int 1))), (.dcomp (.v 1) (.bin .mod (.idx (.idx (.v 0) (.k (.int 2))) (.v 1)) (.k (.int 2))) (.nm 1) (.of (.idx (.v 0) (.k (.int 2)))) [] [1])]))], 1⟩
def d_fits_odd : Def := ⟨2, 3, [(.ex (.call n_check_odd [(.v 0)])), (.iff (.not (.call n_are_cells_of [(.idx (.v 0) (.k (.int 1))), (.v 1)])) [(.raise n_InvalidLayout (.v 1))] []), (.forr (.nm 2) (.of (.idx (.v 0) (.k (.int 2)))) [(.iff (.or (.cmp .inn (.v 2) (.v 1)) (.cmp .ne (.bin .mod (.call n_stones_around [(.idx (.v 0) (.k (.int 1))), (.v 1), (.v 2)]) (.k (.int 2))) (.idx (.idx (.v 0) (.k (.int 2))) (.v 2)))) [(.ret (.k (.bl false)))] [])]), (.ret (.k (.bl true)))], 1⟩
def d_sum_of_lots : Def := ⟨2, 3, [(.ret (.bi .sorted [(.bin .add (.comp (.v 2) (.nm 2) (.of (.v 0)) [(.cmp .notin (.v 2) (.v 1))] [2]) (.comp (.v 2) (.nm 2) (.of (.v 1)) [(.cmp .notin (.v 2) (.v 0))] [2]))]))], 1⟩
def d_added : Def := ⟨2, 2, [(.ret (.tup [(.call n_sum_of_lots [(.idx (.v 0) (.k (.int 0))), (.idx (.v 1) (.k (.int 0)))]), (.bin .mod (.bin .add (.idx (.v 0) (.k (.int 1))) (.idx (.v 1) (.k (.int 1)))) (.k (.int 2))), (.call n_sum_of_lots [(.idx (.v 0) (.k (.int 2))), (.idx (.v 1) (.k (.int 2)))])]))], 1⟩
def d_reduced : Def := ⟨1, 7, [(.par [2, 3] [(.box (.dic [])), (.k .non)]), (.forr (.nm 1) (.of (.v 0)) [(.asg 4 (.v 1)), (.forr (.nm 5) (.of (.bi .sorted [(.v 2)])) [(.iff (.cmp .inn (.v 5) (.idx (.v 4) (.k (.int 0)))) [(.asg 4 (.call n_added [(.v 4), (.idx (.v 2) (.v 5))]))] [])]), (.iff (.cmp .ne (.idx (.v 4) (.k (.int 0))) (.lst [])) [(.asg 6 (.idx (.idx (.v 4) (.k (.int 0))) (.neg (.k (.int 1))))), (.forr (.nm 5) (.of (.bi .sorted [(.v 2)])) [(.iff (.cmp .inn (.v 6) (.idx (.idx (.v 2) (.v 5)) (.k (.int 0)))) [(.setI (.v 2) (.v 5) (.call n_added [(.idx (.v 2) (.v 5)), (.v 4)]))] [])]), (.setI (.v 2) (.v 6) (.v 4))] [(.iff (.and (.cmp .eq (.idx (.v 4) (.k (.int 1))) (.k (.int 1))) (.cmp .is (.v 3) (.k .non))) [(.asg 3 (.idx (.v 4) (.k (.int 2))))] [])])]), (.ret (.tup [(.v 2), (.v 3)]))], 1⟩
def d_rows_of : Def := ⟨1, 5, [(.asg 1 (.box (.lst []))), (.forr (.nm 2) (.of (.bi .sorted [(.idx (.v 0) (.k (.int 2)))])) [(.asg 3 (.comp (.v 4) (.nm 4) (.of (.call n_around [(.idx (.v 0) (.k (.int 1))), (.v 2)])) [(.cmp .notin (.v 4) (.idx (.v 0) (.k (.int 2))))] [4])), (.ex (.mt .append (.v 1) [(.tup [(.v 3), (.idx (.idx (.v 0) (.k (.int 2))) (.v 2)), (.lst [(.v 2)])])]))]), (.ret (.v 1))], 1⟩
def d_free_in : Def := ⟨2, 3, [(.ret (.comp (.v 2) (.nm 2) (.of (.call n_cells_of [(.idx (.v 0) (.k (.int 1)))])) [(.and (.cmp .notin (.v 2) (.idx (.v 0) (.k (.int 2)))) (.cmp .notin (.v 2) (.v 1)))] [2]))], 1⟩
def d_power_of_two : Def := ⟨1, 3, [(.asg 1 (.k (.int 1))), (.forr (.nm 2) (.rng [(.v 0)]) [(.asg 1 (.bin .mul (.v 1) (.k (.int 2))))]), (.ret (.v 1))], 1⟩
def d_how_many_odd : Def := ⟨1, 3, [(.ex (.call n_check_odd [(.v 0)])), (.unp (.tp [(.nm 1), (.nm 2)]) (.call n_reduced [(.call n_rows_of [(.v 0)])])), (.ret (.ife (.cmp .is (.v 2) (.k .non)) (.call n_power_of_two [(.bi .len [(.call n_free_in [(.v 0), (.v 1)])])]) (.k (.int 0))))], 1⟩
def d_first_odd : Def := ⟨1, 4, [(.ex (.call n_check_odd [(.v 0)])), (.unp (.tp [(.nm 1), (.nm 2)]) (.call n_reduced [(.call n_rows_of [(.v 0)])])), (.ret (.ife (.cmp .is (.v 2) (.k .non)) (.comp (.v 3) (.nm 3) (.of (.bi .sorted [(.v 1)])) [(.cmp .eq (.idx (.idx (.v 1) (.v 3)) (.k (.int 1))) (.k (.int 1)))] [3]) (.k .non)))], 1⟩
def d_lot_with : Def := ⟨2, 3, [(.ret (.bin .add (.lst [(.v 1)]) (.comp (.v 2) (.nm 2) (.of (.bi .sorted [(.v 0)])) [(.cmp .inn (.v 1) (.idx (.idx (.v 0) (.v 2)) (.k (.int 0))))] [2])))], 1⟩
def d_free_lots : Def := ⟨1, 4, [(.ex (.call n_check_odd [(.v 0)])), (.unp (.tp [(.nm 1), (.nm 2)]) (.call n_reduced [(.call n_rows_of [(.v 0)])])), (.ret (.ife (.cmp .is (.v 2) (.k .non)) (.comp (.call n_lot_with [(.v 1), (.v 3)]) (.nm 3) (.of (.call n_free_in [(.v 0), (.v 1)])) [] [3]) (.lst [])))], 1⟩
def d_odd_paper : Def := ⟨1, 3, [(.ex (.call n_check_odd [(.v 0)])), (.unp (.tp [(.nm 1), (.nm 2)]) (.call n_reduced [(.call n_rows_of [(.v 0)])])), (.ret (.v 2))], 1⟩
def d_is_odd_paper : Def := ⟨2, 4, [(.ex (.call n_check_odd [(.v 0)])), (.iff (.or (.not (.call n_are_cells_of [(.idx (.v 0) (.k (.int 1))), (.v 1)])) (.not (.bi .all [(.comp (.cmp .inn (.v 3) (.idx (.v 0) (.k (.int 2)))) (.nm 3) (.of (.v 1)) [] [3])]))) [(.ret (.k (.bl false)))] []), (.iff (.cmp .eq (.bin .mod (.bi .sum [(.comp (.idx (.idx (.v 0) (.k (.int 2))) (.v 3)) (.nm 3) (.of (.v 1)) [] [3])]) (.k (.int 2))) (.k (.int 0))) [(.ret (.k (.bl false)))] []), (.asg 2 (.comp (.v 3) (.nm 3) (.of (.call n_cells_of [(.idx (.v 0) (.k (.int 1)))])) [(.cmp .notin (.v 3) (.idx (.v 0) (.k (.int 2))))] [3])), (.ret (.bi .all [(.comp (.cmp .eq (.bin .mod (.call n_stones_around [(.idx (.v 0) (.k (.int 1))), (.v 1), (.v 3)]) (.k (.int 2))) (.k (.int 0))) (.nm 3) (.of (.v 2)) [] [3])]))], 1⟩
def d_sure_odd : Def := ⟨1, 5, [(.ex (.call n_check_odd [(.v 0)])), (.unp (.tp [(.nm 2), (.nm 3)]) (.call n_reduced [(.call n_rows_of [(.v 0)])])), (.iff (.cmp .isnot (.v 3) (.k .non)) [(.ret (.k .non))] []), (.asg 1 (.comp (.v 4) (.nm 4) (.of (.bi .sorted [(.v 2)])) [(.cmp .eq (.bi .len [(.idx (.idx (.v 2) (.v 4)) (.k (.int 0)))]) (.k (.int 1)))] [4])), (.ret (.tup [(.comp (.v 4) (.nm 4) (.of (.v 1)) [(.cmp .eq (.idx (.idx (.v 2) (.v 4)) (.k (.int 1))) (.k (.int 0)))] [4]), (.comp (.v 4) (.nm 4) (.of (.v 1)) [(.cmp .eq (.idx (.idx (.v 2) (.v 4)) (.k (.int 1))) (.k (.int 1)))] [4])]))], 1⟩
def d_odd_in : Def := ⟨2, 3, [(.ret (.comp (.v 2) (.nm 2) (.of (.call n_cells_of [(.v 0)])) [(.cmp .eq (.bin .mod (.call n_stones_around [(.v 0), (.v 1), (.v 2)]) (.k (.int 2))) (.k (.int 1)))] [2]))], 1⟩
def d_is_still : Def := ⟨2, 2, [(.ex (.call n_check_layout [(.v 0), (.v 1)])), (.ret (.cmp .eq (.call n_odd_in [(.v 0), (.v 1)]) (.lst [])))], 1⟩
def d_how_many_still : Def := ⟨1, 5, [(.ex (.call n_check_field [(.v 0)])), (.asg 1 (.call n_cells_of [(.v 0)])), (.unp (.tp [(.nm 2), (.nm 3)]) (.call n_reduced [(.comp (.tup [(.call n_around [(.v 0), (.v 4)]), (.k (.int 0)), (.lst [])]) (.nm 4) (.of (.v 1)) [] [4])])), (.ret (.call n_power_of_two [(.bin .sub (.bi .len [(.v 1)]) (.bi .len [(.v 2)]))]))], 1⟩
def d_odd_cells : Def := ⟨2, 2, [(.ex (.call n_check_layout [(.v 0), (.v 1)])), (.ret (.call n_odd_in [(.v 0), (.v 1)]))], 1⟩
def d__law_hash : Def := ⟨2, 3, [(.asg 2 (.bin .mod (.bi .int [(.bin .add (.bin .add (.bin .add (.bin .mul (.v 0) (.k (.int 1140671))) (.bin .mul (.bin .mul (.k (.int 27644437)) (.v 1)) (.v 1))) (.bin .mul (.k (.int 131)) (.v 1))) (.k (.int 19)))]) (.k (.int 2147483629)))), (.asg 2 (.bin .mod (.bi .int [(.bin .add (.bin .add (.bin .mul (.v 2) (.v 2)) (.bin .mul (.k (.int 62089)) (.v 1))) (.k (.int 32416187)))]) (.k (.int 2147483587)))), (.ret (.bin .mod (.bi .int [(.bin .mul (.v 2) (.k (.int 48271)))]) (.k (.int 2147483647))))], 1⟩
def d__law_cell : Def := ⟨2, 2, [(.iff (.cmp .lt (.v 1) (.bi .len [(.v 0)])) [(.ret (.idx (.v 0) (.v 1)))] []), (.ret (.bin .mod (.bi .sum [(.slc (.v 0) (.k .non) (.k (.int 1)))]) (.k (.int 1000003))))], 1⟩
def d__law_generator : Def := ⟨2, 3, [(.asg 2 (.call n__law_cell [(.v 0), (.v 1)])), (.ret (.box (.lst [(.bin .mod (.bi .int [(.bi .max [(.bin .sub (.v 2) (.bin .pow (.k (.int 10)) (.k (.int 18)))), (.k (.int 0))])]) (.bin .pow (.bin .pow (.k (.int 10)) (.k (.int 60))) (.k (.int 10)))), (.bin .mod (.bi .int [(.v 2)]) (.k (.int 2147483647))), (.bin .mul (.k (.int 1000)) (.v 1))])))], 0⟩
def d__law_random : Def := ⟨2, 4, [(.iff (.cmp .gt (.idx (.v 0) (.k (.int 0))) (.k (.int 0))) [(.asg 2 (.bin .mod (.bi .int [(.idx (.v 0) (.k (.int 0)))]) (.v 1))), (.setI (.v 0) (.k (.int 0)) (.bin .fdiv (.idx (.v 0) (.k (.int 0))) (.v 1))), (.ret (.v 2))] []), (.asg 2 (.k (.int 0))), (.forr (.nm 3) (.rng [(.bin .add (.k (.int 1)) (.bin .fdiv (.mt .bitlen (.v 1) []) (.k (.int 30))))]) [(.setI (.v 0) (.k (.int 2)) (.bin .add (.idx (.v 0) (.k (.int 2))) (.k (.int 1)))), (.asg 2 (.bin .add (.bin .mul (.v 2) (.k (.int 2147483587))) (.call n__law_hash [(.idx (.v 0) (.k (.int 1))), (.idx (.v 0) (.k (.int 2)))])))]), (.ret (.bin .mod (.bi .int [(.v 2)]) (.v 1)))], 2⟩
def d__law_drawn_order : Def := ⟨2, 4, [(.par [2, 3] [(.box (.bi .list [(.v 1)])), (.box (.lst []))]), (.whl (.cmp .ne (.v 2) (.lst [])) [(.ex (.mt .append (.v 3) [(.mt .popAt (.v 2) [(.call n__law_random [(.v 0), (.bi .len [(.v 2)])])])]))]), (.ret (.v 3))], 2⟩
def d__law_call : Def := ⟨4, 4, [(.iff (.cmp .eq (.v 0) (.k (.int 0))) [(.ret (.call n_odd_board [(.v 3)]))] []), (.iff (.cmp .eq (.v 0) (.k (.int 1))) [(.ret (.call n_fits_odd [(.v 3), (.k .non)]))] []), (.iff (.cmp .eq (.v 0) (.k (.int 2))) [(.ret (.call n_fits_odd [(.v 1), (.v 3)]))] []), (.iff (.cmp .eq (.v 0) (.k (.int 3))) [(.ret (.call n_how_many_odd [(.v 3)]))] []), (.iff (.cmp .eq (.v 0) (.k (.int 4))) [(.ret (.call n_first_odd [(.v 3)]))] []), (.iff (.cmp .eq (.v 0) (.k (.int 5))) [(.ret (.call n_free_lots [(.v 3)]))] []), (.iff (.cmp .eq (.v 0) (.k (.int 6))) [(.ret (.call n_odd_paper [(.v 3)]))] []), (.iff (.cmp .eq (.v 0) (.k (.int 7))) [(.ret (.call n_is_odd_paper [(.v 3), (.k .non)]))] []), (.iff (.cmp .eq (.v 0) (.k (.int 8))) [(.ret (.call n_sure_odd [(.v 3)]))] []), (.iff (.cmp .eq (.v 0) (.k (.int 9))) [(.ret (.call n_is_still [(.v 3), (.k .non)]))] []), (.iff (.cmp .eq (.v 0) (.k (.int 10))) [(.ret (.call n_is_still [(.v 2), (.v 3)]))] []), (.iff (.cmp .eq (.v 0) (.k (.int 11))) [(.ret (.call n_how_many_still [(.v 3)]))] []), (.ret (.ife (.cmp .eq (.v 0) (.k (.int 12))) (.call n_odd_cells [(.v 3), (.k .non)]) (.call n_odd_cells [(.v 2), (.v 3)])))], 1⟩
def d__law_caught : Def := ⟨4, 7, [(.par [5, 6] [(.k .non), (.bi .repr [(.lst [(.v 1), (.v 2), (.v 3)])])]), (.tri [(.ex (.call n__law_call [(.v 0), (.v 1), (.v 2), (.v 3)]))] n_FieldError 4 [(.asg 5 (.v 4))]), (.iff (.or (.cmp .ne (.bi .repr [(.lst [(.v 1), (.v 2), (.v 3)])]) (.v 6)) (.cmp .is (.v 5) (.k .non))) [(.ret (.k .non))] []), (.ret (.lst [(.bi .isinst [(.v 5), (.g n_InvalidBoard)]), (.bi .isinst [(.v 5), (.g n_InvalidLayout)]), (.bi .isinst [(.v 5), (.g n_InvalidField)]), (.bi .repr [(.att (.v 5) n_value)])]))], 1⟩
def d__law_odds : Def := ⟨3, 6, [(.iff (.cmp .eq (.v 0) (.k (.int 0))) [(.asg 3 (.box (.lst [(.k .non), (.k (.int 7)), (.k (.str s_odd)), (.lst []), (.tup []), (.dic []), (.bi .list [(.v 1)]), (.slc (.v 1) (.k .non) (.k (.int 2))), (.bin .add (.v 1) (.tup [(.k (.int 0))])), (.bin .add (.tup [(.k (.str s_odds))]) (.slc (.v 1) (.k (.int 1)) (.k .non))), (.tup [(.k (.str s_odd)), (.k .non), (.dic [])]), (.tup [(.k (.str s_odd)), (.tup [(.k (.str s_field)), (.k (.int 0)), (.k (.int 1))]), (.dic [])]), (.tup [(.k (.str s_odd)), (.v 2), (.k .non)]), (.tup [(.k (.str s_odd)), (.v 2), (.lst [])])]))), (.forr (.nm 4) (.of (.lst [(.k .non), (.k (.int 7)), (.k (.str s_a)), (.tup []), (.tup [(.k (.int 0))]), (.tup [(.k (.int 0)), (.k (.int 0)), (.k (.int 0))]), (.tup [(.k (.int 9)), (.k (.int 0))]), (.tup [(.k (.int 0)), (.k (.int 9))]), (.tup [(.bin .sub (.k (.int 0)) (.k (.int 1))), (.k (.int 0))]), (.tup [(.k (.int 0)), (.bin .sub (.k (.int 0)) (.k (.int 1)))]), (.tup [(.k (.bl true)), (.k (.int 0))]), (.tup [(.k (.int 0)), (.k (.bl false))]), (.tup [(.k (.str s_0)), (.k (.int 0))]), (.tup [(.k (.int 0)), (.k .non)])])) [(.ex (.mt .append (.v 3) [(.tup [(.k (.str s_odd)), (.v 2), (.dic [(.tup [(.k (.int 1)), (.k (.int 1))]), (.k (.int 0)), (.v 4), (.k (.int 1))])])]))]), (.ret (.bin .add (.v 3) (.comp (.tup [(.k (.str s_odd)), (.v 2), (.dic [(.tup [(.k (.int 0)), (.k (.int 0))]), (.v 5)])]) (.nm 5) (.of (.lst [(.k (.int 2)), (.bin .sub (.k (.int 0)) (.k (.int 1))), (.k .non), (.k (.str s_1)), (.k (.bl true)), (.k (.bl false)), (.lst [(.k (.int 0))]), (.tup [(.k (.int 1))])])) [] [5])))] []), (.iff (.cmp .eq (.v 0) (.k (.int 1))) [(.asg 3 (.box (.lst [(.k .non), (.k (.int 7)), (.k (.str s_board)), (.lst []), (.tup []), (.dic []), (.v 1), (.tup [(.k (.str s_board)), (.k .non), (.dic [])]), (.tup [(.k (.str s_board)), (.tup [(.k (.str s_field)), (.k (.int 0)), (.k (.int 1))]), (.dic [])]), (.tup [(.k (.str s_board)), (.v 2), (.k .non)]), (.tup [(.k (.str s_board)), (.v 2), (.dic [(.tup [(.k (.int 9)), (.k (.int 0))]), (.k (.int 0))])]), (.tup [(.k (.str s_board)), (.v 2), (.dic [(.k (.int 7)), (.k (.int 0))])])]))), (.ret (.bin .add (.v 3) (.comp (.tup [(.k (.str s_board)), (.v 2), (.dic [(.tup [(.k (.int 0)), (.k (.int 0))]), (.v 5)])]) (.nm 5) (.of (.lst [(.k (.int 9)), (.bin .sub (.k (.int 0)) (.k (.int 1))), (.k .non), (.k (.str s_1)), (.k (.bl true)), (.lst [(.k (.int 0))])])) [] [5])))] []), (.iff (.cmp .eq (.v 0) (.k (.int 2))) [(.asg 3 (.box (.lst [(.k .non), (.k (.int 7)), (.k (.str s_cells)), (.tup []), (.dic []), (.tup [(.tup [(.k (.int 0)), (.k (.int 0))])]), (.lst [(.tup [(.k (.int 0)), (.k (.int 1))]), (.tup [(.k (.int 0)), (.k (.int 0))])]), (.lst [(.tup [(.k (.int 0)), (.k (.int 0))]), (.tup [(.k (.int 0)), (.k (.int 0))])]), (.lst [(.tup [(.k (.int 9)), (.k (.int 0))])]), (.lst [(.tup [(.k (.int 0)), (.k (.int 9))])]), (.lst [(.tup [(.bin .sub (.k (.int 0)) (.k (.int 1))), (.k (.int 0))])]), (.lst [(.tup [(.k (.int 0)), (.bin .sub (.k (.int 0)) (.k (.int 1)))])]), (.lst [(.lst [(.k (.int 0)), (.k (.int 0))])]), (.lst [(.k .non)]), (.lst [(.k (.int 7))]), (.lst [(.tup [(.k (.int 0))])]), (.lst [(.tup [(.k (.int 0)), (.k (.int 0)), (.k (.int 0))])])]))), (.ret (.bin .add (.v 3) (.lst [(.lst [(.tup [(.k (.bl true)), (.k (.int 0))])]), (.lst [(.tup [(.k (.int 0)), (.k (.bl true))])]), (.lst [(.tup [(.k (.int 0)), (.k (.str s_0))])]), (.lst [(.tup [(.k (.int 0)), (.k (.int 0))]), (.k .non)]), (.lst [(.k .non), (.tup [(.k (.int 0)), (.k (.int 0))])]), (.lst [(.tup [(.k (.int 0)), (.lst [(.k (.int 0))])])])])))] []), (.ret (.lst [(.k .non), (.k (.int 7)), (.k (.str s_field)), (.lst []), (.tup []), (.dic []), (.lst [(.k (.str s_field)), (.k (.int 2)), (.k (.int 3))]), (.tup [(.k (.str s_field)), (.k (.int 2))]), (.tup [(.k (.str s_field)), (.k (.int 2)), (.k (.int 3)), (.k (.int 0))]), (.tup [(.k (.str s_fields)), (.k (.int 2)), (.k (.int 3))]), (.tup [(.k (.str s_field)), (.k (.int 0)), (.k (.int 3))]), (.tup [(.k (.str s_field)), (.k (.int 2)), (.k (.int 0))]), (.tup [(.k (.str s_field)), (.k (.bl true)), (.k (.int 3))]), (.tup [(.k (.str s_field)), (.k (.int 2)), (.k (.str s_3))]), (.tup [(.k .non), (.k (.int 2)), (.k (.int 3))])]))], 1⟩
def d_law : Def := ⟨1, 11, [(.asg 1 (.call n__law_generator [(.v 0), (.k (.int 0))])), (.asg 2 (.tup [(.k (.str s_field)), (.bin .add (.k (.int 2)) (.call n__law_random [(.v 1), (.k (.int 3))])), (.bin .add (.k (.int 2)) (.call n__law_random [(.v 1), (.k (.int 3))]))])), (.asg 3 (.tup [(.k (.str s_odd)), (.v 2), (.dic [(.tup [(.k (.int 0)), (.k (.int 1))]), (.call n__law_random [(.v 1), (.k (.int 2))]), (.tup [(.k (.int 1)), (.k (.int 0))]), (.k (.int 1))])])), (.asg 4 (.lst [(.k (.int 1)), (.k (.int 0)), (.k (.int 2)), (.k (.int 0)), (.k (.int 0)), (.k (.int 0)), (.k (.int 0)), (.k (.int 0)), (.k (.int 0)), (.k (.int 3)), (.k (.int 2)), (.k (.int 3)), (.k (.int 3)), (.k (.int 2))])), (.forr (.nm 5) (.of (.call n__law_drawn_order [(.v 1), (.listI (.rng [(.k (.int 14))]))])) [(.asg 6 (.idx (.v 4) (.v 5))), (.forr (.nm 7) (.of (.call n__law_odds [(.v 6), (.v 3), (.v 2)])) [(.iff (.cmp .ne (.call n__law_caught [(.v 5), (.v 3), (.v 2), (.v 7)]) (.lst [(.cmp .lt (.v 6) (.k (.int 2))), (.cmp .eq (.v 6) (.k (.int 2))), (.cmp .eq (.v 6) (.k (.int 3))), (.bi .repr [(.v 7)])])) [(.ret (.k (.bl false)))] [])])]), (.forr (.nm 5) (.rng [(.k (.int 14))]) [(.par [7, 10] [(.box (.lst [(.k (.str s_odd))])), (.k .non)]), (.tri [(.ex (.call n__law_call [(.v 5), (.v 3), (.v 2), (.v 7)]))] n_FieldError 8 [(.asg 10 (.v 8))]), (.ex (.mt .append (.v 7) [(.k (.str s_more))])), (.iff (.or (.cmp .is (.v 10) (.k .non)) (.cmp .ne (.bi .repr [(.att (.v 10) n_value)]) (.bi .repr [(.v 7)]))) [(.ret (.k (.bl false)))] [])]), (.forr (.tp [(.nm 5), (.nm 9)]) (.of (.lst [(.tup [(.k (.int 0)), (.tup [(.k (.str s_board)), (.v 2), (.dic [(.tup [(.k (.int 0)), (.k (.int 0))]), (.k (.int 8))])])]), (.tup [(.k (.int 2)), (.lst [])]), (.tup [(.k (.int 3)), (.tup [(.k (.str s_odd)), (.v 2), (.dic [])])]), (.tup [(.k (.int 10)), (.lst [(.tup [(.k (.int 0)), (.k (.int 0))]), (.tup [(.k (.int 1)), (.k (.int 1))])])]), (.tup [(.k (.int 11)), (.tup [(.k (.str s_field)), (.k (.int 1)), (.k (.int 1))])]), (.tup [(.k (.int 13)), (.lst [])])])) [(.iff (.cmp .isnot (.call n__law_caught [(.v 5), (.v 3), (.v 2), (.v 9)]) (.k .non)) [(.ret (.k (.bl false)))] [])]), (.ret (.and (.cmp .is (.call n_is_odd_paper [(.v 3), (.k .non)]) (.k (.bl false))) (.cmp .is (.call n_is_odd_board [(.k .non)]) (.k (.bl false)))))], 2⟩
end Sw
end
section
set_option maxRecDepth 100000
set_option autoImplicit false
set_option maxHeartbeats 1000000
/-! Qa: the interpreter step by step, as simp lemmas. -/
namespace Sw
open PySem
section
variable (G : Cfg) (C : Str → List W → Store → Out W) (env : EnvW) (st : Store)
@[simp] theorem ev_k (w : W) : ev G C (.k w) env st = .ok w st := by simp only [ev] <;> rfl
@[simp] theorem ev_v (i : Nat) : ev G C (.v i) env st = .opt (env.getD i none) st := by simp only [ev] <;> rfl
@[simp] theorem ev_g (x : Str) : ev G C (.g x) env st = .opt (G.glob x) st := by simp only [ev] <;> rfl
@[simp] theorem ev_tup (es : List ME) : ev G C (.tup es) env st = (evs G C es env st).bind fun ws st => .ok (.tup ws) st := by simp only [ev] <;> rfl
@[simp] theorem ev_lst (es : List ME) : ev G C (.lst es) env st = (evs G C es env st).bind fun ws st => .ok (.lst ws) st := by simp only [ev] <;> rfl
@[simp] theorem ev_dic (es : List ME) : ev G C (.dic es) env st = (quiet (evs G C es env st)).bind fun ws st => .opt ((dictE ws ([], [])).map fun d => .dic d.1 d.2) st := by simp only [ev] <;> rfl
@[simp] theorem ev_bin (o : Bop) (a b : ME) : ev G C (.bin o a b) env st = (ev G C a env st).bind fun x st => (ev G C b env st).bind fun y st => .opt (binW o x y st) st := by simp only [ev] <;> rfl
@[simp] theorem ev_neg (a : ME) : ev G C (.neg a) env st = (ev G C a env st).bind fun x st => match x with | .int i => .ok (.int (-i)) st | _ => .stuck := by simp only [ev] <;> rfl
@[simp] theorem ev_not (a : ME) : ev G C (.not a) env st = (ev G C a env st).bind fun x st => .opt ((truth st x).map fun b => .bl (!b)) st := by simp only [ev] <;> rfl
@[simp] theorem ev_and (a b : ME) : ev G C (.and a b) env st = (ev G C a env st).bind fun x st => match truth st x with | some true => ev G C b env st | some false => .ok x st | none => .stuck := by simp only [ev] <;> rfl
@[simp] theorem ev_or (a b : ME) : ev G C (.or a b) env st = (ev G C a env st).bind fun x st => match truth st x with | some true => .ok x st | some false => ev G C b env st | none => .stuck := by simp only [ev] <;> rfl
@[simp] theorem ev_cmp (o : Cop) (a b : ME) : ev G C (.cmp o a b) env st = (ev G C a env st).bind fun x st => (ev G C b env st).bind fun y st => .opt ((cmpW o x y st).map .bl) st := by simp only [ev] <;> rfl
@[simp] theorem ev_chn (o o' : Cop) (a b c : ME) : ev G C (.chn o o' a b c) env st = (ev G C a env st).bind fun x st => (ev G C b env st).bind fun y st => match cmpW o x y st with
    | some true => (ev G C c env st).bind fun z st => .opt ((cmpW o' y z st).map .bl) st
    | some false => .ok (.bl false) st
    | none => .stuck := by simp only [ev] <;> rfl
@[simp] theorem ev_ife (c a b : ME) : ev G C (.ife c a b) env st = (ev G C c env st).bind fun x st => match truth st x with | some true => ev G C a env st | some false => ev G C b env st | none => .stuck := by simp only [ev] <;> rfl
@[simp] theorem ev_idx (a i : ME) : ev G C (.idx a i) env st = (ev G C a env st).bind fun x st => (ev G C i env st).bind fun y st => .opt (idxW x y st) st := by simp only [ev] <;> rfl
@[simp] theorem ev_slc (a lo hi : ME) : ev G C (.slc a lo hi) env st = (ev G C a env st).bind fun x st => (ev G C lo env st).bind fun l st => if okB lo l then (ev G C hi env st).bind fun h st => if okB hi h then .opt (slcW x l h st) st else .stuck else .stuck := by simp only [ev] <;> rfl
@[simp] theorem ev_rev (a : ME) : ev G C (.rev a) env st = (ev G C a env st).bind fun x st => .opt (revW x st) st := by simp only [ev] <;> rfl
@[simp] theorem ev_call (f : Str) (es : List ME) : ev G C (.call f es) env st = (evs G C es env st).bind fun ws st => C f ws st := by simp only [ev] <;> rfl
@[simp] theorem ev_callk (f : Str) (es : List ME) (p : List Nat) : ev G C (.callk f es p) env st = (evs G C es env st).bind fun ws st => C f (p.map fun i => ws.getD i .non) st := by simp only [ev] <;> rfl
@[simp] theorem ev_callv (i : Nat) (es : List ME) : ev G C (.callv i es) env st = (match env.getD i none with
    | some (.fn f) => match G.glob f with
      | some (.fn _) => (evs G C es env st).bind fun ws st => C f ws st
      | _ => .stuck
    | _ => .stuck) := by simp only [ev] <;> rfl
@[simp] theorem ev_bi (b : BI) (es : List ME) : ev G C (.bi b es) env st = (evs G C es env st).bind fun ws st => .opt (callB G.sub b ws st) st := by simp only [ev] <;> rfl
@[simp] theorem ev_mt (m : MI) (o : ME) (es : List ME) : ev G C (.mt m o es) env st = (ev G C o env st).bind fun x st => if recvOk m st x then (evs G C es env st).bind fun ws st => callM m x ws st else .stuck := by simp only [ev] <;> rfl
/-- a comprehension's turn -/
def turnC (elt : ME) (tg : MT) (ifs : List ME) (own : List Nat) (env : EnvW) (x : W) (st : Store) : Out (Option W) := match assignT st tg x (wipeE env own) with
      | some e => quiet ((tests G C ifs e st).bind fun b st => if b then (ev G C elt e st).bind fun w st => .ok (some w) st else .ok none st)
      | none => .stuck
@[simp] theorem ev_comp (elt : ME) (tg : MT) (it : IT) (ifs : List ME) (own : List Nat) : ev G C (.comp elt tg it ifs own) env st = (evI G C it env st).bind fun xs st => (quiet (loopC (turnC G C elt tg ifs own env) xs.2 [] (lockS st xs.1))).bind fun ws st => .ok (.lst ws) (unlockS st xs.1) := by simp only [ev] <;> rfl
def turnD (ky vl : ME) (tg : MT) (ifs : List ME) (own : List Nat) (env : EnvW) (x : W) (st : Store) : Out (Option (W × W)) := match assignT st tg x (wipeE env own) with
      | some e => quiet ((tests G C ifs e st).bind fun b st => if b then (ev G C ky e st).bind fun k st => (ev G C vl e st).bind fun v st => .ok (some (k, v)) st else .ok none st)
      | none => .stuck
@[simp] theorem ev_dcomp (ky vl : ME) (tg : MT) (it : IT) (ifs : List ME) (own : List Nat) : ev G C (.dcomp ky vl tg it ifs own) env st = (evI G C it env st).bind fun xs st => (quiet (loopD (turnD G C ky vl tg ifs own env) xs.2 ([], []) (lockS st xs.1))).bind fun d st => .ok (.dic d.1 d.2) (unlockS st xs.1) := by simp only [ev] <;> rfl
@[simp] theorem ev_listI (it : IT) : ev G C (.listI it) env st = (evI G C it env st).bind fun xs st => .ok (.lst xs.2) st := by simp only [ev] <;> rfl
@[simp] theorem ev_att (a : ME) (f : Str) : ev G C (.att a f) env st = (ev G C a env st).bind fun x st => match see st x with
    | .exc c v => if f = "value" ∧ G.sub c c = true then .ok v st else .stuck
    | _ => .stuck := by simp only [ev] <;> rfl
@[simp] theorem ev_box (a : ME) : ev G C (.box a) env st = (ev G C a env st).bind fun x st => if isLD x then .ok (.cell st.length) (st ++ [x]) else .stuck := by simp only [ev] <;> rfl
@[simp] theorem evs_nil : evs G C [] env st = .ok [] st := by simp only [evs] <;> rfl
@[simp] theorem evs_cons (e : ME) (es : List ME) : evs G C (e :: es) env st = (ev G C e env st).bind fun w st => (evs G C es env st).bind fun ws st => .ok (w :: ws) st := by simp only [evs] <;> rfl
@[simp] theorem tests_nil : tests G C [] env st = .ok true st := by simp only [tests] <;> rfl
@[simp] theorem tests_cons (e : ME) (es : List ME) : tests G C (e :: es) env st = (ev G C e env st).bind fun w st => match truth st w with
    | some true => tests G C es env st
    | some false => .ok false st
    | none => .stuck := by simp only [tests] <;> rfl
@[simp] theorem evI_rng (es : List ME) : evI G C (.rng es) env st = (evs G C es env st).bind fun ws st => match ws with
    | [.int j] => if rngOk j && decide ((j - 0).toNat ≤ sz) then .ok ([], rngL 0 j) st else .stuck
    | [.int i, .int j] => if rngOk i && rngOk j && decide ((j - i).toNat ≤ sz) then .ok ([], rngL i j) st else .stuck
    | _ => .stuck := by simp only [evI] <;> rfl
@[simp] theorem evI_of (e : ME) : evI G C (.of e) env st = (ev G C e env st).bind fun x st => .opt (itemsOf st x) st := by simp only [evI] <;> rfl
@[simp] theorem evI_zip (a b : ME) : evI G C (.zip a b) env st = (ev G C a env st).bind fun x st => (ev G C b env st).bind fun y st => .opt (zipI st x y) st := by simp only [evI] <;> rfl
@[simp] theorem evI_enm (a : ME) : evI G C (.enm a) env st = (ev G C a env st).bind fun x st => .opt (enmI st x) st := by simp only [evI] <;> rfl
@[simp] theorem evI_itm (a : ME) : evI G C (.itm a) env st = (ev G C a env st).bind fun x st => .opt (itmI st x) st := by simp only [evI] <;> rfl
@[simp] theorem evI_vls (a : ME) : evI G C (.vls a) env st = (ev G C a env st).bind fun x st => .opt (vlsI st x) st := by simp only [evI] <;> rfl
/-! statements -/
@[simp] theorem exS_asg (i : Nat) (e : ME) : exS G C (.asg i e) env st = (ev G C e env st).bind fun w st => if i < env.length then .ok (.nx, env.set i (some w)) st else .stuck := by simp only [exS] <;> rfl
@[simp] theorem exS_unp (tg : MT) (e : ME) : exS G C (.unp tg e) env st = (ev G C e env st).bind fun w st => match assignT st tg w env with | some env' => .ok (.nx, env') st | none => .stuck := by simp only [exS] <;> rfl
@[simp] theorem exS_par (is : List Nat) (es : List ME) : exS G C (.par is es) env st = (evs G C es env st).bind fun ws st => match assignTs st (is.map .nm) ws env with | some env' => .ok (.nx, env') st | none => .stuck := by simp only [exS] <;> rfl
@[simp] theorem exS_setI (o i e : ME) : exS G C (.setI o i e) env st = (ev G C e env st).bind fun w st => (ev G C o env st).bind fun x st => (ev G C i env st).bind fun y st => match setW x y w st with
    | some st' => .ok (.nx, env) st'
    | none => .stuck := by simp only [exS] <;> rfl
@[simp] theorem exS_ret (e : ME) : exS G C (.ret e) env st = (ev G C e env st).bind fun w st => .ok (.rt w, env) st := by simp only [exS] <;> rfl
@[simp] theorem exS_retN : exS G C .retN env st = .ok (.rt .non, env) st := by simp only [exS] <;> rfl
@[simp] theorem exS_ex (e : ME) : exS G C (.ex e) env st = (ev G C e env st).bind fun _ st => .ok (.nx, env) st := by simp only [exS] <;> rfl
@[simp] theorem exS_iff (c : ME) (a b : List MS) : exS G C (.iff c a b) env st = (ev G C c env st).bind fun w st => match truth st w with
    | some true => exs G C a env st
    | some false => exs G C b env st
    | none => .stuck := by simp only [exS] <;> rfl
/-- a loop's turn -/
def turnL (tg : MT) (b : List MS) (x : W) (env : EnvW) (st : Store) : Out (Fl × EnvW) := match assignT st tg x env with
    | some e => exs G C b e st
    | none => .stuck
@[simp] theorem exS_forr (tg : MT) (it : IT) (b : List MS) : exS G C (.forr tg it b) env st = (evI G C it env st).bind fun xs st => lockL xs.1 (fun st => loopL (turnL G C tg b) xs.2 env st) st := by simp only [exS] <;> rfl
@[simp] theorem exS_whl (c : ME) (b : List MS) : exS G C (.whl c b) env st = loopW (fun env st => (ev G C c env st).bind fun w st => .opt (truth st w) st) (fun env st => exs G C b env st) G.fuel env st := by simp only [exS] <;> rfl
@[simp] theorem exS_raise (c : Str) (e : ME) : exS G C (.raise c e) env st = (ev G C e env st).bind fun w st => .exc c w st := by simp only [exS] <;> rfl
@[simp] theorem exS_tri (b : List MS) (c : Str) (i : Nat) (s : List MS) : exS G C (.tri b c i s) env st = (match exs G C b env st with
    | .exc d w st' => if G.sub d d then (if G.sub d c then (if i < env.length then (exs G C s (env.set i (some (.exc d w))) st').bind fun r st => .ok (r.1, r.2.set i none) st else .stuck) else .exc d w st') else .stuck
    | o => o) := by simp only [exS] <;> rfl
@[simp] theorem exS_brk : exS G C .brk env st = .ok (.bk, env) st := by simp only [exS] <;> rfl
@[simp] theorem exS_cnt : exS G C .cnt env st = .ok (.ct, env) st := by simp only [exS] <;> rfl
@[simp] theorem exS_pass : exS G C .pass env st = .ok (.nx, env) st := by simp only [exS] <;> rfl
@[simp] theorem exs_nil : exs G C [] env st = .ok (.nx, env) st := by simp only [exs] <;> rfl
@[simp] theorem exs_cons (s : MS) (ss : List MS) : exs G C (s :: ss) env st = (exS G C s env st).bind fun r st => match r.1 with
    | .nx => exs G C ss r.2 st
    | _ => .ok r st := by simp only [exs] <;> rfl
end
@[simp] theorem lockS_nil (st : Store) : lockS st [] = st := rfl
@[simp] theorem unlockS_nil (st : Store) : unlockS st [] = st := rfl
@[simp] theorem lockL_nil {α : Type} (f : Store → Out α) (st : Store) : lockL [] f st = f st := rfl
@[simp] theorem quiet_ok {α : Type} (a : α) (st : Store) : quiet (.ok a st : Out α) = .ok a st := rfl
@[simp] theorem quiet_stuck {α : Type} : quiet (.stuck : Out α) = .stuck := rfl
/-- the call of a pure def -/
theorem call_pure {G : Cfg} {f : Str} {d : Def} (hd : G.defs f = some d) (hf : d.frz = 1) {k : Nat} {ws : List W} {st : Store} (hl : ws.length = d.np) {w w' : W} {env' : EnvW} {st' : Store} {fl : Fl}
    (h : exs G (callF G k) d.body (ws.map some ++ List.replicate (d.nv - d.np) none) (st.map lokU) = .ok (fl, env') st') (hr : retW fl = some w) (hz : frozen st.length st' w = some w') : callF G (k + 1) f ws st = .ok w' st := by
  simp only [callF, hd, if_pos hl, hf, inS, outX]
  rw [h]
  simp only [hr, hz, Out.opt_some]
theorem call_exc {G : Cfg} {f : Str} {d : Def} (hd : G.defs f = some d) (hf : d.frz = 1) {k : Nat} {ws : List W} {st : Store} (hl : ws.length = d.np) {w w' : W} {c : Str} {st' : Store}
    (h : exs G (callF G k) d.body (ws.map some ++ List.replicate (d.nv - d.np) none) (st.map lokU) = .exc c w st') (hz : frozen st.length st' w = some w') : callF G (k + 1) f ws st = .exc c w' st := by
  simp only [callF, hd, if_pos hl, hf, inS, outX]
  rw [h]
  simp only [hz]
end Sw
end
section
set_option maxRecDepth 100000
set_option autoImplicit false
set_option maxHeartbeats 1000000
/-! Qb: the first defs. -/
namespace Sw
open PySem
theorem call_unf {G : Cfg} {f : Str} {d : Def} (hd : G.defs f = some d) {k : Nat} {ws : List W} {st : Store} (hl : ws.length = d.np) :
    callF G (k + 1) f ws st = outX d.frz st (exs G (callF G k) d.body (ws.map some ++ List.replicate (d.nv - d.np) none) (inS d.frz st)) := by
  simp only [callF, hd, if_pos hl]
@[simp] theorem outX_rt (st st' : Store) (w : W) (env : EnvW) : outX 1 st (.ok (.rt w, env) st') = .opt (frozen st.length st' w) st := rfl
@[simp] theorem outX_nx (st st' : Store) (env : EnvW) : outX 1 st (.ok (.nx, env) st') = .ok .non st := rfl
@[simp] theorem outX_exc (st st' : Store) (c : Str) (w : W) : outX 1 st (.exc c w st' : Out (Fl × EnvW)) = (match frozen st.length st' w with
      | some w' => .exc c w' st
      | none => .stuck) := rfl
@[simp] theorem inS_1 (st : Store) : inS 1 st = st.map lokU := rfl
@[simp] theorem frozen_bl (n : Nat) (st : Store) (b : Bool) : frozen n st (.bl b) = some (.bl b) := rfl
@[simp] theorem frozen_non (n : Nat) (st : Store) : frozen n st .non = some .non := rfl
@[simp] theorem frozen_int (n : Nat) (st : Store) (b : Int) : frozen n st (.int b) = some (.int b) := rfl
@[simp] theorem frozen_str (n : Nat) (st : Store) (b : Str) : frozen n st (.str b) = some (.str b) := rfl
theorem unl_lokU' (w : W) : unl (lokU w) = unl w := by cases w <;> rfl
@[simp] theorem see_lokU (st : Store) (w : W) : see (st.map lokU) w = see st w := by
  cases w <;> try rfl
  rename_i n
  simp only [see, List.getD_eq_getElem?_getD, List.getElem?_map]
  cases st[n]? with
  | none => rfl
  | some c => exact unl_lokU' c
@[simp] theorem seeS_non (st : Store) : see st .non = .non := rfl
@[simp] theorem seeS_bl (st : Store) (b : Bool) : see st (.bl b) = .bl b := rfl
@[simp] theorem seeS_int (st : Store) (b : Int) : see st (.int b) = .int b := rfl
@[simp] theorem seeS_str (st : Store) (b : Str) : see st (.str b) = .str b := rfl
@[simp] theorem seeS_tup (st : Store) (b : List W) : see st (.tup b) = .tup b := rfl
@[simp] theorem seeS_lst (st : Store) (b : List W) : see st (.lst b) = .lst b := rfl
@[simp] theorem seeS_dic (st : Store) (a b : List W) : see st (.dic a b) = .dic a b := rfl
@[simp] theorem seeS_fn (st : Store) (a : Str) : see st (.fn a) = .fn a := rfl
@[simp] theorem seeS_exc (st : Store) (a : Str) (b : W) : see st (.exc a b) = .exc a b := rfl
@[simp] theorem truth_bl (st : Store) (b : Bool) : truth st (.bl b) = some b := rfl
@[simp] theorem truth_int (st : Store) (b : Int) : truth st (.int b) = some (b != 0) := rfl
@[simp] theorem truth_lst (st : Store) (b : List W) : truth st (.lst b) = some (!b.isEmpty) := rfl
@[simp] theorem cb_len (sub : Str → Str → Bool) (x : W) (st : Store) : callB sub .len [x] st = lenF st x := rfl
@[simp] theorem cb_sum (sub : Str → Str → Bool) (x : W) (st : Store) : callB sub .sum [x] st = (asL st x).bind fun xs => (sumI xs).map .int := rfl
@[simp] theorem cb_max (sub : Str → Str → Bool) (x y : W) (st : Store) : callB sub .max [x, y] st = max2F x y := rfl
@[simp] theorem cb_min (sub : Str → Str → Bool) (x y : W) (st : Store) : callB sub .min [x, y] st = min2F x y := rfl
@[simp] theorem cb_sorted (sub : Str → Str → Bool) (x : W) (st : Store) : callB sub .sorted [x] st = sortF st x := rfl
@[simp] theorem cb_list (sub : Str → Str → Bool) (x : W) (st : Store) : callB sub .list [x] st = listF st x := rfl
@[simp] theorem cb_tuple (sub : Str → Str → Bool) (x : W) (st : Store) : callB sub .tuple [x] st = tupF st x := rfl
@[simp] theorem cb_int (sub : Str → Str → Bool) (x : W) (st : Store) : callB sub .int [x] st = intF x := rfl
@[simp] theorem cb_abs (sub : Str → Str → Bool) (x : W) (st : Store) : callB sub .abs [x] st = absF x := rfl
@[simp] theorem cb_isinst (sub : Str → Str → Bool) (x t : W) (st : Store) : callB sub .isinst [x, t] st = isiF sub st x t := rfl
@[simp] theorem cb_all (sub : Str → Str → Bool) (x : W) (st : Store) : callB sub .all [x] st = (asL st x).bind fun xs => (bools xs).map fun bs => .bl (bs.all id) := rfl
@[simp] theorem cb_any (sub : Str → Str → Bool) (x : W) (st : Store) : callB sub .any [x] st = (asL st x).bind fun xs => (bools xs).map fun bs => .bl (bs.any id) := rfl
@[simp] theorem cb_repr (sub : Str → Str → Bool) (x : W) (st : Store) : callB sub .repr [x] st = repF st x := rfl
@[simp] theorem isiF_ty (sub : Str → Str → Bool) (x : W) (n : String) (st : Store) : isiF sub st x (.ty n) = (isi1 sub (see st x) (.ty n)).map .bl := rfl
@[simp] theorem isiF_cls (sub : Str → Str → Bool) (x : W) (n : Str) (st : Store) : isiF sub st x (.cls n) = (isi1 sub (see st x) (.cls n)).map .bl := rfl
@[simp] theorem isiF_tup (sub : Str → Str → Bool) (x y : W) (ys : List W) (st : Store) : isiF sub st x (.tup (y :: ys)) = (isiAny sub (see st x) (y :: ys)).map .bl := rfl
/-- a value of the seven kinds -/
def knd : W → Bool
  | .non => true | .bl _ => true | .int _ => true | .str _ => true | .tup _ => true | .lst _ => true | .dic _ _ => true
  | _ => false
/-- the same, or a cell that holds a list or a dict -/
def kd (st : Store) : W → Bool
  | .cell n => isLD (see st (.cell n))
  | w => knd w
@[simp] theorem kd_lokU (st : Store) (w : W) : kd (st.map lokU) w = kd st w := by
  cases w <;> first | rfl | (simp only [kd, see_lokU])
theorem kd_knd {st : Store} {w : W} (h : kd st w = true) : knd (see st w) = true := by
  cases w <;> first | exact h | skip
  rename_i n
  have h : isLD (see st (.cell n)) = true := h
  cases e : see st (.cell n) <;> rw [e] at h <;> first | rfl | cases h
/-- the kinds, by the names of the types -/
def isTyp (n : String) : W → Bool
  | .bl _ => n == "bool" || n == "int"
  | .int _ => n == "int"
  | .str _ => n == "str"
  | .tup _ => n == "tuple"
  | .lst _ => n == "list"
  | .dic _ _ => n == "dict"
  | _ => false
theorem isi_ty {sub : Str → Str → Bool} {w : W} {n : String} (hw : knd w = true) (hn : ["int", "bool", "str", "tuple", "list", "dict"].contains n = true) : isi1 sub w (.ty n) = some (isTyp n w) := by
  cases w <;> first | (cases hw; done) | simp only [isi1, excOk, tyOf, hn, isTyp, if_true]
def isWhole : W → Bool
  | .int _ => true
  | _ => false
def isCount : W → Bool
  | .int i => decide (0 ≤ i)
  | _ => false
/-- a value that is no cell, or seen through -/
theorem kd_cases {st : Store} {w : W} (h : kd st w = true) : see st w = w ∨ (∃ xs, see st w = .lst xs) ∨ ∃ ks vs, see st w = .dic ks vs := by
  cases w <;> first | exact .inl rfl | (cases h; done) | skip
  rename_i n
  have h : isLD (see st (.cell n)) = true := h
  cases e : see st (.cell n) <;> rw [e] at h <;> first | exact .inr (.inl ⟨_, rfl⟩) | exact .inr (.inr ⟨_, _, rfl⟩) | cases h
structure B1 (G : Cfg) : Prop where
  is_whole : G.defs n_is_whole = some d_is_whole
  is_count : G.defs n_is_count = some d_is_count
variable {G : Cfg}
theorem is_whole_ok (H : B1 G) (k : Nat) (w : W) (st : Store) (hw : kd st w = true) : callF G (k + 1) n_is_whole [w] st = .ok (.bl (isWhole (see st w))) st := by
  have hw := kd_knd hw
  rw [call_unf H.is_whole rfl]
  simp [d_is_whole, isi_ty hw]
  cases h : see st w <;> rw [h] at hw <;> first | (cases hw; done) | simp [isTyp, isWhole]
theorem cmp_int (o : Cop) (i j : Int) (st : Store) (h : match o with | .is | .isnot | .inn | .notin => False | _ => True) : cmpW o (.int i) (.int j) st = cmpI o i j := by
  cases o <;> first | rfl | cases h
theorem is_count_ok (H : B1 G) (k : Nat) (w : W) (st : Store) (hw : kd st w = true) : callF G (k + 2) n_is_count [w] st = .ok (.bl (isCount (see st w))) st := by
  rw [call_unf H.is_count rfl]
  simp [d_is_count, is_whole_ok H, hw]
  rcases kd_cases hw with h | ⟨xs, h⟩ | ⟨ks, vs, h⟩
  · rw [h]
    cases w <;> simp [isWhole, isCount, cmp_int, cmpI]
  · rw [h]; simp [isWhole, isCount]
  · rw [h]; simp [isWhole, isCount]
end Sw
end
section
set_option maxRecDepth 100000
set_option autoImplicit false
set_option maxHeartbeats 0
/-! K90: the program as a datum (written by gen.py). -/
namespace K90
open PySem PySem.Spec PyProof.Rows L2 Sw
def top (i : Nat) : Stmt := PySem.Challenge.pw_sweptfield_k90_odd_boards_refused.main.body.getD i (.Pass ⟨0, 0, 0, 0⟩)
def pd (i : Nat) (x : Str) (ps N : List Str) (frz : Nat) (kws : List (List Str × List Nat) := []) : PD := ⟨x, L2.defArgs (top i), ps, N, L2.defScope (top i), L2.defBody (top i), [], frz, kws⟩
def ds : List PD := [
  pd 6 "is_whole" ["value"] ["value"] 1,
  pd 7 "is_count" ["value"] ["value"] 1,
  pd 9 "is_field" ["value"] ["value", "number"] 1,
  pd 10 "check_field" ["field"] ["field"] 1,
  pd 11 "is_cell_of" ["field", "value"] ["field", "value"] 1,
  pd 12 "are_cells_of" ["field", "value"] ["field", "value", "at", "cell"] 1,
  pd 13 "cells_of" ["field"] ["field", "found", "row", "column"] 1,
  pd 14 "around" ["field", "cell"] ["field", "cell", "found", "row", "first", "behind", "column"] 1,
  pd 15 "check_layout" ["field", "layout"] ["field", "layout"] 1,
  pd 16 "stones_around" ["field", "layout", "cell"] ["field", "layout", "cell", "other"] 1,
  pd 19 "is_board" ["value"] ["value", "cell"] 1,
  pd 20 "check_board" ["board"] ["board"] 1,
  pd 22 "is_odd_board" ["value"] ["value", "cell"] 1,
  pd 23 "check_odd" ["odd"] ["odd"] 1,
  pd 24 "odd_board" ["board"] ["board", "cell"] 1,
  pd 25 "fits_odd" ["odd", "layout"] ["odd", "layout", "cell"] 1,
  pd 27 "sum_of_lots" ["one", "other"] ["one", "other", "cell"] 1,
  pd 28 "added" ["row", "other"] ["row", "other"] 1,
  pd 29 "reduced" ["rows"] ["rows", "row", "pivots", "wrong", "late", "pivot", "last"] 1,
  pd 30 "rows_of" ["odd"] ["odd", "found", "cell", "beside", "other"] 1,
  pd 31 "free_in" ["odd", "pivots"] ["odd", "pivots", "cell"] 1,
  pd 32 "power_of_two" ["times"] ["times", "found", "turn"] 1,
  pd 33 "how_many_odd" ["odd"] ["odd", "pivots", "wrong"] 1,
  pd 34 "first_odd" ["odd"] ["odd", "pivots", "wrong", "cell"] 1,
  pd 35 "lot_with" ["pivots", "cell"] ["pivots", "cell", "pivot"] 1,
  pd 36 "free_lots" ["odd"] ["odd", "pivots", "wrong", "cell"] 1,
  pd 37 "odd_paper" ["odd"] ["odd", "pivots", "wrong"] 1,
  pd 38 "is_odd_paper" ["odd", "value"] ["odd", "value", "hidden", "cell"] 1,
  pd 39 "sure_odd" ["odd"] ["odd", "alone", "pivots", "wrong", "cell"] 1,
  pd 40 "odd_in" ["field", "layout"] ["field", "layout", "cell"] 1,
  pd 41 "is_still" ["field", "layout"] ["field", "layout"] 1,
  pd 42 "how_many_still" ["field"] ["field", "cells", "pivots", "wrong", "cell"] 1,
  pd 43 "odd_cells" ["field", "layout"] ["field", "layout"] 1,
  pd 45 "_law_hash" ["seed", "index"] ["seed", "index", "mixed"] 1,
  pd 46 "_law_cell" ["script", "index"] ["script", "index"] 1,
  pd 47 "_law_generator" ["script", "index"] ["script", "index", "seed"] 0,
  pd 48 "_law_random" ["generator", "bound"] ["generator", "bound", "drawn", "turn"] 2,
  pd 49 "_law_drawn_order" ["generator", "things"] ["generator", "things", "left", "found"] 2,
  pd 50 "_law_call" ["door", "odd", "field", "other"] ["door", "odd", "field", "other"] 1,
  pd 51 "_law_caught" ["door", "odd", "field", "other"] ["door", "odd", "field", "other", "error", "caught", "shown"] 1,
  pd 52 "_law_odds" ["kind", "odd", "field"] ["kind", "odd", "field", "found", "cell", "number"] 1,
  pd 53 "law" ["script"] ["script", "generator", "field", "odd", "kinds", "door", "kind", "other", "error", "good", "caught"] 2]
def bx : List (Nat × Nat) := [(93, 21), (109, 12), (178, 11), (190, 19), (190, 33), (231, 16), (236, 16), (239, 16), (253, 25)]
def prg (Ds : List (Str × Def)) : Prog := ⟨ds, Ds, [("MOST_TOLD", 8)], "FieldError", ["FieldError", "InvalidField", "InvalidLayout", "InvalidBoard"], bx, 1000⟩
def Ds : List (Str × Def) := [(n_is_whole, d_is_whole), (n_is_count, d_is_count), (n_is_field, d_is_field), (n_check_field, d_check_field), (n_is_cell_of, d_is_cell_of), (n_are_cells_of, d_are_cells_of), (n_cells_of, d_cells_of), (n_around, d_around), (n_check_layout, d_check_layout), (n_stones_around, d_stones_around), (n_is_board, d_is_board), (n_check_board, d_check_board), (n_is_odd_board, d_is_odd_board), (n_check_odd, d_check_odd), (n_odd_board, d_odd_board), (n_fits_odd, d_fits_odd), (n_sum_of_lots, d_sum_of_lots), (n_added, d_added), (n_reduced, d_reduced), (n_rows_of, d_rows_of), (n_free_in, d_free_in), (n_power_of_two, d_power_of_two), (n_how_many_odd, d_how_many_odd), (n_first_odd, d_first_odd), (n_lot_with, d_lot_with), (n_free_lots, d_free_lots), (n_odd_paper, d_odd_paper), (n_is_odd_paper, d_is_odd_paper), (n_sure_odd, d_sure_odd), (n_odd_in, d_odd_in), (n_is_still, d_is_still), (n_how_many_still, d_how_many_still), (n_odd_cells, d_odd_cells), (n__law_hash, d__law_hash), (n__law_cell, d__law_cell), (n__law_generator, d__law_generator), (n__law_random, d__law_random), (n__law_drawn_order, d__law_drawn_order), (n__law_call, d__law_call), (n__law_caught, d__law_caught), (n__law_odds, d__law_odds), (n_law, d_law)]
def p : Prog := prg Ds
def loose0 : List PySem.Str := [("is_whole" : Str), ("is_count" : Str), ("is_field" : Str), ("check_field" : Str), ("is_cell_of" : Str), ("are_cells_of" : Str), ("cells_of" : Str), ("around" : Str), ("check_layout" : Str), ("stones_around" : Str), ("is_board" : Str), ("check_board" : Str), ("is_odd_board" : Str), ("check_odd" : Str), ("odd_board" : Str), ("fits_odd" : Str), ("sum_of_lots" : Str), ("added" : Str), ("reduced" : Str), ("rows_of" : Str), ("free_in" : Str), ("power_of_two" : Str), ("how_many_odd" : Str), ("first_odd" : Str), ("lot_with" : Str), ("free_lots" : Str), ("odd_paper" : Str), ("is_odd_paper" : Str), ("sure_odd" : Str), ("odd_in" : Str), ("is_still" : Str), ("how_many_still" : Str), ("odd_cells" : Str), ("_law_hash" : Str), ("_law_cell" : Str)]
def loose1 : List PySem.Str := [("_law_generator" : Str), ("_law_random" : Str), ("_law_drawn_order" : Str), ("_law_call" : Str), ("_law_caught" : Str), ("_law_odds" : Str), ("FieldError" : Str), ("InvalidField" : Str), ("InvalidLayout" : Str), ("InvalidBoard" : Str), ("MOST_TOLD" : Str)]
def loose : List PySem.Str := loose0 ++ loose1
end K90
end
section
set_option maxRecDepth 100000
set_option autoImplicit false
set_option maxHeartbeats 2000000
/-! Qk: law k90: the leaves. -/
namespace K90
open PySem Sw
abbrev G := p.G
def fieldW (r c : Int) : W := .tup [.str s_field, .int r, .int c]
def oddW (r c n : Int) : W := .tup [.str s_odd, fieldW r c, .dic [.tup [.int 0, .int 1], .tup [.int 1, .int 0]] [.int n, .int 1]]
def oth (kind : Int) (r c n : Int) : List W := match callF G 89 n__law_odds [.int kind, oddW r c n, fieldW r c] [.non] with
  | .ok (.lst ws) _ => ws
  | _ => []
theorem odds0 (r c n : Int) (g : W) : callF G 89 n__law_odds [.int 0, oddW r c n, fieldW r c] [g] = .ok (.lst (oth 0 r c n)) [g] := by kernel_rfl
theorem odds1 (r c n : Int) (g : W) : callF G 89 n__law_odds [.int 1, oddW r c n, fieldW r c] [g] = .ok (.lst (oth 1 r c n)) [g] := by kernel_rfl
theorem odds2 (r c n : Int) (g : W) : callF G 89 n__law_odds [.int 2, oddW r c n, fieldW r c] [g] = .ok (.lst (oth 2 r c n)) [g] := by kernel_rfl
theorem odds3 (r c n : Int) (g : W) : callF G 89 n__law_odds [.int 3, oddW r c n, fieldW r c] [g] = .ok (.lst (oth 3 r c n)) [g] := by kernel_rfl
theorem leaf0_22 (n : Int) (k : Nat) (g : W) : (oth 0 2 2 n).map (fun o => callF G (k + 10) n_is_odd_board [o] [g]) = (oth 0 2 2 n).map (fun _ => .ok (.bl false) [g]) := by kernel_rfl
theorem leaf1_22 (n : Int) (k : Nat) (g : W) : (oth 1 2 2 n).map (fun o => callF G (k + 10) n_is_board [o] [g]) = (oth 1 2 2 n).map (fun _ => .ok (.bl false) [g]) := by kernel_rfl
theorem leaf2_22 (n : Int) (k : Nat) (g : W) : (oth 2 2 2 n).map (fun o => callF G (k + 10) n_are_cells_of [fieldW 2 2, o] [g]) = (oth 2 2 2 n).map (fun _ => .ok (.bl false) [g]) := by kernel_rfl
theorem leaf3 (r c n : Int) (k : Nat) (g : W) : (oth 3 r c n).map (fun o => callF G (k + 10) n_is_field [o] [g]) = (oth 3 r c n).map (fun _ => .ok (.bl false) [g]) := by kernel_rfl
end K90
end
section
set_option maxRecDepth 100000
set_option autoImplicit false
set_option maxHeartbeats 2000000
/-! Qk2: law k90: one door. -/
namespace Sw
open PySem
/-- what repr is sure of -/
def repOk (w : W) : Bool := pd 19 w && (toPy w).showable && (toPy w).leavesShort 20 && decide (22 * (toPy w).weight + 20 ≤ sz)
mutual
theorem pd_mono : ∀ (n : Nat) (w : W), pd n w = true → pd (n + 1) w = true
  | _, .non, _ => rfl
  | _, .bl _, _ => rfl
  | _, .int _, _ => rfl
  | _, .str _, _ => rfl
  | 0, .tup _, h => by simp [pd] at h
  | n + 1, .tup xs, h => by simp only [pd] at h ⊢; exact pds_mono n xs h
  | 0, .lst _, h => by simp [pd] at h
  | n + 1, .lst xs, h => by simp only [pd] at h ⊢; exact pds_mono n xs h
  | 0, .dic _ _, h => by simp [pd] at h
  | n + 1, .dic ks vs, h => by
    simp only [pd, Bool.and_eq_true] at h ⊢
    exact ⟨⟨h.1.1, pds_mono n ks h.1.2⟩, pds_mono n vs h.2⟩
  | _, .cell _, h => by simp [pd] at h
  | _, .fn _, h => by simp [pd] at h
  | _, .cls _, h => by simp [pd] at h
  | _, .exc _ _, h => by simp [pd] at h
  | _, .ty _, h => by simp [pd] at h
  | _, .ins _ _ _, h => by simp [pd] at h
  | _, .lok _, h => by simp [pd] at h
theorem pds_mono : ∀ (n : Nat) (ws : List W), pds n ws = true → pds (n + 1) ws = true
  | _, [], _ => rfl
  | n, w :: ws, h => by
    simp only [pds, Bool.and_eq_true] at h ⊢
    exact ⟨pd_mono n w h.1, pds_mono n ws h.2⟩
end
mutual
/-- data is written out as it is -/
theorem frz_pd (m : Nat) (st : Store) : ∀ (n : Nat) (w : W), pd n w = true → frzW (n + 1) m st w = some w
  | _, .non, _ => rfl
  | _, .bl _, _ => rfl
  | _, .int _, _ => rfl
  | _, .str _, _ => rfl
  | 0, .tup _, h => by simp [pd] at h
  | n + 1, .tup xs, h => by
    simp only [pd] at h
    simp only [frzW]
    rw [frz_pds m st n xs h]; rfl
  | 0, .lst _, h => by simp [pd] at h
  | n + 1, .lst xs, h => by
    simp only [pd] at h
    simp only [frzW]
    rw [frz_pds m st n xs h]; rfl
  | 0, .dic _ _, h => by simp [pd] at h
  | n + 1, .dic ks vs, h => by
    simp only [pd, Bool.and_eq_true] at h
    simp only [frzW]
    rw [frz_pds m st n vs h.2]; rfl
  | _, .cell _, h => by simp [pd] at h
  | _, .fn _, h => by simp [pd] at h
  | _, .cls _, h => by simp [pd] at h
  | _, .exc _ _, h => by simp [pd] at h
  | _, .ty _, h => by simp [pd] at h
  | _, .ins _ _ _, h => by simp [pd] at h
  | _, .lok _, h => by simp [pd] at h
theorem frz_pds (m : Nat) (st : Store) : ∀ (n : Nat) (ws : List W), pds n ws = true → mapO (frzW (n + 1) m st) ws = some ws
  | _, [], _ => rfl
  | n, w :: ws, h => by
    simp only [pds, Bool.and_eq_true] at h
    simp only [mapO, frz_pd m st n w h.1, frz_pds m st n ws h.2]
end
theorem repF_ok {w : W} (h : repOk w = true) (st : Store) : repF st w = some (.str (toPy w).shown) := by
  unfold repOk at h
  simp only [Bool.and_eq_true, decide_eq_true_eq] at h
  obtain ⟨⟨⟨h1, h2⟩, h3⟩, h4⟩ := h
  have hl := PyData.shown_le 20 (by decide) (toPy w) h3
  unfold repF dataD
  rw [if_pos (pd_mono _ _ h1), Option.bind_some, h2, Bool.true_and, decide_eq_true (by omega), if_pos rfl]
theorem frozen_ok {w : W} (h : pd 19 w = true) (n : Nat) (st : Store) : frozen n st w = some w := frz_pd n st 19 w h
theorem repOk_pd {w : W} (h : repOk w = true) : pd 19 w = true := by
  unfold repOk at h
  simp only [Bool.and_eq_true] at h
  exact h.1.1.1
end Sw
namespace K90
open PySem Sw
theorem D_odd_board : G.defs n_odd_board = some d_odd_board := by kernel_rfl
theorem D_fits_odd : G.defs n_fits_odd = some d_fits_odd := by kernel_rfl
theorem D_how_many_odd : G.defs n_how_many_odd = some d_how_many_odd := by kernel_rfl
theorem D_first_odd : G.defs n_first_odd = some d_first_odd := by kernel_rfl
theorem D_free_lots : G.defs n_free_lots = some d_free_lots := by kernel_rfl
theorem D_odd_paper : G.defs n_odd_paper = some d_odd_paper := by kernel_rfl
theorem D_is_odd_paper : G.defs n_is_odd_paper = some d_is_odd_paper := by kernel_rfl
theorem D_sure_odd : G.defs n_sure_odd = some d_sure_odd := by kernel_rfl
theorem D_is_still : G.defs n_is_still = some d_is_still := by kernel_rfl
theorem D_how_many_still : G.defs n_how_many_still = some d_how_many_still := by kernel_rfl
theorem D_odd_cells : G.defs n_odd_cells = some d_odd_cells := by kernel_rfl
theorem D_check_odd : G.defs n_check_odd = some d_check_odd := by kernel_rfl
theorem D_check_board : G.defs n_check_board = some d_check_board := by kernel_rfl
theorem D_check_field : G.defs n_check_field = some d_check_field := by kernel_rfl
theorem D_check_layout : G.defs n_check_layout = some d_check_layout := by kernel_rfl
theorem D__law_call : G.defs n__law_call = some d__law_call := by kernel_rfl
theorem D__law_caught : G.defs n__law_caught = some d__law_caught := by kernel_rfl
variable {o : W} {g : W} {k : Nat}
/-- o is refused by the checker's leaf -/
theorem odd_exc (hz : Sw.pd 19 o = true) (h : ∀ (k : Nat) (g : W), callF G (k + 10) n_is_odd_board [o] [g] = .ok (.bl false) [g]) : callF G (k + 11) n_check_odd [o] [g] = .exc n_InvalidBoard o [g] := by
  rw [call_unf D_check_odd rfl]
  simp [d_check_odd, h, frozen_ok hz]
theorem board_exc (hz : Sw.pd 19 o = true) (h : ∀ (k : Nat) (g : W), callF G (k + 10) n_is_board [o] [g] = .ok (.bl false) [g]) : callF G (k + 11) n_check_board [o] [g] = .exc n_InvalidBoard o [g] := by
  rw [call_unf D_check_board rfl]
  simp [d_check_board, h, frozen_ok hz]
theorem field_exc (hz : Sw.pd 19 o = true) (h : ∀ (k : Nat) (g : W), callF G (k + 10) n_is_field [o] [g] = .ok (.bl false) [g]) : callF G (k + 11) n_check_field [o] [g] = .exc n_InvalidField o [g] := by
  rw [call_unf D_check_field rfl]
  simp [d_check_field, h, frozen_ok hz]
theorem odd_ok (h : ∀ (k : Nat) (g : W), callF G (k + 10) n_is_odd_board [o] [g] = .ok (.bl true) [g]) : callF G (k + 11) n_check_odd [o] [g] = .ok .non [g] := by
  rw [call_unf D_check_odd rfl]
  simp [d_check_odd, h]
theorem field_ok (h : ∀ (k : Nat) (g : W), callF G (k + 10) n_is_field [o] [g] = .ok (.bl true) [g]) : callF G (k + 11) n_check_field [o] [g] = .ok .non [g] := by
  rw [call_unf D_check_field rfl]
  simp [d_check_field, h]
/-- the doors that ask an odd board first -/
theorem doors0 (hz : Sw.pd 19 o = true) (h : ∀ (k : Nat) (g : W), callF G (k + 10) n_is_odd_board [o] [g] = .ok (.bl false) [g]) (odd field : W) : ∀ d ∈ ([1, 3, 4, 5, 6, 7, 8] : List Int), callF G (k + 13) n__law_call [.int d, odd, field, o] [g] = .exc n_InvalidBoard o [g] := by
  intro d hd
  simp only [List.mem_cons, List.not_mem_nil, or_false] at hd
  have e := fun k (g : W) => odd_exc (k := k) (g := g) hz h
  have z := frozen_ok hz
  have d1 : ∀ k (g : W), callF G (k + 12) n_fits_odd [o, .non] [g] = .exc n_InvalidBoard o [g] := fun k g => by rw [call_unf D_fits_odd rfl]; simp [d_fits_odd, e, z]
  have d3 : ∀ k (g : W), callF G (k + 12) n_how_many_odd [o] [g] = .exc n_InvalidBoard o [g] := fun k g => by rw [call_unf D_how_many_odd rfl]; simp [d_how_many_odd, e, z]
  have d4 : ∀ k (g : W), callF G (k + 12) n_first_odd [o] [g] = .exc n_InvalidBoard o [g] := fun k g => by rw [call_unf D_first_odd rfl]; simp [d_first_odd, e, z]
  have d5 : ∀ k (g : W), callF G (k + 12) n_free_lots [o] [g] = .exc n_InvalidBoard o [g] := fun k g => by rw [call_unf D_free_lots rfl]; simp [d_free_lots, e, z]
  have d6 : ∀ k (g : W), callF G (k + 12) n_odd_paper [o] [g] = .exc n_InvalidBoard o [g] := fun k g => by rw [call_unf D_odd_paper rfl]; simp [d_odd_paper, e, z]
  have d7 : ∀ k (g : W), callF G (k + 12) n_is_odd_paper [o, .non] [g] = .exc n_InvalidBoard o [g] := fun k g => by rw [call_unf D_is_odd_paper rfl]; simp [d_is_odd_paper, e, z]
  have d8 : ∀ k (g : W), callF G (k + 12) n_sure_odd [o] [g] = .exc n_InvalidBoard o [g] := fun k g => by rw [call_unf D_sure_odd rfl]; simp [d_sure_odd, e, z]
  rcases hd with rfl | rfl | rfl | rfl | rfl | rfl | rfl <;> rw [call_unf D__law_call rfl] <;> simp [d__law_call, cmp_int, cmpI, d1, d3, d4, d5, d6, d7, d8, z]
theorem door1 (hz : Sw.pd 19 o = true) (h : ∀ (k : Nat) (g : W), callF G (k + 10) n_is_board [o] [g] = .ok (.bl false) [g]) (odd field : W) : callF G (k + 13) n__law_call [.int 0, odd, field, o] [g] = .exc n_InvalidBoard o [g] := by
  have e := fun k (g : W) => board_exc (k := k) (g := g) hz h
  have z := frozen_ok hz
  have d1 : ∀ k (g : W), callF G (k + 12) n_odd_board [o] [g] = .exc n_InvalidBoard o [g] := fun k g => by rw [call_unf D_odd_board rfl]; simp [d_odd_board, e, z]
  rw [call_unf D__law_call rfl]; simp [d__law_call, cmp_int, cmpI, d1, z]
theorem doors3 (hz : Sw.pd 19 o = true) (h : ∀ (k : Nat) (g : W), callF G (k + 10) n_is_field [o] [g] = .ok (.bl false) [g]) (odd field : W) : ∀ d ∈ ([9, 11, 12] : List Int), callF G (k + 14) n__law_call [.int d, odd, field, o] [g] = .exc n_InvalidField o [g] := by
  intro d hd
  simp only [List.mem_cons, List.not_mem_nil, or_false] at hd
  have e := fun k (g : W) => field_exc (k := k) (g := g) hz h
  have z := frozen_ok hz
  have l : ∀ k (g : W), callF G (k + 12) n_check_layout [o, .non] [g] = .exc n_InvalidField o [g] := fun k g => by rw [call_unf D_check_layout rfl]; simp [d_check_layout, e, z]
  have d9 : ∀ k (g : W), callF G (k + 13) n_is_still [o, .non] [g] = .exc n_InvalidField o [g] := fun k g => by rw [call_unf D_is_still rfl]; simp [d_is_still, l, z]
  have d11 : ∀ k (g : W), callF G (k + 13) n_how_many_still [o] [g] = .exc n_InvalidField o [g] := fun k g => by rw [call_unf D_how_many_still rfl]; simp [d_how_many_still, e, z]
  have d12 : ∀ k (g : W), callF G (k + 13) n_odd_cells [o, .non] [g] = .exc n_InvalidField o [g] := fun k g => by rw [call_unf D_odd_cells rfl]; simp [d_odd_cells, l, z]
  rcases hd with rfl | rfl | rfl <;> rw [call_unf D__law_call rfl] <;> simp [d__law_call, cmp_int, cmpI, d9, d11, d12, z]
end K90
end
section
set_option maxRecDepth 100000
set_option autoImplicit false
set_option maxHeartbeats 2000000
/-! Qk3: law k90: layouts; what is caught. -/
namespace K90
open PySem Sw
theorem idx_odd (r c n : Int) (g : W) : idxW (oddW r c n) (.int 1) [g] = some (fieldW r c) := rfl
/-- the doors that ask a layout -/
theorem doors2 {o : W} {r c n : Int} {g : W} {k : Nat} (hz : Sw.pd 19 o = true) (ho : ∀ (k : Nat) (g : W), callF G (k + 10) n_is_odd_board [oddW r c n] [g] = .ok (.bl true) [g]) (hf : ∀ (k : Nat) (g : W), callF G (k + 10) n_is_field [fieldW r c] [g] = .ok (.bl true) [g])
    (h : ∀ (k : Nat) (g : W), callF G (k + 10) n_are_cells_of [fieldW r c, o] [g] = .ok (.bl false) [g]) : ∀ d ∈ ([2, 10, 13] : List Int), callF G (k + 14) n__law_call [.int d, oddW r c n, fieldW r c, o] [g] = .exc n_InvalidLayout o [g] := by
  intro d hd
  simp only [List.mem_cons, List.not_mem_nil, or_false] at hd
  have z := frozen_ok hz
  have co : ∀ k (g : W), callF G (k + 11) n_check_odd [oddW r c n] [g] = .ok .non [g] := fun k g => odd_ok ho
  have cf : ∀ k (g : W), callF G (k + 11) n_check_field [fieldW r c] [g] = .ok .non [g] := fun k g => field_ok hf
  have l : ∀ k (g : W), callF G (k + 12) n_check_layout [fieldW r c, o] [g] = .exc n_InvalidLayout o [g] := fun k g => by
    have h' := fun k (g : W) => h (k + 1) g
    rw [call_unf D_check_layout rfl]; simp [d_check_layout, cf, h', z]
  have d2 : ∀ k (g : W), callF G (k + 13) n_fits_odd [oddW r c n, o] [g] = .exc n_InvalidLayout o [g] := fun k g => by
    have h' := fun k (g : W) => h (k + 2) g
    have co' := fun k (g : W) => co (k + 1) g
    rw [call_unf D_fits_odd rfl]; simp [d_fits_odd, co', idx_odd, h', z]
  have d10 : ∀ k (g : W), callF G (k + 13) n_is_still [fieldW r c, o] [g] = .exc n_InvalidLayout o [g] := fun k g => by rw [call_unf D_is_still rfl]; simp [d_is_still, l, z]
  have d13 : ∀ k (g : W), callF G (k + 13) n_odd_cells [fieldW r c, o] [g] = .exc n_InvalidLayout o [g] := fun k g => by rw [call_unf D_odd_cells rfl]; simp [d_odd_cells, l, z]
  rcases hd with rfl | rfl | rfl <;> rw [call_unf D__law_call rfl] <;> simp [d__law_call, cmp_int, cmpI, d2, d10, d13, z]
theorem G_sub (c d : Str) : G.sub c d = (p.cs.contains c && p.cs.contains d && (c == d || d == p.r)) := rfl
theorem glB : G.glob n_InvalidBoard = some (.cls n_InvalidBoard) := by kernel_rfl
theorem glL : G.glob n_InvalidLayout = some (.cls n_InvalidLayout) := by kernel_rfl
theorem glF : G.glob n_InvalidField = some (.cls n_InvalidField) := by kernel_rfl
/-- the classes of the law -/
def clss : List Str := [n_InvalidBoard, n_InvalidLayout, n_InvalidField]
theorem sub_all : ∀ c ∈ clss, G.sub c c = true ∧ G.sub c n_FieldError = true ∧ G.sub n_FieldError n_FieldError = true := by decide +kernel
def sb (c d : Str) : Bool := G.sub c d
theorem isi_exc {c d : Str} {o : W} (hc : c ∈ clss) (hd : d ∈ clss) : isi1 G.sub (.exc c o) (.cls d) = some (sb c d) := by
  simp only [isi1, (sub_all c hc).1, (sub_all d hd).1, if_true]; rfl
theorem caught_exc {o : W} {r c n d : Int} {g : W} {cl : Str} (hcl : cl ∈ clss) (hL : repOk (.lst [oddW r c n, fieldW r c, o]) = true) (ho : repOk o = true)
    (h : ∀ g : W, callF G 88 n__law_call [.int d, oddW r c n, fieldW r c, o] [g] = .exc cl o [g]) :
    callF G 89 n__law_caught [.int d, oddW r c n, fieldW r c, o] [g] = .ok (.lst [.bl (sb cl n_InvalidBoard), .bl (sb cl n_InvalidLayout), .bl (sb cl n_InvalidField), .str (toPy o).shown]) [g] := by
  rw [call_unf (k := 88) D__law_caught rfl]
  obtain ⟨s1, s2, s3⟩ := sub_all cl hcl
  have i1 := isi_exc (o := o) hcl (d := n_InvalidBoard) (by decide +kernel)
  have i2 := isi_exc (o := o) hcl (d := n_InvalidLayout) (by decide +kernel)
  have i3 := isi_exc (o := o) hcl (d := n_InvalidField) (by decide +kernel)
  have hv : n_value = ("value" : Str) := by decide +kernel
  have hne : ∀ (s : Str) (st : Store), cmpW .ne (.str s) (.str s) st = some false := fun s st => by
    simp [cmpW, data, pl, cmpD, eqW, toPy, PyData.eqv]
  have his : ∀ st : Store, cmpW .is (.exc cl o) .non st = some false := fun st => rfl
  have hfz : ∀ (st : Store) (a b c : Bool) (s : Str), frozen 1 st (.lst [.bl a, .bl b, .bl c, .str s]) = some (.lst [.bl a, .bl b, .bl c, .str s]) := fun _ _ _ _ _ => rfl
  simp [d__law_caught, repF_ok hL, repF_ok ho, h, s1, s2, s3, hne, his, glB, glL, glF, i1, i2, i3, hv, assignTs, assignT, hfz]
end K90
end
section
set_option maxRecDepth 100000
set_option autoImplicit false
set_option maxHeartbeats 2000000
/-! Qk4: law k90: all doors. -/
namespace K90
open PySem Sw
def RC : List (Int × Int) := [(2, 2), (2, 3), (2, 4), (3, 2), (3, 3), (3, 4), (4, 2), (4, 3), (4, 4)]
theorem leaf0 : ∀ q ∈ RC, ∀ (n : Int) (k : Nat) (g : W), (oth 0 q.1 q.2 n).map (fun o => callF G (k + 10) n_is_odd_board [o] [g]) = (oth 0 q.1 q.2 n).map (fun _ => .ok (.bl false) [g]) := by
  intro q hq
  simp only [RC, List.mem_cons, List.not_mem_nil, or_false] at hq
  rcases hq with rfl | rfl | rfl | rfl | rfl | rfl | rfl | rfl | rfl <;> (intro n k g; kernel_rfl)
theorem leaf1 : ∀ q ∈ RC, ∀ (n : Int) (k : Nat) (g : W), (oth 1 q.1 q.2 n).map (fun o => callF G (k + 10) n_is_board [o] [g]) = (oth 1 q.1 q.2 n).map (fun _ => .ok (.bl false) [g]) := by
  intro q hq
  simp only [RC, List.mem_cons, List.not_mem_nil, or_false] at hq
  rcases hq with rfl | rfl | rfl | rfl | rfl | rfl | rfl | rfl | rfl <;> (intro n k g; kernel_rfl)
theorem leaf2 : ∀ q ∈ RC, ∀ (n : Int) (k : Nat) (g : W), (oth 2 q.1 q.2 n).map (fun o => callF G (k + 10) n_are_cells_of [fieldW q.1 q.2, o] [g]) = (oth 2 q.1 q.2 n).map (fun _ => .ok (.bl false) [g]) := by
  intro q hq
  simp only [RC, List.mem_cons, List.not_mem_nil, or_false] at hq
  rcases hq with rfl | rfl | rfl | rfl | rfl | rfl | rfl | rfl | rfl <;> (intro n k g; kernel_rfl)
theorem leafO : ∀ q ∈ RC, ∀ n ∈ ([0, 1] : List Int), ∀ (k : Nat) (g : W), callF G (k + 10) n_is_odd_board [oddW q.1 q.2 n] [g] = .ok (.bl true) [g] := by
  intro q hq n hn
  simp only [RC, List.mem_cons, List.not_mem_nil, or_false] at hq hn
  rcases hq with rfl | rfl | rfl | rfl | rfl | rfl | rfl | rfl | rfl <;> rcases hn with rfl | rfl <;> (intro k g; kernel_rfl)
theorem leafF : ∀ q ∈ RC, ∀ (k : Nat) (g : W), callF G (k + 10) n_is_field [fieldW q.1 q.2] [g] = .ok (.bl true) [g] := by
  intro q hq
  simp only [RC, List.mem_cons, List.not_mem_nil, or_false] at hq
  rcases hq with rfl | rfl | rfl | rfl | rfl | rfl | rfl | rfl | rfl <;> (intro k g; kernel_rfl)
theorem reps : ∀ q ∈ RC, ∀ n ∈ ([0, 1] : List Int), ∀ kd ∈ ([0, 1, 2, 3] : List Int), (oth kd q.1 q.2 n).all (fun o => repOk o && repOk (.lst [oddW q.1 q.2 n, fieldW q.1 q.2, o])) = true := by
  intro q hq n hn
  simp only [RC, List.mem_cons, List.not_mem_nil, or_false] at hq hn
  rcases hq with rfl | rfl | rfl | rfl | rfl | rfl | rfl | rfl | rfl <;> rcases hn with rfl | rfl <;> decide +kernel
end K90
end
section
set_option maxRecDepth 100000
set_option autoImplicit false
set_option maxHeartbeats 2000000
/-! Qr: the law's own numbers. -/
namespace Sw
open PySem
structure BR (G : Cfg) : Prop where
  hash : G.defs n__law_hash = some d__law_hash
  cell : G.defs n__law_cell = some d__law_cell
  gen : G.defs n__law_generator = some d__law_generator
  rnd : G.defs n__law_random = some d__law_random
variable {G : Cfg}
@[simp] theorem bin_add (i j : Int) (st : Store) : binW .add (.int i) (.int j) st = some (.int (i + j)) := rfl
@[simp] theorem bin_sub (i j : Int) (st : Store) : binW .sub (.int i) (.int j) st = some (.int (i - j)) := rfl
theorem bin_mul {i j : Int} (h : mulOk i j = true) (st : Store) : binW .mul (.int i) (.int j) st = some (.int (i * j)) := by
  show (if mulOk i j = true then some (W.int (i * j)) else none) = _
  rw [if_pos h]
theorem bin_mod {i j : Int} (h : j ≠ 0) (st : Store) : binW .mod (.int i) (.int j) st = some (.int (i.fmod j)) := by
  show (if j ≠ 0 then some (W.int (i.fmod j)) else none) = _
  rw [if_pos h]
theorem bin_fdiv {i j : Int} (h : j ≠ 0) (h2 : j.natAbs < 1073741824) (st : Store) : binW .fdiv (.int i) (.int j) st = some (.int (i.fdiv j)) := by
  show (if j ≠ 0 ∧ j.natAbs < 1073741824 then some (W.int (i.fdiv j)) else none) = _
  rw [if_pos ⟨h, h2⟩]
theorem mulOkR {i j : Int} (h : j.natAbs < 2 ^ 64) : mulOk i j = true := by unfold mulOk; rw [decide_eq_true h, Bool.or_true]
theorem mulOkL {i j : Int} (h : i.natAbs < 2 ^ 64) : mulOk i j = true := by unfold mulOk; rw [decide_eq_true h, Bool.true_or]
theorem hash_ok (H : BR G) (k : Nat) (a b : Int) (st : Store) (hb : b.natAbs < 2 ^ 60) : ∃ h, callF G (k + 1) n__law_hash [.int a, .int b] st = .ok (.int h) st := by
  rw [call_unf H.hash rfl]
  have m0 : ∀ (x m : Int), 0 < m → m < 2 ^ 32 → (x.fmod m).natAbs < 2 ^ 64 := fun x m h1 h2 => by
    have h3 := Int.fmod_nonneg_of_pos x h1
    have h4 := Int.fmod_lt_of_pos x h1
    omega
  simp only [d__law_hash, exs_cons, exS_asg, exS_ret, ev_bin, ev_bi, evs_cons, evs_nil, ev_v, ev_k, inS_1, List.map_cons, List.map_nil, List.cons_append, List.nil_append, List.getD_cons_zero, List.getD_cons_succ, Out.opt_some, Out.bind_ok, cb_int, intF, bin_add]
  simp only [List.replicate, List.getD_cons_zero, List.getD_cons_succ, Out.opt_some, Out.bind_ok, bin_mul (mulOkR (show (1140671 : Int).natAbs < 2 ^ 64 by decide)), bin_mul (mulOkL (i := 27644437) (show (27644437 : Int).natAbs < 2 ^ 64 by decide)), bin_mul (mulOkR (i := 27644437 * b) (show b.natAbs < 2 ^ 64 by omega)),
    bin_mul (mulOkL (i := 131) (show (131 : Int).natAbs < 2 ^ 64 by decide)), bin_add, intF]
  simp only [bin_mod (show (2147483629 : Int) ≠ 0 by decide), Out.opt_some, Out.bind_ok, List.length_cons, List.length_nil, Nat.zero_add, Nat.reduceAdd, Nat.reduceLT, if_true, List.set_cons_zero, List.set_cons_succ, exs_cons, exS_asg, exS_ret, ev_bin, ev_bi, evs_cons, evs_nil, ev_v, ev_k, List.getD_cons_zero, List.getD_cons_succ,
    bin_mul (mulOkL (m0 _ 2147483629 (by decide) (by decide))), bin_mul (mulOkL (i := 62089) (show (62089 : Int).natAbs < 2 ^ 64 by decide)), bin_add, cb_int, intF, bin_mod (show (2147483587 : Int) ≠ 0 by decide), bin_mul (mulOkR (j := 48271) (show (48271 : Int).natAbs < 2 ^ 64 by decide)), bin_mod (show (2147483647 : Int) ≠ 0 by decide), outX_rt, frozen_int]
  exact ⟨_, rfl⟩
end Sw
end
section
set_option maxRecDepth 100000
set_option autoImplicit false
set_option maxHeartbeats 2000000
/-! Qs: the law's draws. -/
namespace Sw
open PySem
/-- a generator's content -/
def gw (a b c : Int) : W := .lst [.int a, .int b, .int c]
theorem mapO_id {f : W → Option W} : ∀ {l : List W}, (∀ x ∈ l, f x = some x) → mapO f l = some l
  | [], _ => rfl
  | x :: l, h => by
    simp only [mapO, h x List.mem_cons_self, mapO_id fun y hy => h y (List.mem_cons_of_mem _ hy)]
/-- a store that is written out as it is -/
def Tm (st : Store) : Prop := ∀ w ∈ st, ∀ m st'', st.length ≤ m → frzW 20 m st'' w = some w
theorem Tm.frz {st : Store} (h : Tm st) (st'' : Store) : frzWs 20 st.length st'' st = some st := mapO_id fun w hw => h w hw _ st'' (Nat.le_refl _)
theorem gw_frz (a b c : Int) (n : Nat) (st : Store) : frzW 20 n st (gw a b c) = some (gw a b c) := rfl
theorem Tm.set {st : Store} (h : Tm st) (n : Nat) {w : W} (hw : ∀ m st'', frzW 20 m st'' w = some w) : Tm (st.set n w) := by
  intro x hx m st'' hm
  rw [List.length_set] at hm
  rcases List.mem_or_eq_of_mem_set hx with hx | hx
  · exact h x hx m st'' hm
  · rw [hx]; exact hw _ _
theorem Tm.app {st : Store} (h : Tm st) {ws : List W} (hw : ∀ w ∈ ws, ∀ m st'', frzW 20 m st'' w = some w) : Tm (st ++ ws) := by
  intro x hx m st'' hm
  rw [List.length_append] at hm
  rcases List.mem_append.mp hx with hx | hx
  · exact h x hx m st'' (by omega)
  · exact hw x hx m st''
theorem see_lst' {st : Store} {n : Nat} {xs : List W} (h : st[n]? = some (.lst xs)) : see st (.cell n) = .lst xs := by
  simp only [see, List.getD_eq_getElem?_getD, h]; rfl
theorem idx_cell {st : Store} {n : Nat} {xs : List W} (h : st[n]? = some (.lst xs)) (i : Int) : idxW (.cell n) (.int i) st = at? xs i := by
  unfold idxW
  rw [see_lst' h]; rfl
theorem set_cell {st : Store} {n : Nat} {xs : List W} (h : st[n]? = some (.lst xs)) (i : Int) (w : W) : setW (.cell n) (.int i) w st = (nat? xs i).map fun q => st.set n (.lst (xs.set q w)) := by
  simp only [setW, h]
theorem at_gw (a b c : Int) : at? [.int a, .int b, .int c] 0 = some (.int a) ∧ at? [.int a, .int b, .int c] 1 = some (.int b) ∧ at? [.int a, .int b, .int c] 2 = some (.int c) := ⟨rfl, rfl, rfl⟩
theorem nat_gw (a b c : W) : nat? [a, b, c] 0 = some 0 ∧ nat? [a, b, c] 2 = some 2 := ⟨rfl, rfl⟩
theorem outX_2 (st st' : Store) (w : W) (env : EnvW) : outX 2 st (.ok (.rt w, env) st') = outF 2 st.length st' w := rfl
theorem outF_same {st st' : Store} {w : W} (hl : st'.length = st.length) (ht : Tm st') (hw : frozen st.length st' w = some w) : outF 2 st.length st' w = .ok w st' := by
  show (match frzWs 20 st.length st' (st'.take st.length), frozen st.length st' w with
    | some st'', some w' => Out.ok w' st''
    | _, _ => Out.stuck) = _
  rw [← hl, List.take_length, ht.frz, hl, hw]
theorem bits_le {m : Int} (h0 : 0 < m) (h : m < 2 ^ 29) : ((Builtin.Int.intBits m : Nat) : Int).fdiv 30 = 0 := by
  have h1 : Builtin.Int.intBits m ≤ 29 := by
    unfold Builtin.Int.intBits
    split
    · omega
    · have : m.natAbs.log2 < 29 := by
        rw [Nat.log2_lt (by omega)]
        omega
      omega
  rw [Int.fdiv_eq_ediv_of_nonneg _ (by decide)]
  omega
theorem loopL_nil (b : W → EnvW → Store → Out (Fl × EnvW)) (env : EnvW) (st : Store) : loopL b [] env st = .ok (.nx, env) st := rfl
theorem getElem_set {st : Store} {n : Nat} {w x : W} (h : st[n]? = some w) : (st.set n x)[n]? = some x := List.getElem?_set_self (List.getElem?_eq_some_iff.mp h).1
variable {G : Cfg}
theorem random_ok (H : BR G) (k : Nat) {st : Store} {n : Nat} {a b c m : Int} (hst : st[n]? = some (gw a b c)) (ht : Tm st) (ha : 0 ≤ a) (hc : 0 ≤ c) (hc2 : c < 2 ^ 50) (hm : 0 < m) (hm2 : m < 2 ^ 29) :
    ∃ r a' c', callF G (k + 2) n__law_random [.cell n, .int m] st = .ok (.int r) (st.set n (gw a' b c')) ∧ 0 ≤ r ∧ r < m ∧ 0 ≤ a' ∧ c ≤ c' ∧ c' ≤ c + 1 := by
  have hst' : st[n]? = some (.lst [.int a, .int b, .int c]) := hst
  obtain ⟨a0, a1, a2⟩ := at_gw a b c
  rw [call_unf H.rnd rfl]
  by_cases hpos : 0 < a
  · have q : decide (0 < a) = true := decide_eq_true hpos
    refine ⟨a.fmod m, a.fdiv m, c, ?_, Int.fmod_nonneg_of_pos a hm, Int.fmod_lt_of_pos a hm, ?_, Int.le_refl _, by omega⟩
    · have fin : outF 2 st.length (st.set n (gw (a.fdiv m) b c)) (.int (a.fmod m)) = .ok (.int (a.fmod m)) (st.set n (gw (a.fdiv m) b c)) := outF_same (List.length_set) (ht.set n (gw_frz _ _ _)) rfl
      simp [d__law_random, inS, idx_cell hst', a0, cmp_int, cmpI, hpos, intF, bin_mod (Int.ne_of_gt hm), bin_fdiv (Int.ne_of_gt hm) (show m.natAbs < 1073741824 by omega), set_cell hst', (nat_gw _ _ _).1, outX_2]
      exact fin
    · exact Int.fdiv_nonneg ha (Int.le_of_lt hm)
  · have h0 : a = 0 := by omega
    subst h0
    have hst2 := getElem_set (x := gw 0 b (c + 1)) hst
    have hst2' : (st.set n (gw 0 b (c + 1)))[n]? = some (.lst [.int 0, .int b, .int (c + 1)]) := hst2
    obtain ⟨h, hh⟩ := hash_ok H k b (c + 1) (st.set n (gw 0 b (c + 1))) (by omega)
    obtain ⟨b0, b1, b2⟩ := at_gw 0 b (c + 1)
    refine ⟨h.fmod m, 0, c + 1, ?_, Int.fmod_nonneg_of_pos h hm, Int.fmod_lt_of_pos h hm, Int.le_refl _, by omega, Int.le_refl _⟩
    have fin : outF 2 st.length (st.set n (gw 0 b (c + 1))) (.int (h.fmod m)) = .ok (.int (h.fmod m)) (st.set n (gw 0 b (c + 1))) := outF_same (List.length_set) (ht.set n (gw_frz _ _ _)) rfl
    have rg : rngL 0 1 = [.int 0] := rfl
    have ro : rngOk 1 = true := by decide
    have sz1 : (1 : Int) ≤ (sz : Int) := by unfold sz; decide
    have e1 : (.lst [.int 0, .int b, .int (c + 1)] : W) = gw 0 b (c + 1) := rfl
    have m1 : mulOk 0 2147483587 = true := by decide
    simp [d__law_random, inS, idx_cell hst', a0, a2, cmp_int, cmpI, recvOk, callM, bitF, bin_fdiv (show (30 : Int) ≠ 0 by decide) (show (30 : Int).natAbs < 1073741824 by decide), bits_le hm hm2, ro, sz1, rg, loopL, turnL, assignT, set_cell hst', (nat_gw _ _ _).2, e1, idx_cell hst2', b1, b2, hh, bin_mul m1,
      intF, bin_mod (Int.ne_of_gt hm), outX_2]
    exact fin
end Sw
end
section
set_option maxRecDepth 100000
set_option autoImplicit false
set_option maxHeartbeats 2000000
/-! Qt: the law's generators and orders. -/
namespace Sw
open PySem
variable {G : Cfg}
theorem sumI_int (ns : List Int) : ∃ v, sumI (ns.map W.int) = some v := by
  induction ns with
  | nil => exact ⟨0, rfl⟩
  | cons n ns ih =>
    obtain ⟨v, hv⟩ := ih
    exact ⟨n + v, by simp only [List.map_cons, sumI, hv, Option.map_some]⟩
theorem cell_ok (H : BR G) (k : Nat) (ns : List Int) (i : Nat) (st : Store) : ∃ v, callF G (k + 1) n__law_cell [.lst (ns.map W.int), .int i] st = .ok (.int v) st := by
  rw [call_unf H.cell rfl]
  by_cases hi : i < ns.length
  · have e : at? (ns.map W.int) (i : Int) = some (.int ns[i]) := by
      unfold at?
      rw [if_pos (by omega), Int.toNat_natCast, List.getElem?_map, List.getElem?_eq_getElem hi]; rfl
    have e2 : ∀ st, idxW (.lst (ns.map W.int)) (.int (i : Int)) st = some (.int ns[i]) := fun st => e
    exact ⟨ns[i], by simp [d__law_cell, lenF, cmp_int, cmpI, hi, e2]⟩
  · obtain ⟨v, hv⟩ := sumI_int (ns.take 1)
    rw [List.map_take] at hv
    have e2 : ∀ st, slcW (.lst (ns.map W.int)) .non (.int 1) st = some (.lst ((ns.map W.int).take 1)) := fun st => by
      have c1 : cutAt (ns.map W.int).length 0 .non = some 0 := rfl
      have c2 : cutAt (ns.map W.int).length (ns.map W.int).length (.int 1) = some (min 1 (ns.map W.int).length) := rfl
      simp only [slcW, seeS_lst, c1, c2, Option.bind_some, List.drop_zero, Nat.sub_zero]
      cases ns with
      | nil => rfl
      | cons x xs =>
        congr 3
    have e3 : ∀ st, asL st (.lst ((ns.map W.int).take 1)) = some ((ns.map W.int).take 1) := fun st => rfl
    exact ⟨v.fmod 1000003, by simp [d__law_cell, lenF, cmp_int, cmpI, hi, okB, e2, e3, hv, bin_mod (show (1000003 : Int) ≠ 0 by decide)]⟩
theorem outX_0 (st st' : Store) (w : W) (env : EnvW) : outX 0 st (.ok (.rt w, env) st') = .ok w st' := rfl
theorem generator_ok (H : BR G) (k : Nat) (ns : List Int) (i : Nat) (st : Store) : ∃ a b, callF G (k + 2) n__law_generator [.lst (ns.map W.int), .int i] st = .ok (.cell st.length) (st ++ [gw a b (1000 * i)]) ∧ 0 ≤ a := by
  rw [call_unf H.gen rfl]
  obtain ⟨v, hv⟩ := cell_ok H k ns i st
  have p1 : ∀ st, binW .pow (.int 10) (.int 18) st = some (.int (10 ^ 18)) := fun st => by kernel_rfl
  have p2 : ∀ st, binW .pow (.int 10) (.int 60) st = some (.int (10 ^ 60)) := fun st => by kernel_rfl
  have p3 : ∀ st, binW .pow (.int (10 ^ 60)) (.int 10) st = some (.int ((10 ^ 60) ^ 10)) := fun st => by kernel_rfl
  have n1 : ((10 ^ 60) ^ 10 : Int) ≠ 0 := by decide
  have m1 : ∀ st, binW .mul (.int 1000) (.int (i : Int)) st = some (.int (1000 * i)) := fun st => bin_mul (mulOkL (by decide)) st
  refine ⟨(if 0 > v - 10 ^ 18 then 0 else v - 10 ^ 18).fmod ((10 ^ 60) ^ 10), v.fmod 2147483647, ?_, Int.fmod_nonneg_of_pos _ (by decide)⟩
  simp only [d__law_generator, inS, exs_cons, exS_asg, exS_ret, ev_call, ev_box, ev_lst, ev_bin, ev_bi, evs_cons, evs_nil, ev_v, ev_k, List.map_cons, List.map_nil, List.cons_append, List.nil_append, List.getD_cons_zero, List.getD_cons_succ, Out.opt_some, Out.bind_ok, hv, List.replicate, List.length_cons, List.length_nil, Nat.zero_add,
    Nat.reduceAdd, Nat.reduceLT, if_true, List.set_cons_zero, List.set_cons_succ, p1, p2, p3, bin_sub, cb_max, max2F, cb_int, intF, bin_mod n1, bin_mod (show (2147483647 : Int) ≠ 0 by decide), m1, isLD, outX_0]
  rfl
/-! ### the drawn order -/
theorem erase_perm {α : Type} : ∀ (l : List α) (i : Nat) (h : i < l.length), (l[i] :: l.eraseIdx i).Perm l
  | x :: l, 0, _ => List.Perm.refl _
  | x :: l, i + 1, h => by
    simp only [List.getElem_cons_succ, List.eraseIdx_cons_succ]
    exact (List.Perm.swap x _ _).trans (List.Perm.cons x (erase_perm l i (by simpa using h)))
mutual
theorem deep_pl (st : Store) : ∀ (k n : Nat) (w : W), pl n w = true → deep k st w = w
  | 0, _, _, _ => by simp only [deep]
  | k + 1, _, .non, _ => rfl
  | k + 1, _, .bl _, _ => rfl
  | k + 1, _, .int _, _ => rfl
  | k + 1, _, .str _, _ => rfl
  | k + 1, 0, .tup _, h => by simp [pl] at h
  | k + 1, n + 1, .tup xs, h => by
    simp only [pl] at h
    simp only [deep]
    rw [deeps_pl st k n xs h]
  | k + 1, 0, .lst _, h => by simp [pl] at h
  | k + 1, n + 1, .lst xs, h => by
    simp only [pl] at h
    simp only [deep]
    rw [deeps_pl st k n xs h]
  | k + 1, _, .dic _ _, h => by simp [pl] at h
  | k + 1, _, .cell _, h => by simp [pl] at h
  | k + 1, _, .fn _, _ => rfl
  | k + 1, _, .cls _, _ => rfl
  | k + 1, _, .exc _ _, _ => rfl
  | k + 1, _, .ty _, _ => rfl
  | k + 1, _, .ins _ _ _, _ => rfl
  | k + 1, _, .lok _, _ => rfl
theorem deeps_pl (st : Store) : ∀ (k n : Nat) (ws : List W), pls n ws = true → ws.map (deep k st) = ws
  | _, _, [], _ => rfl
  | k, n, w :: ws, h => by
    simp only [pls, Bool.and_eq_true] at h
    rw [List.map_cons, deep_pl st k n w h.1, deeps_pl st k n ws h.2]
end
mutual
theorem pl_mono : ∀ (n m : Nat) (w : W), n ≤ m → pl n w = true → pl m w = true
  | _, _, .non, _, _ => by simp [pl]
  | _, _, .bl _, _, _ => by simp [pl]
  | _, _, .int _, _, _ => by simp [pl]
  | _, _, .str _, _, _ => by simp [pl]
  | 0, _, .tup _, _, h => by simp [pl] at h
  | n + 1, 0, .tup _, hl, _ => by omega
  | n + 1, m + 1, .tup xs, hl, h => by simp only [pl] at h ⊢; exact pls_mono n m xs (by omega) h
  | 0, _, .lst _, _, h => by simp [pl] at h
  | n + 1, 0, .lst _, hl, _ => by omega
  | n + 1, m + 1, .lst xs, hl, h => by simp only [pl] at h ⊢; exact pls_mono n m xs (by omega) h
  | _, _, .dic _ _, _, h => by simp [pl] at h
  | _, _, .cell _, _, h => by simp [pl] at h
  | _, _, .fn _, _, h => by simp [pl] at h
  | _, _, .cls _, _, h => by simp [pl] at h
  | _, _, .exc _ _, _, h => by simp [pl] at h
  | _, _, .ty _, _, h => by simp [pl] at h
  | _, _, .ins _ _ _, _, h => by simp [pl] at h
  | _, _, .lok _, _, h => by simp [pl] at h
theorem pls_mono : ∀ (n m : Nat) (ws : List W), n ≤ m → pls n ws = true → pls m ws = true
  | _, _, [], _, _ => rfl
  | n, m, w :: ws, hl, h => by
    simp only [pls, Bool.and_eq_true] at h ⊢
    exact ⟨pl_mono n m w hl h.1, pls_mono n m ws hl h.2⟩
end
theorem cmp_ne_nil {st : Store} {n : Nat} {xs : List W} (h : st[n]? = some (.lst xs)) (hp : pls 15 xs = true) : cmpW .ne (.cell n) (.lst []) st = some (!xs.isEmpty) := by
  have hs := see_lst' h
  have d1 : data st (.cell n) = some (.lst xs) := by
    have e : deep 20 st (.cell n) = .lst xs := by
      have u : unl (st.getD n .non) = .lst xs := hs
      simp only [deep, u]
      rw [deeps_pl st 18 15 xs hp]
    have p : pl 20 (.lst xs) = true := pls_mono 15 19 xs (by decide) hp
    unfold data
    rw [if_neg (by simp [pl]), e, if_pos p]
  have d2 : data st (.lst []) = some (.lst []) := rfl
  simp only [cmpW, hs, seeS_lst, d1, d2, Option.bind_some, cmpD]
  cases xs with
  | nil => rfl
  | cons x xs => simp [eqW, toPy, toPys, PyData.eqv, PyData.eqvAll]
structure BO (G : Cfg) : Prop where
  rnd : BR G
  ord : G.defs n__law_drawn_order = some d__law_drawn_order
theorem pls_all {n : Nat} {ws : List W} : pls n ws = true ↔ ∀ w ∈ ws, pl n w = true := ⟨pls_mem, pls_of⟩
theorem lst_frz {xs : List W} (h : pls 15 xs = true) (m : Nat) (st : Store) : frzW 20 m st (.lst xs) = some (.lst xs) :=
  frz_pd m st 19 (.lst xs) (by show pds 18 xs = true; exact pds_of_pls 18 xs (pls_mono 15 18 xs (by decide) h))
theorem order_loop (H : BO G) (k : Nat) {st : Store} {n : Nat} {b : Int} {e0 e1 : Option W} (he : e0 = some (.cell n)) (hn : n < st.length) (ht : Tm st) :
    ∀ (f : Nat) (left found : List W) (a c : Int), left.length < f → left.length < 2 ^ 24 → found.length + left.length < sz → pls 15 left = true → pls 15 found = true → 0 ≤ a → 0 ≤ c → c + left.length < 2 ^ 50 →
    ∃ us a' c', loopW (fun env st => (ev G (callF G (k + 2)) (.cmp .ne (.v 2) (.lst [])) env st).bind fun w st => .opt (truth st w) st) (fun env st => exs G (callF G (k + 2)) [(.ex (.mt .append (.v 3) [(.mt .popAt (.v 2) [(.call n__law_random [(.v 0), (.bi .len [(.v 2)])])])]))] env st) f
        [e0, e1, some (.cell st.length), some (.cell (st.length + 1))] (st.set n (gw a b c) ++ [.lst left, .lst found]) = .ok (.nx, [e0, e1, some (.cell st.length), some (.cell (st.length + 1))]) (st.set n (gw a' b c') ++ [.lst [], .lst us]) ∧
      us.Perm (left ++ found) ∧ 0 ≤ a' ∧ c ≤ c' ∧ c' ≤ c + left.length
  | 0, left, found, a, c, hl, _, _, _, _, _, _, _ => absurd hl (Nat.not_lt_zero _)
  | f + 1, left, found, a, c, hl, hl2, hsz, pl1, pl2, ha, hc, hcc => by
    subst he
    have lset : (st.set n (gw a b c)).length = st.length := List.length_set
    have gN : (st.set n (gw a b c) ++ [.lst left, .lst found])[st.length]? = some (.lst left) := by
      rw [List.getElem?_append_right (by omega), lset, Nat.sub_self]; rfl
    have gN1 : (st.set n (gw a b c) ++ [.lst left, .lst found])[st.length + 1]? = some (.lst found) := by
      rw [List.getElem?_append_right (by omega), lset, Nat.add_sub_cancel_left]; rfl
    simp only [loopW, ev_cmp, ev_v, ev_lst, evs_nil, List.getD_cons_zero, List.getD_cons_succ, Out.opt_some, Out.bind_ok, cmp_ne_nil gN pl1, Option.map_some, truth_bl]
    cases left with
    | nil =>
      refine ⟨found, a, c, ?_, List.Perm.refl _, ha, Int.le_refl _, by simp⟩
      simp
    | cons x xs =>
      simp only [List.isEmpty_cons, Bool.not_false, if_true]
      have len0 : 0 < ((x :: xs).length : Int) := by simp
      have gn : (st.set n (gw a b c) ++ [.lst (x :: xs), .lst found])[n]? = some (gw a b c) := by
        rw [List.getElem?_append_left (by omega)]
        exact List.getElem?_set_self hn
      have tm2 : Tm (st.set n (gw a b c) ++ [.lst (x :: xs), .lst found]) := by
        refine (ht.set n (gw_frz _ _ _)).app fun w hw m st'' => ?_
        simp only [List.mem_cons, List.not_mem_nil, or_false] at hw
        rcases hw with rfl | rfl
        · exact lst_frz pl1 m st''
        · exact lst_frz pl2 m st''
      have lx : ((x :: xs).length : Int) = xs.length + 1 := by simp
      have hcb : c < 2 ^ 50 := by omega
      have hlb : ((x :: xs).length : Int) < 2 ^ 29 := by
        have : ((x :: xs).length : Int) < 2 ^ 24 := by exact_mod_cast hl2
        omega
      obtain ⟨r, a', c', hr, r0, r1, ha', hc1, hc2⟩ := random_ok H.rnd k gn tm2 ha hc hcb len0 hlb
      have sset : (st.set n (gw a b c) ++ [W.lst (x :: xs), W.lst found]).set n (gw a' b c') = st.set n (gw a' b c') ++ [W.lst (x :: xs), W.lst found] := by
        rw [List.set_append_left _ _ (by omega), List.set_set]
      rw [sset] at hr
      have lset' : (st.set n (gw a' b c')).length = st.length := List.length_set
      have gN' : (st.set n (gw a' b c') ++ [.lst (x :: xs), .lst found])[st.length]? = some (.lst (x :: xs)) := by
        rw [List.getElem?_append_right (by omega), lset', Nat.sub_self]; rfl
      have hj : r.toNat < (x :: xs).length := by omega
      have hnat : nat? (x :: xs) r = some r.toNat := by
        unfold nat?
        rw [if_pos r0, if_pos hj]
      have hget : (x :: xs)[r.toNat]? = some (x :: xs)[r.toNat] := List.getElem?_eq_getElem hj
      have popset : (st.set n (gw a' b c') ++ [W.lst (x :: xs), W.lst found]).set st.length (.lst ((x :: xs).eraseIdx r.toNat)) = st.set n (gw a' b c') ++ [W.lst ((x :: xs).eraseIdx r.toNat), W.lst found] := by
        rw [List.set_append_right _ _ (by omega), lset', Nat.sub_self]; rfl
      have gN1' : (st.set n (gw a' b c') ++ [.lst ((x :: xs).eraseIdx r.toNat), .lst found])[st.length + 1]? = some (.lst found) := by
        rw [List.getElem?_append_right (by omega), lset', Nat.add_sub_cancel_left]; rfl
      have appset : ∀ y : W, (st.set n (gw a' b c') ++ [W.lst ((x :: xs).eraseIdx r.toNat), W.lst found]).set (st.length + 1) (.lst (found ++ [y])) = st.set n (gw a' b c') ++ [W.lst ((x :: xs).eraseIdx r.toNat), W.lst (found ++ [y])] := fun y => by
        rw [List.set_append_right _ _ (by omega), lset', Nat.add_sub_cancel_left]; rfl
      have lene : ((x :: xs).eraseIdx r.toNat).length = xs.length := by rw [List.length_eraseIdx_of_lt hj]; simp
      have pe : pls 15 ((x :: xs).eraseIdx r.toNat) = true := pls_of fun w hw => pls_mem pl1 w (List.mem_of_mem_eraseIdx hw)
      have pf : pls 15 (found ++ [(x :: xs)[r.toNat]]) = true := pls_of fun w hw => by
        rcases List.mem_append.mp hw with hw | hw
        · exact pls_mem pl2 w hw
        · rw [List.mem_singleton] at hw
          subst hw
          exact pls_mem pl1 _ (List.getElem_mem hj)
      have hlx : (x :: xs).length = xs.length + 1 := rfl
      obtain ⟨us, a2, c2, h1, h2, h3, h4, h5⟩ := order_loop H k (e0 := some (.cell n)) (e1 := e1) rfl hn ht f ((x :: xs).eraseIdx r.toNat) (found ++ [(x :: xs)[r.toNat]]) a' c' (by omega) (by omega) (by rw [List.length_append]; simp; omega) pe pf ha' (by omega) (by omega)
      refine ⟨us, a2, c2, ?_, ?_, h3, by omega, by omega⟩
      · have rv1 : recvOk .append (st.set n (gw a b c) ++ [W.lst (x :: xs), W.lst found]) (.cell (st.length + 1)) = true := by
          simp only [recvOk, see_lst' gN1]
        have rv2 : recvOk .popAt (st.set n (gw a b c) ++ [W.lst (x :: xs), W.lst found]) (.cell st.length) = true := by
          simp only [recvOk, see_lst' gN]
        have ln : lenF (st.set n (gw a b c) ++ [W.lst (x :: xs), W.lst found]) (.cell st.length) = some (.int ((x :: xs).length : Nat)) := by
          unfold lenF
          rw [see_lst' gN]
        have pp : callM .popAt (.cell st.length) [.int r] (st.set n (gw a' b c') ++ [W.lst (x :: xs), W.lst found]) = .ok (x :: xs)[r.toNat] (st.set n (gw a' b c') ++ [W.lst ((x :: xs).eraseIdx r.toNat), W.lst found]) := by
          simp only [callM, popAtF, gN', hnat, hget, popset]
        have ap : ∀ y : W, callM .append (.cell (st.length + 1)) [y] (st.set n (gw a' b c') ++ [W.lst ((x :: xs).eraseIdx r.toNat), W.lst found]) = .ok .non (st.set n (gw a' b c') ++ [W.lst ((x :: xs).eraseIdx r.toNat), W.lst (found ++ [y])]) := fun y => by
          simp only [callM, appF, gN1', if_pos (show found.length < sz by omega), appset]
        simp only [exs_cons, exs_nil, exS_ex, ev_mt, ev_v, List.getD_cons_zero, List.getD_cons_succ, Out.opt_some, Out.bind_ok, rv1, rv2, if_true, evs_cons, evs_nil, ev_call, ev_bi, cb_len, ln, hr, pp, ap]
        exact h1
      · refine h2.trans ?_
        have hp := erase_perm (x :: xs) r.toNat hj
        rw [← List.append_assoc]
        refine (List.perm_append_singleton _ _).trans ?_
        rw [← List.cons_append]
        exact hp.append_right _
/-- the whole order -/
theorem order_ok (H : BO G) (k : Nat) {st : Store} {n : Nat} {a b c : Int} {ts : List W} (hst : st[n]? = some (gw a b c)) (ht : Tm st) (hl : ts.length < 2 ^ 20) (hf : ts.length < G.fuel) (hp : pls 15 ts = true) (ha : 0 ≤ a) (hc : 0 ≤ c) (hc2 : c < 2 ^ 40) :
    ∃ us a' c', callF G (k + 3) n__law_drawn_order [.cell n, .lst ts] st = .ok (.lst us) (st.set n (gw a' b c')) ∧ us.Perm ts ∧ 0 ≤ a' ∧ c ≤ c' ∧ c' ≤ c + ts.length := by
  have hn : n < st.length := (List.getElem?_eq_some_iff.mp hst).1
  have self : st.set n (gw a b c) = st := by
    apply List.ext_getElem?
    intro i
    by_cases hi : n = i
    · subst hi; rw [List.getElem?_set_self hn, hst]
    · rw [List.getElem?_set_ne hi]
  obtain ⟨us, a', c', h1, h2, h3, h4, h5⟩ := order_loop H k (e0 := some (.cell n)) (e1 := some (.lst ts)) rfl hn ht G.fuel ts [] a c hf (by omega) (by unfold sz; simp; omega) hp rfl ha hc (by omega)
  refine ⟨us, a', c', ?_, by simpa using h2, h3, h4, h5⟩
  have lset : (st.set n (gw a' b c')).length = st.length := List.length_set
  have pu : pls 15 us = true := pls_of fun w hw => pls_mem hp w (by simpa using h2.subset hw)
  rw [call_unf H.ord rfl]
  have fin : outX 2 st (.ok (.rt (.cell (st.length + 1)), [some (.cell n), some (.lst ts), some (.cell st.length), some (.cell (st.length + 1))]) (st.set n (gw a' b c') ++ [.lst [], .lst us])) = .ok (.lst us) (st.set n (gw a' b c')) := by
    rw [outX_2]
    have e1 : (st.set n (gw a' b c') ++ [W.lst [], W.lst us]).take st.length = st.set n (gw a' b c') := by
      rw [← lset, List.take_left']; rfl
    have e2 : frozen st.length (st.set n (gw a' b c') ++ [W.lst [], W.lst us]) (.cell (st.length + 1)) = some (.lst us) := by
      have g : (st.set n (gw a' b c') ++ [W.lst [], W.lst us])[st.length + 1]? = some (.lst us) := by
        rw [List.getElem?_append_right (by omega), lset, Nat.add_sub_cancel_left]; rfl
      show frzW 20 _ _ _ = _
      simp only [frzW, if_pos (Nat.le_succ st.length), g]
      exact frz_pd _ _ 18 (.lst us) (by show pds 17 us = true; exact pds_of_pls 17 us (pls_mono 15 17 us (by decide) pu))
    have e3 : frzWs 20 st.length (st.set n (gw a' b c') ++ [W.lst [], W.lst us]) (st.set n (gw a' b c')) = some (st.set n (gw a' b c')) := by
      have := (ht.set n (gw_frz a' b c')).frz (st.set n (gw a' b c') ++ [W.lst [], W.lst us])
      rw [lset] at this
      exact this
    show (match frzWs 20 st.length (st.set n (gw a' b c') ++ [W.lst [], W.lst us]) ((st.set n (gw a' b c') ++ [W.lst [], W.lst us]).take st.length), frozen st.length (st.set n (gw a' b c') ++ [W.lst [], W.lst us]) (.cell (st.length + 1)) with
      | some st'', some w' => Out.ok w' st''
      | _, _ => Out.stuck) = _
    rw [e1, e2, e3]
  rw [← fin]
  congr 1
  rw [self] at h1
  simp only [exs_cons] at h1
  have hlist : ∀ st, listF st (.lst ts) = some (.lst ts) := fun st => rfl
  simp only [d__law_drawn_order, inS, exs_cons, exS_par, evs_cons, evs_nil, ev_box, ev_bi, ev_v, ev_lst, List.map_cons, List.map_nil, List.cons_append, List.nil_append, List.getD_cons_zero, List.getD_cons_succ, Out.opt_some, Out.bind_ok, List.replicate, cb_list, hlist, isLD, if_true, assignTs, assignT, List.length_cons, List.length_nil,
    Nat.zero_add, Nat.reduceAdd, Nat.reduceSub, Nat.reduceLT, List.set_cons_zero, List.set_cons_succ, Option.bind_some, exS_whl, List.length_append, List.append_assoc, h1, exS_ret]
end Sw
end
section
set_option maxRecDepth 100000
set_option autoImplicit false
set_option maxHeartbeats 2000000
/-! Qk5: law k90: the doors in their order. -/
namespace K90
open PySem Sw
theorem map_pt {α β : Type} {f g : α → β} {l : List α} (h : l.map f = l.map g) : ∀ x ∈ l, f x = g x := List.map_inj_left.mp h
/-- the doors and their kinds -/
def DK : List (Int × Int) := [(0, 1), (1, 0), (2, 2), (3, 0), (4, 0), (5, 0), (6, 0), (7, 0), (8, 0), (9, 3), (10, 2), (11, 3), (12, 3), (13, 2)]
def KK : List W := [1, 0, 2, 0, 0, 0, 0, 0, 0, 3, 2, 3, 3, 2].map W.int
def clOf (k : Int) : Str := if k < 2 then n_InvalidBoard else if k = 2 then n_InvalidLayout else n_InvalidField
theorem DK_rng : rngL 0 14 = DK.map fun x => W.int x.1 := by kernel_rfl
theorem DK_at : ∀ x ∈ DK, at? KK x.1 = some (.int x.2) := by
  intro x hx
  simp only [DK, List.mem_cons, List.not_mem_nil, or_false] at hx
  rcases hx with rfl | rfl | rfl | rfl | rfl | rfl | rfl | rfl | rfl | rfl | rfl | rfl | rfl | rfl <;> rfl
theorem DK_kd : ∀ x ∈ DK, x.2 ∈ ([0, 1, 2, 3] : List Int) := by decide
theorem cl_mem : ∀ k ∈ ([0, 1, 2, 3] : List Int), clOf k ∈ clss := by decide +kernel
theorem cl_sb : ∀ k ∈ ([0, 1, 2, 3] : List Int), sb (clOf k) n_InvalidBoard = decide (k < 2) ∧ sb (clOf k) n_InvalidLayout = decide (k = 2) ∧ sb (clOf k) n_InvalidField = decide (k = 3) := by decide +kernel
theorem leafs0 {q : Int × Int} (hq : q ∈ RC) {n : Int} : ∀ o ∈ oth 0 q.1 q.2 n, ∀ (k : Nat) (g : W), callF G (k + 10) n_is_odd_board [o] [g] = .ok (.bl false) [g] := fun o ho k g => map_pt (leaf0 q hq n k g) o ho
theorem leafs1 {q : Int × Int} (hq : q ∈ RC) {n : Int} : ∀ o ∈ oth 1 q.1 q.2 n, ∀ (k : Nat) (g : W), callF G (k + 10) n_is_board [o] [g] = .ok (.bl false) [g] := fun o ho k g => map_pt (leaf1 q hq n k g) o ho
theorem leafs2 {q : Int × Int} (hq : q ∈ RC) {n : Int} : ∀ o ∈ oth 2 q.1 q.2 n, ∀ (k : Nat) (g : W), callF G (k + 10) n_are_cells_of [fieldW q.1 q.2, o] [g] = .ok (.bl false) [g] := fun o ho k g => map_pt (leaf2 q hq n k g) o ho
theorem leafs3 {r c n : Int} : ∀ o ∈ oth 3 r c n, ∀ (k : Nat) (g : W), callF G (k + 10) n_is_field [o] [g] = .ok (.bl false) [g] := fun o ho k g => map_pt (leaf3 r c n k g) o ho
theorem reps_at {q : Int × Int} (hq : q ∈ RC) {n : Int} (hn : n ∈ ([0, 1] : List Int)) {kd : Int} (hk : kd ∈ ([0, 1, 2, 3] : List Int)) {o : W} (ho : o ∈ oth kd q.1 q.2 n) : repOk o = true ∧ repOk (.lst [oddW q.1 q.2 n, fieldW q.1 q.2, o]) = true := by
  have h := List.all_eq_true.mp (reps q hq n hn kd hk) o ho
  simpa using h
theorem door_exc {q : Int × Int} (hq : q ∈ RC) {n : Int} (hn : n ∈ ([0, 1] : List Int)) : ∀ x ∈ DK, ∀ o ∈ oth x.2 q.1 q.2 n, ∀ g : W, callF G 88 n__law_call [.int x.1, oddW q.1 q.2 n, fieldW q.1 q.2, o] [g] = .exc (clOf x.2) o [g] := by
  intro x hx o ho g
  have hz := repOk_pd (reps_at hq hn (DK_kd x hx) ho).1
  have h0 : x.2 = 0 → ∀ d ∈ ([1, 3, 4, 5, 6, 7, 8] : List Int), callF G 88 n__law_call [.int d, oddW q.1 q.2 n, fieldW q.1 q.2, o] [g] = .exc n_InvalidBoard o [g] := fun e d hd => doors0 (k := 75) hz (leafs0 hq o (by rw [← e]; exact ho)) _ _ d hd
  have h1 : x.2 = 1 → callF G 88 n__law_call [.int 0, oddW q.1 q.2 n, fieldW q.1 q.2, o] [g] = .exc n_InvalidBoard o [g] := fun e => door1 (k := 75) hz (leafs1 hq o (by rw [← e]; exact ho)) _ _
  have h2 : x.2 = 2 → ∀ d ∈ ([2, 10, 13] : List Int), callF G 88 n__law_call [.int d, oddW q.1 q.2 n, fieldW q.1 q.2, o] [g] = .exc n_InvalidLayout o [g] := fun e d hd => doors2 (k := 74) hz (leafO q hq n hn) (leafF q hq) (leafs2 hq (n := n) o (by rw [← e]; exact ho)) d hd
  have h3 : x.2 = 3 → ∀ d ∈ ([9, 11, 12] : List Int), callF G 88 n__law_call [.int d, oddW q.1 q.2 n, fieldW q.1 q.2, o] [g] = .exc n_InvalidField o [g] := fun e d hd => doors3 (k := 74) hz (leafs3 o (by rw [← e]; exact ho)) _ _ d hd
  simp only [DK, List.mem_cons, List.not_mem_nil, or_false] at hx
  have c0 : clOf 0 = n_InvalidBoard := rfl
  have c1 : clOf 1 = n_InvalidBoard := rfl
  have c2 : clOf 2 = n_InvalidLayout := rfl
  have c3 : clOf 3 = n_InvalidField := rfl
  rcases hx with rfl | rfl | rfl | rfl | rfl | rfl | rfl | rfl | rfl | rfl | rfl | rfl | rfl | rfl
  · rw [c1]; exact h1 rfl
  · rw [c0]; exact h0 rfl _ (by decide)
  · rw [c2]; exact h2 rfl _ (by decide)
  · rw [c0]; exact h0 rfl _ (by decide)
  · rw [c0]; exact h0 rfl _ (by decide)
  · rw [c0]; exact h0 rfl _ (by decide)
  · rw [c0]; exact h0 rfl _ (by decide)
  · rw [c0]; exact h0 rfl _ (by decide)
  · rw [c0]; exact h0 rfl _ (by decide)
  · rw [c3]; exact h3 rfl _ (by decide)
  · rw [c2]; exact h2 rfl _ (by decide)
  · rw [c3]; exact h3 rfl _ (by decide)
  · rw [c3]; exact h3 rfl _ (by decide)
  · rw [c2]; exact h2 rfl _ (by decide)
theorem door_caught {q : Int × Int} (hq : q ∈ RC) {n : Int} (hn : n ∈ ([0, 1] : List Int)) (x : Int × Int) (hx : x ∈ DK) (o : W) (ho : o ∈ oth x.2 q.1 q.2 n) (g : W) :
    callF G 89 n__law_caught [.int x.1, oddW q.1 q.2 n, fieldW q.1 q.2, o] [g] = .ok (.lst [.bl (decide (x.2 < 2)), .bl (decide (x.2 = 2)), .bl (decide (x.2 = 3)), .str (toPy o).shown]) [g] := by
  obtain ⟨s1, s2, s3⟩ := cl_sb x.2 (DK_kd x hx)
  obtain ⟨r1, r2⟩ := reps_at hq hn (DK_kd x hx) ho
  rw [caught_exc (cl_mem x.2 (DK_kd x hx)) r2 r1 (door_exc hq hn x hx o ho), s1, s2, s3]
/-- the law's second walk, one door -/
def inB : List MS := [(.iff (.cmp .ne (.call n__law_caught [(.v 5), (.v 3), (.v 2), (.v 7)]) (.lst [(.cmp .lt (.v 6) (.k (.int 2))), (.cmp .eq (.v 6) (.k (.int 2))), (.cmp .eq (.v 6) (.k (.int 3))), (.bi .repr [(.v 7)])])) [(.ret (.k (.bl false)))] [])]
theorem ne_same (a b c : Bool) (s : Str) (st : Store) : cmpW .ne (.lst [.bl a, .bl b, .bl c, .str s]) (.lst [.bl a, .bl b, .bl c, .str s]) st = some false := by
  cases a <;> cases b <;> cases c <;> simp [cmpW, data, pl, pls, cmpD, eqW, toPy, toPys, PyData.eqv, PyData.eqvAll]
theorem inner {q : Int × Int} (hq : q ∈ RC) {n : Int} (hn : n ∈ ([0, 1] : List Int)) (x : Int × Int) (hx : x ∈ DK) (sc K g : W) : ∀ (ws : List W) (e7 : Option W), (∀ o ∈ ws, o ∈ oth x.2 q.1 q.2 n) →
    ∃ e7', loopL (turnL G (callF G 89) (.nm 7) inB) ws [some sc, some (.cell 0), some (fieldW q.1 q.2), some (oddW q.1 q.2 n), some K, some (.int x.1), some (.int x.2), e7, none, none, none] [g] = .ok (.nx, [some sc, some (.cell 0), some (fieldW q.1 q.2), some (oddW q.1 q.2 n), some K, some (.int x.1), some (.int x.2), e7', none, none, none]) [g]
  | [], e7, _ => ⟨e7, rfl⟩
  | o :: ws, e7, h => by
    obtain ⟨e7', he⟩ := inner hq hn x hx sc K g ws (some o) fun o' ho' => h o' (List.mem_cons_of_mem _ ho')
    refine ⟨e7', ?_⟩
    have ho := h o List.mem_cons_self
    have t : turnL G (callF G 89) (.nm 7) inB o [some sc, some (.cell 0), some (fieldW q.1 q.2), some (oddW q.1 q.2 n), some K, some (.int x.1), some (.int x.2), e7, none, none, none] [g] = .ok (.nx, [some sc, some (.cell 0), some (fieldW q.1 q.2), some (oddW q.1 q.2 n), some K, some (.int x.1), some (.int x.2), some o, none, none, none]) [g] := by
      simp [turnL, inB, assignT, door_caught hq hn x hx o ho g, cmp_int, cmpI, repF_ok (reps_at hq hn (DK_kd x hx) ho).1, ne_same]
    simp only [loopL, t, Out.bind_ok, he]
def outB : List MS := [(.asg 6 (.idx (.v 4) (.v 5))), (.forr (.nm 7) (.of (.call n__law_odds [(.v 6), (.v 3), (.v 2)])) inB)]
theorem odds_at (r c n : Int) (g : W) : ∀ k ∈ ([0, 1, 2, 3] : List Int), callF G 89 n__law_odds [.int k, oddW r c n, fieldW r c] [g] = .ok (.lst (oth k r c n)) [g] := by
  intro k hk
  simp only [List.mem_cons, List.not_mem_nil, or_false] at hk
  rcases hk with rfl | rfl | rfl | rfl
  · exact odds0 r c n g
  · exact odds1 r c n g
  · exact odds2 r c n g
  · exact odds3 r c n g
theorem outer {q : Int × Int} (hq : q ∈ RC) {n : Int} (hn : n ∈ ([0, 1] : List Int)) (sc g : W) : ∀ (us : List W) (e5 e6 e7 : Option W), (∀ u ∈ us, u ∈ rngL 0 14) →
    ∃ e5' e6' e7', loopL (turnL G (callF G 89) (.nm 5) outB) us [some sc, some (.cell 0), some (fieldW q.1 q.2), some (oddW q.1 q.2 n), some (.lst KK), e5, e6, e7, none, none, none] [g] = .ok (.nx, [some sc, some (.cell 0), some (fieldW q.1 q.2), some (oddW q.1 q.2 n), some (.lst KK), e5', e6', e7', none, none, none]) [g]
  | [], e5, e6, e7, _ => ⟨e5, e6, e7, rfl⟩
  | u :: us, e5, e6, e7, h => by
    have hu := h u List.mem_cons_self
    rw [DK_rng, List.mem_map] at hu
    obtain ⟨x, hx, rfl⟩ := hu
    obtain ⟨e7a, hin⟩ := inner hq hn x hx sc (.lst KK) g (oth x.2 q.1 q.2 n) e7 fun o ho => ho
    obtain ⟨e5', e6', e7', he⟩ := outer hq hn sc g us (some (.int x.1)) (some (.int x.2)) e7a fun o' ho' => h o' (List.mem_cons_of_mem _ ho')
    refine ⟨e5', e6', e7', ?_⟩
    have hidx : idxW (.lst KK) (.int x.1) [g] = some (.int x.2) := DK_at x hx
    have hit : itemsOf [g] (.lst (oth x.2 q.1 q.2 n)) = some ([], oth x.2 q.1 q.2 n) := rfl
    have t : turnL G (callF G 89) (.nm 5) outB (.int x.1) [some sc, some (.cell 0), some (fieldW q.1 q.2), some (oddW q.1 q.2 n), some (.lst KK), e5, e6, e7, none, none, none] [g] = .ok (.nx, [some sc, some (.cell 0), some (fieldW q.1 q.2), some (oddW q.1 q.2 n), some (.lst KK), some (.int x.1), some (.int x.2), e7a, none, none, none]) [g] := by
      simp [turnL, outB, assignT, hidx, odds_at _ _ _ _ x.2 (DK_kd x hx), hit, hin]
    simp only [loopL, t, Out.bind_ok, he]
end K90
end
section
set_option maxRecDepth 100000
set_option autoImplicit false
set_option maxHeartbeats 2000000
/-! Qk6: law k90: the end of the law. -/
namespace K90
open PySem Sw
def rtOf : Out (Fl × EnvW) → Option W
  | .ok (.rt w, _) _ => some w
  | _ => none
theorem rtOf_some {o : Out (Fl × EnvW)} {w : W} (h : rtOf o = some w) : ∃ env st, o = .ok (.rt w, env) st := by
  unfold rtOf at h
  split at h
  · cases h; exact ⟨_, _, rfl⟩
  · cases h
def Tail (r c n : Int) : Prop := ∀ (sc K g : W) (e5 e6 e7 : Option W), rtOf (exs G (callF G 89) (d_law.body.drop 5) [some sc, some (.cell 0), some (fieldW r c), some (oddW r c n), some K, e5, e6, e7, none, none, none] [g]) = some (.bl true)
theorem tail220 : Tail 2 2 0 := by intro sc K g e5 e6 e7; kernel_rfl
theorem tail221 : Tail 2 2 1 := by intro sc K g e5 e6 e7; kernel_rfl
theorem tail230 : Tail 2 3 0 := by intro sc K g e5 e6 e7; kernel_rfl
theorem tail231 : Tail 2 3 1 := by intro sc K g e5 e6 e7; kernel_rfl
theorem tail240 : Tail 2 4 0 := by intro sc K g e5 e6 e7; kernel_rfl
theorem tail241 : Tail 2 4 1 := by intro sc K g e5 e6 e7; kernel_rfl
theorem tail320 : Tail 3 2 0 := by intro sc K g e5 e6 e7; kernel_rfl
theorem tail321 : Tail 3 2 1 := by intro sc K g e5 e6 e7; kernel_rfl
theorem tail330 : Tail 3 3 0 := by intro sc K g e5 e6 e7; kernel_rfl
theorem tail331 : Tail 3 3 1 := by intro sc K g e5 e6 e7; kernel_rfl
theorem tail340 : Tail 3 4 0 := by intro sc K g e5 e6 e7; kernel_rfl
theorem tail341 : Tail 3 4 1 := by intro sc K g e5 e6 e7; kernel_rfl
theorem tail420 : Tail 4 2 0 := by intro sc K g e5 e6 e7; kernel_rfl
theorem tail421 : Tail 4 2 1 := by intro sc K g e5 e6 e7; kernel_rfl
theorem tail430 : Tail 4 3 0 := by intro sc K g e5 e6 e7; kernel_rfl
theorem tail431 : Tail 4 3 1 := by intro sc K g e5 e6 e7; kernel_rfl
theorem tail440 : Tail 4 4 0 := by intro sc K g e5 e6 e7; kernel_rfl
theorem tail441 : Tail 4 4 1 := by intro sc K g e5 e6 e7; kernel_rfl
theorem tails : ∀ q ∈ RC, ∀ n ∈ ([0, 1] : List Int), Tail q.1 q.2 n := by
  intro q hq n hn
  simp only [RC, List.mem_cons, List.not_mem_nil, or_false] at hq hn
  rcases hq with rfl | rfl | rfl | rfl | rfl | rfl | rfl | rfl | rfl <;> rcases hn with rfl | rfl
  · exact tail220
  · exact tail221
  · exact tail230
  · exact tail231
  · exact tail240
  · exact tail241
  · exact tail320
  · exact tail321
  · exact tail330
  · exact tail331
  · exact tail340
  · exact tail341
  · exact tail420
  · exact tail421
  · exact tail430
  · exact tail431
  · exact tail440
  · exact tail441
end K90
end
section
set_option maxRecDepth 100000
set_option autoImplicit false
set_option maxHeartbeats 0
/-! K90: the head. -/
namespace K90
open PySem PySem.Spec PyProof.Rows L2 Sw
theorem comp_ok : p.ds.map (fun d => d.comp p.Z) = p.Ds.map (fun q => some q.2) := by kernel_rfl
theorem names_ok : p.ds.map (·.name) = p.Ds.map (·.1) := by kernel_rfl
theorem kws_ok : ∀ d ∈ p.ds, ∀ (doc pm : Value) (an : Option Addr) (kV cdv ct : Value) (ks : List Str) (perm : List Nat), d.kws.lookup ks = some perm → KwB (PySem.W.fnOf d.name d.name d.params d.body d.scope .none kV doc pm an cdv ct) d.ps ks perm := by
  intro d hd
  have hd : d ∈ ds := hd
  simp only [ds, List.mem_cons, List.not_mem_nil, or_false] at hd
  rcases hd with rfl | rfl | rfl | rfl | rfl | rfl | rfl | rfl | rfl | rfl | rfl | rfl | rfl | rfl | rfl | rfl | rfl | rfl | rfl | rfl | rfl | rfl | rfl | rfl | rfl | rfl | rfl | rfl | rfl | rfl | rfl | rfl | rfl | rfl | rfl | rfl | rfl | rfl | rfl | rfl | rfl | rfl
  · intro _ _ _ _ _ _ _ _ h; cases h
  · intro _ _ _ _ _ _ _ _ h; cases h
  · intro _ _ _ _ _ _ _ _ h; cases h
  · intro _ _ _ _ _ _ _ _ h; cases h
  · intro _ _ _ _ _ _ _ _ h; cases h
  · intro _ _ _ _ _ _ _ _ h; cases h
  · intro _ _ _ _ _ _ _ _ h; cases h
  · intro _ _ _ _ _ _ _ _ h; cases h
  · intro _ _ _ _ _ _ _ _ h; cases h
  · intro _ _ _ _ _ _ _ _ h; cases h
  · intro _ _ _ _ _ _ _ _ h; cases h
  · intro _ _ _ _ _ _ _ _ h; cases h
  · intro _ _ _ _ _ _ _ _ h; cases h
  · intro _ _ _ _ _ _ _ _ h; cases h
  · intro _ _ _ _ _ _ _ _ h; cases h
  · intro _ _ _ _ _ _ _ _ h; cases h
  · intro _ _ _ _ _ _ _ _ h; cases h
  · intro _ _ _ _ _ _ _ _ h; cases h
  · intro _ _ _ _ _ _ _ _ h; cases h
  · intro _ _ _ _ _ _ _ _ h; cases h
  · intro _ _ _ _ _ _ _ _ h; cases h
  · intro _ _ _ _ _ _ _ _ h; cases h
  · intro _ _ _ _ _ _ _ _ h; cases h
  · intro _ _ _ _ _ _ _ _ h; cases h
  · intro _ _ _ _ _ _ _ _ h; cases h
  · intro _ _ _ _ _ _ _ _ h; cases h
  · intro _ _ _ _ _ _ _ _ h; cases h
  · intro _ _ _ _ _ _ _ _ h; cases h
  · intro _ _ _ _ _ _ _ _ h; cases h
  · intro _ _ _ _ _ _ _ _ h; cases h
  · intro _ _ _ _ _ _ _ _ h; cases h
  · intro _ _ _ _ _ _ _ _ h; cases h
  · intro _ _ _ _ _ _ _ _ h; cases h
  · intro _ _ _ _ _ _ _ _ h; cases h
  · intro _ _ _ _ _ _ _ _ h; cases h
  · intro _ _ _ _ _ _ _ _ h; cases h
  · intro _ _ _ _ _ _ _ _ h; cases h
  · intro _ _ _ _ _ _ _ _ h; cases h
  · intro _ _ _ _ _ _ _ _ h; cases h
  · intro _ _ _ _ _ _ _ _ h; cases h
  · intro _ _ _ _ _ _ _ _ h; cases h
  · intro _ _ _ _ _ _ _ _ h; cases h
theorem ok : Prog.Ok p PySem.Challenge.rw_sweptfield_k90_odd_boards_refused.prog := ⟨comp_ok, names_ok, by decide +kernel, by decide +kernel, by decide +kernel, kws_ok, by decide +kernel⟩
theorem run (w : World) : HandSHeadRun.RunEq (PySem.W.OpenLaw.row PySem.Challenge.rw_sweptfield_k90_odd_boards_refused) (PySem.W.view (PySem.W.OpenLaw.row PySem.Challenge.rw_sweptfield_k90_odd_boards_refused).prog [53]) (p.hook PySem.Challenge.rw_sweptfield_k90_odd_boards_refused.prog) (p.ob PySem.Challenge.rw_sweptfield_k90_odd_boards_refused.prog) 3000 loose w := by
  intro os
  kernel_rfl
abbrev ld : DefRec := HandSHeadRun.topDef (PySem.W.OpenLaw.row PySem.Challenge.rw_sweptfield_k90_odd_boards_refused).prog 53
theorem ld_name : ld.name = ("law" : PySem.Str) := by kernel_rfl
theorem ld_dfl : ld.params.defaults = [] := by kernel_rfl
def lpd : PD := ds.getD 41 ⟨"", L2.defArgs (top 0), [], [], L2.defScope (top 0), [], [], 0, []⟩
theorem lpd_at : p.ds.find? (·.name == ld.name) = some lpd := by
  rw [ld_name]
  kernel_rfl
theorem lpd_ps : lpd.ps = [("script" : Str)] := by kernel_rfl
theorem walk (h : ∀ ns : List Int, ns.length ≤ 63 → ∃ st, callF p.G 90 "law" [.lst (ns.map W.int)] [] = .ok (.bl true) st) : PySem.W.WalkO (PySem.W.view (PySem.W.OpenLaw.row PySem.Challenge.rw_sweptfield_k90_odd_boards_refused).prog [53]) loose (PySem.W.XL (PySem.W.view (PySem.W.OpenLaw.row PySem.Challenge.rw_sweptfield_k90_odd_boards_refused).prog [53]) []) (p.hook PySem.Challenge.rw_sweptfield_k90_odd_boards_refused.prog).says (PySem.W.OpenLaw.row PySem.Challenge.rw_sweptfield_k90_odd_boards_refused).toRowW ld [] (fun f vs => PySem.call f vs) :=
  law_walk (l := PySem.Challenge.rw_sweptfield_k90_odd_boards_refused) (d := ld) (k := 90) (p := p) (dl := lpd) rfl ld_dfl ⟨rfl, by decide, by decide⟩ ok lpd_at lpd_ps (by rw [ld_name]; exact h)
theorem fin (h : ∀ ns : List Int, ns.length ≤ 63 → ∃ st, callF p.G 90 "law" [.lst (ns.map W.int)] [] = .ok (.bl true) st) : PySem.Challenge.rw_sweptfield_k90_odd_boards_refused.Holds := by
  w_on; o_law
  refine HandSHeadRun.head_any (r := PySem.W.OpenLaw.row PySem.Challenge.rw_sweptfield_k90_odd_boards_refused) (q := PySem.W.view (PySem.W.OpenLaw.row PySem.Challenge.rw_sweptfield_k90_odd_boards_refused).prog [53]) (H := p.hook PySem.Challenge.rw_sweptfield_k90_odd_boards_refused.prog) (ob := p.ob PySem.Challenge.rw_sweptfield_k90_odd_boards_refused.prog) (M := 3000) (loose := loose) (d := ld) (kwd := []) (p.ob_eq PySem.Challenge.rw_sweptfield_k90_odd_boards_refused.prog)
    (by kernel_rfl) (fun s => by kernel_rfl) run (by kernel_rfl) (by kernel_rfl) (by kernel_rfl) (by rfl) (by first | assumption | decide +kernel) (by decide +kernel) ⟨rfl, rfl, rfl, rfl, rfl, by decide +kernel⟩ ?hw ?hc
  case hw => w_witness2
  case hc => exact walk h
end K90
end
section
set_option maxRecDepth 100000
set_option autoImplicit false
set_option maxHeartbeats 2000000
/-! Qk7: law k90. -/
namespace K90
open PySem Sw
theorem B90 : BO G := ⟨⟨by kernel_rfl, by kernel_rfl, by kernel_rfl, by kernel_rfl⟩, by kernel_rfl⟩
theorem D_law : G.defs n_law = some d_law := by kernel_rfl
theorem tm1 (a b c : Int) : Tm [gw a b c] := by
  intro w hw m st'' _
  rw [List.mem_singleton] at hw
  subst hw
  exact gw_frz _ _ _ _ _
theorem outX_fin {o : Out (Fl × EnvW)} (h : rtOf o = some (.bl true)) : outX 2 [] o = .ok (.bl true) [] := by
  obtain ⟨env, st, rfl⟩ := rtOf_some h
  rw [outX_2]; rfl
theorem drop5 : d_law.body.drop 5 = d_law.body.drop 5 := rfl
theorem law_ok (ns : List Int) : callF G 90 n_law [.lst (ns.map W.int)] [] = .ok (.bl true) [] := by
  obtain ⟨a, b, hg, ha⟩ := generator_ok B90.rnd 87 ns 0 []
  have hg : callF G 89 n__law_generator [.lst (ns.map W.int), .int 0] [] = .ok (.cell 0) [gw a b 0] := hg
  obtain ⟨r, a1, c1, h1, r0, r1, ha1, hc1, hc1'⟩ := random_ok B90.rnd 87 (st := [gw a b 0]) (n := 0) (m := 3) rfl (tm1 _ _ _) ha (Int.le_refl 0) (by decide) (by decide) (by decide)
  have h1 : callF G 89 n__law_random [.cell 0, .int 3] [gw a b 0] = .ok (.int r) [gw a1 b c1] := h1
  obtain ⟨c, a2, c2, h2, c0', c1', ha2, hc2, hc2'⟩ := random_ok B90.rnd 87 (st := [gw a1 b c1]) (n := 0) (m := 3) rfl (tm1 _ _ _) ha1 (by omega) (by omega) (by decide) (by decide)
  have h2 : callF G 89 n__law_random [.cell 0, .int 3] [gw a1 b c1] = .ok (.int c) [gw a2 b c2] := h2
  obtain ⟨n, a3, c3, h3, n0, n1, ha3, hc3, hc3'⟩ := random_ok B90.rnd 87 (st := [gw a2 b c2]) (n := 0) (m := 2) rfl (tm1 _ _ _) ha2 (by omega) (by omega) (by decide) (by decide)
  have h3 : callF G 89 n__law_random [.cell 0, .int 2] [gw a2 b c2] = .ok (.int n) [gw a3 b c3] := h3
  obtain ⟨us, a4, c4, h4, hp, ha4, hc4, hc4'⟩ := order_ok B90 86 (st := [gw a3 b c3]) (n := 0) (ts := rngL 0 14) rfl (tm1 _ _ _) (by decide +kernel) (by decide +kernel) (by decide +kernel) ha3 (by omega) (by omega)
  have h4 : callF G 89 n__law_drawn_order [.cell 0, .lst (rngL 0 14)] [gw a3 b c3] = .ok (.lst us) [gw a4 b c4] := h4
  have hq : (2 + r, 2 + c) ∈ RC := by
    have e : r = 0 ∨ r = 1 ∨ r = 2 := by omega
    have e' : c = 0 ∨ c = 1 ∨ c = 2 := by omega
    rcases e with rfl | rfl | rfl <;> rcases e' with rfl | rfl | rfl <;> decide
  have hn : n ∈ ([0, 1] : List Int) := by
    have e : n = 0 ∨ n = 1 := by omega
    rcases e with rfl | rfl <;> decide
  obtain ⟨e5, e6, e7, ho⟩ := outer hq hn (.lst (ns.map W.int)) (gw a4 b c4) us none none none fun u hu => hp.subset hu
  have hT := tails _ hq n hn (.lst (ns.map W.int)) (.lst KK) (gw a4 b c4) e5 e6 e7
  rw [call_unf (k := 89) D_law rfl]
  rw [← outX_fin hT]
  show outX 2 [] _ = _
  congr 1
  have hd : dictE [.tup [.int 0, .int 1], .int n, .tup [.int 1, .int 0], .int 1] ([], []) = some ([.tup [.int 0, .int 1], .tup [.int 1, .int 0]], [.int n, .int 1]) := by kernel_rfl
  have hro : rngOk 14 = true := by decide
  have hsz : (14 : Int) ≤ (sz : Int) := by unfold sz; decide
  have hsz2 : (14 : Int).toNat ≤ sz := by unfold sz; decide
  have hit : ∀ st, itemsOf st (.lst us) = some ([], us) := fun st => rfl
  have hO : (.tup [.str s_odd, fieldW (2 + r) (2 + c), .dic [.tup [.int 0, .int 1], .tup [.int 1, .int 0]] [.int n, .int 1]] : W) = oddW (2 + r) (2 + c) n := rfl
  have hF : (.tup [.str s_field, .int (2 + r), .int (2 + c)] : W) = fieldW (2 + r) (2 + c) := rfl
  have hK : (.lst [.int 1, .int 0, .int 2, .int 0, .int 0, .int 0, .int 0, .int 0, .int 0, .int 3, .int 2, .int 3, .int 3, .int 2] : W) = .lst KK := rfl
  have body : d_law.body = (.asg 1 (.call n__law_generator [(.v 0), (.k (.int 0))])) :: (.asg 2 (.tup [(.k (.str s_field)), (.bin .add (.k (.int 2)) (.call n__law_random [(.v 1), (.k (.int 3))])), (.bin .add (.k (.int 2)) (.call n__law_random [(.v 1), (.k (.int 3))]))])) :: (.asg 3 (.tup [(.k (.str s_odd)), (.v 2), (.dic [(.tup [(.k (.int 0)), (.k (.int 1))]), (.call n__law_random [(.v 1), (.k (.int 2))]), (.tup [(.k (.int 1)), (.k (.int 0))]), (.k (.int 1))])])) :: (.asg 4 (.lst [(.k (.int 1)), (.k (.int 0)), (.k (.int 2)), (.k (.int 0)), (.k (.int 0)), (.k (.int 0)), (.k (.int 0)), (.k (.int 0)), (.k (.int 0)), (.k (.int 3)), (.k (.int 2)), (.k (.int 3)), (.k (.int 3)), (.k (.int 2))])) :: (.forr (.nm 5) (.of (.call n__law_drawn_order [(.v 1), (.listI (.rng [(.k (.int 14))]))])) outB) :: d_law.body.drop 5 := rfl
  have nv : (d_law.nv - d_law.np) = 10 := rfl
  have fz : d_law.frz = 2 := rfl
  rw [body, nv, fz]
  generalize d_law.body.drop 5 = rest
  simp [inS, List.replicate, hg, h1, h2, h3, hd, hro, hsz, hsz2, h4, hit, hF, hO, hK, ho]
theorem final : PySem.Challenge.rw_sweptfield_k90_odd_boards_refused.Holds := fin fun ns _ => ⟨[], (show callF p.G 90 n_law [.lst (ns.map W.int)] [] = .ok (.bl true) [] from law_ok ns)⟩
end K90
end
theorem PySem.Challenge.cw_sweptfield_k90_odd_boards_refused_holds : PySem.Challenge.rw_sweptfield_k90_odd_boards_refused.Holds := by
  exact K90.final
