import PyProof.Rows.All
import Wide.All
import OpenK.AllK
import Wide.FinOn
import PySem.Challenge.RW_wordlevels_k52_whole_texts
import HandS.ForMost
import HandS.Exc
import HandS.ExcOwn
import HandS.WordsExc
import HandS.Defaults
import HandS.HeadHook4
import HandS.HeadWalk
import HandS.EndTab
import HandS.Head2
import HandS.HeadEnd
import HandS.Nested
import HandS.Lambda
import HandS.IsInst
import HandS.Deep
import HandS.Walk
import HandS.Zip
import HandS.TupAny
import HandS.TupMul
import HandS.Conv
import HandS.Strs
import HandS.FStr
import HandS.Flow
import HandS.Small
import HandS.SetBool
import HandS.ExcIs
import HandS.TupLen
import HandS.RaiseMore
import HandS.Replace
import HandS.Codes
import KE.GoesNew
import PyProof.Rows.CountFlat
import HandS.Head0
import HandS.Head1
import HandS.Words
section
set_option autoImplicit false
set_option linter.all false
namespace Mx

inductive Val where
  | none
  | bool (b : Bool)
  | int (i : Int)
  | str (s : List Nat)
  | tup (l : List Val)
  | ref (n : Nat)
  | fn (f : Nat)
  | clo (k : Nat) (caps : List Val)
  | exc (k : Nat)
  deriving Inhabited

mutual
def veq : Val → Val → Bool
  | .none, .none => true
  | .bool a, .bool b => a == b
  | .bool a, .int b => (if a then 1 else 0) == b
  | .int a, .bool b => a == (if b then 1 else 0)
  | .int a, .int b => a == b
  | .str a, .str b => a == b
  | .tup a, .tup b => veqL a b
  | _, _ => false
def veqL : List Val → List Val → Bool
  | [], [] => true
  | x :: xs, y :: ys => veq x y && veqL xs ys
  | _, _ => false
end

/-! data: no object, function or closure within; tuples at most n deep -/
mutual
def isDn : Val → Nat → Bool
  | .ref _, _ => false
  | .fn _, _ => false
  | .clo _ _, _ => false
  | .exc _, _ => false
  | .tup _, 0 => false
  | .tup l, n + 1 => isDLn l n
  | _, _ => true
def isDLn : List Val → Nat → Bool
  | [], _ => true
  | x :: xs, n => isDn x n && isDLn xs n
end
/-! keys: data without None -/
mutual
def isKn : Val → Nat → Bool
  | .bool _, _ => true
  | .int _, _ => true
  | .str _, _ => true
  | .tup l, n + 1 => isKLn l n
  | _, _ => false
def isKLn : List Val → Nat → Bool
  | [], _ => true
  | x :: xs, n => isKn x n && isKLn xs n
end
def isK (v : Val) : Bool := isKn v 7
def isD (v : Val) : Bool := isDn v 7
def isDL (l : List Val) : Bool := isDLn l 7

/-! no object within (a temporary call may hand it back) -/
mutual
def noref : Val → Bool
  | .ref _ => false
  | .clo _ _ => false
  | .exc _ => false
  | .tup l => norefL l
  | _ => true
def norefL : List Val → Bool
  | [] => true
  | x :: xs => noref x && norefL xs
end

def b2i (b : Bool) : Int := if b then 1 else 0

mutual
def vlt : Val → Val → Option Bool
  | .int a, .int b => some (decide (a < b))
  | .bool a, .bool b => some (decide (b2i a < b2i b))
  | .str a, .str b => some (decide (a < b))
  | .tup a, .tup b => vltL a b
  | _, _ => none
def vltL : List Val → List Val → Option Bool
  | [], [] => some false
  | [], _ :: _ => some true
  | _ :: _, [] => some false
  | x :: xs, y :: ys => if veq x y then vltL xs ys else vlt x y
end

inductive Obj where
  | lst (l : List Val)
  | frz (l : List Val)
  | dct (l : List (Val × Val))
  | ins (c : Nat) (fs : List (Nat × Val))

abbrev Store := List Obj
abbrev Env := List (Option Val)

inductive Res (α : Type) where
  | ok (a : α) (st : Store)
  | exc (c : Nat) (st : Store)
  | bad

def Res.nx {α : Type} : Res α → Res α
  | .exc _ _ => .bad
  | r => r
def Res.bind {α β : Type} (r : Res α) (f : α → Store → Res β) : Res β := match r with
  | .ok a st => f a st
  | .exc c st => .exc c st
  | .bad => .bad

inductive SR where
  | next (env : Env) (st : Store)
  | ret (v : Val) (st : Store)
  | cont (env : Env) (st : Store)
  | exc (c : Nat) (st : Store)
  | bad

def Res.sr (r : Res Val) (k : Val → Store → SR) : SR := match r with
  | .ok v st => k v st
  | .exc c st => .exc c st
  | .bad => .bad
def asgS (o : Option (Env × Store)) : SR := match o with
  | some p => .next p.1 p.2
  | none => .bad
inductive Op where
  | add | sub | mul | fdiv | mod | pow
inductive Cmp where
  | eq | ne | lt | le | gt | ge | inn | nin
inductive Ty where
  | int | bool | tup | str | dict | list | listdict | cls (c : Nat) | verr | xcls (k : Nat)

inductive Tg where
  | name (i : Nat)
  | attr (i f : Nat)
  | nil
  | cons (a b : Tg)

inductive E where
  | var (i : Nat)
  | cst (v : Val)
  | glob (x : Nat) (v : Val)
  | nil
  | cons (a r : E)
  | lst (es : E)
  | dsp (es : E)
  | bin (o : Op) (a b : E)
  | neg (a : E)
  | cmp (o : Cmp) (a b : E)
  | isc (n : Bool) (v : Val) (a : E)
  | chain (a b c : E)
  | and (a b : E)
  | or (a b : E)
  | not (a : E)
  | ite (c a b : E)
  | sub (a i : E)
  | slc (a lo hi : E)
  | rev (a : E)
  | attr (a : E) (f : Nat)
  | call (f : Nat) (es : E)
  | callv (a es : E)
  | meth (c f : Nat) (a es : E)
  | new (c f : Nat) (es : E)
  | clo (k : Nat) (js : List Nat)
  | isi (t : Ty) (a : E)
  | len (a : E)
  | intOf (a : E)
  | strOf (a : E)
  | fmt (a : E)
  | max2 (a b : E)
  | fstr (es : E)
  | app (a e : E)
  | pop (a : E)
  | pop0 (a : E)
  | idx (a e : E)
  | idxS (a e : E)
  | cnt (a e : E)
  | get (a k d : E)
  | sdef (a k d : E)
  | split (a b : E)
  | ext (a r : E)
  | tupR (r : E)
  | lstR (r : E)
  | allR (r : E)
  | anyR (r : E)
  | sumR (r : E)
  | lenR (r : E)
  | minR (r : E)
  | maxR (r d : E)
  | minC (k : Nat) (js : List Nat) (r : E)
  | joinR (a r : E)
  | dictR (r : E)
  | dcomp (t : Tg) (src k v : E) (own : List Nat)
  | itr (a : E)
  | comp (t : Tg) (src cond elt : E) (own : List Nat)
  | comp2 (t : Tg) (src cond : E) (t2 : Tg) (src2 cond2 elt : E) (own own2 : List Nat)
  | range (es : E)
  | enum (r : E)
  | zip (r s : E)
  | items (a : E)
  | keys (a : E)
  | vals (a : E)
  | sortR (r : E)
  | setR (r : E)
  | sortC (k : Nat) (js : List Nat) (r : E)
  | sortF (f : Nat) (r : E)
  | sortLen (r : E)

inductive S where
  | skip
  | seq (a b : S)
  | expr (e : E)
  | asg (t : Tg) (e : E)
  | star (i j : Nat) (e : E)
  | setSub (a i e : E)
  | augSub (a i : E) (o : Op) (e : E)
  | setAttr (a : E) (f : Nat) (e : E)
  | aug (i : Nat) (o : Op) (e : E)
  | ret (e : E)
  | retN
  | ite (c : E) (a b : S)
  | for_ (t : Tg) (src : E) (body : S)
  | while_ (c : E) (body : S)
  | cont
  | raise (c : Nat)
  | fdef (i k : Nat) (js : List Nat)
  | try_ (e : E) (c : Nat) (h : S)
  | tryAs (f : Nat) (es : E) (ir ie ic : Nat)

/-! ### values -/
def lim : Nat := 100000

def putD (k v : Val) : List (Val × Val) → List (Val × Val)
  | [] => [(k, v)]
  | p :: r => if veq p.1 k then (p.1, v) :: r else p :: putD k v r
def getD? (k : Val) : List (Val × Val) → Option Val
  | [] => none
  | p :: r => if veq p.1 k then some p.2 else getD? k r

/-- the place that i means in n items, from the end if it is negative -/
def ixN (n : Nat) (i : Int) : Option Nat := if -(n : Int) ≤ i ∧ i < (n : Int) then some (if i < 0 then i + n else i).toNat else none
def atI {α : Type} (l : List α) (i : Int) : Option α := (ixN l.length i).bind fun j => l[j]?

/-- a slice's bound as a place in a sequence of n items; dflt where it is left out -/
def cutAt (n dflt : Nat) (o : Option Int) : Nat := (o.map fun v => (max 0 (min (n : Int) (if v < 0 then v + n else v))).toNat).getD dflt
def cut {α : Type} (xs : List α) (lo hi : Option Int) : List α :=
  (xs.drop (cutAt xs.length 0 lo)).take (cutAt xs.length xs.length hi - cutAt xs.length 0 lo)

def big (i : Int) : Bool := decide (i.natAbs < 18446744073709551616)

def strOk (s : List Nat) : Bool := decide (s.length ≤ lim) && s.all fun c => decide (c < 1114112)
/-- the text of a small number -/
def digs (i : Int) : Option (List Nat) :=
  if 0 ≤ i && i < 10 then some [48 + i.toNat] else if 0 ≤ i && i < 1000 then some (if i < 100 then [48 + i.toNat / 10, 48 + i.toNat % 10] else [48 + i.toNat / 100, 48 + i.toNat / 10 % 10, 48 + i.toNat % 10]) else none

def occ (x : List Nat) : List Nat → Bool
  | [] => x.isEmpty
  | y :: ys => x.isPrefixOf (y :: ys) || occ x ys

def splitL (sep : Nat) : List Nat → List (List Nat)
  | [] => [[]]
  | c :: r => if c = sep then [] :: splitL sep r else match splitL sep r with
    | h :: t => (c :: h) :: t
    | [] => [[c]]
def joinL (sep : List Nat) : List (List Nat) → List Nat
  | [] => []
  | [x] => x
  | x :: y :: r => x ++ sep ++ joinL sep (y :: r)

def inL (x : Val) : List Val → Bool
  | [] => false
  | y :: r => veq y x || inL x r
def cntL (x : Val) : List Val → Nat
  | [] => 0
  | y :: r => (if veq y x then 1 else 0) + cntL x r
def idxL (x : Val) : List Val → Option Nat
  | [] => none
  | y :: r => if veq y x then some 0 else (idxL x r).map (· + 1)

def insK (k : Val) (v : Val) : List (Val × Val) → Option (List (Val × Val))
  | [] => some [(k, v)]
  | p :: r => match vlt p.1 k with
    | some true => (insK k v r).map (p :: ·)
    | some false => (match vlt k p.1 with
      | some true => some ((k, v) :: p :: r)
      | some false => (insK k v r).map (p :: ·)
      | none => none)
    | none => none
/-- stable insertion by key, from the left -/
def sortK : List (Val × Val) → List (Val × Val) → Option (List (Val × Val))
  | acc, [] => some acc
  | acc, p :: r => (insK p.1 p.2 acc).bind fun a => sortK a r
def sortV (l : List Val) : Option (List Val) := (sortK [] (l.map fun x => (x, x))).map fun q => q.map (·.2)
def dedup : List Val → List Val → List Val
  | acc, [] => acc.reverse
  | acc, x :: r => if inL x acc then dedup acc r else dedup (x :: acc) r
def minV : Val → List (Val × Val) → Val → Option Val
  | _, [], b => some b
  | k, p :: r, b => match vlt p.1 k with
    | some true => minV p.1 r p.2
    | some false => minV k r b
    | none => none
def maxV : Val → List Val → Option Val
  | b, [] => some b
  | b, x :: r => match vlt b x with
    | some true => maxV x r
    | some false => maxV b r
    | none => none
def boolsOf : List Val → Option (List Bool)
  | [] => some []
  | .bool b :: r => (boolsOf r).map (b :: ·)
  | _ => none
def cntB (k : Bool) : List Bool → Nat
  | [] => 0
  | b :: r => (if b == k then 1 else 0) + cntB k r
def allB (l : List Val) : Option Bool := (boolsOf l).map fun bs => bs.all id
def anyB (l : List Val) : Option Bool := (boolsOf l).map fun bs => bs.any id
def sumI : List Val → Option Int
  | [] => some 0
  | .int i :: r => (sumI r).map (i + ·)
  | _ => none
def strsOf : List Val → Option (List (List Nat))
  | [] => some []
  | .str s :: r => (strsOf r).map (s :: ·)
  | _ => none
def enumL : Nat → List Val → List Val
  | _, [] => []
  | n, x :: r => .tup [.int n, x] :: enumL (n + 1) r
def zipL : List Val → List Val → List Val
  | x :: xs, y :: ys => .tup [x, y] :: zipL xs ys
  | _, _ => []
def rangeL (lo : Int) : Nat → List Val
  | 0 => []
  | n + 1 => .int lo :: rangeL (lo + 1) n
def repL {α : Type} (l : List α) : Nat → List α
  | 0 => []
  | n + 1 => l ++ repL l n
def dictOfL : List Val → List (Val × Val) → Option (List (Val × Val))
  | [], acc => some acc
  | .tup [k, v] :: r, acc => if isK k then dictOfL r (putD k v acc) else none
  | _, _ => none

def lookF (f : Nat) : List (Nat × Val) → Option Val
  | [] => none
  | p :: r => if p.1 = f then some p.2 else lookF f r
def putF (f : Nat) (v : Val) : List (Nat × Val) → List (Nat × Val)
  | [] => [(f, v)]
  | p :: r => if p.1 = f then (p.1, v) :: r else p :: putF f v r

/-! ### the machine -/
structure Ctx where
  lo : Nat
  call : Nat → List Val → Nat → List Nat → Store → Res Val
  clo : Nat → List Val → List Val → Nat → List Nat → Store → Res Val
  wf : Nat

def canW (cx : Ctx) (lk : List Nat) (n : Nat) : Bool := decide (cx.lo ≤ n) && !lk.contains n

def listAt (st : Store) (n : Nat) : Option (List Val) := match st[n]? with
  | some (.lst l) => some l
  | some (.frz l) => some l
  | _ => none

/-- x == y -/
def eqS (st : Store) : Val → Val → Option Bool
  | .ref n, .ref m => (match listAt st n, listAt st m with
    | some a, some b => if isDL a && isDL b then some (veqL a b) else none
    | _, _ => none)
  | .ref n, w => (match listAt st n with
    | some a => if isDL a && isD w then some false else none
    | none => none)
  | v, .ref m => (match listAt st m with
    | some b => if isDL b && isD v then some false else none
    | none => none)
  | v, w => if isD v && isD w then some (veq v w) else none

def inS (st : Store) (x : Val) : Val → Option Bool
  | .tup l => if isD x && isDL l then some (inL x l) else none
  | .str s => (match x with
    | .str [c] => some (decide (c ∈ s))
    | _ => none)
  | .ref n => (match st[n]? with
    | some (.lst l) => if isD x && isDL l then some (inL x l) else none
    | some (.frz l) => if isD x && isDL l then some (inL x l) else none
    | _ => none)
  | _ => none

def cmpV (st : Store) : Cmp → Val → Val → Option Bool
  | .eq, a, b => eqS st a b
  | .ne, a, b => (eqS st a b).map (!·)
  | .lt, .int a, .int b => some (decide (a < b))
  | .gt, .int a, .int b => some (decide (b < a))
  | .le, .int a, .int b => some (decide (a ≤ b))
  | .ge, .int a, .int b => some (decide (b ≤ a))
  | .inn, a, b => inS st a b
  | .nin, a, b => (inS st a b).map (!·)
  | _, _, _ => none

def binV (st : Store) : Op → Val → Val → Res Val
  | .add, .int a, .int b => .ok (.int (a + b)) st
  | .sub, .int a, .int b => .ok (.int (a - b)) st
  | .mul, .int a, .int b => if big a || big b then .ok (.int (a * b)) st else .bad
  | .fdiv, .int a, .int b => if 0 < b && b < 1073741824 then .ok (.int (a / b)) st else .bad
  | .mod, .int a, .int b => if 0 < b then .ok (.int (a % b)) st else .bad
  | .pow, .int a, .int b => if 0 ≤ b && b ≤ 100 && big a then .ok (.int (a ^ b.toNat)) st else .bad
  | .add, .str a, .str b => if a.length + b.length ≤ lim then .ok (.str (a ++ b)) st else .bad
  | .add, .tup a, .tup b => if a.length + b.length ≤ lim then .ok (.tup (a ++ b)) st else .bad
  | .mul, .tup a, .int b => if 2 ≤ b && b ≤ 1000 && a.length ≤ 100 && !a.isEmpty then .ok (.tup (List.replicate b.toNat a).flatten) st else .bad
  | .add, .ref n, .ref m => (match st[n]?, st[m]? with
    | some (.lst a), some (.lst b) => if a.length + b.length ≤ lim then .ok (.ref st.length) (st ++ [.lst (a ++ b)]) else .bad
    | _, _ => .bad)
  | .mul, .ref n, .int b => (match st[n]? with
    | some (.lst a) => if 0 ≤ b && b ≤ 1000 && a.length ≤ 100 then .ok (.ref st.length) (st ++ [.lst (List.replicate b.toNat a).flatten]) else .bad
    | _ => .bad)
  | _, _, _ => .bad

def subV (st : Store) : Val → Val → Option Val
  | .tup l, .int i => atI l i
  | .str s, .int i => (atI s i).map fun c => .str [c]
  | .ref n, k => (match st[n]? with
    | some (.lst l) => (match k with | .int i => atI l i | _ => none)
    | some (.frz l) => (match k with | .int i => atI l i | _ => none)
    | _ => none)
  | _, _ => none

/-- a slice's bound: left out, or a number -/
def partV (m : E) (v : Val) : Option (Option Int) := match m with
  | .nil => some none
  | _ => (match v with
    | .int i => some (some i)
    | _ => none)
/-! what a method's receiver is -/
def isL (st : Store) : Val → Bool
  | .ref n => (listAt st n).isSome
  | _ => false
def isS : Val → Bool
  | .str _ => true
  | _ => false
def isDc (st : Store) : Val → Bool
  | .ref n => (match st[n]? with
    | some (.dct _) => true
    | _ => false)
  | _ => false

def slcV (st : Store) (lo hi : Option Int) : Val → Res Val
  | .tup l => .ok (.tup (cut l lo hi)) st
  | .str s => .ok (.str (cut s lo hi)) st
  | .ref n => (match st[n]? with
    | some (.lst l) => .ok (.ref st.length) (st ++ [.lst (cut l lo hi)])
    | _ => .bad)
  | _ => .bad

def isB : Ty → Bool
  | .int => true
  | .bool => true
  | .tup => true
  | .str => true
  | .dict => true
  | .list => true
  | _ => false
def tyV (st : Store) : Val → Option Ty
  | .bool _ => some .bool
  | .int _ => some .int
  | .str _ => some .str
  | .tup _ => some .tup
  | .ref n => (match st[n]? with
    | some (.lst _) => some .list
    | some (.frz _) => some .list
    | some (.ins c _) => some (.cls c)
    | _ => none)
  | _ => none
def subB : Ty → Ty → Bool
  | .int, .int => true
  | .bool, .int => true
  | .bool, .bool => true
  | .tup, .tup => true
  | .str, .str => true
  | .dict, .dict => true
  | .list, .list => true
  | .dict, .listdict => true
  | .list, .listdict => true
  | _, _ => false
def subT (k t : Ty) : Option Bool :=
  if isB k && isB t then some (subB k t) else (match k, t with
  | .cls a, .cls b => some (a == b)
  | _, _ => none)
def isiV (st : Store) (t : Ty) : Val → Option Bool
  | .none => if isB t then some false else none
  | .exc k => (match t with
    | .verr => if k < 10 then some true else none
    | .xcls j => if k < 10 && j < 10 then some (k == j) else none
    | _ => none)
  | v => (tyV st v).bind fun k => subT k t

def lenV (st : Store) : Val → Option Nat
  | .tup l => some l.length
  | .str s => some s.length
  | .ref n => (match st[n]? with
    | some (.lst l) => some l.length
    | some (.frz l) => some l.length
    | _ => none)
  | _ => none

/-- the items of a value that is walked, and the object that is locked meanwhile -/
def itrV (st : Store) : Val → Option (List Val × List Nat)
  | .tup l => some (l, [])
  | .str s => some (s.map fun c => .str [c], [])
  | .ref n => (listAt st n).map fun l => (l, [n])
  | _ => none

def wipe (env : Env) : List Nat → Env
  | [] => env
  | i :: r => (wipe env r).set i none

def asg (cx : Ctx) (lk : List Nat) : Tg → Val → Env → Store → Option (Env × Store)
  | .name i, v, env, st => if i < env.length then some (env.set i (some v), st) else none
  | .attr i f, v, env, st => (match env[i]? with
    | some (some (.ref n)) => (match st[n]? with
      | some (.ins c fs) => if canW cx lk n then some (env, st.set n (.ins c (putF f v fs))) else none
      | _ => none)
    | _ => none)
  | .nil, .tup [], env, st => some (env, st)
  | .cons a b, .tup (x :: xs), env, st => (asg cx lk a x env st).bind fun p => asg cx lk b (.tup xs) p.1 p.2
  | _, _, _, _ => none

def loopC (f : Val → Store → Res (Option Val)) : List Val → Store → Res (List Val)
  | [], st => .ok [] st
  | x :: r, st => (f x st).bind fun o st => (loopC f r st).bind fun l st => .ok (match o with | some v => v :: l | none => l) st
def loopC2 (f : Val → Store → Res (List Val)) : List Val → Store → Res (List Val)
  | [], st => .ok [] st
  | x :: r, st => (f x st).bind fun o st => (loopC2 f r st).bind fun l st => .ok (o ++ l) st
def loopD (f : Val → Store → Res (Val × Val)) : List Val → List (Val × Val) → Store → Res (List (Val × Val))
  | [], acc, st => .ok acc st
  | x :: r, acc, st => (f x st).bind fun o st => loopD f r (putD o.1 o.2 acc) st
def mapK (f : Val → Store → Res Val) : List Val → Store → Res (List (Val × Val))
  | [], st => .ok [] st
  | x :: r, st => (f x st).bind fun k st => (mapK f r st).bind fun l st => .ok ((k, x) :: l) st

def loopF (t : Val → Env → Store → Option (Env × Store)) (body : Env → Store → SR) : List Val → Env → Store → SR
  | [], env, st => .next env st
  | x :: r, env, st => match t x env st with
    | none => .bad
    | some p => (match body p.1 p.2 with
      | .next env st => loopF t body r env st
      | .cont env st => loopF t body r env st
      | o => o)
def loopW (test : Env → Store → Res Val) (body : Env → Store → SR) : Nat → Env → Store → SR
  | 0, _, _ => .bad
  | m + 1, env, st => match test env st with
    | .ok (.bool true) st => (match body env st with
      | .next env st => loopW test body m env st
      | .cont env st => loopW test body m env st
      | o => o)
    | .ok (.bool false) st => .next env st
    | .exc c st => .exc c st
    | _ => .bad

def caps (env : Env) : List Nat → Option (List Val)
  | [] => some []
  | j :: r => match env[j]? with
    | some (some v) => (caps env r).map (v :: ·)
    | _ => none

def strV (st : Store) : Val → Option (List Nat)
  | .int i => digs i
  | .str s => some s
  | _ => none
def catS : List Val → Option (List Nat)
  | [] => some []
  | .str a :: r => (catS r).map (a ++ ·)
  | _ => none

def optR {α : Type} (o : Option α) (st : Store) : Res α := match o with
  | some v => .ok v st
  | none => .bad

mutual
def evE (cx : Ctx) : E → List Nat → Env → Store → Res Val
  | .var i, _, env, st => (match env[i]? with
    | some (some v) => .ok v st
    | _ => .bad)
  | .cst v, _, _, st => .ok v st
  | .glob _ v, _, _, st => .ok v st
  | .nil, _, _, st => .ok (.tup []) st
  | .cons a r, lk, env, st => (evE cx a lk env st).bind fun x st => (evE cx r lk env st).bind fun l st => (match l with
    | .tup l => .ok (.tup (x :: l)) st
    | _ => .bad)
  | .lst es, lk, env, st => (evE cx es lk env st).bind fun l st => (match l with
    | .tup l => .ok (.ref st.length) (st ++ [.lst l])
    | _ => .bad)
  | .dsp es, lk, env, st => (evE cx es lk env st).bind fun l st => (match l with
    | .tup l => optR (dictOfL l []) st |>.bind fun d st => .ok (.ref st.length) (st ++ [.dct d])
    | _ => .bad)
  | .bin o a b, lk, env, st => (evE cx a lk env st).bind fun x st => (evE cx b lk env st).bind fun y st => binV st o x y
  | .neg a, lk, env, st => (evE cx a lk env st).bind fun x st => (match x with
    | .int i => .ok (.int (-i)) st
    | _ => .bad)
  | .cmp o a b, lk, env, st => (evE cx a lk env st).bind fun x st => (evE cx b lk env st).bind fun y st => (match cmpV st o x y with
    | some r => .ok (.bool r) st
    | none => .bad)
  | .isc n v a, lk, env, st => (evE cx a lk env st).bind fun x st => (match v, x with
    | .none, .none => .ok (.bool (!n)) st
    | .bool b, .bool c => .ok (.bool ((b == c) != n)) st
    | .none, _ => .ok (.bool n) st
    | .bool _, _ => .ok (.bool n) st
    | _, _ => .bad)
  | .chain a b c, lk, env, st => (evE cx a lk env st).bind fun x st => (evE cx b lk env st).bind fun y st => (match x, y with
    | .int i, .int j => if i ≤ j then (evE cx c lk env st).bind fun z st => (match z with
        | .int k => .ok (.bool (decide (j ≤ k))) st
        | _ => .bad) else .ok (.bool false) st
    | _, _ => .bad)
  | .and a b, lk, env, st => (evE cx a lk env st).bind fun x st => (match x with
    | .bool true => evE cx b lk env st
    | .bool false => .ok (.bool false) st
    | _ => .bad)
  | .or a b, lk, env, st => (evE cx a lk env st).bind fun x st => (match x with
    | .bool false => evE cx b lk env st
    | .bool true => .ok (.bool true) st
    | _ => .bad)
  | .not a, lk, env, st => (evE cx a lk env st).bind fun x st => (match x with
    | .bool b => .ok (.bool (!b)) st
    | _ => .bad)
  | .ite c a b, lk, env, st => (evE cx c lk env st).bind fun x st => (match x with
    | .bool true => evE cx a lk env st
    | .bool false => evE cx b lk env st
    | _ => .bad)
  | .sub a i, lk, env, st => (evE cx a lk env st).bind fun x st => (evE cx i lk env st).bind fun y st => optR (subV st x y) st
  | .slc a lo hi, lk, env, st => (evE cx a lk env st).bind fun x st => (evE cx lo lk env st).bind fun l st => (match partV lo l with
      | none => .bad
      | some l => (evE cx hi lk env st).bind fun h st => (match partV hi h with
        | none => .bad
        | some h => slcV st l h x))
  | .rev a, lk, env, st => (evE cx a lk env st).bind fun x st => (match x with
    | .str s => .ok (.str s.reverse) st
    | .ref n => (match st[n]? with
      | some (.lst l) => .ok (.ref st.length) (st ++ [.lst l.reverse])
      | _ => .bad)
    | _ => .bad)
  | .attr a f, lk, env, st => (evE cx a lk env st).bind fun x st => (match x with
    | .ref n => (match st[n]? with
      | some (.ins _ fs) => optR (lookF f fs) st
      | _ => .bad)
    | _ => .bad)
  | .call f es, lk, env, st => (evE cx es lk env st).bind fun l st => (match l with
    | .tup l => cx.call f l cx.lo lk st
    | _ => .bad)
  | .callv a es, lk, env, st => (evE cx a lk env st).bind fun f st => (evE cx es lk env st).bind fun l st => (match f, l with
    | .fn f, .tup l => cx.call f l cx.lo lk st
    | .clo k c, .tup l => cx.clo k c l cx.lo lk st
    | _, _ => .bad)
  | .meth c f a es, lk, env, st => (evE cx a lk env st).bind fun x st => (evE cx es lk env st).bind fun l st => (match x, l with
    | .ref n, .tup l => (match st[n]? with
      | some (.ins d _) => if c = d then cx.call f (.ref n :: l) cx.lo lk st else .bad
      | _ => .bad)
    | _, _ => .bad)
  | .new c f es, lk, env, st => (evE cx es lk env st).bind fun l st => (match l with
    | .tup l => (cx.call f (.ref st.length :: l) cx.lo lk (st ++ [.ins c []])).bind fun _ st' => .ok (.ref st.length) st'
    | _ => .bad)
  | .clo k js, _, env, st => (match caps env js with
    | some c => .ok (.clo k c) st
    | none => .bad)
  | .isi t a, lk, env, st => (evE cx a lk env st).bind fun x st => (match isiV st t x with
    | some b => .ok (.bool b) st
    | none => .bad)
  | .len a, lk, env, st => (evE cx a lk env st).bind fun x st => (match lenV st x with
    | some n => .ok (.int n) st
    | none => .bad)
  | .intOf a, lk, env, st => (evE cx a lk env st).bind fun x st => (match x with
    | .bool b => .ok (.int (b2i b)) st
    | .str [c] => if 48 ≤ c && c ≤ 57 then .ok (.int ((c : Int) - 48)) st else .bad
    | _ => .bad)
  | .strOf a, lk, env, st => (evE cx a lk env st).bind fun x st => (match strV st x with
    | some s => .ok (.str s) st
    | none => .bad)
  | .fmt a, lk, env, st => (evE cx a lk env st).bind fun x st => (match strV st x with
    | some s => .ok (.str s) st
    | none => .bad)
  | .max2 a b, lk, env, st => (evE cx a lk env st).bind fun x st => (evE cx b lk env st).bind fun y st => (match x, y with
    | .int i, .int j => .ok (.int (if j > i then j else i)) st
    | _, _ => .bad)
  | .fstr es, lk, env, st => (evE cx es lk env st).bind fun l st => (match l with
    | .tup l => (match catS l with
      | some s => if s.length ≤ lim then .ok (.str s) st else .bad
      | none => .bad)
    | _ => .bad)
  | .app a e, lk, env, st => (evE cx a lk env st).bind fun x st => if !(isL st x) then .bad else (evE cx e lk env st).bind fun y st => (match x with
    | .ref n => (match st[n]? with
      | some (.lst l) => if canW cx lk n && decide (l.length < lim) then .ok .none (st.set n (.lst (l ++ [y]))) else .bad
      | _ => .bad)
    | _ => .bad)
  | .pop a, lk, env, st => (evE cx a lk env st).bind fun x st => (match x with
    | .ref n => (match st[n]? with
      | some (.lst l) => if canW cx lk n then (match l.getLast? with
        | some y => .ok y (st.set n (.lst l.dropLast))
        | none => .bad) else .bad
      | _ => .bad)
    | _ => .bad)
  | .pop0 a, lk, env, st => (evE cx a lk env st).bind fun x st => (match x with
    | .ref n => (match st[n]? with
      | some (.lst (y :: l)) => if canW cx lk n then .ok y (st.set n (.lst l)) else .bad
      | _ => .bad)
    | _ => .bad)
  | .idx a e, lk, env, st => (evE cx a lk env st).bind fun x st => if !(isL st x) then .bad else (evE cx e lk env st).bind fun y st => (match x with
    | .ref n => (match listAt st n with
      | some l => if isDL l && isD y then (match idxL y l with
        | some i => .ok (.int i) st
        | none => .bad) else .bad
      | _ => .bad)
    | _ => .bad)
  | .idxS a e, lk, env, st => (evE cx a lk env st).bind fun x st => if !(isS x) then .bad else (evE cx e lk env st).bind fun y st => (match x, y with
    | .str s, .str [c] => (match s.idxOf? c with
      | some i => if s.count c = 1 then .ok (.int i) st else .bad
      | none => .bad)
    | _, _ => .bad)
  | .cnt a e, lk, env, st => (evE cx a lk env st).bind fun x st => if !(isL st x) then .bad else (evE cx e lk env st).bind fun y st => (match x, y with
    | .ref n, .bool k => (match (listAt st n).bind boolsOf with
      | some bs => .ok (.int (cntB k bs)) st
      | none => .bad)
    | _, _ => .bad)
  | .get a k d, lk, env, st => (evE cx a lk env st).bind fun x st => if !(isDc st x) then .bad else (evE cx k lk env st).bind fun y st => (evE cx d lk env st).bind fun z st => (match x with
    | .ref n => (match st[n]? with
      | some (.dct l) => if isK y then .ok ((getD? y l).getD z) st else .bad
      | _ => .bad)
    | _ => .bad)
  | .sdef a k d, lk, env, st => (evE cx a lk env st).bind fun x st => if !(isDc st x) then .bad else (evE cx k lk env st).bind fun y st => (evE cx d lk env st).bind fun z st => (match x with
    | .ref n => (match st[n]? with
      | some (.dct l) => if isK y then (match getD? y l with
        | some v => .ok v st
        | none => if canW cx lk n && decide (l.length < lim) then .ok z (st.set n (.dct (putD y z l))) else .bad) else .bad
      | _ => .bad)
    | _ => .bad)
  | .split a b, lk, env, st => (evE cx a lk env st).bind fun x st => if !(isS x) then .bad else (evE cx b lk env st).bind fun y st => (match x, y with
    | .str s, .str [c] => if c < 256 then .ok (.ref st.length) (st ++ [.lst ((splitL c s).map .str)]) else .bad
    | _, _ => .bad)
  | .ext a r, lk, env, st => (evE cx a lk env st).bind fun x st => if !(isL st x) then .bad else (evR cx r lk env st).bind fun p st => (match x with
    | .ref n => (match st[n]? with
      | some (.lst l) => if canW cx lk n && decide (l.length + p.1.length ≤ lim) then .ok .none (st.set n (.lst (l ++ p.1))) else .bad
      | _ => .bad)
    | _ => .bad)
  | .tupR r, lk, env, st => (evR cx r lk env st).bind fun p st => .ok (.tup p.1) st
  | .lstR r, lk, env, st => (evR cx r lk env st).bind fun p st => .ok (.ref st.length) (st ++ [.lst p.1])
  | .allR r, lk, env, st => (evR cx r lk env st).bind fun p st => (match allB p.1 with
    | some b => .ok (.bool b) st
    | none => .bad)
  | .anyR r, lk, env, st => (evR cx r lk env st).bind fun p st => (match anyB p.1 with
    | some b => .ok (.bool b) st
    | none => .bad)
  | .sumR r, lk, env, st => (evR cx r lk env st).bind fun p st => (match sumI p.1 with
    | some i => .ok (.int i) st
    | none => .bad)
  | .lenR r, lk, env, st => (evR cx r lk env st).bind fun p st => .ok (.int p.1.length) st
  | .minR r, lk, env, st => (evR cx r lk env st).bind fun p st => (match p.1 with
    | x :: l => optR (minV x (l.map fun y => (y, y)) x) st
    | [] => .bad)
  | .maxR r d, lk, env, st => (evR cx r lk env st).bind fun p st => (evE cx d lk env st).bind fun z st => (match p.1 with
    | x :: l => optR (maxV x l) st
    | [] => .ok z st)
  | .minC k js r, lk, env, st => (evR cx r lk env st).bind fun p st => (match caps env js with
    | some c => (mapK (fun x st => cx.clo k c [x] cx.lo lk st) p.1 st).bind fun q st => (match q with
      | x :: l => optR (minV x.1 l x.2) st
      | [] => .bad)
    | none => .bad)
  | .joinR a r, lk, env, st => (evE cx a lk env st).bind fun x st => if !(isS x) then .bad else (evE cx r lk env st).bind fun y st => (match x with
    | .str s => (match (match y with
      | .tup l => some l
      | .ref n => listAt st n
      | _ => none).bind strsOf with
      | some l => if (joinL s l).length ≤ lim then .ok (.str (joinL s l)) st else .bad
      | none => .bad)
    | _ => .bad)
  | .dictR r, lk, env, st => (evR cx r lk env st).bind fun p st => optR (dictOfL p.1 []) st |>.bind fun d st => .ok (.ref st.length) (st ++ [.dct d])
  | .dcomp t src k v own, lk, env, st => (evR cx src lk env st).bind fun p st =>
      (loopD (fun x st => match asg cx (p.2 ++ lk) t x (wipe env own) st with
        | none => .bad
        | some q => (evE cx k (p.2 ++ lk) q.1 q.2).bind fun a st => (evE cx v (p.2 ++ lk) q.1 st).bind fun b st => if isK a then .ok (a, b) st else .bad) p.1 [] st).nx.bind fun d st =>
      .ok (.ref st.length) (st ++ [.dct d])
  | _, _, _, _ => .bad

def evR (cx : Ctx) : E → List Nat → Env → Store → Res (List Val × List Nat)
  | .itr a, lk, env, st => (evE cx a lk env st).bind fun x st => optR (itrV st x) st
  | .comp t src cond elt own, lk, env, st => (evR cx src lk env st).bind fun p st =>
      (loopC (fun x st => match asg cx (p.2 ++ lk) t x (wipe env own) st with
        | none => .bad
        | some q => (evE cx cond (p.2 ++ lk) q.1 q.2).bind fun c st => (match c with
          | .bool true => (evE cx elt (p.2 ++ lk) q.1 st).bind fun v st => .ok (some v) st
          | .bool false => .ok none st
          | _ => .bad)) p.1 st).nx.bind fun l st => if l.length < lim then .ok (l, []) st else .bad
  | .comp2 t src cond t2 src2 cond2 elt own own2, lk, env, st => (evR cx src lk env st).bind fun p st =>
      (loopC2 (fun x st => match asg cx (p.2 ++ lk) t x (wipe env own) st with
        | none => .bad
        | some q => (evE cx cond (p.2 ++ lk) q.1 q.2).bind fun c st => (match c with
          | .bool true => (evR cx src2 (p.2 ++ lk) q.1 st).bind fun p2 st =>
              loopC (fun x2 st => match asg cx (p2.2 ++ (p.2 ++ lk)) t2 x2 (wipe q.1 own2) st with
                | none => .bad
                | some q2 => (evE cx cond2 (p2.2 ++ (p.2 ++ lk)) q2.1 q2.2).bind fun c2 st => (match c2 with
                  | .bool true => (evE cx elt (p2.2 ++ (p.2 ++ lk)) q2.1 st).bind fun v st => .ok (some v) st
                  | .bool false => .ok none st
                  | _ => .bad)) p2.1 st
          | .bool false => .ok [] st
          | _ => .bad)) p.1 st).nx.bind fun l st => if l.length < lim then .ok (l, []) st else .bad
  | .range es, lk, env, st => (evE cx es lk env st).bind fun l st => (match l with
    | .tup [.int j] => if -100000 ≤ j && j ≤ 100000 then .ok (rangeL 0 j.toNat, []) st else .bad
    | .tup [.int i, .int j] => if -100000 ≤ i && i ≤ 100000 && -100000 ≤ j && j ≤ 100000 then .ok (rangeL i (j - i).toNat, []) st else .bad
    | _ => .bad)
  | .enum a, lk, env, st => (evE cx a lk env st).bind fun x st => (match x with
    | .tup l => .ok (enumL 0 l, []) st
    | .ref n => (match listAt st n with
      | some l => .ok (enumL 0 l, [n]) st
      | none => .bad)
    | _ => .bad)
  | .zip a b, lk, env, st => (evE cx a lk env st).bind fun x st => (evE cx b lk env st).bind fun y st => (match x, y with
    | .tup l, .tup m => .ok (zipL l m, []) st
    | .ref n, .ref k => (match listAt st n, listAt st k with
      | some l, some m => .ok (zipL l m, [n, k]) st
      | _, _ => .bad)
    | _, _ => .bad)
  | .items a, lk, env, st => (evE cx a lk env st).bind fun x st => (match x with
    | .ref n => (match st[n]? with
      | some (.dct d) => .ok (d.map (fun p => .tup [p.1, p.2]), [n]) st
      | _ => .bad)
    | _ => .bad)
  | .keys a, lk, env, st => (evE cx a lk env st).bind fun x st => (match x with
    | .ref n => (match st[n]? with
      | some (.dct d) => .ok (d.map (·.1), [n]) st
      | _ => .bad)
    | _ => .bad)
  | .vals a, lk, env, st => (evE cx a lk env st).bind fun x st => (match x with
    | .ref n => (match st[n]? with
      | some (.dct d) => .ok (d.map (·.2), [n]) st
      | _ => .bad)
    | _ => .bad)
  | .sortR r, lk, env, st => (evR cx r lk env st).bind fun p st => if isDL p.1 then (match sortV p.1 with
    | some l => .ok (l, []) st
    | none => .bad) else .bad
  | .setR r, lk, env, st => (evR cx r lk env st).bind fun p st => if isDL p.1 then .ok (dedup [] p.1, []) st else .bad
  | .sortC k js r, lk, env, st => (evR cx r lk env st).bind fun p st => (match caps env js with
    | some c => (mapK (fun x st => cx.clo k c [x] cx.lo lk st) p.1 st).bind fun q st => (match sortK [] q with
      | some l => .ok (l.map (·.2), []) st
      | none => .bad)
    | none => .bad)
  | .sortF f r, lk, env, st => (evR cx r lk env st).bind fun p st =>
      (mapK (fun x st => cx.call f [x] cx.lo lk st) p.1 st).bind fun q st => (match sortK [] q with
      | some l => .ok (l.map (·.2), []) st
      | none => .bad)
  | .sortLen r, lk, env, st => (evR cx r lk env st).bind fun p st =>
      (mapK (fun x st => match lenV st x with | some n => .ok (.int n) st | none => .bad) p.1 st).bind fun q st => (match sortK [] q with
      | some l => .ok (l.map (·.2), []) st
      | none => .bad)
  | _, _, _, _ => .bad
end

/-- x[y] = v -/
def setV (cx : Ctx) (lk : List Nat) (st : Store) (x y v : Val) : Option Store := match x with
  | .ref n => (match st[n]? with
    | some (.lst l) => (match y with
      | .int k => (match ixN l.length k with
        | some j => if canW cx lk n then some (st.set n (.lst (l.set j v))) else none
        | none => none)
      | _ => none)
    | _ => none)
  | _ => none
def evS (cx : Ctx) : S → List Nat → Env → Store → SR
  | .skip, _, env, st => .next env st
  | .seq a b, lk, env, st => (match evS cx a lk env st with
    | .next env st => evS cx b lk env st
    | o => o)
  | .expr e, lk, env, st => (evE cx e lk env st).sr fun _ st => .next env st
  | .asg t e, lk, env, st => (evE cx e lk env st).sr fun v st => asgS (asg cx lk t v env st)
  | .star i j e, lk, env, st => (match evE cx e lk env st with
    | .ok (.ref n) st => (match listAt st n with
      | some (x :: l) => if i < env.length && j < env.length then .next ((env.set i (some x)).set j (some (.ref st.length))) (st ++ [.lst l]) else .bad
      | _ => .bad)
    | .exc c st => .exc c st
    | _ => .bad)
  | .setSub a i e, lk, env, st => (evE cx e lk env st).sr fun v st => ((evE cx a lk env st).bind fun x st => (evE cx i lk env st).bind fun y st => (match setV cx lk st x y v with
      | some st => Res.ok Val.none st
      | none => .bad)).sr fun _ st => .next env st
  | .augSub a i o e, lk, env, st => (match evE cx a lk env st with
    | .ok x st => (match evE cx i lk env st with
      | .ok y st => (match subV st x y with
        | some old => (match evE cx e lk env st with
          | .ok v st => (match binV st o old v with
            | .ok w st => (match x, y with
              | .ref n, .int k => (match st[n]? with
                | some (.lst l) => (match ixN l.length k with
                  | some j => if canW cx lk n then .next env (st.set n (.lst (l.set j w))) else .bad
                  | none => .bad)
                | _ => .bad)
              | _, _ => .bad)
            | _ => .bad)
          | .exc c st => .exc c st
          | .bad => .bad)
        | none => .bad)
      | .exc c st => .exc c st
      | .bad => .bad)
    | .exc c st => .exc c st
    | .bad => .bad)
  | .setAttr a f e, lk, env, st => (match evE cx e lk env st with
    | .ok v st => (match evE cx a lk env st with
      | .ok (.ref n) st => (match st[n]? with
        | some (.ins c fs) => if canW cx lk n then .next env (st.set n (.ins c (putF f v fs))) else .bad
        | _ => .bad)
      | .exc c st => .exc c st
      | _ => .bad)
    | .exc c st => .exc c st
    | .bad => .bad)
  | .aug i o e, lk, env, st => (match env[i]? with
    | some (some old) => (match evE cx e lk env st with
      | .ok v st => (match binV st o old v with
        | .ok w st => .next (env.set i (some w)) st
        | _ => .bad)
      | .exc c st => .exc c st
      | .bad => .bad)
    | _ => .bad)
  | .ret e, lk, env, st => (evE cx e lk env st).sr fun v st => .ret v st
  | .retN, _, _, st => .ret .none st
  | .ite c a b, lk, env, st => (match evE cx c lk env st with
    | .ok (.bool true) st => evS cx a lk env st
    | .ok (.bool false) st => evS cx b lk env st
    | .exc c st => .exc c st
    | _ => .bad)
  | .for_ t src body, lk, env, st => (match evR cx src lk env st with
    | .ok p st => loopF (fun x env st => asg cx (p.2 ++ lk) t x env st) (fun env st => evS cx body (p.2 ++ lk) env st) p.1 env st
    | .exc c st => .exc c st
    | .bad => .bad)
  | .while_ c body, lk, env, st => loopW (fun env st => evE cx c lk env st) (fun env st => evS cx body lk env st) cx.wf env st
  | .cont, _, env, st => .cont env st
  | .raise c, _, _, st => .exc c st
  | .fdef _ _ _, _, env, st => .next env st
  | .try_ e c h, lk, env, st => (match evE cx e lk env st with
    | .ok _ st => .next env st
    | .exc d st => if c = d then evS cx h lk env st else .exc d st
    | .bad => .bad)
  | .tryAs f es ir ie ic, lk, env, st => (match evE cx es lk env st with
    | .ok (.tup l) st => (match cx.call f l cx.lo lk st with
      | .ok v st => if ir < env.length then .next (env.set ir (some v)) st else .bad
      | .exc k st => if k < 10 && ie < env.length && ic < env.length then .next ((env.set ic (some (.exc k))).set ie none) st else .bad
      | .bad => .bad)
    | _ => .bad)

inductive Kd where
  | plain | temp
structure FnDef where
  np : Nat
  ns : Nat
  kd : Kd
  body : S

def runS (cx : Ctx) (ns : Nat) (body : S) (vs : List Val) (lk : List Nat) (st : Store) : Res Val :=
  match evS cx body lk (vs.map some ++ List.replicate (ns - vs.length) none) st with
  | .next _ st => .ok .none st
  | .ret v st => .ok v st
  | .exc c st => .exc c st
  | _ => .bad

structure Prog where
  fns : List FnDef
  clos : List FnDef


mutual
def callF (P : Prog) (wf : Nat) : Nat → Nat → List Val → Nat → List Nat → Store → Res Val
  | 0, _, _, _, _, _ => .bad
  | d + 1, f, vs, lo, lk, st => match P.fns[f]? with
    | none => .bad
    | some fd => if vs.length = fd.np then (match fd.kd with
      | .plain => runS ⟨lo, callF P wf d, callC P wf d, wf⟩ fd.ns fd.body vs lk st
      | .temp => (match runS ⟨st.length, callF P wf d, callC P wf d, wf⟩ fd.ns fd.body vs [] st with
        | .ok v _ => if noref v then .ok v st else .bad
        | .exc c _ => .exc c st
        | .bad => .bad)) else .bad
def callC (P : Prog) (wf : Nat) : Nat → Nat → List Val → List Val → Nat → List Nat → Store → Res Val
  | 0, _, _, _, _, _, _ => .bad
  | d + 1, k, cs, vs, lo, lk, st => match P.clos[k]? with
    | none => .bad
    | some fd => if vs.length = fd.np then runS ⟨lo, callF P wf d, callC P wf d, wf⟩ fd.ns fd.body (vs ++ cs) lk st else .bad
end
end Mx
end

section
set_option Elab.async false
set_option linter.all false
set_option maxRecDepth 100000
set_option maxHeartbeats 1000000
namespace Sd
open PySem PySem.Spec PyProof.Rows L2
open Mx (Val Res SR Op Cmp Ty Tg E S Store)

/-- what the relation leans on -/
structure G where
  w : World
  K : PySem.W.Frag
  fa : Nat → Addr
  ca : Nat → Addr
  xa : Nat → Addr
  xl : Addr
  fld : Nat → Str
  clo : Nat → Hp → Addr → List V → Prop
  tab : Hp → Prop

def DictR (a : Addr) (es : Array DictEntry) (ep : Nat) : HO :=
  .ext fun h => (a == sysModules) = false ∧ ∃ o, h.get? a = some o ∧ o.ExactDict ∧ o.data = .dict es ep

mutual
def hashV (w : World) : Val → Int
  | .bool b => hashInt (Mx.b2i b)
  | .int i => hashInt i
  | .str s => hashStr w ⟨s.toArray⟩
  | .tup l => reduceHash (Builtin.Tuple.tupleHashOf (hashVL w l))
  | _ => 0
def hashVL (w : World) : List Val → List Int
  | [] => []
  | x :: r => hashV w x :: hashVL w r
end

theorem strOk_chars {s : List Nat} (h : Mx.strOk s = true) : s.all (fun c => decide (c < 1114112)) = true := by
  rw [Mx.strOk, Bool.and_eq_true] at h
  exact h.2
theorem strOk_len {s : List Nat} (h : Mx.strOk s = true) : s.length ≤ Mx.lim := by
  rw [Mx.strOk, Bool.and_eq_true, decide_eq_true_eq] at h
  exact h.1
theorem strOk_mk {s : List Nat} (h1 : s.length ≤ Mx.lim) (h2 : s.all (fun c => decide (c < 1114112)) = true) : Mx.strOk s = true := by
  rw [Mx.strOk, h2, decide_eq_true h1]
  rfl
/-- a caught exception that is kept -/
def ExK (cls : Value) (a : Addr) : HO := .ext fun h => ∃ (oe : Obj) (vs : Array Value), h.get? a = some oe ∧ Zc cls none oe ∧ oe.data = .fields vs
mutual
inductive RV (g : G) (H : Hp) (φ : List Addr) : Val → V → Prop
  | none : RV g H φ .none .non
  | bool (b : Bool) : RV g H φ (.bool b) (.bl b)
  | int (i : Int) : RV g H φ (.int i) (.int i)
  | str (s : List Nat) : Mx.strOk s = true → RV g H φ (.str s) (.str ⟨s.toArray⟩)
  | tup {a : Addr} {l : List Val} {xs : List V} : SqT g.K H a xs → RVs g H φ l xs → RV g H φ (.tup l) (.ref a)
  | ref {n : Nat} {a : Addr} : φ[n]? = some a → RV g H φ (.ref n) (.ref a)
  | fn (f : Nat) : RV g H φ (.fn f) (.ref (g.fa f))
  | clo {k : Nat} {cs : List Val} {a : Addr} {xs : List V} : g.clo k H a xs → RVs g H φ cs xs → RV g H φ (.clo k cs) (.ref a)
  | exc {k : Nat} {a : Addr} : H a = some (ExK (.ref (g.xa k)) a) → a ∉ φ → RV g H φ (.exc k) (.ref a)
inductive RVs (g : G) (H : Hp) (φ : List Addr) : List Val → List V → Prop
  | nil : RVs g H φ [] []
  | cons {v : Val} {x : V} {vs : List Val} {xs : List V} : RV g H φ v x → RVs g H φ vs xs → RVs g H φ (v :: vs) (x :: xs)
end

/-- a pair of a dict and its entry -/
def RE (g : G) (H : Hp) (φ : List Addr) (p : Val × Val) (e : DictEntry) : Prop :=
  Mx.isKn p.1 7 = true ∧ e.hash = hashV g.w p.1 ∧ (∃ x, RelV x e.key ∧ RV g H φ p.1 x) ∧ ∃ y, RelV y e.val ∧ RV g H φ p.2 y

def KeysOk : List (Val × Val) → Prop
  | [] => True
  | p :: r => (∀ q ∈ r, Mx.veq q.1 p.1 = false) ∧ KeysOk r

def RO (g : G) (H : Hp) (φ : List Addr) (a : Addr) : Mx.Obj → Prop
  | .lst l => ∃ xs, H a = some (.lst xs) ∧ RVs g H φ l xs
  | .frz l => ∃ o xs, H a = some (.frz o (.lst xs)) ∧ RVs g H φ l xs
  | .dct d => ∃ es ep, H a = some (DictR a es ep) ∧ Paired (RE g H φ) d es.toList ∧ KeysOk d ∧ d.length ≤ Mx.lim
  | .ins c fs => ∃ dx fs', H a = some (.ins (g.ca c) dx fs') ∧ fs'.length ≤ 500 ∧ ∀ f, (∀ v, Mx.lookF f fs = some v → ∃ x, fs'.lookup (g.fld f) = some x ∧ RV g H φ v x)

structure Rep (g : G) (φ : List Addr) (st : Store) (H : Hp) : Prop where
  len : φ.length = st.length
  nd : φ.Nodup
  obj : ∀ (n : Nat) (o : Mx.Obj) (a : Addr), st[n]? = some o → φ[n]? = some a → RO g H φ a o
  tab : g.tab H

/-- what an evaluation leaves as it was: lo, lk: what it may not write -/
structure Ext (g : G) (lo : Nat) (lk : List Nat) (φ : List Addr) (H : Hp) (φ' : List Addr) (H' : Hp) : Prop where
  pre : ∃ ψ, φ' = φ ++ ψ ∧ ∀ a ∈ ψ, H a = none
  keep : ∀ a o, H a = some o → (∀ n, φ[n]? = some a → n < lo ∨ n ∈ lk) → (∀ ps, o ≠ .tbl ps) → H' a = some o
  tup : ∀ a xs, H a = some (.tup xs) → H' a = some (.tup xs)
  frz : ∀ a o u, H a = some (.frz o u) → H' a = some (.frz o u)
  clo : ∀ k a xs, g.clo k H a xs → g.clo k H' a xs
  dom : ∀ a, H' a = none → H a = none

theorem Ext.refl {g : G} {lo : Nat} {lk : List Nat} {φ : List Addr} {H : Hp} : Ext g lo lk φ H φ H :=
  ⟨⟨[], by simp, by simp⟩, fun _ _ h _ _ => h, fun _ _ h => h, fun _ _ _ h => h, fun _ _ _ h => h, fun _ h => h⟩

theorem Ext.get {g : G} {lo : Nat} {lk : List Nat} {φ φ' : List Addr} {H H' : Hp} (e : Ext g lo lk φ H φ' H') {n : Nat} {a : Addr} (h : φ[n]? = some a) : φ'[n]? = some a := by
  obtain ⟨ψ, rfl, _⟩ := e.pre
  rw [List.getElem?_append_left (List.getElem?_eq_some_iff.mp h).1]
  exact h

theorem Ext.trans {g : G} {lo : Nat} {lk : List Nat} {φ φ1 φ2 : List Addr} {H H1 H2 : Hp} (a : Ext g lo lk φ H φ1 H1) (b : Ext g lo lk φ1 H1 φ2 H2) : Ext g lo lk φ H φ2 H2 := by
  obtain ⟨ψ, e1, n1⟩ := a.pre
  obtain ⟨ψ', e2, n2⟩ := b.pre
  refine ⟨⟨ψ ++ ψ', by rw [e2, e1, List.append_assoc], fun x hx => ?_⟩, fun x o h hl ht => ?_, fun x xs h => b.tup _ _ (a.tup _ _ h), fun x o u h => b.frz _ _ _ (a.frz _ _ _ h), fun k x xs h => b.clo _ _ _ (a.clo _ _ _ h), fun x h => a.dom _ (b.dom _ h)⟩
  · rcases List.mem_append.mp hx with h | h
    · exact n1 x h
    · exact a.dom _ (n2 x h)
  · refine b.keep x o (a.keep x o h hl ht) (fun n hn => ?_) ht
    rw [e1] at hn
    by_cases hlt : n < φ.length
    · rw [List.getElem?_append_left hlt] at hn
      exact hl n hn
    · rw [List.getElem?_append_right (Nat.le_of_not_lt hlt)] at hn
      rw [n1 x (List.mem_of_getElem? hn)] at h
      cases h

/-- fewer locks: a weaker promise -/
theorem Ext.weak {g : G} {lo lo' : Nat} {lk lk' : List Nat} {φ φ' : List Addr} {H H' : Hp} (e : Ext g lo lk φ H φ' H') (h : ∀ n, n < lo' ∨ n ∈ lk' → n < lo ∨ n ∈ lk) : Ext g lo' lk' φ H φ' H' :=
  ⟨e.pre, fun a o q l t => e.keep a o q (fun n hn => h n (l n hn)) t, e.tup, e.frz, e.clo, e.dom⟩

theorem SqT.ext {g : G} {lo : Nat} {lk : List Nat} {φ φ' : List Addr} {H H' : Hp} (e : Ext g lo lk φ H φ' H') {K : PySem.W.Frag} {a : Addr} {xs : List V} (h : SqT K H a xs) : SqT K H' a xs := by
  rcases h with (h | ⟨o, h⟩) | h
  · exact .inl (.inl (e.tup _ _ h))
  · exact .inl (.inr ⟨o, e.frz _ _ _ h⟩)
  · exact .inr h

mutual
theorem RV.mono {g : G} {lo : Nat} {lk : List Nat} {φ φ' : List Addr} {H H' : Hp} (e : Ext g lo lk φ H φ' H') : ∀ {v : Val} {x : V}, RV g H φ v x → RV g H' φ' v x
  | _, _, .none => .none
  | _, _, .bool b => .bool b
  | _, _, .int i => .int i
  | _, _, .str s h => .str s h
  | _, _, .tup h r => .tup (SqT.ext e h) (RVs.mono e r)
  | _, _, .ref h => .ref (e.get h)
  | _, _, .fn f => .fn f
  | _, _, .clo h r => .clo (e.clo _ _ _ h) (RVs.mono e r)
  | _, _, .exc h n => .exc (e.keep _ _ h (fun m hm => absurd (List.mem_of_getElem? hm) n) (fun ps z => nomatch z)) (by
      obtain ⟨ψ, rfl, hψ⟩ := e.pre
      intro hm
      rcases List.mem_append.mp hm with z | z
      · exact n z
      · rw [hψ _ z] at h; cases h)
theorem RVs.mono {g : G} {lo : Nat} {lk : List Nat} {φ φ' : List Addr} {H H' : Hp} (e : Ext g lo lk φ H φ' H') : ∀ {v : List Val} {x : List V}, RVs g H φ v x → RVs g H' φ' v x
  | _, _, .nil => .nil
  | _, _, .cons h r => .cons (RV.mono e h) (RVs.mono e r)
end

theorem RVs.length {g : G} {H : Hp} {φ : List Addr} : ∀ {l : List Val} {xs : List V}, RVs g H φ l xs → l.length = xs.length
  | _, _, .nil => rfl
  | _, _, .cons _ r => by simp [RVs.length r]
theorem RVs.get {g : G} {H : Hp} {φ : List Addr} : ∀ {l : List Val} {xs : List V} {i : Nat} {v : Val}, RVs g H φ l xs → l[i]? = some v → ∃ x, xs[i]? = some x ∧ RV g H φ v x
  | _, _, _, _, .nil, h => by simp at h
  | _, _, 0, _, .cons q _, h => by simp at h; subst h; exact ⟨_, rfl, q⟩
  | _, _, i + 1, _, .cons _ r, h => by simpa using RVs.get (i := i) r (by simpa using h)
theorem RVs.append {g : G} {H : Hp} {φ : List Addr} : ∀ {l l' : List Val} {xs xs' : List V}, RVs g H φ l xs → RVs g H φ l' xs' → RVs g H φ (l ++ l') (xs ++ xs')
  | _, _, _, _, .nil, s => s
  | _, _, _, _, .cons q r, s => .cons q (RVs.append r s)
theorem RVs.take {g : G} {H : Hp} {φ : List Addr} : ∀ {l : List Val} {xs : List V} (n : Nat), RVs g H φ l xs → RVs g H φ (l.take n) (xs.take n)
  | _, _, 0, _ => .nil
  | _, _, _ + 1, .nil => .nil
  | _, _, n + 1, .cons q r => .cons q (RVs.take n r)
theorem RVs.drop {g : G} {H : Hp} {φ : List Addr} : ∀ {l : List Val} {xs : List V} (n : Nat), RVs g H φ l xs → RVs g H φ (l.drop n) (xs.drop n)
  | _, _, 0, r => r
  | _, _, _ + 1, .nil => .nil
  | _, _, n + 1, .cons _ r => RVs.drop n r
theorem RVs.set {g : G} {H : Hp} {φ : List Addr} {v : Val} {x : V} (q : RV g H φ v x) : ∀ {l : List Val} {xs : List V} (i : Nat), RVs g H φ l xs → RVs g H φ (l.set i v) (xs.set i x)
  | _, _, _, .nil => .nil
  | _, _, 0, .cons _ r => .cons q r
  | _, _, i + 1, .cons p r => .cons p (RVs.set q i r)
theorem RVs.reverse {g : G} {H : Hp} {φ : List Addr} : ∀ {l : List Val} {xs : List V}, RVs g H φ l xs → RVs g H φ l.reverse xs.reverse
  | _, _, .nil => .nil
  | _, _, .cons q r => by
    rw [List.reverse_cons, List.reverse_cons]
    exact RVs.append (RVs.reverse r) (.cons q .nil)

theorem Paired.imp {α β : Type} {F F' : α → β → Prop} : ∀ {l : List α} {m : List β}, Paired F l m → (∀ a b, F a b → F' a b) → Paired F' l m
  | _, _, .nil, _ => .nil
  | _, _, .cons r t, f => .cons (f _ _ r) (Paired.imp t f)

/-- an object that stands as it stood -/
theorem RO.mono {g : G} {lo : Nat} {lk : List Nat} {φ φ' : List Addr} {H H' : Hp} (e : Ext g lo lk φ H φ' H') {a : Addr} {o : Mx.Obj} (h : RO g H φ a o) (hk : ∀ u, H a = some u → H' a = some u) : RO g H' φ' a o := by
  cases o with
  | lst l => obtain ⟨xs, h1, h2⟩ := h; exact ⟨xs, hk _ h1, h2.mono e⟩
  | frz l => obtain ⟨o, xs, h1, h2⟩ := h; exact ⟨o, xs, hk _ h1, h2.mono e⟩
  | dct d =>
    obtain ⟨es, ep, h1, h2, h3⟩ := h
    refine ⟨es, ep, hk _ h1, Paired.imp h2 fun p q z => ?_, h3⟩
    obtain ⟨z1, z2, ⟨x, z3, z4⟩, y, z5, z6⟩ := z
    exact ⟨z1, z2, ⟨x, z3, z4.mono e⟩, y, z5, z6.mono e⟩
  | ins c fs =>
    obtain ⟨dx, fs', h1, h3, h2⟩ := h
    refine ⟨dx, fs', hk _ h1, h3, fun f v hv => ?_⟩
    obtain ⟨x, q1, q2⟩ := h2 f v hv
    exact ⟨x, q1, q2.mono e⟩

/-- the slots -/
structure REnv (g : G) (H : Hp) (φ : List Addr) (env : Mx.Env) (σ : L2.St) : Prop where
  len : env.length = σ.length
  at_ : ∀ (i : Nat) (v : Val), env[i]? = some (some v) → ∃ x, σ[i]? = some (some x) ∧ RV g H φ v x
theorem REnv.mono {g : G} {lo : Nat} {lk : List Nat} {φ φ' : List Addr} {H H' : Hp} {env : Mx.Env} {σ : L2.St} (e : Ext g lo lk φ H φ' H') (r : REnv g H φ env σ) : REnv g H' φ' env σ :=
  ⟨r.len, fun i v h => let ⟨x, a, b⟩ := r.at_ i v h; ⟨x, a, b.mono e⟩⟩
theorem REnv.set {g : G} {H : Hp} {φ : List Addr} {env : Mx.Env} {σ : L2.St} (r : REnv g H φ env σ) {i : Nat} {v : Val} {x : V} (hv : RV g H φ v x) : REnv g H φ (env.set i (some v)) (σ.set i (some x)) := by
  refine ⟨by simp [r.len], fun j u h => ?_⟩
  by_cases hij : i = j
  · subst hij
    rw [List.getElem?_set] at h ⊢
    by_cases hl : i < env.length
    · rw [if_pos rfl, if_pos hl] at h
      rw [if_pos rfl, if_pos (by rw [← r.len]; exact hl)]
      cases h
      exact ⟨x, rfl, hv⟩
    · rw [if_pos rfl, if_neg hl] at h
      cases h
  · rw [List.getElem?_set_ne hij] at h ⊢
    exact r.at_ j u h
theorem REnv.unset {g : G} {H : Hp} {φ : List Addr} {env : Mx.Env} {σ : L2.St} (r : REnv g H φ env σ) (i : Nat) : REnv g H φ (env.set i none) (σ.set i none) := by
  refine ⟨by simp [r.len], fun j u h => ?_⟩
  by_cases hij : i = j
  · subst hij
    rw [List.getElem?_set] at h
    by_cases hl : i < env.length
    · rw [if_pos rfl, if_pos hl] at h
      cases h
    · rw [if_pos rfl, if_neg hl] at h
      cases h
  · rw [List.getElem?_set_ne hij] at h ⊢
    exact r.at_ j u h
theorem REnv.wipe {g : G} {H : Hp} {φ : List Addr} {env : Mx.Env} {σ : L2.St} (r : REnv g H φ env σ) : ∀ own : List Nat, REnv g H φ (Mx.wipe env own) (L2.wipe σ own)
  | [] => r
  | i :: l => (REnv.wipe r l).unset i

/-! ### readings -/
def Post (g : G) (lo : Nat) (lk : List Nat) (W : Nat → Hp → Prop) (φ : List Addr) (H : Hp) (r : Res Val) (Q : VK) : Prop :=
  match r with
  | .ok v st => ∀ φ' H' x, Ext g lo lk φ H φ' H' → Rep g φ' st H' → RV g H' φ' v x → Q x H'
  | .exc c st => ∀ φ' H', Ext g lo lk φ H φ' H' → Rep g φ' st H' → W c H'
  | .bad => False

/-- behind the first part stands the second -/
theorem Post.bind {g : G} {lo : Nat} {lk : List Nat} {W : Nat → Hp → Prop} {φ : List Addr} {H : Hp} {r : Res Val} {k : Val → Store → Res Val} {Q : VK} (h : Post g lo lk W φ H (r.bind k) Q) :
    Post g lo lk W φ H r (fun x H1 => ∃ φ1 st1 v, Ext g lo lk φ H φ1 H1 ∧ Rep g φ1 st1 H1 ∧ RV g H1 φ1 v x ∧ Post g lo lk W φ1 H1 (k v st1) Q) := by
  cases r with
  | ok v st =>
    intro φ1 H1 x e1 r1 v1
    refine ⟨φ1, st, v, e1, r1, v1, ?_⟩
    have h' : Post g lo lk W φ H (k v st) Q := h
    cases hk : k v st with
    | ok u st' =>
      rw [hk] at h'
      intro φ2 H2 y e2 r2 v2
      exact h' φ2 H2 y (e1.trans e2) r2 v2
    | exc c st' =>
      rw [hk] at h'
      intro φ2 H2 e2 r2
      exact h' φ2 H2 (e1.trans e2) r2
    | bad =>
      rw [hk] at h'
      exact h'
  | exc c st => exact h
  | bad => exact h
theorem Post.imp {g : G} {lo : Nat} {lk : List Nat} {W : Nat → Hp → Prop} {φ : List Addr} {H : Hp} {r : Res Val} {Q Q' : VK} (h : Post g lo lk W φ H r Q) (f : ∀ x H', Q x H' → Q' x H') : Post g lo lk W φ H r Q' := by
  cases r with
  | ok v st => exact fun φ' H' x a b c => f _ _ (h φ' H' x a b c)
  | exc c st => exact h
  | bad => exact h

/-- the reading of an expression by the machine's answer -/
def TEv (g : G) (lo : Nat) (lk : List Nat) (W : Nat → Hp → Prop) (m : Mx.Env → Store → Res Val) : TE := fun σ H Q =>
  ∃ φ st env, REnv g H φ env σ ∧ Rep g φ st H ∧ Post g lo lk W φ H (m env st) Q

theorem PE.imp {X : Cx} {e : Expr} {t t' : TE} (h : PE X e t) (f : ∀ σ H Q, t' σ H Q → t σ H Q) : PE X e t' :=
  ⟨fun pins s σ H Q I q => h.run pins s σ H Q I (f _ _ _ q)⟩
theorem PT.imp {X : Cx} {e : Expr} {t t' : TT} (h : PT X e t) (f : ∀ σ H Q, t' σ H Q → t σ H Q) : PT X e t' :=
  ⟨fun pins s σ H Q I q => h.run pins s σ H Q I (f _ _ _ q)⟩

/-- a first expression, then what follows -/
theorem TEv.seq {g : G} {lo : Nat} {lk : List Nat} {W : Nat → Hp → Prop} {m : Mx.Env → Store → Res Val} {k : Mx.Env → Val → Store → Res Val} {σ : L2.St} {H : Hp} {Q : VK}
    (h : TEv g lo lk W (fun env st => (m env st).bind (k env)) σ H Q) :
    TEv g lo lk W m σ H (fun x H1 => ∃ φ1 st1 env v, REnv g H1 φ1 env σ ∧ Rep g φ1 st1 H1 ∧ RV g H1 φ1 v x ∧ Post g lo lk W φ1 H1 (k env v st1) Q) := by
  obtain ⟨φ, st, env, re, rp, p⟩ := h
  refine ⟨φ, st, env, re, rp, (Post.bind p).imp fun x H1 z => ?_⟩
  obtain ⟨φ1, st1, v, e1, r1, v1, p1⟩ := z
  exact ⟨φ1, st1, env, v, re.mono e1, r1, v1, p1⟩
end Sd
end

section
set_option Elab.async false
set_option linter.all false
set_option maxRecDepth 100000
set_option maxHeartbeats 1000000
namespace Sd
open PySem PySem.Spec PyProof.Rows L2
open Mx (Val Res SR Op Cmp Ty Tg E S Store)

/-- what the machine writes -/
def Wr (H : Hp) (b : Addr) : Prop := (∃ xs, H b = some (.lst xs)) ∨ (∃ C dx fs, H b = some (.ins C dx fs)) ∨ ∃ es ep, H b = some (DictR b es ep)

structure GOk (g : G) : Prop where
  clo_new : ∀ k H a xs p o, H p = none → g.clo k H a xs → g.clo k (upd H p o) a xs
  clo_wr : ∀ k H a xs b o, Wr H b → g.clo k H a xs → g.clo k (upd H b o) a xs
  tab_new : ∀ H p o, H p = none → g.tab H → g.tab (upd H p o)
  tab_wr : ∀ H b o, Wr H b → g.tab H → g.tab (upd H b o)

section
variable {g : G} (ok : GOk g) {lo : Nat} {lk : List Nat} {φ : List Addr} {H : Hp} {st : Store} {p : Addr} {o : HO}
include ok in
theorem Ext.tmp (hp : H p = none) : Ext g lo lk φ H φ (upd H p o) :=
  ⟨⟨[], by simp, by simp⟩, fun a u h _ _ => by rw [upd_ne (ne_of_none h hp)]; exact h, fun a u h => by rw [upd_ne (ne_of_none h hp)]; exact h, fun a u v h => by rw [upd_ne (ne_of_none h hp)]; exact h,
    fun k a xs h => ok.clo_new k H a xs p o hp h, fun a h => by
      by_cases e : a = p
      · subst e; exact hp
      · rw [upd_ne e] at h; exact h⟩
include ok in
theorem Ext.new (hp : H p = none) : Ext g lo lk φ H (φ ++ [p]) (upd H p o) := by
  have e := Ext.tmp (o := o) (φ := φ) (lo := lo) (lk := lk) ok hp
  exact ⟨⟨[p], rfl, fun a h => by simp at h; subst h; exact hp⟩, e.keep, e.tup, e.frz, e.clo, e.dom⟩

theorem Rep.notin (r : Rep g φ st H) (hp : H p = none) : p ∉ φ := fun h => by
  obtain ⟨n, hn⟩ := List.getElem?_of_mem h
  have hl : n < st.length := by
    rw [← r.len]
    exact (List.getElem?_eq_some_iff.mp hn).1
  have q := r.obj n _ p (List.getElem?_eq_getElem hl) hn
  cases ho : st[n] with
  | lst l => rw [ho] at q; obtain ⟨xs, h1, _⟩ := q; rw [hp] at h1; cases h1
  | frz l => rw [ho] at q; obtain ⟨o, xs, h1, _⟩ := q; rw [hp] at h1; cases h1
  | dct d => rw [ho] at q; obtain ⟨es, ep, h1, _⟩ := q; rw [hp] at h1; cases h1
  | ins c fs => rw [ho] at q; obtain ⟨dx, fs', h1, _⟩ := q; rw [hp] at h1; cases h1
theorem Rep.at_some (r : Rep g φ st H) {n : Nat} {ob : Mx.Obj} (h : st[n]? = some ob) : ∃ a, φ[n]? = some a ∧ RO g H φ a ob := by
  have hl : n < φ.length := by
    rw [r.len]
    exact (List.getElem?_eq_some_iff.mp h).1
  exact ⟨_, List.getElem?_eq_getElem hl, r.obj n ob _ h (List.getElem?_eq_getElem hl)⟩
theorem RO.some {a : Addr} {ob : Mx.Obj} (h : RO g H φ a ob) : ∃ u, H a = some u := by
  cases ob with
  | lst l => obtain ⟨xs, h1, _⟩ := h; exact ⟨_, h1⟩
  | frz l => obtain ⟨o, xs, h1, _⟩ := h; exact ⟨_, h1⟩
  | dct d => obtain ⟨es, ep, h1, _⟩ := h; exact ⟨_, h1⟩
  | ins c fs => obtain ⟨dx, fs', h1, _⟩ := h; exact ⟨_, h1⟩

include ok in
/-- an untracked object is new -/
theorem Rep.tmp (r : Rep g φ st H) (hp : H p = none) : Rep g φ st (upd H p o) := by
  refine ⟨r.len, r.nd, fun n ob a h1 h2 => ?_, ok.tab_new _ _ _ hp r.tab⟩
  refine (r.obj n ob a h1 h2).mono (Ext.tmp (lo := 0) (lk := []) ok hp) fun u hu => ?_
  rw [upd_ne (ne_of_none hu hp)]
  exact hu
include ok in
/-- an object is new -/
theorem Rep.new (r : Rep g φ st H) (hp : H p = none) {ob : Mx.Obj} (h : RO g (upd H p o) (φ ++ [p]) p ob) : Rep g (φ ++ [p]) (st ++ [ob]) (upd H p o) := by
  refine ⟨by simp [r.len], ?_, fun n u a h1 h2 => ?_, ok.tab_new _ _ _ hp r.tab⟩
  · rw [List.nodup_append]
    refine ⟨r.nd, by simp, fun a ha b hb => ?_⟩
    simp at hb
    subst hb
    intro e
    subst e
    exact r.notin hp ha
  · by_cases hl : n < φ.length
    · rw [List.getElem?_append_left hl] at h2
      rw [List.getElem?_append_left (by rw [← r.len]; exact hl)] at h1
      refine (r.obj n u a h1 h2).mono (Ext.new (lo := 0) (lk := []) ok hp) fun v hv => ?_
      rw [upd_ne (ne_of_none hv hp)]
      exact hv
    · have e : n = φ.length := by
        have := (List.getElem?_eq_some_iff.mp h2).1
        simp at this
        omega
      subst e
      rw [List.getElem?_append_right (Nat.le_refl _)] at h2
      rw [r.len, List.getElem?_append_right (Nat.le_refl _)] at h1
      simp at h1 h2
      subst h1
      subst h2
      exact h

theorem RO.wr {a : Addr} {ob : Mx.Obj} (h : RO g H φ a ob) (hf : ∀ l, ob ≠ .frz l) : Wr H a := by
  cases ob with
  | lst l => obtain ⟨xs, h1, _⟩ := h; exact .inl ⟨_, h1⟩
  | frz l => exact absurd rfl (hf l)
  | dct d => obtain ⟨es, ep, h1, _⟩ := h; exact .inr (.inr ⟨_, _, h1⟩)
  | ins c fs => obtain ⟨dx, fs', h1, _⟩ := h; exact .inr (.inl ⟨_, _, _, h1⟩)
theorem Wr.tup {b : Addr} {xs : List V} (h : Wr H b) (e : H b = some (.tup xs)) : False := by
  rcases h with ⟨_, h⟩ | ⟨_, _, _, h⟩ | ⟨_, _, h⟩ <;> rw [e] at h <;> cases h
theorem Wr.frz {b : Addr} {ob : Obj} {u : HO} (h : Wr H b) (e : H b = some (.frz ob u)) : False := by
  rcases h with ⟨_, h⟩ | ⟨_, _, _, h⟩ | ⟨_, _, h⟩ <;> rw [e] at h <;> cases h
theorem Wr.none {b : Addr} (h : Wr H b) (e : H b = none) : False := by
  rcases h with ⟨_, h⟩ | ⟨_, _, _, h⟩ | ⟨_, _, h⟩ <;> rw [e] at h <;> cases h

include ok in
/-- an object is written -/
theorem Ext.write {n : Nat} {a : Addr} (hw : Wr H a) (hn : φ[n]? = some a) (hl : ¬ (n < lo ∨ n ∈ lk)) : Ext g lo lk φ H φ (upd H a o) :=
  ⟨⟨[], by simp, by simp⟩, fun b u h hb _ => by
      rw [upd_ne (fun e => hl (hb n (by rw [e]; exact hn)))]
      exact h,
    fun b u h => by rw [upd_ne (fun e => hw.tup (e ▸ h))]; exact h, fun b u v h => by rw [upd_ne (fun e => hw.frz (e ▸ h))]; exact h,
    fun k b xs h => ok.clo_wr k H b xs a o hw h, fun b h => by
      by_cases e : b = a
      · subst e; rw [upd_same] at h; cases h
      · rw [upd_ne e] at h; exact h⟩
include ok in
theorem Rep.write (r : Rep g φ st H) {n : Nat} {a : Addr} {ob : Mx.Obj} (hw : Wr H a) (hn : φ[n]? = some a) (h : RO g (upd H a o) φ a ob) : Rep g φ (st.set n ob) (upd H a o) := by
  refine ⟨by simp [r.len], r.nd, fun m u b h1 h2 => ?_, ok.tab_wr _ _ _ hw r.tab⟩
  by_cases e : n = m
  · subst e
    rw [hn] at h2
    cases h2
    rw [List.getElem?_set] at h1
    simp at h1
    obtain ⟨_, rfl⟩ := h1
    exact h
  · rw [List.getElem?_set_ne e] at h1
    have hba : b ≠ a := fun q => by
      subst q
      exact e ((List.getElem?_inj (List.getElem?_eq_some_iff.mp hn).1 r.nd).mp (hn.trans h2.symm))
    have q := r.obj m u b h1 h2
    have ee : Ext g 0 [] φ H φ (upd H a o) := Ext.write ok hw hn (by simp)
    exact q.mono ee fun v hv => by rw [upd_ne hba]; exact hv
include ok in
theorem RVs.at_upd {n : Nat} {a : Addr} {l : List Val} {xs : List V} (h : RVs g H φ l xs) (hw : Wr H a) (hn : φ[n]? = some a) : RVs g (upd H a o) φ l xs := h.mono (Ext.write (lo := 0) (lk := []) ok hw hn (by simp))
include ok in
theorem RV.at_upd {n : Nat} {a : Addr} {v : Val} {x : V} (h : RV g H φ v x) (hw : Wr H a) (hn : φ[n]? = some a) : RV g (upd H a o) φ v x := h.mono (Ext.write (lo := 0) (lk := []) ok hw hn (by simp))
end

/-! ### data -/
mutual
def toD : Val → PyData
  | .none => .none
  | .bool b => .bool b
  | .int i => .int i
  | .str s => .str ⟨s.toArray⟩
  | .tup l => .tuple (toDL l)
  | _ => .none
def toDL : List Val → List PyData
  | [] => []
  | x :: r => toD x :: toDL r
end
mutual
theorem RV.dp {g : G} {H : Hp} {φ : List Addr} : ∀ {v : Val} {x : V} {n : Nat}, RV g H φ v x → Mx.isDn v n = true → Dp g.K H x (toD v)
  | _, _, _, .none, _ => .non
  | _, _, _, .bool b, _ => .bl b
  | _, _, _, .int i, _ => .int i
  | _, _, _, .str s _, _ => .str _
  | _, _, 0, .tup h r, d => by simp [Mx.isDn] at d
  | _, _, n + 1, .tup h r, d => .tup h (RVs.dp r (by simpa [Mx.isDn] using d))
  | _, _, _, .ref h, d => by simp [Mx.isDn] at d
  | _, _, _, .fn f, d => by simp [Mx.isDn] at d
  | _, _, _, .clo h r, d => by simp [Mx.isDn] at d
theorem RVs.dp {g : G} {H : Hp} {φ : List Addr} : ∀ {l : List Val} {xs : List V} {n : Nat}, RVs g H φ l xs → Mx.isDLn l n = true → DpAll g.K H xs (toDL l)
  | _, _, _, .nil, _ => .nil
  | _, _, _, .cons h r, d => by
    rw [Mx.isDLn, Bool.and_eq_true] at d
    exact .cons (RV.dp h d.1) (RVs.dp r d.2)
end
mutual
theorem eqv_toD : ∀ (a b : Val) (n m : Nat), Mx.isDn a n = true → Mx.isDn b m = true → PyData.eqv (toD a) (toD b) = Mx.veq a b
  | .none, .none, _, _, _, _ => rfl
  | .none, .bool _, _, _, _, _ => rfl
  | .none, .int _, _, _, _, _ => rfl
  | .none, .str _, _, _, _, _ => rfl
  | .none, .tup _, _, _, _, _ => rfl
  | .bool _, .none, _, _, _, _ => rfl
  | .bool a, .bool b, _, _, _, _ => by cases a <;> cases b <;> rfl
  | .bool a, .int b, _, _, _, _ => by simp [toD, PyData.eqv, Mx.veq]
  | .bool _, .str _, _, _, _, _ => rfl
  | .bool _, .tup _, _, _, _, _ => rfl
  | .int _, .none, _, _, _, _ => rfl
  | .int a, .bool b, _, _, _, _ => by simp [toD, PyData.eqv, Mx.veq]
  | .int a, .int b, _, _, _, _ => by simp [toD, PyData.eqv, Mx.veq]
  | .int _, .str _, _, _, _, _ => rfl
  | .int _, .tup _, _, _, _, _ => rfl
  | .str _, .none, _, _, _, _ => rfl
  | .str _, .bool _, _, _, _, _ => rfl
  | .str _, .int _, _, _, _, _ => rfl
  | .str a, .str b, _, _, _, _ => by
    rw [toD, toD, PyData.eqv, Mx.veq, Bool.eq_iff_iff]
    simp
  | .str _, .tup _, _, _, _, _ => rfl
  | .tup _, .none, _, _, _, _ => rfl
  | .tup _, .bool _, _, _, _, _ => rfl
  | .tup _, .int _, _, _, _, _ => rfl
  | .tup _, .str _, _, _, _, _ => rfl
  | .tup a, .tup b, n + 1, m + 1, ha, hb => by
    simp only [toD, PyData.eqv, Mx.veq]
    exact eqv_toDL a b n m (by simpa [Mx.isDn] using ha) (by simpa [Mx.isDn] using hb)
  | .tup _, _, 0, _, h, _ => by simp [Mx.isDn] at h
  | _, .tup _, _, 0, _, h => by simp [Mx.isDn] at h
  | .ref _, _, _, _, h, _ => by simp [Mx.isDn] at h
  | .fn _, _, _, _, h, _ => by simp [Mx.isDn] at h
  | .clo _ _, _, _, _, h, _ => by simp [Mx.isDn] at h
  | _, .ref _, _, _, _, h => by simp [Mx.isDn] at h
  | _, .fn _, _, _, _, h => by simp [Mx.isDn] at h
  | _, .clo _ _, _, _, _, h => by simp [Mx.isDn] at h
theorem eqv_toDL : ∀ (a b : List Val) (n m : Nat), Mx.isDLn a n = true → Mx.isDLn b m = true → PyData.eqvAll (toDL a) (toDL b) = Mx.veqL a b
  | [], [], _, _, _, _ => rfl
  | [], _ :: _, _, _, _, _ => rfl
  | _ :: _, [], _, _, _, _ => rfl
  | x :: xs, y :: ys, n, m, ha, hb => by
    rw [Mx.isDLn, Bool.and_eq_true] at ha hb
    simp only [toDL, PyData.eqvAll, Mx.veqL]
    rw [eqv_toD x y n m ha.1 hb.1, eqv_toDL xs ys n m ha.2 hb.2]
end
mutual
theorem RV.lay {g : G} {H : Hp} {φ : List Addr} : ∀ {v : Val} {x : V}, RV g H φ v x → (toD v).canLay0 = true
  | _, _, .none => rfl
  | _, _, .bool b => rfl
  | _, _, .int i => rfl
  | _, _, .str s h => by
    rw [toD, PyData.canLay0]
    show (Array.all s.toArray fun c => decide (c < 0x110000)) = true
    have h := strOk_chars h
    simpa using h
  | _, _, .tup h r => by rw [toD]; exact RVs.lay r
  | _, _, .ref h => rfl
  | _, _, .fn f => rfl
  | _, _, .clo h r => rfl
  | _, _, .exc h r => rfl
theorem RVs.lay {g : G} {H : Hp} {φ : List Addr} : ∀ {l : List Val} {xs : List V}, RVs g H φ l xs → PyData.canLayAll0 (toDL l) = true
  | _, _, .nil => rfl
  | _, _, .cons h r => by rw [toDL, PyData.canLayAll0, RV.lay h, RVs.lay r]; rfl
end
mutual
theorem dep_toD : ∀ (a : Val) (n : Nat), Mx.isDn a n = true → (toD a).depth ≤ n
  | .none, _, _ => Nat.zero_le _
  | .bool _, _, _ => Nat.zero_le _
  | .int _, _, _ => Nat.zero_le _
  | .str _, _, _ => Nat.zero_le _
  | .tup l, 0, h => by simp [Mx.isDn] at h
  | .tup l, n + 1, h => by
    have := dep_toDL l n (by simpa [Mx.isDn] using h)
    rw [toD, PyData.depth]
    omega
  | .ref _, _, h => by simp [Mx.isDn] at h
  | .fn _, _, h => by simp [Mx.isDn] at h
  | .clo _ _, _, h => by simp [Mx.isDn] at h
theorem dep_toDL : ∀ (l : List Val) (n : Nat), Mx.isDLn l n = true → PyData.depthAll (toDL l) ≤ n
  | [], _, _ => Nat.zero_le _
  | x :: r, n, h => by
    rw [Mx.isDLn, Bool.and_eq_true] at h
    have a := dep_toD x n h.1
    have b := dep_toDL r n h.2
    rw [toDL, PyData.depthAll]
    omega
end
theorem RV.shaped {g : G} {H : Hp} {φ : List Addr} {v : Val} {x : V} (r : RV g H φ v x) (h : Mx.isD v = true) : SeqAt.shaped (toD v) = true := by
  unfold SeqAt.shaped
  rw [r.lay, Bool.true_and]
  exact decide_eq_true (Nat.le_trans (dep_toD v 7 h) (by decide))
theorem RVs.shaped {g : G} {H : Hp} {φ : List Addr} {l : List Val} {xs : List V} (r : RVs g H φ l xs) (h : Mx.isDL l = true) : SeqAt.shaped (.list (toDL l)) = true := by
  unfold SeqAt.shaped
  rw [show (PyData.list (toDL l)).canLay0 = true from r.lay, Bool.true_and]
  have := dep_toDL l 7 h
  refine decide_eq_true ?_
  rw [PyData.depth]
  omega
end Sd
end

section
set_option Elab.async false
set_option linter.all false
set_option maxRecDepth 100000
set_option maxHeartbeats 1000000
namespace Sd
open PySem PySem.Spec PyProof.Rows L2
open Mx (Val Res SR Op Cmp Ty Tg E S Store)
variable {g : G} {lo : Nat} {lk : List Nat} {W : Nat → Hp → Prop} {φ : List Addr} {H : Hp} {st : Store} {Q : VK} {X : Cx}

theorem Post.val {v : Val} {x : V} (p : Post g lo lk W φ H (.ok v st) Q) (r : Rep g φ st H) (h : RV g H φ v x) : Q x H := p φ H x Ext.refl r h
theorem Post.newT (ok : GOk g) {l : List Val} {xs : List V} {q : Addr} (p : Post g lo lk W φ H (.ok (.tup l) st) Q) (r : Rep g φ st H) (h : RVs g H φ l xs) (hq : H q = none) : Q (.ref q) (upd H q (.tup xs)) :=
  p φ _ _ (Ext.tmp ok hq) (r.tmp ok hq) (.tup (.inl (.inl upd_same)) (h.mono (Ext.tmp (lo := 0) (lk := []) ok hq)))
theorem Post.newL (ok : GOk g) {l : List Val} {xs : List V} {q : Addr} (p : Post g lo lk W φ H (.ok (.ref st.length) (st ++ [.lst l])) Q) (r : Rep g φ st H) (h : RVs g H φ l xs) (hq : H q = none) : Q (.ref q) (upd H q (.lst xs)) :=
  p _ _ _ (Ext.new ok hq) (r.new ok hq ⟨xs, upd_same, h.mono (Ext.new (lo := 0) (lk := []) ok hq)⟩) (.ref (by rw [← r.len]; simp))

theorem Rep.lst (r : Rep g φ st H) {n : Nat} {a : Addr} {l : List Val} (h : st[n]? = some (.lst l)) (e : φ[n]? = some a) : ∃ xs, H a = some (.lst xs) ∧ RVs g H φ l xs := r.obj n _ a h e
theorem Rep.list (r : Rep g φ st H) {n : Nat} {a : Addr} {l : List Val} (h : Mx.listAt st n = some l) (e : φ[n]? = some a) (K : PySem.W.Frag) : ∃ xs, SqL K H a xs ∧ RVs g H φ l xs := by
  unfold Mx.listAt at h
  cases q : st[n]? with
  | none => rw [q] at h; cases h
  | some o =>
    rw [q] at h
    cases o with
    | lst l' =>
      cases h
      obtain ⟨xs, h1, h2⟩ := r.obj n _ a q e
      exact ⟨xs, .inl (.inl h1), h2⟩
    | frz l' =>
      cases h
      obtain ⟨o, xs, h1, h2⟩ := r.obj n _ a q e
      exact ⟨xs, .inl (.inr ⟨o, h1⟩), h2⟩
    | dct d => cases h
    | ins c fs => cases h

def rB (g : G) (lo : Nat) (lk : List Nat) (W : Nat → Hp → Prop) (f : Store → Val → Val → Res Val) : R2 := fun x y H Q =>
  ∃ φ st v u, Rep g φ st H ∧ RV g H φ v x ∧ RV g H φ u y ∧ Post g lo lk W φ H (f st v u) Q

def opOf : Op → Operator
  | .add => .Add | .sub => .Sub | .mul => .Mult | .fdiv => .FloorDiv | .mod => .Mod | .pow => .Pow

theorem lim_le : Mx.lim ≤ sizeLine := by decide
theorem lim_lt : Mx.lim < sizeLine := by decide
theorem big_abs {i : Int} (h : Mx.big i = true) : i.natAbs < 2 ^ 64 := by
  unfold Mx.big at h
  exact of_decide_eq_true h
theorem str_app (a b : List Nat) : (⟨a.toArray⟩ : Str) ++ (⟨b.toArray⟩ : Str) = ⟨(a ++ b).toArray⟩ := by
  show Str.mk (a.toArray ++ b.toArray) = _
  simp
theorem str_len (a : List Nat) : (⟨a.toArray⟩ : Str).length = a.length := by
  show a.toArray.size = a.length
  simp
theorem all_app {a b : List Nat} (ha : a.all (fun c => decide (c < 1114112)) = true) (hb : b.all (fun c => decide (c < 1114112)) = true) : (a ++ b).all (fun c => decide (c < 1114112)) = true := by
  rw [List.all_append, ha, hb]; rfl
theorem RVs.nil_iff {l : List Val} {xs : List V} (h : RVs g H φ l xs) : l = [] ↔ xs = [] := by
  cases h <;> simp
theorem RVs.rep {l : List Val} {xs : List V} (h : RVs g H φ l xs) : ∀ n : Nat, RVs g H φ (List.replicate n l).flatten (List.replicate n xs).flatten
  | 0 => .nil
  | n + 1 => by
    rw [List.replicate_succ, List.replicate_succ, List.flatten_cons, List.flatten_cons]
    exact h.append (RVs.rep h n)

theorem op_bin (ok : GOk g) (hK : X.K = g.K) (o : Op) : OpR X (binaryOp (opOf o)) (rB g lo lk W fun st => Mx.binV st o) := by
  intro pins s σ H x y v' u' Q I rx ry h
  obtain ⟨φ, st, v, u, rep, rv, ru, post⟩ := h
  cases o with
  | add =>
    cases rv <;> cases ru <;> first | exact False.elim post | skip
    · rename_i a b
      exact op_add pins s σ H _ _ _ _ Q I rx ry ⟨a, b, rfl, rfl, post.val rep (.int _)⟩
    · rename_i a ha b hb
      have post' : Post g lo lk W φ H (if a.length + b.length ≤ Mx.lim then .ok (.str (a ++ b)) st else .bad) Q := post
      by_cases hl : a.length + b.length ≤ Mx.lim
      · rw [if_pos hl] at post'
        refine op_add_str pins s σ H _ _ _ _ Q I rx ry ⟨_, _, rfl, rfl, ?_, ?_⟩
        · rw [str_len, str_len]
          exact Nat.le_trans hl lim_le
        · rw [str_app]
          exact post'.val rep (.str _ (strOk_mk (by rw [List.length_append]; exact hl) (all_app (strOk_chars ha) (strOk_chars hb))))
      · rw [if_neg hl] at post'
        exact post'.elim
    · rename_i a1 l1 xs1 ha hl1 a2 l2 xs2 hb hl2
      have post' : Post g lo lk W φ H (if l1.length + l2.length ≤ Mx.lim then .ok (.tup (l1 ++ l2)) st else .bad) Q := post
      by_cases hl : l1.length + l2.length ≤ Mx.lim
      · rw [if_pos hl] at post'
        have ha' : SqT X.K H a1 xs1 := hK ▸ ha
        have hb' : SqT X.K H a2 xs2 := hK ▸ hb
        refine op_catA pins s σ H _ _ _ _ Q I rx ry ⟨a1, a2, xs1, xs2, rfl, rfl, ha', hb', ?_, fun e => ?_, fun _ e => ?_, fun _ _ p hp => ?_⟩
        · rw [← hl1.length, ← hl2.length]
          exact Nat.le_trans hl lim_le
        · have e1 : l1 = [] := hl1.nil_iff.mpr e
          subst e1
          exact post'.val rep (.tup hb hl2)
        · have e1 : l2 = [] := hl2.nil_iff.mpr e
          subst e1
          rw [List.append_nil] at post'
          exact post'.val rep (.tup ha hl1)
        · exact post'.newT ok rep (hl1.append hl2) hp
      · rw [if_neg hl] at post'
        exact post'.elim
    · rename_i n a hn m b hm
      have post' : Post g lo lk W φ H (match st[n]?, st[m]? with
        | some (.lst a), some (.lst b) => if a.length + b.length ≤ Mx.lim then .ok (.ref st.length) (st ++ [.lst (a ++ b)]) else .bad
        | _, _ => .bad) Q := post
      split at post'
      · rename_i l1 l2 e1 e2
        split at post'
        · rename_i hl
          obtain ⟨xs1, h1, r1⟩ := rep.lst e1 hn
          obtain ⟨xs2, h2, r2⟩ := rep.lst e2 hm
          refine op_cat pins s σ H _ _ _ _ Q I rx ry ⟨a, b, xs1, xs2, rfl, rfl, h1, h2, ?_, fun p hp => ?_⟩
          · rw [← r1.length, ← r2.length]
            exact Nat.le_trans hl lim_le
          · exact post'.newL ok rep (r1.append r2) hp
        · exact post'.elim
      · exact post'.elim
  | sub =>
    cases rv <;> cases ru <;> first | exact False.elim post | skip
    rename_i a b
    exact op_sub pins s σ H _ _ _ _ Q I rx ry ⟨a, b, rfl, rfl, post.val rep (.int _)⟩
  | mul =>
    cases rv <;> cases ru <;> first | exact False.elim post | skip
    · rename_i a b
      have post' : Post g lo lk W φ H (if (Mx.big a || Mx.big b) = true then .ok (.int (a * b)) st else .bad) Q := post
      split at post'
      · rename_i hb
        refine op_mul pins s σ H _ _ _ _ Q I rx ry ⟨a, b, rfl, rfl, ?_, post'.val rep (.int _)⟩
        rcases Bool.or_eq_true_iff.mp hb with h | h
        · have := big_abs h
          exact .inl (by omega)
        · have := big_abs h
          exact .inr (by omega)
      · exact post'.elim
    · rename_i a1 l1 xs1 ha hl1 b
      have post' : Post g lo lk W φ H (if (decide (2 ≤ b) && decide (b ≤ 1000) && decide (l1.length ≤ 100) && !l1.isEmpty) = true then .ok (.tup (List.replicate b.toNat l1).flatten) st else .bad) Q := post
      split at post'
      · rename_i hb
        simp only [Bool.and_eq_true, decide_eq_true_eq, Bool.not_eq_true'] at hb
        obtain ⟨⟨⟨h1, h2⟩, h3⟩, h4⟩ := hb
        have ha' : SqT X.K H a1 xs1 := hK ▸ ha
        refine op_repT pins s σ H _ _ _ _ Q I rx ry ⟨a1, b, xs1, rfl, rfl, ha', fun e => ?_, h1, h2, ?_, fun p hp => ?_⟩
        · have := hl1.nil_iff.mpr e
          subst this
          simp at h4
        · rw [← hl1.length]
          omega
        · exact post'.newT ok rep (hl1.rep _) hp
      · exact post'.elim
    · rename_i n a hn b
      have post' : Post g lo lk W φ H (match st[n]? with
        | some (.lst a) => if (decide (0 ≤ b) && decide (b ≤ 1000) && decide (a.length ≤ 100)) = true then .ok (.ref st.length) (st ++ [.lst (List.replicate b.toNat a).flatten]) else .bad
        | _ => .bad) Q := post
      split at post'
      · rename_i l1 e1
        split at post'
        · rename_i hb
          simp only [Bool.and_eq_true, decide_eq_true_eq] at hb
          obtain ⟨⟨h1, h2⟩, h3⟩ := hb
          obtain ⟨xs1, q1, r1⟩ := rep.lst e1 hn
          refine op_rep pins s σ H _ _ _ _ Q I rx ry ⟨a, b, xs1, rfl, rfl, q1, by omega, by omega, ?_, fun p hp => ?_⟩
          · rw [← r1.length]
            have : l1.length * b.toNat ≤ 100 * 1000 := Nat.mul_le_mul h3 (by omega)
            exact Nat.le_trans this (by decide)
          · exact post'.newL ok rep (r1.rep _) hp
        · exact post'.elim
      · exact post'.elim
  | fdiv =>
    cases rv <;> cases ru <;> first | exact False.elim post | skip
    rename_i a b
    have post' : Post g lo lk W φ H (if (decide (0 < b) && decide (b < 1073741824)) = true then .ok (.int (a / b)) st else .bad) Q := post
    split at post'
    · rename_i hb
      simp only [Bool.and_eq_true, decide_eq_true_eq] at hb
      exact op_fdiv pins s σ H _ _ _ _ Q I rx ry ⟨a, b, rfl, rfl, hb, post'.val rep (.int _)⟩
    · exact post'.elim
  | mod =>
    cases rv <;> cases ru <;> first | exact False.elim post | skip
    rename_i a b
    have post' : Post g lo lk W φ H (if 0 < b then .ok (.int (a % b)) st else .bad) Q := post
    split at post'
    · rename_i hb
      exact op_mod pins s σ H _ _ _ _ Q I rx ry ⟨a, b, rfl, rfl, hb, post'.val rep (.int _)⟩
    · exact post'.elim
  | pow =>
    cases rv <;> cases ru <;> first | exact False.elim post | skip
    rename_i a b
    have post' : Post g lo lk W φ H (if (decide (0 ≤ b) && decide (b ≤ 100) && Mx.big a) = true then .ok (.int (a ^ b.toNat)) st else .bad) Q := post
    split at post'
    · rename_i hb
      simp only [Bool.and_eq_true, decide_eq_true_eq] at hb
      exact op_pow pins s σ H _ _ _ _ Q I rx ry ⟨a, b, rfl, rfl, ⟨hb.1.1, by omega, big_abs hb.2⟩, post'.val rep (.int _)⟩
    · exact post'.elim
end Sd
end

section
set_option Elab.async false
set_option linter.all false
set_option maxRecDepth 100000
set_option maxHeartbeats 1000000
namespace Sd
open PySem PySem.Spec PyProof.Rows L2
open Mx (Val Res SR Op Cmp Ty Tg E S Store)
variable {g : G} {lo : Nat} {lk : List Nat} {W : Nat → Hp → Prop} {φ : List Addr} {H : Hp} {st : Store} {Q : VK} {X : Cx}

def cmpOf : Cmp → CmpOp
  | .eq => .Eq | .ne => .NotEq | .lt => .Lt | .le => .LtE | .gt => .Gt | .ge => .GtE | .inn => .In | .nin => .NotIn

theorem any_toDL {x : Val} {n : Nat} (hx : Mx.isDn x n = true) : ∀ {l : List Val} {m : Nat}, Mx.isDLn l m = true → ((toDL l).any fun z => PyData.eqv z (toD x)) = Mx.inL x l
  | [], _, _ => rfl
  | y :: r, m, h => by
    rw [Mx.isDLn, Bool.and_eq_true] at h
    rw [toDL, List.any_cons, any_toDL hx h.2, eqv_toD y x m n h.1 hx, Mx.inL]

/-- the values of a list that is read -/
theorem Rep.listD (r : Rep g φ st H) {n : Nat} {a : Addr} {l : List Val} (h : Mx.listAt st n = some l) (e : φ[n]? = some a) (hd : Mx.isDL l = true) : Dp g.K H (.ref a) (.list (toDL l)) ∧ SeqAt.shaped (.list (toDL l)) = true := by
  obtain ⟨xs, h1, h2⟩ := r.list h e g.K
  exact ⟨.lst h1 (h2.dp hd), h2.shaped hd⟩

def PostB (g : G) (lo : Nat) (lk : List Nat) (W : Nat → Hp → Prop) (φ : List Addr) (H : Hp) (st : Store) (o : Option Bool) (Q : VK) : Prop := ∃ b, o = some b ∧ Q (.bl b) H
theorem Post.cmp {o : Option Bool} (rep : Rep g φ st H) (p : Post g lo lk W φ H (match o with | some r => .ok (.bool r) st | none => .bad) Q) : ∃ b, o = some b ∧ Q (.bl b) H := by
  cases o with
  | none => exact p.elim
  | some b => exact ⟨b, rfl, p.val rep (.bool b)⟩

/-- two values as data, for == -/
theorem eqS_data (rep : Rep g φ st H) {v u : Val} {x y : V} {b : Bool} (rv : RV g H φ v x) (ru : RV g H φ u y) (h : Mx.eqS st v u = some b) :
    ∃ d e, Dp g.K H x d ∧ Dp g.K H y e ∧ SeqAt.shaped d = true ∧ SeqAt.shaped e = true ∧ PyData.eqv d e = b := by
  have plain : Mx.isD v = true → Mx.isD u = true → Mx.veq v u = b → ∃ d e, Dp g.K H x d ∧ Dp g.K H y e ∧ SeqAt.shaped d = true ∧ SeqAt.shaped e = true ∧ PyData.eqv d e = b := fun h1 h2 h3 =>
    ⟨_, _, rv.dp h1, ru.dp h2, rv.shaped h1, ru.shaped h2, (eqv_toD v u 7 7 h1 h2).trans h3⟩
  unfold Mx.eqS at h
  split at h
  · rename_i n m
    cases rv with
    | ref hn =>
      cases ru with
      | ref hm =>
        split at h
        · rename_i a b' e1 e2
          split at h
          · rename_i hd
            rw [Bool.and_eq_true] at hd
            obtain ⟨d1, s1⟩ := rep.listD e1 hn hd.1
            obtain ⟨d2, s2⟩ := rep.listD e2 hm hd.2
            refine ⟨_, _, d1, d2, s1, s2, ?_⟩
            rw [PyData.eqv, eqv_toDL _ _ 7 7 hd.1 hd.2]
            exact Option.some.inj h
          · cases h
        · cases h
  · rename_i n w _
    cases rv with
    | ref hn =>
      split at h
      · rename_i a e1
        split at h
        · rename_i hd
          rw [Bool.and_eq_true] at hd
          obtain ⟨d1, s1⟩ := rep.listD e1 hn hd.1
          refine ⟨_, _, d1, ru.dp hd.2, s1, ru.shaped hd.2, ?_⟩
          have e : false = b := Option.some.inj h
          subst e
          cases u <;> first | rfl | simp [Mx.isD, Mx.isDn] at hd
        · cases h
      · cases h
  · rename_i v' m _
    cases ru with
    | ref hm =>
      split at h
      · rename_i a e1
        split at h
        · rename_i hd
          rw [Bool.and_eq_true] at hd
          obtain ⟨d1, s1⟩ := rep.listD e1 hm hd.1
          refine ⟨_, _, rv.dp hd.2, d1, rv.shaped hd.2, s1, ?_⟩
          have e : false = b := Option.some.inj h
          subst e
          cases v <;> first | rfl | simp [Mx.isD, Mx.isDn] at hd
        · cases h
      · cases h
  · split at h
    · rename_i hd
      rw [Bool.and_eq_true] at hd
      exact plain hd.1 hd.2 (Option.some.inj h)
    · cases h

section
variable {pins : List (Addr × Obj)} {σ : L2.St} {s : Shared}
theorem in_run {v u : Val} {x y : V} {x' y' : Value} {b : Bool} (hK : X.K = g.K) (hw : X.w = g.w) (hu : X.A.units + 65 < cLine) (I : Inv X pins σ H s) (rx : RelV x x') (ry : RelV y y') (rep : Rep g φ st H) (rv : RV g H φ v x) (ru : RV g H φ u y) (h : Mx.inS st v u = some b) :
    (∀ Q : VK, Q (.bl b) H → wpAny (model X.prog X.w) X.A (compareOp .In x' y') (EP X pins σ Q) X.xe s) ∧ ∀ Q : VK, Q (.bl (!b)) H → wpAny (model X.prog X.w) X.A (compareOp .NotIn x' y') (EP X pins σ Q) X.xe s := by
  unfold Mx.inS at h
  split at h
  · rename_i l
    split at h
    · rename_i hd
      rw [Bool.and_eq_true] at hd
      have e := Option.some.inj h
      cases ru with
      | tup hs hl =>
        obtain ⟨as, r1⟩ := Dp.reads I _ x x' (hK ▸ rv.dp hd.1) rx
        obtain ⟨bs, r2⟩ := Dp.reads I (.tuple (toDL l)) _ y' (hK ▸ Dp.tup hs (hl.dp hd.2)) ry
        have q := any_toDL (x := v) (n := 7) hd.1 (l := l) (m := 7) hd.2
        have sd := rv.shaped hd.1
        have lay : (PyData.tuple (toDL l)).canLay0 = true := hl.lay
        refine ⟨fun Q hQ => SeqAt.in_tuple_reads r2 r1 lay (SeqAt.canLay_of_shaped sd) (room_in_shaped sd hu) ⟨.bl _, H, I, rfl, ?_⟩, fun Q hQ => SeqAt.notIn_tuple_reads r2 r1 lay (SeqAt.canLay_of_shaped sd) (room_in_shaped sd hu) ⟨.bl _, H, I, rfl, ?_⟩⟩
        · rw [q, e]; exact hQ
        · rw [q, e]; exact hQ
    · cases h
  · rename_i z
    split at h
    · rename_i c
      have e := Option.some.inj h
      cases ru
      cases rv
      refine ⟨fun Q hQ => op_in_sign pins s σ H _ _ _ _ Q I rx ry ⟨c, _, rfl, rfl, ?_⟩, fun Q hQ => op_notIn_sign pins s σ H _ _ _ _ Q I rx ry ⟨c, _, rfl, rfl, ?_⟩⟩
      · show Q (.bl (decide (c ∈ z.toArray.toList))) H
        rw [show z.toArray.toList = z by simp, e]
        exact hQ
      · show Q (.bl (!decide (c ∈ z.toArray.toList))) H
        rw [show z.toArray.toList = z by simp, e]
        exact hQ
    · cases h
  · rename_i n
    cases ru with
    | ref hn =>
      have lists : ∀ l, Mx.listAt st n = some l → (if (Mx.isD v && Mx.isDL l) = true then some (Mx.inL v l) else none) = some b →
          (∀ Q : VK, Q (.bl b) H → wpAny (model X.prog X.w) X.A (compareOp .In x' y') (EP X pins σ Q) X.xe s) ∧ ∀ Q : VK, Q (.bl (!b)) H → wpAny (model X.prog X.w) X.A (compareOp .NotIn x' y') (EP X pins σ Q) X.xe s := fun l e1 h => by
        split at h
        · rename_i hd
          rw [Bool.and_eq_true] at hd
          have e := Option.some.inj h
          obtain ⟨d1, s1⟩ := rep.listD e1 hn hd.2
          have q := any_toDL (x := v) (n := 7) hd.1 (l := l) (m := 7) hd.2
          have hd1 := rv.dp hd.1
          rw [← hK] at d1 hd1
          refine ⟨fun Q hQ => op_inD hu pins s σ H _ _ _ _ Q I rx ry ⟨_, _, hd1, d1, rv.shaped hd.1, s1, ?_⟩, fun Q hQ => op_notInD hu pins s σ H _ _ _ _ Q I rx ry ⟨_, _, hd1, d1, rv.shaped hd.1, s1, ?_⟩⟩
          · rw [q, e]; exact hQ
          · rw [q, e]; exact hQ
        · cases h
      split at h
      · rename_i l e1
        exact lists l (by unfold Mx.listAt; rw [e1]) h
      · rename_i l e1
        exact lists l (by unfold Mx.listAt; rw [e1]) h
      · cases h
  · cases h
end

theorem op_cmp (hK : X.K = g.K) (hw : X.w = g.w) (hu : X.A.units + 65 < cLine) (o : Cmp) : OpR X (compareOp (cmpOf o)) (rB g lo lk W fun st v u => match Mx.cmpV st o v u with | some r => .ok (.bool r) st | none => .bad) := by
  intro pins s σ H x y v' u' Q I rx ry h
  obtain ⟨φ, st, v, u, rep, rv, ru, post⟩ := h
  obtain ⟨b, hb, q⟩ := Post.cmp rep post
  cases o with
  | eq =>
    obtain ⟨d, e, h1, h2, h3, h4, h5⟩ := eqS_data rep rv ru hb
    rw [← hK] at h1 h2
    exact op_eqD (by omega) pins s σ H _ _ _ _ Q I rx ry ⟨d, e, h1, h2, h3, h4, by rw [h5]; exact q⟩
  | ne =>
    have hb' : (Mx.eqS st v u).map (!·) = some b := hb
    cases he : Mx.eqS st v u with
    | none => rw [he] at hb'; cases hb'
    | some c =>
      rw [he] at hb'
      obtain ⟨d, e, h1, h2, h3, h4, h5⟩ := eqS_data rep rv ru he
      rw [← hK] at h1 h2
      exact op_neD (by omega) pins s σ H _ _ _ _ Q I rx ry ⟨d, e, h1, h2, h3, h4, by rw [h5]; rw [← Option.some.inj hb'] at q; exact q⟩
  | lt =>
    cases rv <;> cases ru <;> first | (cases hb; done) | skip
    rename_i i j
    cases hb
    exact op_lt pins s σ H _ _ _ _ Q I rx ry ⟨i, j, rfl, rfl, q⟩
  | le =>
    cases rv <;> cases ru <;> first | (cases hb; done) | skip
    rename_i i j
    cases hb
    exact op_le pins s σ H _ _ _ _ Q I rx ry ⟨i, j, rfl, rfl, q⟩
  | gt =>
    cases rv <;> cases ru <;> first | (cases hb; done) | skip
    rename_i i j
    cases hb
    exact op_gt pins s σ H _ _ _ _ Q I rx ry ⟨i, j, rfl, rfl, q⟩
  | ge =>
    cases rv <;> cases ru <;> first | (cases hb; done) | skip
    rename_i i j
    cases hb
    exact op_ge pins s σ H _ _ _ _ Q I rx ry ⟨i, j, rfl, rfl, q⟩
  | inn => exact (in_run hK hw hu I rx ry rep rv ru hb).1 Q q
  | nin =>
    have hb' : (Mx.inS st v u).map (!·) = some b := hb
    cases he : Mx.inS st v u with
    | none => rw [he] at hb'; cases hb'
    | some c =>
      rw [he] at hb'
      exact (in_run hK hw hu I rx ry rep rv ru he).2 Q (by rw [← Option.some.inj hb'] at q; exact q)
end Sd
end

section
set_option Elab.async false
set_option linter.all false
set_option maxRecDepth 100000
set_option maxHeartbeats 1000000
namespace Sd
open PySem PySem.Spec PyProof.Rows L2
open Mx (Val Res SR Op Cmp Ty Tg E S Store)

/-! ### the check -/
structure Tb where
  fn : List (Option Str)
  mt : List (Option Str)
  gl : List (Str × Val)
  cl : List Str
  xc : List Str
  fl : List Str
  xl : Str
structure Sc where
  N : List Str
  sc : Scope
  fnb : Str → Bool
  top : Bool := true

def plain : Expr → Bool
  | .Starred _ _ => false
  | .Set _ _ _ => false
  | .Slice _ _ _ _ => false
  | .NamedExpr _ _ _ => false
  | .GeneratorExp _ _ _ _ => false
  | .SetComp _ _ _ _ => false
  | .Await _ _ => false
  | .Yield _ _ => false
  | .YieldFrom _ _ => false
  | _ => true
def noComp : Expr → Bool
  | .ListComp _ _ _ _ => false
  | .SetComp _ _ _ _ => false
  | .DictComp _ _ _ _ _ => false
  | _ => true
/-- may stand before a dot -/
def base : Expr → Bool
  | .Call (.Name _ _) [] [] _ => false
  | _ => true
/-- as a test: its own truth -/
def tval : Expr → Bool
  | .UnaryOp .Not _ _ => false
  | .BoolOp _ _ _ => false
  | .IfExp _ _ _ _ => false
  | .Compare _ _ _ _ => false
  | _ => true

def okN (x : Str) : Bool := !(x == ("__debug__" : Str)) && !(x == ("__classdict__" : Str)) && !(x == ("__name__" : Str))
def visB (sc : Scope) (x : Str) : Bool := match sc.names.lookup x with
  | some .local => true
  | some .cell => true
  | some .free => true
  | _ => false
def locB (sc : Scope) (x : Str) : Bool := match sc.names.lookup x with
  | some .local => true
  | some .cell => true
  | _ => false
def glB (sc : Scope) (x : Str) : Bool := match sc.names.lookup x with
  | some .globalImplicit => true
  | _ => false
theorem visB_ok {sc : Scope} {x : Str} (h : visB sc x = true) : Vis sc x := by
  unfold visB at h
  split at h
  · rename_i e; exact .inl e
  · rename_i e; exact .inr (.inl e)
  · rename_i e; exact .inr (.inr e)
  · cases h
theorem locB_ok {sc : Scope} {x : Str} (h : locB sc x = true) : Loc sc x := by
  unfold locB at h
  split at h
  · rename_i e; exact .inl e
  · rename_i e; exact .inr e
  · cases h
theorem glB_ok {X : Cx} {x : Str} (h : glB X.env.scope x = true) : Gl X x := by
  unfold glB at h
  split at h
  · rename_i e; exact e
  · cases h

def chars (s : List Nat) : Bool := Mx.strOk s
def cstB : Val → Const → Bool
  | .none, .none => true
  | .bool a, .bool b => a == b
  | .int a, .int b => decide (a = b)
  | .str s, .str x => decide (x.cps.toList = s) && chars s
  | _, _ => false
mutual
def vsame : Val → Val → Bool
  | .none, .none => true
  | .bool a, .bool b => a == b
  | .int a, .int b => decide (a = b)
  | .str a, .str b => decide (a = b)
  | .tup a, .tup b => vsameL a b
  | .fn a, .fn b => decide (a = b)
  | _, _ => false
def vsameL : List Val → List Val → Bool
  | [], [] => true
  | x :: xs, y :: ys => vsame x y && vsameL xs ys
  | _, _ => false
end
mutual
theorem vsame_ok : ∀ {a b : Val}, vsame a b = true → a = b
  | .none, .none, _ => rfl
  | .bool a, .bool b, h => by simp [vsame] at h; rw [h]
  | .int a, .int b, h => by simp [vsame] at h; rw [h]
  | .str a, .str b, h => by simp [vsame] at h; rw [h]
  | .tup a, .tup b, h => by
    rw [vsame] at h
    rw [vsameL_ok h]
  | .fn a, .fn b, h => by simp [vsame] at h; rw [h]
  | .ref _, _, h => by simp [vsame] at h
  | .clo _ _, _, h => by simp [vsame] at h
  | .exc _, _, h => by simp [vsame] at h
  | .none, .bool _, h | .none, .int _, h | .none, .str _, h | .none, .tup _, h | .none, .ref _, h | .none, .fn _, h | .none, .clo _ _, h | .none, .exc _, h => by simp [vsame] at h
  | .bool _, .none, h | .bool _, .int _, h | .bool _, .str _, h | .bool _, .tup _, h | .bool _, .ref _, h | .bool _, .fn _, h | .bool _, .clo _ _, h | .bool _, .exc _, h => by simp [vsame] at h
  | .int _, .none, h | .int _, .bool _, h | .int _, .str _, h | .int _, .tup _, h | .int _, .ref _, h | .int _, .fn _, h | .int _, .clo _ _, h | .int _, .exc _, h => by simp [vsame] at h
  | .str _, .none, h | .str _, .bool _, h | .str _, .int _, h | .str _, .tup _, h | .str _, .ref _, h | .str _, .fn _, h | .str _, .clo _ _, h | .str _, .exc _, h => by simp [vsame] at h
  | .tup _, .none, h | .tup _, .bool _, h | .tup _, .int _, h | .tup _, .str _, h | .tup _, .ref _, h | .tup _, .fn _, h | .tup _, .clo _ _, h | .tup _, .exc _, h => by simp [vsame] at h
  | .fn _, .none, h | .fn _, .bool _, h | .fn _, .int _, h | .fn _, .str _, h | .fn _, .tup _, h | .fn _, .ref _, h | .fn _, .clo _ _, h | .fn _, .exc _, h => by simp [vsame] at h
theorem vsameL_ok : ∀ {a b : List Val}, vsameL a b = true → a = b
  | [], [], _ => rfl
  | x :: xs, y :: ys, h => by
    rw [vsameL, Bool.and_eq_true] at h
    rw [vsame_ok h.1, vsameL_ok h.2]
  | [], _ :: _, h => by simp [vsameL] at h
  | _ :: _, [], h => by simp [vsameL] at h
end

def tyName : Ty → Option Str
  | .int => some "int" | .bool => some "bool" | .tup => some "tuple" | .str => some "str" | .dict => some "dict" | .list => some "list"
  | _ => none

/-- the scope of a comprehension's block -/
def blkSc (q : Sc) (scope : Scope) : Sc := ⟨q.N, relS scope q.sc, fun x => scope.names.lookup x == some .cell, false⟩
def ownN (N : List Str) (own : List Nat) : List (Str × Nat) := own.map fun i => (N.getD i Str.empty, i)

def isNil : E → Bool
  | .nil => true
  | _ => false
/-- a part of an f-string: a text -/
def isJ : E → Bool
  | .fmt _ => true
  | .cst (.str _) => true
  | _ => false
def isTT : E → Bool
  | .cst (.bool true) => true
  | _ => false
def isTup : Expr → Bool
  | .Tuple _ _ _ => true
  | _ => false
def isTgt : Expr → Bool
  | .Name _ _ => true
  | .Tuple _ _ _ => true
  | _ => false
/-- a walk of pairs goes to a tuple of targets -/
def rawTg : E → Expr → Bool
  | .enum _, e => isTup e
  | .zip _ _, e => isTup e
  | .items _, e => isTup e
  | _, _ => true
/-- its value is a list, a tuple or a text -/
def isQ : E → Bool
  | .itr _ => true
  | .comp _ _ _ _ _ => true
  | _ => false
def isComp : E → Bool
  | .comp _ _ _ _ _ => true
  | _ => false
def blkB (N : List Str) (sc scope : Scope) (own : List Nat) : Bool :=
  decide (scope.kind = .function) && scope.names.all (fun y => decide (scope.names.lookup y.1 = some y.2)) && own.all (fun i => decide (i < N.length)) &&
  scope.names.all (fun y => !decide (y.2 = .free) || decide (sc.names.lookup y.1 = some .cell) || decide (sc.names.lookup y.1 = some .free)) &&
  scope.names.all (fun y => !(decide (y.2 = .local) || decide (y.2 = .cell)) || own.any (fun i => decide (N.getD i Str.empty = y.1)) || !decide (y.1 ∈ N))
def tgIn : Tg → List Nat → Bool
  | .name i, own => own.contains i
  | .attr _ _, _ => false
  | .nil, _ => true
  | .cons a b, own => tgIn a own && tgIn b own

def chkT (q : Sc) : Tg → Expr → Bool
  | .name i, .Name x _ => decide (q.N[i]? = some x) && locB q.sc x && (q.fnb x || decide (q.sc.names.lookup x = some .local))
  | .nil, .Tuple [] _ _ => true
  | .cons a b, .Tuple (e :: es) k p => isTgt e && chkT q a e && chkT q b (.Tuple es k p)
  | _, _ => false
def methB (x : Expr) (n m : Str) (ap cp : Pos) : Bool := decide (n = m) && (ap.endLine == cp.line) && base x && plain x

mutual
def chkE (T : Tb) : Sc → E → Expr → Bool
  | q, .var i, .Name x _ => decide (q.N[i]? = some x) && visB q.sc x && okN x
  | _, .cst v, .Constant c _ _ => cstB v c
  | q, .glob k v, .Name x _ => (match T.gl[k]? with
    | some p => decide (p.1 = x) && vsame p.2 v
    | none => false) && glB q.sc x && okN x
  | _, .nil, .Tuple [] _ _ => true
  | q, .cons a r, .Tuple (e :: es) _ _ => decide (es.length ≤ 1000) && plain e && chkE T q a e && chkA T q r es
  | q, .lst es, .List xs _ => decide (xs.length ≤ 1000) && chkA T q es xs
  | q, .bin o a b, .BinOp l op r _ => decide (opOf o = op) && plain l && plain r && chkE T q a l && chkE T q b r
  | q, .neg a, .UnaryOp .USub x _ => plain x && chkE T q a x
  | q, .cmp o a b, .Compare l [op] [r] _ => decide (cmpOf o = op) && plain l && plain r && chkE T q a l && chkE T q b r
  | q, .isc n v a, .Compare l [op] [.Constant c _ _] _ => decide (op = if n then .IsNot else .Is) && cstB v c && plain l && chkE T q a l
  | q, .chain a b c, .Compare l [.LtE, .LtE] [x, y] _ => plain l && plain x && plain y && chkE T q a l && chkE T q b x && chkE T q c y
  | q, .and a b, .BoolOp .And (x :: y :: r) p => plain x && chkE T q a x && (match r with
    | [] => plain y && chkE T q b y
    | _ :: _ => chkE T q b (.BoolOp .And (y :: r) p))
  | q, .or a b, .BoolOp .Or (x :: y :: r) p => plain x && chkE T q a x && (match r with
    | [] => plain y && chkE T q b y
    | _ :: _ => chkE T q b (.BoolOp .Or (y :: r) p))
  | q, .not a, .UnaryOp .Not x _ => plain x && chkE T q a x
  | q, .ite c a b, .IfExp x y z _ => plain x && plain y && plain z && chkE T q c x && chkE T q a y && chkE T q b z
  | q, .sub a i, .Subscript x y _ => plain x && plain y && chkE T q a x && chkE T q i y
  | q, .call f es, .Call (.Name x _) (y :: ys) [] _ => decide (T.fn[f]? = some (some x)) && glB q.sc x && okN x && chkA T q es (y :: ys)
  | q, .call f es, .Call (.Name x _) [] [] _ => decide (T.fn[f]? = some (some x)) && glB q.sc x && okN x && chkA T q es []
  | q, .len a, .Call (.Name x _) [y] [] _ => decide (x = ("len" : Str)) && glB q.sc x && plain y && chkE T q a y
  | q, .slc a lo hi, .Subscript x (.Slice l u none _) _ => plain x && chkE T q a x && (match l with
    | none => isNil lo
    | some e => !isNil lo && plain e && chkE T q lo e) && (match u with
    | none => isNil hi
    | some e => !isNil hi && plain e && chkE T q hi e)
  | q, .isi t a, .Call (.Name x _) [y, .Name n _] [] _ => decide (x = ("isinstance" : Str)) && glB q.sc x && plain y && chkE T q a y && (match t with
    | .verr => decide (n = ("ValueError" : Str)) && glB q.sc n
    | .xcls k => decide (T.xc[k]? = some n) && glB q.sc n && okN n
    | t => (match tyName t with
      | some m => decide (n = m) && glB q.sc n
      | none => false))
  | q, .intOf a, .Call (.Name x _) [y] [] _ => decide (x = ("int" : Str)) && glB q.sc x && plain y && chkE T q a y
  | q, .strOf a, .Call (.Name x _) [y] [] _ => decide (x = ("str" : Str)) && glB q.sc x && plain y && chkE T q a y
  | q, .fmt a, .FormattedValue y k none _ => decide (k = -1) && plain y && chkE T q a y
  | q, .fstr es, .JoinedStr (x :: y :: r) _ => decide (r.length ≤ 90) && chkJ T q es (x :: y :: r)
  | q, .app a e, .Call (.Attribute x n ap) [y] [] cp => methB x n "append" ap cp && plain y && chkE T q a x && chkE T q e y
  | q, .idx a e, .Call (.Attribute x n ap) [y] [] cp => methB x n "index" ap cp && plain y && chkE T q a x && chkE T q e y
  | q, .idxS a e, .Call (.Attribute x n ap) [y] [] cp => methB x n "index" ap cp && plain y && chkE T q a x && chkE T q e y
  | q, .cnt a e, .Call (.Attribute x n ap) [y] [] cp => methB x n "count" ap cp && plain y && chkE T q a x && chkE T q e y
  | q, .split a e, .Call (.Attribute x n ap) [y] [] cp => methB x n "split" ap cp && plain y && chkE T q a x && chkE T q e y
  | q, .joinR a r, .Call (.Attribute x n ap) [y] [] cp => methB x n "join" ap cp && plain y && chkE T q a x && chkE T q r y
  | q, .tupR r, .Call (.Name x _) [y] [] _ => decide (x = ("tuple" : Str)) && glB q.sc x && plain y && isQ r && chkR T q r y
  | q, .lstR r, .Call (.Name x _) [y] [] _ => decide (x = ("list" : Str)) && glB q.sc x && plain y && isQ r && chkR T q r y
  | q, .lstR r, .ListComp e gs sc p => isComp r && chkR T q r (.ListComp e gs sc p)
  | q, .allR r, .Call (.Name x _) [y] [] _ => decide (x = ("all" : Str)) && glB q.sc x && plain y && isComp r && chkR T q r y
  | q, .anyR r, .Call (.Name x _) [y] [] _ => decide (x = ("any" : Str)) && glB q.sc x && plain y && isComp r && chkR T q r y
  | _, _, _ => false
def chkA (T : Tb) : Sc → E → List Expr → Bool
  | _, .nil, [] => true
  | q, .cons a r, e :: es => plain e && chkE T q a e && chkA T q r es
  | _, _, _ => false
/-- the parts of an f-string -/
def chkJ (T : Tb) : Sc → E → List Expr → Bool
  | _, .nil, [] => true
  | q, .cons a r, p :: es => isJ a && chkE T q a p && chkJ T q r es
  | _, _, _ => false
/-- what is walked -/
def chkR (T : Tb) : Sc → E → Expr → Bool
  | q, .itr a, e => plain e && chkE T q a e
  | q, .comp t src cond elt own, .ListComp e [⟨tg, it, ifs, 0⟩] scope _ => plain it && plain e && isTgt tg && rawTg src tg && tgIn t own && blkB q.N q.sc scope own && chkT (blkSc q scope) t tg && chkR T q src it && (match ifs with
    | [] => isTT cond
    | [k] => plain k && chkE T (blkSc q scope) cond k
    | _ => false) && chkE T (blkSc q scope) elt e
  | q, .range es, .Call (.Name x _) [y] [] _ => decide (x = ("range" : Str)) && glB q.sc x && chkA T q es [y]
  | q, .range es, .Call (.Name x _) [y, z] [] _ => decide (x = ("range" : Str)) && glB q.sc x && chkA T q es [y, z]
  | q, .enum a, .Call (.Name x _) [y] [] _ => decide (x = ("enumerate" : Str)) && glB q.sc x && plain y && chkE T q a y
  | q, .zip a b, .Call (.Name x _) [y, z] [] _ => decide (x = ("zip" : Str)) && glB q.sc x && plain y && plain z && chkE T q a y && chkE T q b z
  | _, _, _ => false
end
/-! ### statements -/
def par2B (q : Sc) (i j : Nat) (x y : Str) (px py : Pos) (vs : List Expr) : Bool := decide (q.sc.kind = .function) && decide (q.N[i]? = some x) && decide (q.N[j]? = some y) && decide (i ≠ j) && decide (q.sc.names.lookup x = some .local) && decide (q.sc.names.lookup y = some .local) &&
  (px.line == py.line) && !vs.all (foldedForSure 8) && !vs.all (constantsAlone 8)
/-- arguments that are names -/
def varsE : E → Bool
  | .nil => true
  | .cons (.var _) r => varsE r
  | _ => false
def isTupE : Expr → Bool
  | .Tuple _ _ _ => true
  | _ => false
def chkS (T : Tb) (q : Sc) : S → List Stmt → Bool
  | .skip, [] => true
  | .skip, [.Pass _] => true
  | .seq a b, s :: r => chkS T q a [s] && chkS T q b r
  | .expr e, [.Expr x _] => noComp x && plain x && chkE T q e x
  | .asg (.name i) e, [.Assign [.Name x p] v _] => plain v && chkT q (.name i) (.Name x p) && chkE T q e v
  | .asg (.cons (.name i) (.cons (.name j) .nil)) e, [.Assign [.Tuple [.Name x px, .Name y py] kt pt] v _] => plain v && (if isTupE v then (match v with
      | .Tuple [a, b] _ _ => par2B q i j x y px py [a, b] && plain a && plain b && chkE T q e v
      | _ => false)
    else noComp v && chkT q (.cons (.name i) (.cons (.name j) .nil)) (.Tuple [.Name x px, .Name y py] kt pt) && chkE T q e v)
  | .asg t e, [.Assign [.Tuple ts kt pt] v _] => plain v && noComp v && !isTupE v && chkT q t (.Tuple ts kt pt) && chkE T q e v
  | .setSub a i e, [.Assign [.Subscript x y _] v _] => plain v && noComp v && plain x && plain y && chkE T q a x && chkE T q i y && chkE T q e v
  | .ret e, [.Return (some v) _] => plain v && chkE T q e v
  | .retN, [.Return none _] => true
  | .ite k a b, [.If c x y _] => plain c && chkE T q k c && chkS T q a x && chkS T q b y
  | .for_ t src body, [.For tg it b [] _] => plain it && isTgt tg && rawTg src tg && chkT q t tg && chkR T q src it && chkS T q body b
  | .while_ k body, [.While c b [] _] => plain c && chkE T q k c && chkS T q body b
  | .cont, [.Continue _] => true
  | .tryAs f es ir ie ic, [.Try [.Assign [.Name r pr] (.Call (.Name fx pf) args [] pc) pa] [.ExceptHandler (some (.Name x _)) (some n) [.Assign [.Name m pm] (.Name n' pn) ps] _] [] [] _] =>
    q.top && decide (x = T.xl) && glB q.sc x && okN x && decide (T.fn[f]? = some (some fx)) && glB q.sc fx && okN fx && chkA T q es args && varsE es && !args.isEmpty && chkT q (.name ir) (.Name r pr) && decide (q.N[ie]? = some n) && decide (q.sc.names.lookup n = some .local) && decide (n' = n) && okN n && chkT q (.name ic) (.Name m pm) && decide (ie ≠ ic)
  | .raise k, [.Raise (some (.Call (.Name x _) [.Constant (.str _) _ _] [] _)) none _] => decide (T.xc[k]? = some x) && glB q.sc x && okN x
  | _, _ => false
end Sd
end

section
set_option Elab.async false
set_option linter.all false
set_option maxRecDepth 100000
set_option maxHeartbeats 1000000
set_option autoImplicit false
namespace Sd
open PySem PySem.Spec PyProof.Rows L2
open Mx (Val Res SR Op Cmp Ty Tg E S Store)

structure Cfg where
  g : G
  T : Tb
  P : Mx.Prog
  wf : Nat
def Cfg.cx (c : Cfg) (d lo : Nat) : Mx.Ctx := ⟨lo, Mx.callF c.P c.wf d, Mx.callC c.P c.wf d, c.wf⟩
def lev (d : Nat) : Nat := 2 * d

/-- a def's promise: what the machine answers -/
def spF (c : Cfg) (d f : Nat) : Sp := fun vs H Q E => ∃ φ st args lo lk, Rep c.g φ st H ∧ RVs c.g H φ args vs ∧
  Post c.g lo lk (fun x H' => E (.ref (c.g.xa x)) none H') φ H (Mx.callF c.P c.wf d f args lo lk st) Q

/-- the built-ins that the program uses by name -/
def bnames : List Str := ["len", "isinstance", "all", "any", "range", "tuple", "list", "sorted", "enumerate", "set", "int", "zip", "min", "max", "sum", "str", "dict", "bool", "ValueError"]

/-- what is known of the whole program -/
structure GX (c : Cfg) (d : Nat) (X : Cx) : Prop where
  hK : X.K = c.g.K
  hw : X.w = c.g.w
  ok : GOk c.g
  bn : ∀ x ∈ bnames, X.mg x = none
  gl : ∀ (k : Nat) (x : Str) (v : Val), c.T.gl[k]? = some (x, v) → ∃ y u, X.mg x = some u ∧ RelV y u ∧ ∀ H φ, RV c.g H φ v y
  fn : ∀ (f : Nat) (x : Str), c.T.fn[f]? = some (some x) → X.mg x = some (.ref (c.g.fa f)) ∧ PySem.W.keepIn X.K (.ref (c.g.fa f)) = true
  fns : ∀ (f : Nat), f < c.T.fn.length → ∃ fdat ps, FnOk X.prog X.w X.K X.mg X.base (L2.CX X.prog X.w) (lev d) (c.g.fa f) fdat ps (spF c d f) ∧ Binds X.K fdat ps []
  xc : ∀ (k : Nat) (x : Str), c.T.xc[k]? = some x → X.mg x = some (.ref (c.g.xa k)) ∧ PySem.W.keepIn X.K (.ref (c.g.xa k)) = true ∧ Raises X (.ref (c.g.xa k)) ∧ ∃ B newId initId bmB, ExcBaseFacts B newId initId bmB ∧ PySem.W.excIn X.K (c.g.xa k) bmB newId = true
  xi : ∀ k, k < 10 → ExcC X.K (c.g.xa k) ∧ PySem.W.kitOne X.K (.ref (c.g.xa k)) (.type "ValueError") = some true ∧ PySem.W.exmOne X.K (.ref (c.g.xa k)) (.ref c.g.xl) = some true ∧ ∀ j, j < 10 → PySem.W.kitOne X.K (.ref (c.g.xa k)) (.ref (c.g.xa j)) = some (k == j)
  xl : X.mg c.T.xl = some (.ref c.g.xl)

/-- what is known at a place -/
structure OkX (c : Cfg) (d : Nat) (q : Sc) (W : Nat → Hp → Prop) (X : Cx) : Prop where
  gx : GX c d X
  calm : X.calm = true
  N : X.N = q.N
  nd : q.N.Nodup
  sc : X.env.scope = q.sc
  fnb : X.fn = q.fnb
  room : Room (lev d + 1) X.A
  pass : PassesOwn (model X.prog X.w) X.A X.env X.xe
  takes : Takes X (fun cls dd _ H => ∃ x, cls = .ref (c.g.xa x) ∧ dd = none ∧ W x H)
  top : q.top = true → X.stack = X.env :: X.outer ∧ X.env.frame = some X.env.locals ∧ X.ex = []

theorem OkX.units {c : Cfg} {d : Nat} {q : Sc} {W : Nat → Hp → Prop} {X : Cx} (o : OkX c d q W X) : X.A.units + 65 < cLine := by
  have := o.room.un
  omega

/-- an expression as a value, and stored in a name on its line (a comprehension) -/
def PEA (X : Cx) (e : Expr) (t : TE) : Prop := PE X e t ∧ ∀ (i : Nat) (y : Str) (py spos : Pos), X.N[i]? = some y → X.env.scope.names.lookup y = some .local →
  swapsWith e (some (.Name y py)) spos.line X.env = pure true → PS X (.Assign [.Name y py] e spos) (tAsg t (gName i))

theorem swaps_no {e : Expr} (h : noComp e = true) (t : Option Expr) (l : Nat) (env : Env) : swapsWith e t l env = pure false := by
  cases e <;> first | rfl | (cases h; done)
theorem pea_of {X : Cx} {e : Expr} {t : TE} (hn : noComp e = true) (h : PE X e t) : PEA X e t := by
  refine ⟨h, fun i y py spos _ _ hs => ?_⟩
  rw [swaps_no hn] at hs
  cases hs

def SndE (c : Cfg) (m : E) : Prop := ∀ (d : Nat) (q : Sc) (W : Nat → Hp → Prop) (X : Cx) (lo : Nat) (lk : List Nat) (e : Expr), OkX c d q W X → chkE c.T q m e = true → PEA X e (TEv c.g lo lk W (Mx.evE (c.cx d lo) m lk))

/-- arguments -/
def PostL (g : G) (lo : Nat) (lk : List Nat) (W : Nat → Hp → Prop) (φ : List Addr) (H : Hp) (r : Res Val) (Q : List V → Hp → Prop) : Prop :=
  match r with
  | .ok v st => ∃ l, v = .tup l ∧ ∀ φ' H' xs, Ext g lo lk φ H φ' H' → Rep g φ' st H' → RVs g H' φ' l xs → Q xs H'
  | .exc c st => ∀ φ' H', Ext g lo lk φ H φ' H' → Rep g φ' st H' → W c H'
  | .bad => False
def TAv (g : G) (lo : Nat) (lk : List Nat) (W : Nat → Hp → Prop) (m : Mx.Env → Store → Res Val) : TA := fun σ H Q =>
  ∃ φ st env, REnv g H φ env σ ∧ Rep g φ st H ∧ PostL g lo lk W φ H (m env st) Q
def SndA (c : Cfg) (m : E) : Prop := ∀ (d : Nat) (q : Sc) (W : Nat → Hp → Prop) (X : Cx) (lo : Nat) (lk : List Nat) (es : List Expr), OkX c d q W X → chkA c.T q m es = true → PA X es (TAv c.g lo lk W (Mx.evE (c.cx d lo) m lk))

theorem PA.imp {X : Cx} {es : List Expr} {t t' : TA} (h : PA X es t) (f : ∀ σ H Q, t' σ H Q → t σ H Q) : PA X es t' :=
  ⟨fun pos pins s σ H Q I q => h.run pos pins s σ H Q I (f _ _ _ q)⟩

theorem star_cons {e : Expr} {es : List Expr} {env : Env} (h : plain e = true) : starEach (e :: es) env = (false, eval e env) :: starEach es env := by
  cases e <;> first | rfl | (cases h; done)
theorem chkA_plain {T : Tb} {q : Sc} : ∀ {m : E} {es : List Expr}, chkA T q m es = true → es.all plain = true
  | .nil, [], _ => rfl
  | .cons a r, e :: es, h => by
    simp only [chkA, Bool.and_eq_true] at h
    rw [List.all_cons, h.1.1, chkA_plain h.2]
    rfl
  | .nil, _ :: _, h => by simp [chkA] at h
  | .cons _ _, [], h => by simp [chkA] at h
  | .var _, _, h | .cst _, _, h | .glob _ _, _, h | .lst _, _, h | .dsp _, _, h | .bin _ _ _, _, h | .neg _, _, h | .cmp _ _ _, _, h | .isc _ _ _, _, h | .chain _ _ _, _, h | .and _ _, _, h | .or _ _, _, h | .not _, _, h | .ite _ _ _, _, h | .sub _ _, _, h | .slc _ _ _, _, h | .rev _, _, h | .attr _ _, _, h | .call _ _, _, h | .callv _ _, _, h | .meth _ _ _ _, _, h | .new _ _ _, _, h | .clo _ _, _, h | .isi _ _, _, h | .len _, _, h | .intOf _, _, h | .strOf _, _, h | .fmt _, _, h | .max2 _ _, _, h | .fstr _, _, h | .app _ _, _, h | .pop _, _, h | .pop0 _, _, h | .idx _ _, _, h | .idxS _ _, _, h | .cnt _ _, _, h | .get _ _ _, _, h | .sdef _ _ _, _, h | .split _ _, _, h | .ext _ _, _, h | .tupR _, _, h | .lstR _, _, h | .allR _, _, h | .anyR _, _, h | .sumR _, _, h | .lenR _, _, h | .minR _, _, h | .maxR _ _, _, h | .minC _ _ _, _, h | .joinR _ _, _, h | .dictR _, _, h | .dcomp _ _ _ _ _, _, h | .itr _, _, h | .comp _ _ _ _ _, _, h | .comp2 _ _ _ _ _ _ _ _ _, _, h | .range _, _, h | .enum _, _, h | .zip _ _, _, h | .items _, _, h | .keys _, _, h | .vals _, _, h | .sortR _, _, h | .setR _, _, h | .sortC _ _ _, _, h | .sortF _ _, _, h | .sortLen _, _, h => by simp [chkA] at h
theorem star_any {es : List Expr} {env : Env} {pos : Pos} (h : es.all plain = true) : (backTo pos (starEach es env)).any (·.1) = false := by
  induction es with
  | nil => rfl
  | cons e r ih =>
    rw [List.all_cons, Bool.and_eq_true] at h
    rw [star_cons h.1]
    have := ih h.2
    unfold backTo at this ⊢
    rw [List.map_cons, List.any_cons, this]
    rfl
end Sd
end

section
set_option Elab.async false
set_option linter.all false
set_option maxRecDepth 100000
set_option maxHeartbeats 1000000
set_option autoImplicit false
namespace Sd
open PySem PySem.Spec PyProof.Rows L2
open Mx (Val Res SR Op Cmp Ty Tg E S Store)
variable {c : Cfg}

theorem okN_ok {x : Str} (h : okN x = true) : (x == ("__debug__" : Str)) = false ∧ (x == ("__classdict__" : Str)) = false ∧ x ≠ "__name__" := by
  simp only [okN, Bool.and_eq_true, Bool.not_eq_true'] at h
  exact ⟨h.1.1, h.1.2, fun e => by subst e; simp at h⟩

theorem snd_var (i : Nat) : SndE c (.var i) := by
  intro d q W X lo lk e o h
  cases e <;> first | (cases h; done) | skip
  rename_i x pos
  simp only [chkE, Bool.and_eq_true, decide_eq_true_eq] at h
  obtain ⟨⟨h1, h2⟩, h3⟩ := h
  obtain ⟨n1, n2, _⟩ := okN_ok h3
  refine pea_of rfl (PE.imp (pe_var (i := i) (by rw [o.N]; exact h1) (by rw [o.sc]; exact visB_ok h2) n1 n2) fun σ H Q z => ?_)
  obtain ⟨φ, st, env, re, rp, p⟩ := z
  simp only [Mx.evE] at p
  split at p
  · rename_i v hv
    obtain ⟨y, hy, rv⟩ := re.at_ i v hv
    exact ⟨y, hy, p.val rp rv⟩
  · exact p.elim

theorem cst_ok {v : Val} {k : Const} {X : Cx} {j : Nat} {pos : Pos} (h : cstB v k = true) : ∃ y, PE X (.Constant k j pos) (tC y) ∧ ∀ g H φ, RV g H φ v y := by
  cases v <;> cases k <;> first | (cases h; done) | skip
  · exact ⟨_, pe_non, fun _ _ _ => .none⟩
  · rename_i a b
    have e : a = b := by simpa [cstB] using h
    subst e
    exact ⟨_, pe_bl, fun _ _ _ => .bool _⟩
  · rename_i a b
    have e : a = b := by simpa [cstB] using h
    subst e
    exact ⟨_, pe_int, fun _ _ _ => .int _⟩
  · rename_i a b
    simp only [cstB, Bool.and_eq_true, decide_eq_true_eq] at h
    obtain ⟨h1, h2⟩ := h
    subst h1
    exact ⟨.str b, pe_str, fun _ _ _ => .str b.cps.toList h2⟩
theorem snd_cst (v : Val) : SndE c (.cst v) := by
  intro d q W X lo lk e o h
  cases e <;> first | (cases h; done) | skip
  rename_i k j pos
  obtain ⟨y, hy, rv⟩ := cst_ok (X := X) (j := j) (pos := pos) (show cstB v k = true from h)
  refine pea_of rfl (PE.imp hy fun σ H Q z => ?_)
  obtain ⟨φ, st, env, re, rp, p⟩ := z
  exact Post.val p rp (rv _ _ _)
theorem snd_glob (k : Nat) (v : Val) : SndE c (.glob k v) := by
  intro d q W X lo lk e o h
  cases e <;> first | (cases h; done) | skip
  rename_i x pos
  simp only [chkE, Bool.and_eq_true] at h
  obtain ⟨⟨h1, h2⟩, h3⟩ := h
  obtain ⟨n1, n2, _⟩ := okN_ok h3
  cases hg : c.T.gl[k]? with
  | none => rw [hg] at h1; cases h1
  | some p =>
    rw [hg] at h1
    simp only [Bool.and_eq_true, decide_eq_true_eq] at h1
    obtain ⟨e1, e2⟩ := h1
    have e3 := vsame_ok e2
    obtain ⟨y, u, m1, m2, m3⟩ := o.gx.gl k p.1 p.2 hg
    rw [e1] at m1
    rw [e3] at m3
    refine pea_of rfl (PE.imp (pe_glob (glB_ok (by rw [o.sc]; exact h2)) m1 m2 n1) fun σ H Q z => ?_)
    obtain ⟨φ, st, env, re, rp, p⟩ := z
    exact Post.val p rp (m3 _ _)

/-! ### arguments -/
theorem snda_nil : SndA c .nil := by
  intro d q W X lo lk es o h
  cases es <;> first | (cases h; done) | skip
  refine PA.imp pa_nil fun σ H Q z => ?_
  obtain ⟨φ, st, env, re, rp, p⟩ := z
  obtain ⟨l, e, p⟩ := p
  cases e
  exact p φ H [] Ext.refl rp .nil
/-- a first part, then arguments -/
theorem PostL.bind {g : G} {lo : Nat} {lk : List Nat} {W : Nat → Hp → Prop} {φ : List Addr} {H : Hp} {r : Res Val} {k : Val → Store → Res Val} {Q : List V → Hp → Prop} (h : PostL g lo lk W φ H (r.bind k) Q) :
    Post g lo lk W φ H r (fun x H1 => ∃ φ1 st1 v, Ext g lo lk φ H φ1 H1 ∧ Rep g φ1 st1 H1 ∧ RV g H1 φ1 v x ∧ PostL g lo lk W φ1 H1 (k v st1) Q) := by
  cases r with
  | ok v st =>
    intro φ1 H1 x e1 r1 v1
    refine ⟨φ1, st, v, e1, r1, v1, ?_⟩
    have h' : PostL g lo lk W φ H (k v st) Q := h
    cases hk : k v st with
    | ok u st' =>
      rw [hk] at h'
      obtain ⟨l, e, p⟩ := h'
      exact ⟨l, e, fun φ2 H2 y e2 r2 v2 => p φ2 H2 y (e1.trans e2) r2 v2⟩
    | exc c st' =>
      rw [hk] at h'
      intro φ2 H2 e2 r2
      exact h' φ2 H2 (e1.trans e2) r2
    | bad =>
      rw [hk] at h'
      exact h'
  | exc c st => exact h
  | bad => exact h
/-- arguments, then what follows -/
theorem PostL.seq {g : G} {lo : Nat} {lk : List Nat} {W : Nat → Hp → Prop} {φ : List Addr} {H : Hp} {r : Res Val} {k : List Val → Store → Res Val} {Q : VK} (h : Post g lo lk W φ H (r.bind fun l st => match l with | .tup l => k l st | _ => .bad) Q) :
    PostL g lo lk W φ H r (fun xs H1 => ∃ φ1 st1 l, Ext g lo lk φ H φ1 H1 ∧ Rep g φ1 st1 H1 ∧ RVs g H1 φ1 l xs ∧ Post g lo lk W φ1 H1 (k l st1) Q) := by
  cases r with
  | ok v st =>
    cases v <;> first | exact False.elim h | skip
    rename_i l
    refine ⟨l, rfl, fun φ1 H1 xs e1 r1 v1 => ⟨φ1, st, l, e1, r1, v1, ?_⟩⟩
    have h' : Post g lo lk W φ H (k l st) Q := h
    cases hk : k l st with
    | ok u st' =>
      rw [hk] at h'
      intro φ2 H2 y e2 r2 v2
      exact h' φ2 H2 y (e1.trans e2) r2 v2
    | exc c st' =>
      rw [hk] at h'
      intro φ2 H2 e2 r2
      exact h' φ2 H2 (e1.trans e2) r2
    | bad =>
      rw [hk] at h'
      exact h'
  | exc c st => exact h
  | bad => exact h
theorem PostL.imp {g : G} {lo : Nat} {lk : List Nat} {W : Nat → Hp → Prop} {φ : List Addr} {H : Hp} {r : Res Val} {Q Q' : List V → Hp → Prop} (h : PostL g lo lk W φ H r Q) (f : ∀ x H', Q x H' → Q' x H') : PostL g lo lk W φ H r Q' := by
  cases r with
  | ok v st =>
    obtain ⟨l, e, p⟩ := h
    exact ⟨l, e, fun φ' H' x a b c => f _ _ (p φ' H' x a b c)⟩
  | exc c st => exact h
  | bad => exact h

/-- arguments come as a list of their length -/
theorem evA_shape {T : Tb} {q : Sc} {cx : Mx.Ctx} {lk : List Nat} {env : Mx.Env} : ∀ {m : E} {es : List Expr} {st st' : Store} {w : Val}, chkA T q m es = true → Mx.evE cx m lk env st = .ok w st' → ∃ l, w = .tup l ∧ l.length = es.length := by
  intro m
  induction m with
  | nil =>
    intro es st st' w h hk
    cases es with
    | cons _ _ => simp [chkA] at h
    | nil =>
      simp only [Mx.evE] at hk
      cases hk
      exact ⟨[], rfl, rfl⟩
  | cons a r _ ih =>
    intro es st st' w h hk
    cases es with
    | nil => simp [chkA] at h
    | cons e es =>
      simp only [chkA, Bool.and_eq_true] at h
      simp only [Mx.evE] at hk
      cases h1 : Mx.evE cx a lk env st with
      | exc _ _ => rw [h1] at hk; cases hk
      | bad => rw [h1] at hk; cases hk
      | ok x s1 =>
        rw [h1] at hk
        simp only [Res.bind] at hk
        cases h2 : Mx.evE cx r lk env s1 with
        | exc _ _ => rw [h2] at hk; cases hk
        | bad => rw [h2] at hk; cases hk
        | ok y s2 =>
          obtain ⟨l, rfl, hl⟩ := ih h.2 h2
          rw [h2] at hk
          cases hk
          exact ⟨x :: l, rfl, by simp [hl]⟩
  | _ => intro es st st' w h; simp [chkA] at h

theorem snda_cons {a r : E} (ha : SndE c a) (hr : SndA c r) : SndA c (.cons a r) := by
  intro d q W X lo lk es o h
  cases es with
  | nil => cases h
  | cons e es =>
    simp only [chkA, Bool.and_eq_true] at h
    obtain ⟨⟨h1, h2⟩, h3⟩ := h
    refine PA.imp (pa_cons (ha d q W X lo lk e o h2).1 (hr d q W X lo lk es o h3) (star_cons h1)) fun σ H Q z => ?_
    obtain ⟨φ, st, env, re, rp, p⟩ := z
    refine ⟨φ, st, env, re, rp, (PostL.bind p).imp fun x H1 z1 => ?_⟩
    obtain ⟨φ1, st1, v, e1, r1, v1, p1⟩ := z1
    refine ⟨φ1, st1, env, re.mono e1, r1, ?_⟩
    cases hk : Mx.evE (c.cx d lo) r lk env st1 with
    | ok w st2 =>
      obtain ⟨l, rfl, _⟩ := evA_shape h3 hk
      rw [hk] at p1
      obtain ⟨l', e', p1⟩ := p1
      cases e'
      exact ⟨l, rfl, fun φ2 H2 xs e2 r2 v2 => p1 φ2 H2 (x :: xs) e2 r2 (.cons (v1.mono e2) v2)⟩
    | exc k st2 =>
      rw [hk] at p1
      exact p1
    | bad =>
      rw [hk] at p1
      exact p1

/-- a tuple display -/
theorem snd_nil : SndE c .nil := by
  intro d q W X lo lk e o h
  cases e <;> first | (cases h; done) | skip
  rename_i es j pos
  cases es with
  | cons _ _ => cases h
  | nil =>
    refine pea_of rfl (PE.imp (pe_tup pa_nil) fun σ H Q z => ?_)
    obtain ⟨φ, st, env, re, rp, p⟩ := z
    exact ⟨Nat.zero_le _, fun p' hp => Post.newT o.gx.ok p rp .nil hp⟩
theorem snd_cons {a r : E} (ha : SndE c a) (hr : SndA c r) : SndE c (.cons a r) := by
  intro d q W X lo lk e o h
  cases e <;> first | (cases h; done) | skip
  rename_i es j pos
  cases es with
  | nil => cases h
  | cons e es =>
    simp only [chkE, Bool.and_eq_true, decide_eq_true_eq] at h
    obtain ⟨⟨⟨h0, h1⟩, h2⟩, h3⟩ := h
    have h' : chkA c.T q (.cons a r) (e :: es) = true := by simp only [chkA, h1, h2, h3, Bool.and_self]
    refine pea_of rfl (PE.imp (pe_tup (snda_cons ha hr d q W X lo lk (e :: es) o h')) fun σ H Q z => ?_)
    obtain ⟨φ, st, env, re, rp, p⟩ := z
    refine ⟨φ, st, env, re, rp, ?_⟩
    cases hk : Mx.evE (c.cx d lo) (.cons a r) lk env st with
    | ok w st2 =>
      obtain ⟨l, rfl, hl⟩ := evA_shape h' hk
      rw [hk] at p
      refine ⟨l, rfl, fun φ2 H2 xs e2 r2 v2 => ⟨?_, fun p' hp => ?_⟩⟩
      · rw [← v2.length, hl, List.length_cons]
        exact Nat.le_trans (Nat.succ_le_succ h0) (by decide)
      · exact p φ2 _ _ (e2.trans (Ext.tmp o.gx.ok hp)) (r2.tmp o.gx.ok hp) (.tup (.inl (.inl upd_same)) (v2.mono (Ext.tmp (lo := 0) (lk := []) o.gx.ok hp)))
    | exc k st2 =>
      rw [hk] at p
      exact p
    | bad =>
      rw [hk] at p
      exact p
theorem snd_lst {es : E} (ha : SndA c es) : SndE c (.lst es) := by
  intro d q W X lo lk e o h
  cases e <;> first | (cases h; done) | skip
  rename_i xs pos
  simp only [chkE, Bool.and_eq_true, decide_eq_true_eq] at h
  obtain ⟨h0, h1⟩ := h
  refine pea_of rfl (PE.imp (pe_lst (ha d q W X lo lk xs o h1)) fun σ H Q z => ?_)
  obtain ⟨φ, st, env, re, rp, p⟩ := z
  simp only [Mx.evE] at p
  refine ⟨φ, st, env, re, rp, ?_⟩
  cases hk : Mx.evE (c.cx d lo) es lk env st with
  | ok w st2 =>
    obtain ⟨l, rfl, hl⟩ := evA_shape h1 hk
    rw [hk] at p
    refine ⟨l, rfl, fun φ2 H2 ys e2 r2 v2 => ⟨?_, fun p' hp => ?_⟩⟩
    · rw [← v2.length, hl]
      exact Nat.le_trans h0 (by decide)
    · have p' : Post c.g lo lk W φ H (.ok (.ref st2.length) (st2 ++ [.lst l])) Q := p
      exact p' _ _ _ (e2.trans (Ext.new o.gx.ok hp)) (r2.new o.gx.ok hp ⟨ys, upd_same, v2.mono (Ext.new (lo := 0) (lk := []) o.gx.ok hp)⟩) (.ref (by rw [← r2.len]; simp))
  | exc k st2 =>
    rw [hk] at p
    exact p
  | bad =>
    rw [hk] at p
    exact p

/-! ### two parts -/
/-- two expressions, then a rule on their values -/
theorem TEv.two {g : G} {lo : Nat} {lk : List Nat} {W : Nat → Hp → Prop} {ma mb : Mx.Env → Store → Res Val} {f : Store → Val → Val → Res Val} {σ : L2.St} {H : Hp} {Q : VK}
    (h : TEv g lo lk W (fun env st => (ma env st).bind fun x st => (mb env st).bind fun y st => f st x y) σ H Q) :
    TEv g lo lk W ma σ H (fun x H1 => TEv g lo lk W mb σ H1 (fun y H2 => rB g lo lk W f x y H2 Q)) := by
  obtain ⟨φ, st, env, re, rp, p⟩ := h
  refine ⟨φ, st, env, re, rp, (Post.bind p).imp fun x H1 z => ?_⟩
  obtain ⟨φ1, st1, v, e1, r1, v1, p1⟩ := z
  refine ⟨φ1, st1, env, re.mono e1, r1, (Post.bind p1).imp fun y H2 z => ?_⟩
  obtain ⟨φ2, st2, u, e2, r2, v2, p2⟩ := z
  exact ⟨φ2, st2, v, u, r2, v1.mono e2, v2, p2⟩
def rU1 (g : G) (lo : Nat) (lk : List Nat) (W : Nat → Hp → Prop) (f : Store → Val → Res Val) : V → Hp → VK → Prop := fun x H Q =>
  ∃ φ st v, Rep g φ st H ∧ RV g H φ v x ∧ Post g lo lk W φ H (f st v) Q
theorem TEv.one {g : G} {lo : Nat} {lk : List Nat} {W : Nat → Hp → Prop} {ma : Mx.Env → Store → Res Val} {f : Store → Val → Res Val} {σ : L2.St} {H : Hp} {Q : VK}
    (h : TEv g lo lk W (fun env st => (ma env st).bind fun x st => f st x) σ H Q) : TEv g lo lk W ma σ H (fun x H1 => rU1 g lo lk W f x H1 Q) := by
  obtain ⟨φ, st, env, re, rp, p⟩ := h
  refine ⟨φ, st, env, re, rp, (Post.bind p).imp fun x H1 z => ?_⟩
  obtain ⟨φ1, st1, v, e1, r1, v1, p1⟩ := z
  exact ⟨φ1, st1, v, r1, v1, p1⟩

theorem snd_bin {a b : E} (k : Op) (ha : SndE c a) (hb : SndE c b) : SndE c (.bin k a b) := by
  intro d q W X lo lk e o h
  cases e <;> first | (cases h; done) | skip
  rename_i l op r pos
  simp only [chkE, Bool.and_eq_true, decide_eq_true_eq] at h
  obtain ⟨⟨⟨⟨rfl, _⟩, _⟩, h1⟩, h2⟩ := h
  refine pea_of rfl (PE.imp (pe_op (op_bin (lo := lo) (lk := lk) (W := W) o.gx.ok o.gx.hK k) (ha d q W X lo lk l o h1).1 (hb d q W X lo lk r o h2).1) fun σ H Q z => ?_)
  exact TEv.two (f := fun st x y => Mx.binV st k x y) z
theorem snd_neg {a : E} (ha : SndE c a) : SndE c (.neg a) := by
  intro d q W X lo lk e o h
  cases e <;> first | (cases h; done) | skip
  rename_i op x pos
  cases op <;> first | (cases h; done) | skip
  simp only [chkE, Bool.and_eq_true] at h
  refine pea_of rfl (PE.imp (pe_un un_neg (ha d q W X lo lk x o h.2).1) fun σ H Q z => ?_)
  obtain ⟨φ, st, env, re, rp, p⟩ := TEv.one (f := fun st x => match x with | .int i => .ok (.int (-i)) st | _ => .bad) z
  refine ⟨φ, st, env, re, rp, p.imp fun x H1 z1 => ?_⟩
  obtain ⟨φ1, st1, v, r1, v1, p1⟩ := z1
  cases v1 <;> first | exact False.elim p1 | skip
  rename_i i
  exact ⟨i, rfl, Post.val p1 r1 (.int _)⟩
theorem plain_mark {op : CmpOp} {b : Expr} (h : plain b = true) : behindInMarks op b = false := by
  cases b <;> first | rfl | (cases h; done)
theorem snd_cmp {a b : E} (k : Cmp) (ha : SndE c a) (hb : SndE c b) : SndE c (.cmp k a b) := by
  intro d q W X lo lk e o h
  cases e <;> first | (cases h; done) | skip
  rename_i l ops rs pos
  match ops, rs, h with
  | [op], [r], h =>
    simp only [chkE, Bool.and_eq_true, decide_eq_true_eq] at h
    obtain ⟨⟨⟨⟨rfl, _⟩, hp⟩, h1⟩, h2⟩ := h
    refine pea_of rfl (PE.imp (pe_cmpR (op_cmp (lo := lo) (lk := lk) (W := W) o.gx.hK o.gx.hw o.units k) (ha d q W X lo lk l o h1).1 (hb d q W X lo lk r o h2).1 (plain_mark hp)) fun σ H Q z => ?_)
    exact TEv.two (f := fun st x y => match Mx.cmpV st k x y with | some r => .ok (.bool r) st | none => .bad) z
end Sd
end

section
set_option Elab.async false
set_option linter.all false
set_option maxRecDepth 100000
set_option maxHeartbeats 1000000
set_option autoImplicit false
namespace Sd
open PySem PySem.Spec PyProof.Rows L2
open Mx (Val Res SR Op Cmp Ty Tg E S Store)
variable {c : Cfg}

def TTv (g : G) (lo : Nat) (lk : List Nat) (W : Nat → Hp → Prop) (m : Mx.Env → Store → Res Val) : TT := fun σ H Q => TEv g lo lk W m σ H (fun x H1 => ∃ b, x = .bl b ∧ Q b H1)
def isBO : Expr → Bool
  | .BoolOp _ _ _ => true
  | _ => false
def SndT (c : Cfg) (m : E) : Prop := ∀ (d : Nat) (q : Sc) (W : Nat → Hp → Prop) (X : Cx) (lo : Nat) (lk : List Nat) (e : Expr), OkX c d q W X → chkE c.T q m e = true → PT X e (TTv c.g lo lk W (Mx.evE (c.cx d lo) m lk)) ∧ (isBO e = true → PW X e (TTv c.g lo lk W (Mx.evE (c.cx d lo) m lk)))

theorem TEv.imp {g : G} {lo : Nat} {lk : List Nat} {W : Nat → Hp → Prop} {m : Mx.Env → Store → Res Val} {σ : L2.St} {H : Hp} {Q Q' : VK} (h : TEv g lo lk W m σ H Q) (f : ∀ x H', Q x H' → Q' x H') : TEv g lo lk W m σ H Q' := by
  obtain ⟨φ, st, env, re, rp, p⟩ := h
  exact ⟨φ, st, env, re, rp, p.imp f⟩
theorem PW.imp {X : Cx} {e : Expr} {t t' : TT} (h : PW X e t) (f : ∀ σ H Q, t' σ H Q → t σ H Q) : PW X e t' :=
  ⟨fun w pins s σ H Q I q => h.run w pins s σ H Q I (f _ _ _ q)⟩

theorem tval_isTrue {e : Expr} (h : tval e = true) (env : Env) (whole : Sem Value) : isTrue e env whole = (do let v ← whole; standAt e.pos; holding [v] (truthy v)) := by
  cases e <;> first | rfl | (cases h; done) | skip
  rename_i op x p
  cases op <;> first | rfl | (cases h; done)
/-- its value's truth -/
theorem pt_of_pe {g : G} {lo : Nat} {lk : List Nat} {W : Nat → Hp → Prop} {m : Mx.Env → Store → Res Val} {X : Cx} {e : Expr} (ht : tval e = true) (h : PE X e (TEv g lo lk W m)) : PT X e (TTv g lo lk W m) := by
  refine PT.imp (pt_truth h fun whole => tval_isTrue ht _ _) fun σ H Q z => TEv.imp z fun x H1 hx => ?_
  obtain ⟨b, rfl, hb⟩ := hx
  exact ⟨b, rfl, hb⟩
theorem tval_noBO {e : Expr} (h : tval e = true) : isBO e = false := by
  cases e <;> first | rfl | (cases h; done)
theorem sndt_of {m : E} (h : SndE c m) (ht : ∀ T q e, chkE T q m e = true → tval e = true) : SndT c m := by
  intro d q W X lo lk e o hc
  refine ⟨pt_of_pe (ht _ _ _ hc) (h d q W X lo lk e o hc).1, fun hb => ?_⟩
  rw [tval_noBO (ht _ _ _ hc)] at hb
  cases hb

theorem sndt_cmp {a b : E} (k : Cmp) (ha : SndE c a) (hb : SndE c b) : SndT c (.cmp k a b) := by
  intro d q W X lo lk e o h
  cases e <;> first | (cases h; done) | skip
  rename_i l ops rs pos
  match ops, rs, h with
  | [op], [r], h =>
    simp only [chkE, Bool.and_eq_true, decide_eq_true_eq] at h
    obtain ⟨⟨⟨⟨rfl, _⟩, hp⟩, h1⟩, h2⟩ := h
    refine ⟨PT.imp (pt_cmpR (op_cmp (lo := lo) (lk := lk) (W := W) o.gx.hK o.gx.hw o.units k) (ha d q W X lo lk l o h1).1 (hb d q W X lo lk r o h2).1 (plain_mark hp)) fun σ H Q z => ?_, fun hb => by cases hb⟩
    exact TEv.two (f := fun st x y => match Mx.cmpV st k x y with | some r => .ok (.bool r) st | none => .bad) z

/-! is None, is True .. -/
theorem isSame_imm {x : V} {a : Value} (ha : RelV x a) {b : Value} (hb : b = .none ∨ ∃ t, b = .bool t) : isSame a b = pure (a == b) := by
  rcases hb with rfl | ⟨t, rfl⟩ <;> cases x <;> first | (obtain ⟨_, rfl⟩ := ha; rfl) | (cases ha; rfl)
def iscF (n : Bool) (v : Val) (st : Store) (x : Val) : Res Val := match v, x with
    | .none, .none => .ok (.bool (!n)) st
    | .bool b, .bool c => .ok (.bool ((b == c) != n)) st
    | .none, _ => .ok (.bool n) st
    | .bool _, _ => .ok (.bool n) st
    | _, _ => .bad
theorem op_isc {g : G} {lo : Nat} {lk : List Nat} {W : Nat → Hp → Prop} {X : Cx} (n : Bool) (v : Val) : OpR X (compareOp (if n then .IsNot else .Is)) (fun x y H Q => (∀ g H φ, RV g H φ v y) ∧ rU1 g lo lk W (iscF n v) x H Q) := by
  intro pins s σ H x y x' y' Q I rx ry h
  obtain ⟨hy, φ, st, u, rep, ru, p⟩ := h
  have key : ∀ b : Bool, (y' = .none ∨ ∃ t, y' = .bool t) → (x' == y') = b → Q (.bl (b != n)) H → wpAny (model X.prog X.w) X.A (compareOp (if n = true then .IsNot else .Is) x' y') (EP X pins σ Q) X.xe s := fun b h1 h2 h3 => by
    cases n with
    | true =>
      show wpAny _ _ (do return Value.bool (!(← isSame x' y'))) _ _ s
      rw [isSame_imm rx h1, h2]
      refine wpAny_pure ⟨.bl (!b), H, I, rfl, ?_⟩
      cases b <;> exact h3
    | false =>
      show wpAny _ _ (do return Value.bool (← isSame x' y')) _ _ s
      rw [isSame_imm rx h1, h2]
      refine wpAny_pure ⟨.bl b, H, I, rfl, ?_⟩
      cases b <;> exact h3
  have yv := hy g H φ
  cases v <;> first | exact False.elim p | skip
  · cases yv
    cases ry
    cases ru with
    | none => cases rx; exact key true (.inl rfl) rfl (by have := Post.val p rep (.bool _); cases n <;> exact this)
    | bool b => cases rx; exact key false (.inl rfl) rfl (by have := Post.val p rep (.bool _); cases n <;> exact this)
    | int i => obtain ⟨t, rfl⟩ := rx; exact key false (.inl rfl) rfl (by have := Post.val p rep (.bool _); cases n <;> exact this)
    | str z hz => obtain ⟨t, rfl⟩ := rx; exact key false (.inl rfl) rfl (by have := Post.val p rep (.bool _); cases n <;> exact this)
    | tup h1 h2 => cases rx; exact key false (.inl rfl) rfl (by have := Post.val p rep (.bool _); cases n <;> exact this)
    | ref h1 => cases rx; exact key false (.inl rfl) rfl (by have := Post.val p rep (.bool _); cases n <;> exact this)
    | fn f => cases rx; exact key false (.inl rfl) rfl (by have := Post.val p rep (.bool _); cases n <;> exact this)
    | clo h1 h2 => cases rx; exact key false (.inl rfl) rfl (by have := Post.val p rep (.bool _); cases n <;> exact this)
    | exc h1 h2 => cases rx; exact key false (.inl rfl) rfl (by have := Post.val p rep (.bool _); cases n <;> exact this)
  · rename_i t
    cases yv
    cases ry
    cases ru with
    | none => cases rx; exact key false (.inr ⟨_, rfl⟩) rfl (by have := Post.val p rep (.bool _); cases n <;> exact this)
    | bool b => cases rx; exact key (t == b) (.inr ⟨_, rfl⟩) (by cases t <;> cases b <;> rfl) (by have := Post.val p rep (.bool _); exact this)
    | int i => obtain ⟨t, rfl⟩ := rx; exact key false (.inr ⟨_, rfl⟩) rfl (by have := Post.val p rep (.bool _); cases n <;> exact this)
    | str z hz => obtain ⟨t, rfl⟩ := rx; exact key false (.inr ⟨_, rfl⟩) rfl (by have := Post.val p rep (.bool _); cases n <;> exact this)
    | tup h1 h2 => cases rx; exact key false (.inr ⟨_, rfl⟩) rfl (by have := Post.val p rep (.bool _); cases n <;> exact this)
    | ref h1 => cases rx; exact key false (.inr ⟨_, rfl⟩) rfl (by have := Post.val p rep (.bool _); cases n <;> exact this)
    | fn f => cases rx; exact key false (.inr ⟨_, rfl⟩) rfl (by have := Post.val p rep (.bool _); cases n <;> exact this)
    | clo h1 h2 => cases rx; exact key false (.inr ⟨_, rfl⟩) rfl (by have := Post.val p rep (.bool _); cases n <;> exact this)
    | exc h1 h2 => cases rx; exact key false (.inr ⟨_, rfl⟩) rfl (by have := Post.val p rep (.bool _); cases n <;> exact this)

theorem isc_core {a : E} (n : Bool) (v : Val) (ha : SndE c a) {d : Nat} {q : Sc} {W : Nat → Hp → Prop} {X : Cx} {lo : Nat} {lk : List Nat} {e : Expr} (o : OkX c d q W X) (h : chkE c.T q (.isc n v a) e = true) :
    (∃ l op r pos, e = .Compare l [op] [r] pos) ∧ PE X e (TEv c.g lo lk W (Mx.evE (c.cx d lo) (.isc n v a) lk)) ∧ PT X e (TTv c.g lo lk W (Mx.evE (c.cx d lo) (.isc n v a) lk)) := by
  cases e <;> first | (cases h; done) | skip
  rename_i l ops rs pos
  match ops, rs, h with
  | [op], [.Constant k j p2], h =>
    simp only [chkE, Bool.and_eq_true, decide_eq_true_eq] at h
    obtain ⟨⟨⟨rfl, hc⟩, _⟩, h1⟩ := h
    obtain ⟨y, hy, rv⟩ := cst_ok (X := X) (j := j) (pos := p2) hc
    have key : ∀ (σ : L2.St) (H : Hp) (Q : VK), TEv c.g lo lk W (Mx.evE (c.cx d lo) (.isc n v a) lk) σ H Q → tOp (fun x y H Q => (∀ g H φ, RV g H φ v y) ∧ rU1 c.g lo lk W (iscF n v) x H Q) (TEv c.g lo lk W (Mx.evE (c.cx d lo) a lk)) (tC y) σ H Q := fun σ H Q z =>
      TEv.imp (TEv.one (f := iscF n v) z) fun x H1 z1 => ⟨rv, z1⟩
    exact ⟨⟨_, _, _, _, rfl⟩, PE.imp (pe_cmpR (op_isc n v) (ha d q W X lo lk l o h1).1 hy rfl) key, PT.imp (pt_cmpR (op_isc n v) (ha d q W X lo lk l o h1).1 hy rfl) fun σ H Q z => key σ H _ z⟩
theorem snd_isc {a : E} (n : Bool) (v : Val) (ha : SndE c a) : SndE c (.isc n v a) := by
  intro d q W X lo lk e o h
  obtain ⟨⟨_, _, _, _, rfl⟩, h1, _⟩ := isc_core n v ha o h
  exact pea_of rfl h1
theorem sndt_isc {a : E} (n : Bool) (v : Val) (ha : SndE c a) : SndT c (.isc n v a) := by
  intro d q W X lo lk e o h
  obtain ⟨⟨_, _, _, _, rfl⟩, _, h1⟩ := isc_core n v ha o h
  exact ⟨h1, fun hb => by cases hb⟩

theorem op_leI {g : G} {lo : Nat} {lk : List Nat} {W : Nat → Hp → Prop} {X : Cx} (hK : X.K = g.K) (hw : X.w = g.w) (hu : X.A.units + 65 < cLine) : OpR X (compareOp .LtE) (rB g lo lk W fun st v u => match v, u with | .int i, .int j => .ok (.bool (decide (i ≤ j))) st | _, _ => .bad) := by
  intro pins s σ H x y x' y' Q I rx ry h
  obtain ⟨φ, st, v, u, rep, rv, ru, p⟩ := h
  cases rv <;> cases ru <;> first | exact False.elim p | skip
  rename_i i j
  exact op_le pins s σ H _ _ _ _ Q I rx ry ⟨i, j, rfl, rfl, Post.val p rep (.bool _)⟩
theorem chain_core {a b k : E} (ha : SndE c a) (hb : SndE c b) (hk : SndE c k) {d : Nat} {q : Sc} {W : Nat → Hp → Prop} {X : Cx} {lo : Nat} {lk : List Nat} {e : Expr} (o : OkX c d q W X) (h : chkE c.T q (.chain a b k) e = true) :
    (∃ l ops rs pos, e = .Compare l ops rs pos) ∧ PE X e (TEv c.g lo lk W (Mx.evE (c.cx d lo) (.chain a b k) lk)) ∧ PT X e (TTv c.g lo lk W (Mx.evE (c.cx d lo) (.chain a b k) lk)) := by
  cases e <;> first | (cases h; done) | skip
  rename_i l ops rs pos
  match ops, rs, h with
  | [.LtE, .LtE], [x, y], h =>
    simp only [chkE, Bool.and_eq_true] at h
    obtain ⟨⟨⟨⟨⟨_, _⟩, hp⟩, h1⟩, h2⟩, h3⟩ := h
    have key : ∀ (σ : L2.St) (H : Hp) (Q : VK), TEv c.g lo lk W (Mx.evE (c.cx d lo) (.chain a b k) lk) σ H Q → tChain (rI0 fun i j => .bl (decide (i ≤ j))) (rI0 fun i j => .bl (decide (i ≤ j))) (TEv c.g lo lk W (Mx.evE (c.cx d lo) a lk)) (TEv c.g lo lk W (Mx.evE (c.cx d lo) b lk)) (TEv c.g lo lk W (Mx.evE (c.cx d lo) k lk)) σ H Q := fun σ H Q z => by
      obtain ⟨φ, st, env, re, rp, p⟩ := z
      simp only [Mx.evE] at p
      refine ⟨φ, st, env, re, rp, (Post.bind p).imp fun x H1 z => ?_⟩
      obtain ⟨φ1, st1, v, e1, r1, v1, p1⟩ := z
      refine ⟨φ1, st1, env, re.mono e1, r1, (Post.bind p1).imp fun y H2 z => ?_⟩
      obtain ⟨φ2, st2, u, e2, r2, v2, p2⟩ := z
      have v1' := v1.mono e2
      cases v1' <;> cases v2 <;> first | exact False.elim p2 | skip
      rename_i i j
      refine ⟨i, j, rfl, rfl, decide (i ≤ j), rfl, ?_⟩
      by_cases hij : i ≤ j
      · simp only [hij, if_true] at p2
        rw [if_pos (decide_eq_true hij)]
        refine ⟨φ2, st2, env, (re.mono e1).mono e2, r2, (Post.bind p2).imp fun z H3 z3 => ?_⟩
        obtain ⟨φ3, st3, w, e3, r3, v3, p3⟩ := z3
        cases v3 <;> first | exact False.elim p3 | skip
        rename_i m
        exact ⟨j, m, rfl, rfl, Post.val p3 r3 (.bool _)⟩
      · simp only [hij, if_false] at p2
        rw [if_neg (by simpa using hij)]
        exact Post.val p2 r2 (.bool _)
    have hm : lastMarks [.LtE, .LtE] [x, y] = false := plain_mark hp
    exact ⟨⟨_, _, _, _, rfl⟩, PE.imp (pe_chain op_le op_le (ha d q W X lo lk l o h1).1 (hb d q W X lo lk x o h2).1 (hk d q W X lo lk y o h3).1 hm) key, PT.imp (pt_chain op_le op_le (ha d q W X lo lk l o h1).1 (hb d q W X lo lk x o h2).1 (hk d q W X lo lk y o h3).1 hm) fun σ H Q z => key σ H _ z⟩
theorem snd_chain {a b k : E} (ha : SndE c a) (hb : SndE c b) (hk : SndE c k) : SndE c (.chain a b k) := by
  intro d q W X lo lk e o h
  obtain ⟨⟨_, _, _, _, rfl⟩, h1, _⟩ := chain_core ha hb hk o h
  exact pea_of rfl h1
theorem sndt_chain {a b k : E} (ha : SndE c a) (hb : SndE c b) (hk : SndE c k) : SndT c (.chain a b k) := by
  intro d q W X lo lk e o h
  obtain ⟨⟨_, _, _, _, rfl⟩, _, h1⟩ := chain_core ha hb hk o h
  exact ⟨h1, fun hb => by cases hb⟩

/-! ### and, or, not, if -/
theorem andV {g : G} {lo : Nat} {lk : List Nat} {W : Nat → Hp → Prop} {cx : Mx.Ctx} {a b : E} {σ : L2.St} {H : Hp} {Q : VK} (z : TEv g lo lk W (Mx.evE cx (.and a b) lk) σ H Q) :
    TEv g lo lk W (Mx.evE cx a lk) σ H (fun x H1 => ∃ k, x = .bl k ∧ if k = true then TEv g lo lk W (Mx.evE cx b lk) σ H1 Q else Q (.bl false) H1) := by
  obtain ⟨φ, st, env, re, rp, p⟩ := z
  simp only [Mx.evE] at p
  refine ⟨φ, st, env, re, rp, (Post.bind p).imp fun x H1 z => ?_⟩
  obtain ⟨φ1, st1, v, e1, r1, v1, p1⟩ := z
  cases v1 <;> first | exact False.elim p1 | skip
  rename_i k
  refine ⟨k, rfl, ?_⟩
  cases k with
  | true => exact ⟨φ1, st1, env, re.mono e1, r1, p1⟩
  | false => exact Post.val p1 r1 (.bool _)
theorem orV {g : G} {lo : Nat} {lk : List Nat} {W : Nat → Hp → Prop} {cx : Mx.Ctx} {a b : E} {σ : L2.St} {H : Hp} {Q : VK} (z : TEv g lo lk W (Mx.evE cx (.or a b) lk) σ H Q) :
    TEv g lo lk W (Mx.evE cx a lk) σ H (fun x H1 => ∃ k, x = .bl k ∧ if k = true then Q (.bl true) H1 else TEv g lo lk W (Mx.evE cx b lk) σ H1 Q) := by
  obtain ⟨φ, st, env, re, rp, p⟩ := z
  simp only [Mx.evE] at p
  refine ⟨φ, st, env, re, rp, (Post.bind p).imp fun x H1 z => ?_⟩
  obtain ⟨φ1, st1, v, e1, r1, v1, p1⟩ := z
  cases v1 <;> first | exact False.elim p1 | skip
  rename_i k
  refine ⟨k, rfl, ?_⟩
  cases k with
  | false => exact ⟨φ1, st1, env, re.mono e1, r1, p1⟩
  | true => exact Post.val p1 r1 (.bool _)
theorem and_core {a b : E} (ha : SndE c a) (hb : SndE c b) (ta : SndT c a) (tb : SndT c b) {d : Nat} {q : Sc} {W : Nat → Hp → Prop} {X : Cx} {lo : Nat} {lk : List Nat} {e : Expr} (o : OkX c d q W X) (h : chkE c.T q (.and a b) e = true) :
    (∃ op vs pos, e = .BoolOp op vs pos) ∧ PE X e (TEv c.g lo lk W (Mx.evE (c.cx d lo) (.and a b) lk)) ∧ PW X e (TTv c.g lo lk W (Mx.evE (c.cx d lo) (.and a b) lk)) := by
  cases e <;> first | (cases h; done) | skip
  rename_i op vs pos
  match op, vs, h with
  | .And, x :: y :: r, h =>
    simp only [chkE, Bool.and_eq_true] at h
    obtain ⟨⟨_, h1⟩, h2⟩ := h
    have hb' : PE X (.BoolOp .And (y :: r) pos) (TEv c.g lo lk W (Mx.evE (c.cx d lo) b lk)) := by
      cases r with
      | nil =>
        rw [Bool.and_eq_true] at h2
        exact pe_one (hb d q W X lo lk y o h2.2).1
      | cons z r => exact (hb d q W X lo lk _ o h2).1
    have tb' : PW X (.BoolOp .And (y :: r) pos) (TTv c.g lo lk W (Mx.evE (c.cx d lo) b lk)) := by
      cases r with
      | nil =>
        rw [Bool.and_eq_true] at h2
        exact pw_and1 (tb d q W X lo lk y o h2.2).1
      | cons z r => exact (tb d q W X lo lk _ o h2).2 rfl
    refine ⟨⟨_, _, _, rfl⟩, PE.imp (pe_and (ha d q W X lo lk x o h1).1 hb') fun σ H Q z => ?_, PW.imp (pw_and (ta d q W X lo lk x o h1).1 tb') fun σ H Q z => ?_⟩
    · exact andV z
    · refine TEv.imp (andV z) fun x H1 hx => ?_
      obtain ⟨k, rfl, hk⟩ := hx
      refine ⟨k, rfl, ?_⟩
      cases k with
      | true => exact hk
      | false =>
        obtain ⟨b', e', hb'⟩ := hk
        cases e'
        exact hb'
theorem snd_and {a b : E} (ha : SndE c a) (hb : SndE c b) (ta : SndT c a) (tb : SndT c b) : SndE c (.and a b) := by
  intro d q W X lo lk e o h
  obtain ⟨⟨_, _, _, rfl⟩, h1, _⟩ := and_core ha hb ta tb o h
  exact pea_of rfl h1
theorem sndt_and {a b : E} (ha : SndE c a) (hb : SndE c b) (ta : SndT c a) (tb : SndT c b) : SndT c (.and a b) := by
  intro d q W X lo lk e o h
  obtain ⟨⟨_, _, _, rfl⟩, _, h1⟩ := and_core ha hb ta tb o h
  exact ⟨h1.pt, fun _ => h1⟩
theorem or_core {a b : E} (ha : SndE c a) (hb : SndE c b) (ta : SndT c a) (tb : SndT c b) {d : Nat} {q : Sc} {W : Nat → Hp → Prop} {X : Cx} {lo : Nat} {lk : List Nat} {e : Expr} (o : OkX c d q W X) (h : chkE c.T q (.or a b) e = true) :
    (∃ op vs pos, e = .BoolOp op vs pos) ∧ PE X e (TEv c.g lo lk W (Mx.evE (c.cx d lo) (.or a b) lk)) ∧ PW X e (TTv c.g lo lk W (Mx.evE (c.cx d lo) (.or a b) lk)) := by
  cases e <;> first | (cases h; done) | skip
  rename_i op vs pos
  match op, vs, h with
  | .Or, x :: y :: r, h =>
    simp only [chkE, Bool.and_eq_true] at h
    obtain ⟨⟨_, h1⟩, h2⟩ := h
    have hb' : PE X (.BoolOp .Or (y :: r) pos) (TEv c.g lo lk W (Mx.evE (c.cx d lo) b lk)) := by
      cases r with
      | nil =>
        rw [Bool.and_eq_true] at h2
        exact pe_one (hb d q W X lo lk y o h2.2).1
      | cons z r => exact (hb d q W X lo lk _ o h2).1
    have tb' : PW X (.BoolOp .Or (y :: r) pos) (TTv c.g lo lk W (Mx.evE (c.cx d lo) b lk)) := by
      cases r with
      | nil =>
        rw [Bool.and_eq_true] at h2
        exact pw_or1 (tb d q W X lo lk y o h2.2).1
      | cons z r => exact (tb d q W X lo lk _ o h2).2 rfl
    refine ⟨⟨_, _, _, rfl⟩, PE.imp (pe_or (ha d q W X lo lk x o h1).1 hb') fun σ H Q z => ?_, PW.imp (pw_or (ta d q W X lo lk x o h1).1 tb') fun σ H Q z => ?_⟩
    · exact orV z
    · refine TEv.imp (orV z) fun x H1 hx => ?_
      obtain ⟨k, rfl, hk⟩ := hx
      refine ⟨k, rfl, ?_⟩
      cases k with
      | false => exact hk
      | true =>
        obtain ⟨b', e', hb'⟩ := hk
        cases e'
        exact hb'
theorem snd_or {a b : E} (ha : SndE c a) (hb : SndE c b) (ta : SndT c a) (tb : SndT c b) : SndE c (.or a b) := by
  intro d q W X lo lk e o h
  obtain ⟨⟨_, _, _, rfl⟩, h1, _⟩ := or_core ha hb ta tb o h
  exact pea_of rfl h1
theorem sndt_or {a b : E} (ha : SndE c a) (hb : SndE c b) (ta : SndT c a) (tb : SndT c b) : SndT c (.or a b) := by
  intro d q W X lo lk e o h
  obtain ⟨⟨_, _, _, rfl⟩, _, h1⟩ := or_core ha hb ta tb o h
  exact ⟨h1.pt, fun _ => h1⟩
theorem notV {g : G} {lo : Nat} {lk : List Nat} {W : Nat → Hp → Prop} {cx : Mx.Ctx} {a : E} {σ : L2.St} {H : Hp} {Q : VK} (z : TEv g lo lk W (Mx.evE cx (.not a) lk) σ H Q) :
    TEv g lo lk W (Mx.evE cx a lk) σ H (fun x H1 => ∃ k, x = .bl k ∧ Q (.bl (!k)) H1) := by
  obtain ⟨φ, st, env, re, rp, p⟩ := z
  simp only [Mx.evE] at p
  refine ⟨φ, st, env, re, rp, (Post.bind p).imp fun x H1 z => ?_⟩
  obtain ⟨φ1, st1, v, e1, r1, v1, p1⟩ := z
  cases v1 <;> first | exact False.elim p1 | skip
  rename_i k
  exact ⟨k, rfl, Post.val p1 r1 (.bool _)⟩
theorem not_core {a : E} (ha : SndE c a) (ta : SndT c a) {d : Nat} {q : Sc} {W : Nat → Hp → Prop} {X : Cx} {lo : Nat} {lk : List Nat} {e : Expr} (o : OkX c d q W X) (h : chkE c.T q (.not a) e = true) :
    (∃ x pos, e = .UnaryOp .Not x pos) ∧ PE X e (TEv c.g lo lk W (Mx.evE (c.cx d lo) (.not a) lk)) ∧ PT X e (TTv c.g lo lk W (Mx.evE (c.cx d lo) (.not a) lk)) := by
  cases e <;> first | (cases h; done) | skip
  rename_i op x pos
  cases op <;> first | (cases h; done) | skip
  simp only [chkE, Bool.and_eq_true] at h
  refine ⟨⟨_, _, rfl⟩, PE.imp (pe_not (ha d q W X lo lk x o h.2).1) fun σ H Q z => notV z, PT.imp (pt_not (ta d q W X lo lk x o h.2).1) fun σ H Q z => ?_⟩
  refine TEv.imp (notV z) fun y H1 hy => ?_
  obtain ⟨k, rfl, b, e, hb⟩ := hy
  cases e
  exact ⟨k, rfl, hb⟩
theorem snd_not {a : E} (ha : SndE c a) (ta : SndT c a) : SndE c (.not a) := by
  intro d q W X lo lk e o h
  obtain ⟨⟨_, _, rfl⟩, h1, _⟩ := not_core ha ta o h
  exact pea_of rfl h1
theorem sndt_not {a : E} (ha : SndE c a) (ta : SndT c a) : SndT c (.not a) := by
  intro d q W X lo lk e o h
  obtain ⟨⟨_, _, rfl⟩, _, h1⟩ := not_core ha ta o h
  exact ⟨h1, fun hb => by cases hb⟩
theorem iteV {g : G} {lo : Nat} {lk : List Nat} {W : Nat → Hp → Prop} {cx : Mx.Ctx} {k a b : E} {σ : L2.St} {H : Hp} {Q : VK} (z : TEv g lo lk W (Mx.evE cx (.ite k a b) lk) σ H Q) :
    TEv g lo lk W (Mx.evE cx k lk) σ H (fun x H1 => ∃ t, x = .bl t ∧ if t = true then TEv g lo lk W (Mx.evE cx a lk) σ H1 Q else TEv g lo lk W (Mx.evE cx b lk) σ H1 Q) := by
  obtain ⟨φ, st, env, re, rp, p⟩ := z
  simp only [Mx.evE] at p
  refine ⟨φ, st, env, re, rp, (Post.bind p).imp fun x H1 z => ?_⟩
  obtain ⟨φ1, st1, v, e1, r1, v1, p1⟩ := z
  cases v1 <;> first | exact False.elim p1 | skip
  rename_i t
  refine ⟨t, rfl, ?_⟩
  cases t with
  | true => exact ⟨φ1, st1, env, re.mono e1, r1, p1⟩
  | false => exact ⟨φ1, st1, env, re.mono e1, r1, p1⟩
theorem snd_ite {k a b : E} (tk : SndT c k) (ha : SndE c a) (hb : SndE c b) : SndE c (.ite k a b) := by
  intro d q W X lo lk e o h
  cases e <;> first | (cases h; done) | skip
  rename_i x y z pos
  simp only [chkE, Bool.and_eq_true] at h
  obtain ⟨⟨⟨_, h1⟩, h2⟩, h3⟩ := h
  exact pea_of rfl (PE.imp (pe_ifExp (tk d q W X lo lk x o h1).1 (ha d q W X lo lk y o h2).1 (hb d q W X lo lk z o h3).1) fun σ H Q z => iteV z)
end Sd
end

section
set_option Elab.async false
set_option linter.all false
set_option maxRecDepth 100000
set_option maxHeartbeats 1000000
set_option autoImplicit false
namespace Sd
open PySem PySem.Spec PyProof.Rows L2
open Mx (Val Res SR Op Cmp Ty Tg E S Store)
variable {c : Cfg}

theorem plain_ix {b : Expr} (h : plain b = true) : PlainIx b := by
  intro o i
  cases b <;> first | (cases h; done) | (with_unfolding_all rfl)

theorem Post.opt {g : G} {lo : Nat} {lk : List Nat} {W : Nat → Hp → Prop} {φ : List Addr} {H : Hp} {st : Store} {o : Option Val} {Q : VK} (p : Post g lo lk W φ H (Mx.optR o st) Q) : ∃ v, o = some v ∧ Post g lo lk W φ H (.ok v st) Q := by
  cases o with
  | none => exact p.elim
  | some v => exact ⟨v, rfl, p⟩
theorem ixN_same (n : Nat) (i : Int) : Mx.ixN n i = L2.ixN n i := by
  unfold Mx.ixN L2.ixN
  by_cases h0 : 0 ≤ i
  · by_cases h1 : i < (n : Int)
    · simp only [h0, h1, if_true, if_pos (show -(n : Int) ≤ i ∧ True from ⟨by omega, trivial⟩), if_neg (show ¬ i < 0 by omega)]
    · simp only [h0, h1, if_true, if_false, and_false]
  · by_cases h1 : -(n : Int) ≤ i
    · simp only [h0, h1, if_true, if_false, if_pos (show True ∧ i < (n : Int) from ⟨trivial, by omega⟩), if_pos (show i < 0 by omega)]
    · simp only [h0, h1, if_false, false_and]
theorem atI_same {α : Type} (l : List α) (i : Int) : Mx.atI l i = L2.atI l i := by
  unfold Mx.atI L2.atI
  rw [ixN_same] <;> rfl
theorem RVs.atI {g : G} {H : Hp} {φ : List Addr} {l : List Val} {xs : List V} (r : RVs g H φ l xs) {i : Int} {v : Val} (h : Mx.atI l i = some v) : ∃ x, L2.atI xs i = some x ∧ RV g H φ v x := by
  unfold Mx.atI at h
  unfold L2.atI
  have e : Mx.ixN l.length i = L2.ixN xs.length i := by rw [r.length]; exact ixN_same _ _
  rw [e] at h
  cases hi : L2.ixN xs.length i with
  | none => rw [hi] at h; cases h
  | some j =>
    rw [hi] at h
    obtain ⟨x, hx, rv⟩ := r.get h
    exact ⟨x, hx, rv⟩
theorem strOk_one {s : List Nat} {k : Nat} (h : Mx.strOk s = true) (hk : k ∈ s) : Mx.strOk [k] = true := by
  have := List.all_eq_true.mp (strOk_chars h) k hk
  refine strOk_mk (by simp [Mx.lim]) ?_
  simpa using this

def ixL (l : List Val) : Val → Option Val
  | .int i => Mx.atI l i
  | _ => none
theorem ix_any {g : G} {lo : Nat} {lk : List Nat} {W : Nat → Hp → Prop} {X : Cx} (hK : X.K = g.K) (hw : X.w = g.w) (hu : X.A.units + 65 < cLine) : IxR X (rB g lo lk W fun st v u => Mx.optR (Mx.subV st v u) st) := by
  intro value slice pins s σ H x y v' u' Q I rx ry h hs
  obtain ⟨φ, st, v, u, rep, rv, ru, p⟩ := h
  obtain ⟨w, hsub, p2⟩ := Post.opt p
  clear p
  cases rv with
  | none => cases ru <;> cases hsub
  | bool b => cases ru <;> cases hsub
  | int i => cases ru <;> cases hsub
  | fn f => cases ru <;> cases hsub
  | clo a b => cases ru <;> cases hsub
  | exc a b => cases ru <;> cases hsub
  | str z hz =>
    cases ru <;> try (cases hsub; done)
    rename_i i
    have hsub' : (Mx.atI z i).map (fun c => Val.str [c]) = some w := hsub
    cases ha : Mx.atI z i with
    | none => rw [ha] at hsub'; cases hsub'
    | some k =>
      rw [ha] at hsub'
      cases hsub'
      have hk : k ∈ z := by
        unfold Mx.atI at ha
        cases hj : Mx.ixN z.length i with
        | none => rw [hj] at ha; cases ha
        | some j => rw [hj] at ha; exact List.mem_of_getElem? ha
      refine ix_str value slice pins s σ H _ _ v' u' Q I rx ry ⟨_, i, k, rfl, rfl, ?_, (atI_same z i).symm.trans ha, Post.val p2 rep (.str [k] (strOk_one hz hk))⟩ hs
      rw [str_len]
      exact Nat.le_trans (strOk_len hz) lim_le
  | tup h1 h2 =>
    cases ru <;> try (cases hsub; done)
    rename_i i
    obtain ⟨x, hx, rvx⟩ := h2.atI (show Mx.atI _ i = some w from hsub)
    exact ix_tup value slice pins s σ H _ _ v' u' Q I rx ry ⟨_, _, i, x, rfl, rfl, hK ▸ h1, hx, Post.val p2 rep rvx⟩ hs
  | @ref n a hn =>
    have hsub' : (match st[n]? with
      | some (.lst l) => ixL l u
      | some (.frz l) => ixL l u
      | _ => none) = some w := by
      cases ru <;> exact hsub
    cases ho : st[n]? with
    | none => rw [ho] at hsub'; cases hsub'
    | some ob =>
      rw [ho] at hsub'
      have seq : ∀ l, Mx.listAt st n = some l → ixL l u = some w → wpAny (model X.prog X.w) X.A (subscriptTail value slice v' u') (EP X pins σ Q) X.xe s := fun l hl hq => by
        obtain ⟨xs, hxs, rvs⟩ := rep.list hl hn X.K
        cases ru <;> try (cases hq; done)
        rename_i i
        obtain ⟨x, hx, rvx⟩ := rvs.atI (show Mx.atI _ i = some w from hq)
        exact ix_list value slice pins s σ H _ _ v' u' Q I rx ry ⟨_, _, i, x, rfl, rfl, hxs, hx, Post.val p2 rep rvx⟩ hs
      cases ob with
      | lst l => exact seq l (by unfold Mx.listAt; rw [ho]) hsub'
      | frz l => exact seq l (by unfold Mx.listAt; rw [ho]) hsub'
      | ins k fs => cases hsub'
      | dct d => cases hsub'
theorem snd_sub {a i : E} (ha : SndE c a) (hi : SndE c i) : SndE c (.sub a i) := by
  intro d q W X lo lk e o h
  cases e <;> first | (cases h; done) | skip
  rename_i x y pos
  simp only [chkE, Bool.and_eq_true] at h
  obtain ⟨⟨⟨_, hp⟩, h1⟩, h2⟩ := h
  refine pea_of rfl (PE.imp (pe_ix (ix_any (lo := lo) (lk := lk) (W := W) o.gx.hK o.gx.hw o.units) (ha d q W X lo lk x o h1).1 (hi d q W X lo lk y o h2).1 (plain_ix hp)) fun σ H Q z => ?_)
  exact TEv.two (f := fun st v u => Mx.optR (Mx.subV st v u) st) z

/-! ### len -/
/-- a call of one argument, by the machine's values -/
def rC1 (g : G) (lo : Nat) (lk : List Nat) (W : Nat → Hp → Prop) (f : Store → Val → Res Val) : List V → Hp → VK → Prop := fun xs H Q => ∃ x, xs = [x] ∧ rU1 g lo lk W f x H Q
theorem pa_one {X : Cx} {e : Expr} {t : TE} (h : PE X e t) (hp : plain e = true) : PA X [e] (fun σ H Q => t σ H fun x H1 => Q [x] H1) := pa_cons h pa_nil (star_cons hp)
theorem star_one {X : Cx} {e : Expr} (hp : plain e = true) : starEach [e] X.env = (false, eval e X.env) :: starEach [] X.env := star_cons hp
theorem snd_len {a : E} (ha : SndE c a) : SndE c (.len a) := by
  intro d q W X lo lk e o h
  cases e <;> first | (cases h; done) | skip
  rename_i f args kws pos
  match f, args, kws, h with
  | .Name x p, [y], [], h =>
    simp only [chkE, Bool.and_eq_true, decide_eq_true_eq] at h
    obtain ⟨⟨⟨rfl, hg⟩, hp⟩, h1⟩ := h
    have hc : CallR X (.builtin "len") (rC1 c.g lo lk W fun st x => match Mx.lenV st x with | some n => .ok (.int n) st | none => .bad) := by
      intro pins s σ H xs us Q I r h
      obtain ⟨x, rfl, φ, st, v, rep, rv, p⟩ := h
      have key : ∀ n : Nat, LenV X.K x H n → Q (.int n) H → wpAny (model X.prog X.w) X.A (call (.builtin "len") us) (EP X pins σ Q) X.xe s := fun n h1 h2 => call_len pins s σ H _ us Q I r ⟨x, n, rfl, h1, h2⟩
      cases rv with
      | none => exact p.elim
      | bool b => exact p.elim
      | int i => exact p.elim
      | fn f => exact p.elim
      | clo a b => exact p.elim
      | exc a b => exact p.elim
      | str z hz => exact key z.length ⟨by rw [str_len]; exact Nat.le_trans (strOk_len hz) lim_le, (str_len z).symm⟩ (Post.val p rep (.int _))
      | tup h1 h2 => exact key _ (.inr ⟨_, o.gx.hK ▸ h1, h2.length⟩) (Post.val p rep (.int _))
      | @ref n a hn =>
        have p' : Post c.g lo lk W φ H (match (match st[n]? with
          | some (.lst l) => some l.length
          | some (.frz l) => some l.length
          | _ => none) with | some n => .ok (.int n) st | none => .bad) Q := p
        cases ho : st[n]? with
        | none => rw [ho] at p'; exact p'.elim
        | some ob =>
          rw [ho] at p'
          cases ob with
          | ins k fs => exact p'.elim
          | lst l =>
            obtain ⟨xs, hxs, rvs⟩ := rep.list (l := l) (by unfold Mx.listAt; rw [ho]) hn X.K
            exact key _ (.inl ⟨_, hxs, rvs.length⟩) (Post.val p' rep (.int _))
          | frz l =>
            obtain ⟨xs, hxs, rvs⟩ := rep.list (l := l) (by unfold Mx.listAt; rw [ho]) hn X.K
            exact key _ (.inl ⟨_, hxs, rvs.length⟩) (Post.val p' rep (.int _))
          | dct l => exact p'.elim
    refine pea_of rfl (PE.imp (pe_callB hc (glB_ok (by rw [o.sc]; exact hg)) (o.gx.bn _ (by decide)) (by decide +kernel) (pa_one (ha d q W X lo lk y o h1).1 hp) (by decide) (by decide) (star_one hp) rfl) fun σ H Q z => ?_)
    exact TEv.imp (TEv.one (f := fun st x => match Mx.lenV st x with | some n => .ok (.int n) st | none => .bad) z) fun x H1 z1 => ⟨x, rfl, z1⟩
end Sd
end

section
set_option Elab.async false
set_option linter.all false
set_option maxRecDepth 100000
set_option maxHeartbeats 1000000
set_option autoImplicit false
namespace Sd
open PySem PySem.Spec PyProof.Rows L2
open Mx (Val Res SR Op Cmp Ty Tg E S Store)
variable {c : Cfg}

theorem Post.impW {g : G} {lo : Nat} {lk : List Nat} {W W' : Nat → Hp → Prop} {φ : List Addr} {H : Hp} {r : Res Val} {Q : VK} (h : Post g lo lk W φ H r Q) (f : ∀ x H', W x H' → W' x H') : Post g lo lk W' φ H r Q := by
  cases r with
  | ok v st => exact h
  | exc c st => exact fun φ' H' a b => f _ _ (h φ' H' a b)
  | bad => exact h

theorem snd_call {es : E} (f : Nat) (ha : SndA c es) : SndE c (.call f es) := by
  intro d q W X lo lk e o h
  cases e <;> first | (cases h; done) | skip
  rename_i fe args kws pos
  match fe, args, kws, h with
  | .Name x p, ys, k :: ks, h =>
    exfalso
    cases ys <;> cases h
  | .Name x p, ys, [], h =>
    have h' : (((decide (c.T.fn[f]? = some (some x)) = true ∧ glB q.sc x = true) ∧ okN x = true)) ∧ chkA c.T q es ys = true := by
      cases ys with
      | nil => simpa only [chkE, Bool.and_eq_true] using h
      | cons y ys => simpa only [chkE, Bool.and_eq_true] using h
    clear h
    obtain ⟨⟨⟨h1, h2⟩, h3⟩, h4⟩ := h'
    rw [decide_eq_true_eq] at h1
    obtain ⟨n1, n2, n3⟩ := okN_ok h3
    obtain ⟨m1, m2⟩ := o.gx.fn f x h1
    obtain ⟨fdat, ps, F, B⟩ := o.gx.fns f (List.getElem?_eq_some_iff.mp h1).1
    have hr : Room (lev d) X.A := o.room.mono (Nat.le_succ _)
    have hx : Passes (L2.CX X.prog X.w) X (fun cls dd H => ∃ x, cls = .ref (c.g.xa x) ∧ dd = none ∧ W x H) := passes_call o.takes fun cls dd σ H z => z
    have key : ∀ (σ : L2.St) (H : Hp) (Q : VK), TEv c.g lo lk W (Mx.evE (c.cx d lo) (.call f es) lk) σ H Q → tCall (spF c d f) [] (fun cls dd H => ∃ x, cls = .ref (c.g.xa x) ∧ dd = none ∧ W x H) (TAv c.g lo lk W (Mx.evE (c.cx d lo) es lk)) σ H Q := fun σ H Q z => by
      obtain ⟨φ, st, env, re, rp, p⟩ := z
      simp only [Mx.evE] at p
      refine ⟨φ, st, env, re, rp, (PostL.seq p).imp fun xs H1 z1 => ?_⟩
      obtain ⟨φ1, st1, l, e1, r1, v1, p1⟩ := z1
      rw [List.append_nil]
      exact ⟨φ1, st1, l, lo, lk, r1, v1, Post.impW p1 fun x H' w => ⟨x, rfl, rfl, w⟩⟩
    cases ys with
    | nil =>
      refine pea_of rfl (PE.imp (pe_call0 F hr (glB_ok (by rw [o.sc]; exact h2)) m1 m2 B .nil hx n1) fun σ H Q z => ?_)
      obtain ⟨φ, st, env, re, rp, p⟩ := key σ H Q z
      cases es <;> first | (cases h4; done) | skip
      obtain ⟨l, e, p⟩ := p
      cases e
      exact p φ H [] Ext.refl rp .nil
    | cons y ys =>
      have hpl := chkA_plain h4
      rw [List.all_cons, Bool.and_eq_true] at hpl
      exact pea_of rfl (PE.imp (pe_call F hr (glB_ok (by rw [o.sc]; exact h2)) m1 m2 B .nil hx (ha d q W X lo lk (y :: ys) o h4) n1 (star_cons hpl.1) (star_any hpl.2)) key)
end Sd
end

section
set_option Elab.async false
set_option linter.all false
set_option maxRecDepth 100000
set_option maxHeartbeats 1000000
set_option autoImplicit false
namespace Sd
open PySem PySem.Spec PyProof.Rows L2
open Mx (Val Res SR Op Cmp Ty Tg E S Store)
variable {c : Cfg}

/-! ### slices -/
def PostO (g : G) (lo : Nat) (lk : List Nat) (W : Nat → Hp → Prop) (φ : List Addr) (H : Hp) (m : E) (r : Res Val) (Q : Option Int → Hp → Prop) : Prop :=
  match r with
  | .ok v st => ∃ o, Mx.partV m v = some o ∧ ∀ φ' H', Ext g lo lk φ H φ' H' → Rep g φ' st H' → Q o H'
  | .exc c st => ∀ φ' H', Ext g lo lk φ H φ' H' → Rep g φ' st H' → W c H'
  | .bad => False
def TOv (g : G) (lo : Nat) (lk : List Nat) (W : Nat → Hp → Prop) (m : E) (f : Mx.Env → Store → Res Val) : TO := fun σ H Q =>
  ∃ φ st env, REnv g H φ env σ ∧ Rep g φ st H ∧ PostO g lo lk W φ H m (f env st) Q
theorem PostO.imp {g : G} {lo : Nat} {lk : List Nat} {W : Nat → Hp → Prop} {φ : List Addr} {H : Hp} {m : E} {r : Res Val} {Q Q' : Option Int → Hp → Prop} (h : PostO g lo lk W φ H m r Q) (f : ∀ x H', Q x H' → Q' x H') : PostO g lo lk W φ H m r Q' := by
  cases r with
  | ok v st =>
    obtain ⟨o, e, p⟩ := h
    exact ⟨o, e, fun φ' H' a b => f _ _ (p φ' H' a b)⟩
  | exc c st => exact h
  | bad => exact h
/-- a later heap is the base -/
theorem Post.base {g : G} {lo : Nat} {lk : List Nat} {W : Nat → Hp → Prop} {φ φ1 : List Addr} {H H1 : Hp} {r : Res Val} {Q : VK} (h : Post g lo lk W φ H r Q) (e : Ext g lo lk φ H φ1 H1) : Post g lo lk W φ1 H1 r Q := by
  cases r with
  | ok v st => exact fun φ' H' x a b c => h φ' H' x (e.trans a) b c
  | exc c st => exact fun φ' H' a b => h φ' H' (e.trans a) b
  | bad => exact h
theorem PostO.seq {g : G} {lo : Nat} {lk : List Nat} {W : Nat → Hp → Prop} {φ : List Addr} {H : Hp} {m : E} {r : Res Val} {k : Option Int → Store → Res Val} {Q : VK}
    (h : Post g lo lk W φ H (r.bind fun l st => match Mx.partV m l with | none => .bad | some l => k l st) Q) :
    PostO g lo lk W φ H m r (fun o H1 => ∃ φ1 st1, Ext g lo lk φ H φ1 H1 ∧ Rep g φ1 st1 H1 ∧ Post g lo lk W φ1 H1 (k o st1) Q) := by
  cases r with
  | ok v st =>
    have h' : Post g lo lk W φ H (match Mx.partV m v with | none => .bad | some l => k l st) Q := h
    cases hp : Mx.partV m v with
    | none => rw [hp] at h'; exact h'.elim
    | some o =>
      rw [hp] at h'
      exact ⟨o, hp, fun φ1 H1 e1 r1 => ⟨φ1, st, e1, r1, Post.base h' e1⟩⟩
  | exc c st => exact h
  | bad => exact h

theorem po_of {m : E} (hm : SndE c m) {d : Nat} {q : Sc} {W : Nat → Hp → Prop} {X : Cx} {lo : Nat} {lk : List Nat} {l : Option Expr} (o : OkX c d q W X) (h : (match l with
    | none => isNil m
    | some e => !isNil m && plain e && chkE c.T q m e) = true) : ∃ t, PO X l t ∧ ∀ σ H Q, TOv c.g lo lk W m (Mx.evE (c.cx d lo) m lk) σ H Q → t σ H Q := by
  cases l with
  | none =>
    refine ⟨_, po_none, fun σ H Q z => ?_⟩
    cases m <;> first | (cases h; done) | skip
    obtain ⟨φ, st, env, re, rp, o, e, p⟩ := z
    cases e
    exact p φ H Ext.refl rp
  | some e =>
    simp only [Bool.and_eq_true] at h
    refine ⟨_, po_some (hm d q W X lo lk e o h.2).1, fun σ H Q z => ?_⟩
    obtain ⟨φ, st, env, re, rp, p⟩ := z
    refine ⟨φ, st, env, re, rp, ?_⟩
    cases hk : Mx.evE (c.cx d lo) m lk env st with
    | ok v st2 =>
      rw [hk] at p
      obtain ⟨o, ho, p⟩ := p
      have hn : isNil m = false := by simpa using h.1.1
      have hv : ∃ i, v = .int i ∧ o = some i := by
        cases m <;> first | (cases hn; done) | (cases v <;> first | (cases ho; done) | (cases ho; exact ⟨_, rfl, rfl⟩))
      obtain ⟨i, rfl, rfl⟩ := hv
      intro φ' H' x e' r' v'
      cases v'
      exact ⟨i, rfl, p φ' H' e' r'⟩
    | exc k st2 => rw [hk] at p; exact p
    | bad => rw [hk] at p; exact p

theorem sIx_eq (n d : Nat) (o : Option Int) : Mx.cutAt n d o = HT.sIx n d o := by
  cases o with
  | none => rfl
  | some v =>
    show (max 0 (min (n : Int) (if v < 0 then v + n else v))).toNat = if v < 0 then (v + (n : Int)).toNat else min v.toNat n
    split <;> omega
theorem cut_whole {α : Type} (l : List α) {lo hi : Option Int} (h1 : HT.sIx l.length 0 lo = 0) (h2 : HT.sIx l.length l.length hi = l.length) : Mx.cut l lo hi = l := by
  unfold Mx.cut
  rw [sIx_eq, sIx_eq, h1, h2]
  simp
theorem RVs.cut {g : G} {H : Hp} {φ : List Addr} {l : List Val} {xs : List V} (r : RVs g H φ l xs) (lo hi : Option Int) : RVs g H φ (Mx.cut l lo hi) (cutV xs lo hi) := by
  unfold Mx.cut cutV
  rw [sIx_eq, sIx_eq, r.length]
  exact (r.drop _).take _
theorem strOk_sub {s t : List Nat} (h : Mx.strOk s = true) (hl : t.length ≤ s.length) (hm : ∀ k ∈ t, k ∈ s) : Mx.strOk t = true := by
  refine strOk_mk (Nat.le_trans hl (strOk_len h)) ?_
  rw [List.all_eq_true]
  intro k hk
  exact List.all_eq_true.mp (strOk_chars h) k (hm k hk)
theorem cut_len {α : Type} (l : List α) (lo hi : Option Int) : (Mx.cut l lo hi).length ≤ l.length := by
  unfold Mx.cut
  rw [List.length_take, List.length_drop]
  omega
theorem cut_mem {α : Type} {l : List α} {lo hi : Option Int} {x : α} (h : x ∈ Mx.cut l lo hi) : x ∈ l := List.mem_of_mem_drop (List.mem_of_mem_take h)
theorem strOk_cut {s : List Nat} (h : Mx.strOk s = true) (lo hi : Option Int) : Mx.strOk (Mx.cut s lo hi) = true := strOk_sub h (cut_len s lo hi) fun _ hk => cut_mem hk
def rSl (g : G) (lo : Nat) (lk : List Nat) (W : Nat → Hp → Prop) : V → Option Int → Option Int → Hp → VK → Prop := fun x l h H Q => ∃ φ st v, Rep g φ st H ∧ RV g H φ v x ∧ Post g lo lk W φ H (Mx.slcV st l h v) Q
theorem sl_any {g : G} {lo : Nat} {lk : List Nat} {W : Nat → Hp → Prop} {X : Cx} (ok : GOk g) (hK : X.K = g.K) : SlR X (rSl g lo lk W) := by
  intro pins s σ H x v vl vu l h sl Q I rx hs pl pu q
  obtain ⟨φ, st, u, rep, rv, p⟩ := q
  cases rv with
  | none => exact p.elim
  | bool b => exact p.elim
  | int i => exact p.elim
  | fn f => exact p.elim
  | clo a b => exact p.elim
  | exc a b => exact p.elim
  | str z hz =>
    refine sl_str pins s σ H _ v vl vu l h sl Q I rx hs pl pu ⟨_, rfl, by rw [str_len]; exact Nat.le_trans (strOk_len hz) lim_le, ?_⟩
    have e : cutS ⟨z.toArray⟩ l h = ⟨(Mx.cut z l h).toArray⟩ := by
      unfold cutS Mx.cut
      rw [str_len, sIx_eq, sIx_eq]
    rw [e]
    exact Post.val p rep (.str _ (strOk_cut hz l h))
  | @tup a ls xs h1 h2 =>
    refine sl_tupA pins s σ H _ v vl vu l h sl Q I rx hs pl pu ⟨a, xs, rfl, hK ▸ h1, fun hw => ?_, fun hw p' hp => ?_⟩
    · rw [← h2.length] at hw
      have p' : Post g lo lk W φ H (.ok (.tup (Mx.cut ls l h)) st) Q := p
      rw [cut_whole ls hw.1 hw.2] at p'
      exact Post.val p' rep (.tup h1 h2)
    · exact Post.newT ok p rep (h2.cut l h) hp
  | @ref n a hn =>
    have p' : Post g lo lk W φ H (match st[n]? with
      | some (.lst ls) => .ok (.ref st.length) (st ++ [.lst (Mx.cut ls l h)])
      | _ => .bad) Q := p
    cases ho : st[n]? with
    | none => rw [ho] at p'; exact p'.elim
    | some ob =>
      rw [ho] at p'
      cases ob <;> try exact p'.elim
      rename_i ls
      obtain ⟨xs, hxs, rvs⟩ := rep.list (l := ls) (by unfold Mx.listAt; rw [ho]) hn X.K
      exact sl_list pins s σ H _ v vl vu l h sl Q I rx hs pl pu ⟨a, xs, rfl, hxs, fun p2 hp => Post.newL ok p' rep (rvs.cut l h) hp⟩
theorem snd_slc {a l h : E} (ha : SndE c a) (hl : SndE c l) (hh : SndE c h) : SndE c (.slc a l h) := by
  intro d q W X lo lk e o hc
  cases e <;> first | (cases hc; done) | skip
  rename_i x sl pos
  cases sl <;> first | (cases hc; done) | skip
  rename_i l' u' stp p2
  cases stp with
  | some _ => cases hc
  | none =>
    simp only [chkE, Bool.and_eq_true] at hc
    obtain ⟨⟨⟨_, h1⟩, h2⟩, h3⟩ := hc
    obtain ⟨tl, pl, il⟩ := po_of (lo := lo) (lk := lk) hl o h2
    obtain ⟨th, ph, ih⟩ := po_of (lo := lo) (lk := lk) hh o h3
    refine pea_of rfl (PE.imp (pe_slice (sl_any (lo := lo) (lk := lk) (W := W) o.gx.ok o.gx.hK) (ha d q W X lo lk x o h1).1 pl ph) fun σ H Q z => ?_)
    obtain ⟨φ, st, env, re, rp, p⟩ := z
    simp only [Mx.evE] at p
    refine ⟨φ, st, env, re, rp, (Post.bind p).imp fun x H1 z => ?_⟩
    obtain ⟨φ1, st1, v, e1, r1, v1, p1⟩ := z
    refine il _ _ _ ⟨φ1, st1, env, re.mono e1, r1, (PostO.seq p1).imp fun o1 H2 z => ?_⟩
    obtain ⟨φ2, st2, e2, r2, p2⟩ := z
    refine ih _ _ _ ⟨φ2, st2, env, (re.mono e1).mono e2, r2, (PostO.seq p2).imp fun o2 H3 z => ?_⟩
    obtain ⟨φ3, st3, e3, r3, p3⟩ := z
    exact ⟨φ3, st3, v, r3, (v1.mono e2).mono e3, p3⟩

/-! ### int(..), str(..), isinstance -/
theorem digit_of {k : Nat} (h : 48 ≤ k ∧ k ≤ 57) : PySem.intText? ⟨#[k]⟩ = some ((k : Int) - 48) := by
  have e : k = 48 ∨ k = 49 ∨ k = 50 ∨ k = 51 ∨ k = 52 ∨ k = 53 ∨ k = 54 ∨ k = 55 ∨ k = 56 ∨ k = 57 := by omega
  rcases e with rfl | rfl | rfl | rfl | rfl | rfl | rfl | rfl | rfl | rfl <;> decide +kernel
theorem digs_all : ((List.range 1000).all fun n => match Mx.digs (n : Int) with
  | some s => decide (((toString (n : Int) : String) : Str) = ⟨s.toArray⟩) && Mx.strOk s
  | none => false) = true := by decide +kernel
theorem digs_ok {i : Int} {s : List Nat} (h : Mx.digs i = some s) : ((toString i : String) : Str) = ⟨s.toArray⟩ ∧ Mx.strOk s = true ∧ i.natAbs < 1000 := by
  have hi : 0 ≤ i ∧ i < 1000 := by
    unfold Mx.digs at h
    by_cases h1 : (decide (0 ≤ i) && decide (i < 10)) = true
    · simp at h1; omega
    · rw [if_neg h1] at h
      by_cases h2 : (decide (0 ≤ i) && decide (i < 1000)) = true
      · simpa using h2
      · rw [if_neg h2] at h; cases h
  obtain ⟨n, rfl⟩ := Int.eq_ofNat_of_zero_le hi.1
  have hn : n < 1000 := by omega
  have := List.all_eq_true.mp digs_all n (List.mem_range.mpr hn)
  rw [h] at this
  simp only [Bool.and_eq_true, decide_eq_true_eq] at this
  exact ⟨this.1, this.2, by omega⟩
theorem log_small {i : Int} (h : i.natAbs < 1000) : i.natAbs.log2 < 1920 := by
  by_cases h0 : i.natAbs = 0
  · rw [h0]; decide
  · exact (Nat.log2_lt h0).mpr (Nat.lt_of_lt_of_le h (by decide +kernel))
theorem snd_strOf {a : E} (ha : SndE c a) : SndE c (.strOf a) := by
  intro d q W X lo lk e o h
  cases e <;> first | (cases h; done) | skip
  rename_i f args kws pos
  match f, args, kws, h with
  | .Name x p, [y], [], h =>
    simp only [chkE, Bool.and_eq_true, decide_eq_true_eq] at h
    obtain ⟨⟨⟨rfl, hg⟩, hp⟩, h1⟩ := h
    have hc : CallR X (.type "str") (rC1 c.g lo lk W fun st x => match Mx.strV st x with | some s => .ok (.str s) st | none => .bad) := by
      intro pins s σ H xs us Q I r h
      obtain ⟨x, rfl, φ, st, v, rep, rv, p⟩ := h
      cases rv with
      | none => exact p.elim
      | bool b => exact p.elim
      | fn f => exact p.elim
      | clo a b => exact p.elim
      | exc a b => exact p.elim
      | tup h1 h2 => exact p.elim
      | ref hn => exact p.elim
      | str z hz => exact SkE.call_str_str pins s σ H _ us Q I r ⟨_, rfl, Post.val p rep (.str _ hz)⟩
      | int i =>
        have p' : Post c.g lo lk W φ H (match Mx.digs i with | some s => .ok (.str s) st | none => .bad) Q := p
        cases hd : Mx.digs i with
        | none => rw [hd] at p'; exact p'.elim
        | some z =>
          rw [hd] at p'
          obtain ⟨h1, h2, h3⟩ := digs_ok hd
          refine call_str_int pins s σ H _ us Q I r ⟨i, rfl, log_small h3, ?_⟩
          have e : (V.str (toString i : String)) = .str ⟨z.toArray⟩ := by rw [h1]
          rw [e]
          exact Post.val p' rep (.str _ h2)
    refine pea_of rfl (PE.imp (pe_callTy hc (glB_ok (by rw [o.sc]; exact hg)) (o.gx.bn _ (by decide)) (by decide +kernel) (pa_one (ha d q W X lo lk y o h1).1 hp) (by decide) (by decide) (star_one hp) rfl) fun σ H Q z => ?_)
    exact TEv.imp (TEv.one (f := fun st x => match Mx.strV st x with | some s => .ok (.str s) st | none => .bad) z) fun x H1 z1 => ⟨x, rfl, z1⟩
theorem snd_intOf {a : E} (ha : SndE c a) : SndE c (.intOf a) := by
  intro d q W X lo lk e o h
  cases e <;> first | (cases h; done) | skip
  rename_i f args kws pos
  match f, args, kws, h with
  | .Name x p, [y], [], h =>
    simp only [chkE, Bool.and_eq_true, decide_eq_true_eq] at h
    obtain ⟨⟨⟨rfl, hg⟩, hp⟩, h1⟩ := h
    have hc : CallR X (.type "int") (rC1 c.g lo lk W fun st x => match x with
      | .bool b => .ok (.int (Mx.b2i b)) st
      | .str [c] => if 48 ≤ c && c ≤ 57 then .ok (.int ((c : Int) - 48)) st else .bad
      | _ => .bad) := by
      intro pins s σ H xs us Q I r h
      obtain ⟨x, rfl, φ, st, v, rep, rv, p⟩ := h
      cases rv with
      | none => exact p.elim
      | int i => exact p.elim
      | fn f => exact p.elim
      | clo a b => exact p.elim
      | exc a b => exact p.elim
      | tup h1 h2 => exact p.elim
      | ref hn => exact p.elim
      | bool b => exact call_int1 pins s σ H _ us Q I r (.inr ⟨b, rfl, Post.val p rep (by cases b <;> exact .int _)⟩)
      | str z hz =>
        match z, p with
        | [k], p =>
          by_cases hk : (decide (48 ≤ k) && decide (k ≤ 57)) = true
          · simp only [hk, if_true] at p
            have hk' : 48 ≤ k ∧ k ≤ 57 := by simpa using hk
            refine call_int_str pins s σ H _ us Q I r ⟨⟨#[k]⟩, (k : Int) - 48, rfl, digit_of hk', by show 1 ≤ 640; decide, Post.val p rep (.int _)⟩
          · simp only [hk] at p
            exact p.elim
        | [], p => exact p.elim
        | _ :: _ :: _, p => exact p.elim
    refine pea_of rfl (PE.imp (pe_callTy hc (glB_ok (by rw [o.sc]; exact hg)) (o.gx.bn _ (by decide)) (by decide +kernel) (pa_one (ha d q W X lo lk y o h1).1 hp) (by decide) (by decide) (star_one hp) rfl) fun σ H Q z => ?_)
    exact TEv.imp (TEv.one (f := fun st x => match x with
      | .bool b => .ok (.int (Mx.b2i b)) st
      | .str [c] => if 48 ≤ c && c ≤ 57 then .ok (.int ((c : Int) - 48)) st else .bad
      | _ => .bad) z) fun x H1 z1 => ⟨x, rfl, z1⟩
def tyS : Ty → String
  | .int => "int"
  | .bool => "bool"
  | .tup => "tuple"
  | .str => "str"
  | .dict => "dict"
  | .list => "list"
  | _ => ""
theorem kit_tab : ∀ k t : Ty, Mx.isB k = true → Mx.isB t = true → kitB (tyS k) (tyS t) = some (Mx.subB k t) := by
  intro k t hk ht
  cases k <;> first | (cases hk; done) | skip
  all_goals (cases t <;> first | (cases ht; done) | decide +kernel)
theorem kit_non : ∀ t : Ty, Mx.isB t = true → kitB "NoneType" (tyS t) = some false := by
  intro t ht
  cases t <;> first | (cases ht; done) | decide +kernel
theorem ty_boot : ∀ {t : Ty} {n : Str}, tyName t = some n → Mx.isB t = true ∧ bootBuiltins n = some (.type (tyS t)) ∧ n ∈ bnames ∧ n ≠ "__name__" ∧ (n == ("__debug__" : Str)) = false := by
  intro t n h
  cases t <;> first | (cases h; done) | (cases h; decide +kernel)
/-- isinstance of a caught exception -/
def rIsX (X : Cx) : List V → Hp → VK → Prop := fun xs H Q => ∃ (a D : Addr) (cV : V) (cv : Value) (b : Bool), xs = [.ref a, cV] ∧ (∀ u, RelV cV u → u = cv) ∧ H a = some (ExK (.ref D) a) ∧ ExcC X.K D ∧ PySem.W.kitOne X.K (.ref D) cv = some b ∧ Q (.bl b) H
/-- the tracked exception as an instance -/
theorem exK_inst {P : Program} {w : World} {H : Hp} {h : Heap} {a D : Addr} (k : ObjOk P w H h a (ExK (.ref D) a)) : ∃ ox, PySem.W.InstAt h a ox D none := by
  obtain ⟨⟨cl, dc, dt, sl⟩, vs, g, ⟨hc, hd⟩, hf⟩ := k.1
  cases (show cl = Value.ref D from hc)
  cases (show dc = none from hd)
  cases (show dt = Data.fields vs from hf)
  exact ⟨_, g, rfl, rfl, trivial⟩
theorem call_isX {X : Cx} : CallR X (.builtin "isinstance") (rIsX X) := fun pins s σ H xs us Q I r ⟨a, D, cV, cv, b, exs, hcv, hx, C, e, q⟩ => by
  cases exs
  match us, r with
  | [ua, uc], .cons ra (.cons rc .nil) =>
    cases ra
    cases hcv uc rc
    obtain ⟨ox, inst⟩ := exK_inst (I.hok a _ hx)
    have kit := PySem.W.handS_kitx_exc (x := a) (ox := ox) C.hg C.hk C.hs C.hd C.ha C.hn C.ht C.hm
    exact PySem.W.kia_one kit I.kIn inst e (by simp) fun tk => ⟨.bl b, H, I.tok tk, rfl, q⟩
/-- the exception classes as an answer -/
def tyX : Ty → Bool
  | .verr => true
  | .xcls _ => true
  | _ => false
theorem isiX_only {g : G} {lo : Nat} {lk : List Nat} {W : Nat → Hp → Prop} {φ : List Addr} {H : Hp} {st : Store} {t : Ty} (ht : tyX t = true) {v : Val} {Q : VK} (p : Post g lo lk W φ H (match Mx.isiV st t v with | some b => .ok (.bool b) st | none => .bad) Q) : ∃ k, v = .exc k ∧ k < 10 ∧ ((t = .verr ∧ Mx.isiV st t v = some true) ∨ ∃ j, j < 10 ∧ t = .xcls j ∧ Mx.isiV st t v = some (k == j)) := by
  have hne : Mx.isiV st t v ≠ none := fun z => by rw [z] at p; exact p
  have hs : ∀ k : Ty, Mx.subT k t = none := fun k => by cases t <;> first | (cases ht; done) | (cases k <;> rfl)
  cases v with
  | exc k =>
    refine ⟨k, rfl, ?_⟩
    cases t <;> first | (cases ht; done) | skip
    · by_cases hk : k < 10
      · exact ⟨hk, .inl ⟨rfl, if_pos hk⟩⟩
      · exact absurd (if_neg hk) hne
    · rename_i j
      by_cases hk : (decide (k < 10) && decide (j < 10)) = true
      · have := hk
        simp only [Bool.and_eq_true, decide_eq_true_eq] at this
        exact ⟨this.1, .inr ⟨j, this.2, rfl, if_pos hk⟩⟩
      · exact absurd (if_neg hk) hne
  | none => exact absurd (by cases t <;> first | (cases ht; done) | rfl) hne
  | bool b => exact absurd (by unfold Mx.isiV; simp [hs, Mx.tyV]) hne
  | int b => exact absurd (by unfold Mx.isiV; simp [hs, Mx.tyV]) hne
  | str b => exact absurd (by unfold Mx.isiV; simp [hs, Mx.tyV]) hne
  | tup b => exact absurd (by unfold Mx.isiV; simp [hs, Mx.tyV]) hne
  | fn b => exact absurd (by unfold Mx.isiV; simp [hs, Mx.tyV]) hne
  | clo b b' => exact absurd (by unfold Mx.isiV; simp [hs, Mx.tyV]) hne
  | ref n =>
    refine absurd ?_ hne
    show (Mx.tyV st (.ref n)).bind _ = _
    cases Mx.tyV st (.ref n) with
    | none => rfl
    | some k => exact hs k
theorem snd_isiX {a : E} (t : Ty) (ht : tyX t = true) (ha : SndE c a) : SndE c (.isi t a) := by
  intro d q W X lo lk e o h
  cases e <;> first | (cases h; done) | skip
  rename_i f args kws pos
  match f, args, kws, h with
  | .Name x p, [y, .Name n p2], [], h =>
    simp only [chkE, Bool.and_eq_true, decide_eq_true_eq] at h
    obtain ⟨⟨⟨⟨rfl, hg⟩, hp⟩, h1⟩, h2⟩ := h
    have fin : ∀ (cV : V) (cv : Value), PE X (.Name n p2) (tC cV) → (∀ u, RelV cV u → u = cv) → (∀ k b st, Mx.isiV st t (.exc k) = some b → k < 10 → PySem.W.kitOne X.K (.ref (c.g.xa k)) cv = some b) → PEA X (.Call (.Name "isinstance" p) [y, .Name n p2] [] pos) (TEv c.g lo lk W (Mx.evE (c.cx d lo) (.isi t a) lk)) := fun cV cv hpe hcv hkit => by
      refine pea_of rfl (PE.imp (pe_callB call_isX (glB_ok (by rw [o.sc]; exact hg)) (o.gx.bn _ (by decide)) (by decide +kernel) (pa_cons (ha d q W X lo lk y o h1).1 (pa_cons hpe pa_nil rfl) (star_cons hp)) (by decide) (by decide) (star_cons hp) rfl) fun σ H Q z => ?_)
      refine TEv.imp (TEv.one (f := fun st x => match Mx.isiV st t x with | some b => .ok (.bool b) st | none => .bad) z) fun x H1 z1 => ?_
      obtain ⟨φ, st, v, rep, rv, p⟩ := z1
      obtain ⟨k, rfl, hk, hb⟩ := isiX_only ht p
      obtain ⟨b, hb⟩ : ∃ b, Mx.isiV st t (.exc k) = some b := by
        rcases hb with ⟨_, hb⟩ | ⟨j, _, _, hb⟩
        · exact ⟨_, hb⟩
        · exact ⟨_, hb⟩
      have p : Post c.g lo lk W φ H1 (.ok (.bool b) st) Q := by simpa only [hb] using p
      show rIsX X [x, cV] H1 Q
      cases rv with
      | exc hx _ => exact ⟨_, _, cV, cv, b, rfl, hcv, hx, (o.gx.xi k hk).1, hkit k b st hb hk, Post.val p rep (.bool _)⟩
    cases t <;> first | (cases ht; done) | skip
    · simp only [Bool.and_eq_true, decide_eq_true_eq] at h2
      obtain ⟨rfl, hg2⟩ := h2
      refine fin (.ty "ValueError") (.type "ValueError") (pe_bltn (glB_ok (by rw [o.sc]; exact hg2)) (o.gx.bn _ (by decide)) (by decide +kernel) rfl (by decide) (by decide)) (fun u r => r) fun k b st hb hk => ?_
      have hb' : (if k < 10 then some true else none) = some b := hb
      rw [if_pos hk] at hb'
      cases hb'
      exact (o.gx.xi k hk).2.1
    · rename_i j
      simp only [Bool.and_eq_true, decide_eq_true_eq] at h2
      obtain ⟨⟨hx, hg2⟩, hn⟩ := h2
      unfold okN at hn
      simp only [Bool.and_eq_true, Bool.not_eq_true'] at hn
      refine fin (.ref (c.g.xa j)) (.ref (c.g.xa j)) (pe_glob (glB_ok (by rw [o.sc]; exact hg2)) (o.gx.xc j n hx).1 rfl hn.1.1) (fun u r => r) fun k b st hb hk => ?_
      have hb' : (if (decide (k < 10) && decide (j < 10)) = true then some (k == j) else none) = some b := hb
      by_cases hj : (decide (k < 10) && decide (j < 10)) = true
      · rw [if_pos hj] at hb'
        cases hb'
        simp only [Bool.and_eq_true, decide_eq_true_eq] at hj
        exact (o.gx.xi k hk).2.2.2 j hj.2
      · rw [if_neg hj] at hb'
        cases hb'
theorem subT_eq {k t : Ty} (h1 : Mx.isB k = true) (h2 : Mx.isB t = true) : Mx.subT k t = some (Mx.subB k t) := by
  unfold Mx.subT
  rw [h1, h2]
  rfl
def tyO : Mx.Obj → Option Ty
  | .lst _ => some .list
  | .frz _ => some .list
  | .dct _ => none
  | .ins c _ => some (.cls c)
theorem isi_ref {st : Store} {m : Nat} {ob : Mx.Obj} (t : Ty) (ho : st[m]? = some ob) : Mx.isiV st t (.ref m) = (tyO ob).bind fun k => Mx.subT k t := by
  have e : Mx.tyV st (.ref m) = tyO ob := by
    simp only [Mx.tyV, ho]
    cases ob <;> rfl
  show (Mx.tyV st (.ref m)).bind _ = _
  rw [e]
theorem snd_isi {a : E} (t : Ty) (ha : SndE c a) : SndE c (.isi t a) := by
  cases htx : tyX t with
  | true => exact snd_isiX t htx ha
  | false =>
    intro d q W X lo lk e o h
    cases e <;> first | (cases h; done) | skip
    rename_i f args kws pos
    match f, args, kws, h with
    | .Name x p, [y, .Name n p2], [], h =>
      simp only [chkE, Bool.and_eq_true, decide_eq_true_eq] at h
      obtain ⟨⟨⟨⟨rfl, hg⟩, hp⟩, h1⟩, h2⟩ := h
      have h2 : (match tyName t with
        | some m => decide (n = m) && glB q.sc n
        | none => false) = true := by cases t <;> first | (cases htx; done) | exact h2
      cases hn : tyName t with
      | none => rw [hn] at h2; cases h2
      | some m =>
        rw [hn] at h2
        simp only [Bool.and_eq_true, decide_eq_true_eq] at h2
        obtain ⟨rfl, hg2⟩ := h2
        obtain ⟨b1, b2, b3, b4, b5⟩ := ty_boot hn
        have hc : CallR X (.builtin "isinstance") (fun xs H Q => ∃ x, xs = [x, .ty (tyS t)] ∧ rU1 c.g lo lk W (fun st x => match Mx.isiV st t x with | some b => .ok (.bool b) st | none => .bad) x H Q) := by
          intro pins s σ H xs us Q I r h
          obtain ⟨x, rfl, φ, st, v, rep, rv, p⟩ := h
          have pp : ∀ b, Mx.isiV st t v = some b → Post c.g lo lk W φ H (.ok (.bool b) st) Q := fun b e => by simpa only [e] using p
          have key : ∀ (k : Ty) (r' : Bool), Mx.isB k = true → TyX X.K H x (.type (tyS k)) → Q (.bl (Mx.subB k t)) H → wpAny (model X.prog X.w) X.A (call (.builtin "isinstance") us) (EP X pins σ Q) X.xe s := fun k r' h1 h2 h3 =>
            call_isi pins s σ H _ us Q I r ⟨x, .ty (tyS t), .type (tyS k), .type (tyS t), _, rfl, .ty _, h2, kit_ty (kit_tab k t h1 b1), h3⟩
          cases rv with
          | none => exact call_isi pins s σ H _ us Q I r ⟨_, .ty (tyS t), .type "NoneType", .type (tyS t), _, rfl, .ty _, .base .non, kit_ty (kit_non t b1), Post.val (pp _ (if_pos b1)) rep (.bool _)⟩
          | bool b => exact key .bool true rfl (.base (.bl _)) (Post.val (pp _ (subT_eq rfl b1)) rep (.bool _))
          | int i => exact key .int true rfl (.base (.int _)) (Post.val (pp _ (subT_eq rfl b1)) rep (.bool _))
          | str z hz => exact key .str true rfl (.base (.str _)) (Post.val (pp _ (subT_eq rfl b1)) rep (.bool _))
          | fn f => exact p.elim
          | clo a b => exact p.elim
          | exc a b => cases t <;> first | (cases b1; done) | exact p.elim
          | tup h1 h2 =>
            refine key .tup true rfl ?_ (Post.val (pp _ (subT_eq rfl b1)) rep (.bool _))
            rcases (show SqT c.g.K H _ _ from h1) with (h | ⟨ob, h⟩) | ⟨ob, its, m, k1, k2, _⟩
            · exact .base (.tup h)
            · exact .fTuple h
            · exact .kTuple (o.gx.hK ▸ k1) k2
          | @ref m a hm =>
            cases ho : st[m]? with
            | none =>
              exfalso
              have e : Mx.isiV st t (.ref m) = none := by
                show (Mx.tyV st (.ref m)).bind _ = _
                simp only [Mx.tyV, ho]
                rfl
              simp only [e] at p
              exact p
            | some ob =>
              have e := isi_ref t ho
              cases ob with
              | lst l =>
                obtain ⟨xs, hx, _⟩ := rep.obj m _ a ho hm
                exact key .list true rfl (.base (.lst hx)) (Post.val (pp _ (e.trans (subT_eq rfl b1))) rep (.bool _))
              | frz l =>
                obtain ⟨o', xs, hx, _⟩ := rep.obj m _ a ho hm
                exact key .list true rfl (.base (.frz hx)) (Post.val (pp _ (e.trans (subT_eq rfl b1))) rep (.bool _))
              | dct l =>
                simp only [e] at p
                exact p.elim
              | ins k fs =>
                exfalso
                have e2 : Mx.subT (.cls k) t = none := by cases t <;> first | (cases b1; done) | rfl
                simp only [e.trans e2] at p
                exact p
        have h2' : PE X (.Name n p2) (tC (.ty (tyS t))) := pe_bltn (glB_ok (by rw [o.sc]; exact hg2)) (o.gx.bn _ b3) b2 rfl b4 b5
        refine pea_of rfl (PE.imp (pe_callB hc (glB_ok (by rw [o.sc]; exact hg)) (o.gx.bn _ (by decide)) (by decide +kernel) (pa_cons (ha d q W X lo lk y o h1).1 (pa_cons h2' pa_nil rfl) (star_cons hp)) (by decide) (by decide) (star_cons hp) rfl) fun σ H Q z => ?_)
        exact TEv.imp (TEv.one (f := fun st x => match Mx.isiV st t x with | some b => .ok (.bool b) st | none => .bad) z) fun x H1 z1 => ⟨x, rfl, z1⟩
end Sd
end

section
set_option Elab.async false
set_option linter.all false
set_option maxRecDepth 100000
set_option maxHeartbeats 1000000
set_option autoImplicit false
namespace Sd
open PySem PySem.Spec PyProof.Rows L2
open Mx (Val Res SR Op Cmp Ty Tg E S Store)
variable {c : Cfg}

/-! ### methods of built-in values: the library's pe_bm, one argument -/
theorem base_ok {o : Expr} (h : base o = true) (name : Str) (env : Env) : attributeBase o name env (eval o env) = eval o env := by
  unfold attributeBase
  split
  · cases h
  · rfl
theorem pe_m1 {X : Cx} {o e : Expr} {to te : TE} {name : Str} {apos cpos : Pos} {T id : String} {r : V → List V → Hp → VK → Prop} (pa : PlainAttrs T) (slot : Slot T name id) (hty : typeOf (.builtin id) = pure (.type "method_descriptor")) (mt : MtR X id r)
    (ho : PE X o to) (he : PE X e te) (hm : methB o name name apos cpos = true) (hp : plain e = true) : PE X (.Call (.Attribute o name apos) [e] [] cpos) (tBM X.K T r to (fun σ H Q => te σ H fun x H1 => Q [x] H1)) := by
  simp only [methB, Bool.and_eq_true] at hm
  exact pe_bm pa slot hty mt ho (pa_one he hp) (base_ok hm.1.2 _ _) (by rw [star_cons hp]; rfl) hm.1.1.2 (star_one hp) rfl

/-! ### append -/
theorem snd_app {a e : E} (ha : SndE c a) (he : SndE c e) : SndE c (.app a e) := by
  intro d q W X lo lk ex o h
  cases ex <;> first | (cases h; done) | skip
  rename_i f args kws cp
  match f, args, kws, h with
  | .Attribute x n ap, [y], [], h =>
    simp only [chkE, Bool.and_eq_true] at h
    obtain ⟨⟨⟨hm, hp⟩, h1⟩, h2⟩ := h
    have hn : n = ("append" : Str) := by
      simp only [methB, Bool.and_eq_true, decide_eq_true_eq] at hm
      exact hm.1.1.1
    subst hn
    refine pea_of rfl (PE.imp (pe_m1 F.plainAttrs_list F.slot_list_append F.type_list_append mt_append (ha d q W X lo lk x o h1).1 (he d q W X lo lk y o h2).1 hm hp) fun σ H Q z => ?_)
    obtain ⟨φ, st, env, re, rp, p⟩ := z
    simp only [Mx.evE] at p
    refine ⟨φ, st, env, re, rp, (Post.bind p).imp fun x1 H1 z => ?_⟩
    obtain ⟨φ1, st1, v, e1, r1, v1, p1⟩ := z
    cases v1 <;> try exact False.elim p1
    rename_i n' b hn
    cases hl : Mx.listAt st1 n' with
    | none => simp only [Mx.isL, hl] at p1; exact p1.elim
    | some l0 =>
      simp only [Mx.isL, hl, Option.isSome_some, Bool.not_true, Bool.false_eq_true, if_false] at p1
      obtain ⟨xs, hxs, _⟩ := r1.list hl hn X.K
      refine ⟨.inl ⟨rfl, xs, hxs⟩, ?_⟩
      refine ⟨φ1, st1, env, re.mono e1, r1, (Post.bind p1).imp fun y1 H2 z => ?_⟩
      obtain ⟨φ2, st2, u, e2, r2, v2, p2⟩ := z
      have hn2 := e2.get hn
      cases ho : st2[n']? with
      | none => simp only [ho] at p2; exact p2.elim
      | some ob =>
        cases ob <;> try (simp only [ho] at p2; exact p2.elim)
        rename_i l
        simp only [ho] at p2
        by_cases hw : (Mx.canW (c.cx d lo) lk n' && decide (l.length < Mx.lim)) = true
        · rw [if_pos hw] at p2
          simp only [Mx.canW, Bool.and_eq_true, decide_eq_true_eq, Bool.not_eq_true'] at hw
          obtain ⟨⟨w1, w2⟩, w3⟩ := hw
          obtain ⟨ys, hy, rvs⟩ := r2.lst ho hn2
          have hwr : Wr H2 b := .inl ⟨_, hy⟩
          have hnl : ¬ (n' < lo ∨ n' ∈ lk) := by
            rintro (z | z)
            · exact absurd w1 (Nat.not_le.mpr z)
            · have : lk.contains n' = true := List.contains_iff_mem.mpr z
              rw [this] at w2; cases w2
          refine ⟨b, ys, y1, rfl, rfl, hy, by rw [← rvs.length]; exact Nat.lt_trans w3 lim_lt, ?_⟩
          exact p2 φ2 _ _ (Ext.write o.gx.ok hwr hn2 hnl) (Rep.write o.gx.ok r2 hwr hn2 ⟨_, upd_same, (rvs.append (.cons v2 .nil)).at_upd o.gx.ok hwr hn2⟩) .none
        · rw [if_neg hw] at p2
          exact p2.elim

/-! ### index -/
theorem idxL_spec {y : Val} {n m : Nat} (hy : Mx.isDn y m = true) : ∀ {l : List Val} {i : Nat}, Mx.isDLn l n = true → Mx.idxL y l = some i → ∃ z, (toDL l)[i]? = some z ∧ PyData.eqv z (toD y) = true ∧ ∀ (k : Nat) (z' : PyData), k < i → (toDL l)[k]? = some z' → PyData.eqv z' (toD y) = false
  | [], i, _, h => by simp [Mx.idxL] at h
  | x :: r, i, hl, h => by
    simp only [Mx.isDLn, Bool.and_eq_true] at hl
    simp only [Mx.idxL] at h
    by_cases hx : Mx.veq x y = true
    · rw [if_pos hx] at h
      cases h
      exact ⟨toD x, rfl, by rw [eqv_toD x y _ _ hl.1 hy]; exact hx, fun k z' hk => absurd hk (Nat.not_lt_zero _)⟩
    · rw [if_neg hx] at h
      cases hr : Mx.idxL y r with
      | none => rw [hr] at h; cases h
      | some j =>
        rw [hr] at h
        cases h
        obtain ⟨z, h1, h2, h3⟩ := idxL_spec hy hl.2 hr
        refine ⟨z, h1, h2, fun k z' hk hz => ?_⟩
        cases k with
        | zero =>
          cases (show some (toD x) = some z' from hz)
          rw [eqv_toD x y _ _ hl.1 hy]
          simpa using hx
        | succ k => exact h3 k z' (Nat.lt_of_succ_lt_succ hk) hz
theorem count_one {k : Nat} : ∀ {s : List Nat} {i j : Nat}, s.count k = 1 → s[i]? = some k → s.idxOf? k = some j → i = j
  | [], i, j, h, _, _ => by simp at h
  | x :: r, i, j, h, hi, hj => by
    rw [List.idxOf?_cons] at hj
    by_cases hx : x = k
    · subst hx
      simp at hj
      cases i with
      | zero => exact hj
      | succ i =>
        exfalso
        simp at h
        have := List.count_pos_iff.mpr (List.mem_of_getElem? (show r[i]? = some x from hi))
        omega
    · cases i with
      | zero => exact absurd (Option.some.inj hi) hx
      | succ i =>
        have hb : (x == k) = false := by simpa using hx
        rw [List.count_cons, hb] at h
        simp only [hb] at hj
        cases hr : r.idxOf? k with
        | none => rw [hr] at hj; simp at hj
        | some j' =>
          rw [hr] at hj
          simp at hj
          have := count_one (s := r) (i := i) (j := j') (by simpa using h) hi hr
          omega
theorem occ_first {s : List Nat} {k i : Nat} (h1 : s.count k = 1) (h2 : s.idxOf? k = some i) : ∃ rest, Builtin.Str.occurrences ⟨s.toArray⟩ ⟨#[k]⟩ 0 (⟨s.toArray⟩ : Str).length 1 = i :: rest := by
  have hin : k ∈ s := by
    apply List.count_pos_iff.mp
    omega
  have hne : (!(Builtin.Str.occurrences ⟨s.toArray⟩ ⟨#[k]⟩ 0 (⟨s.toArray⟩ : Str).length 1).isEmpty) = true := by
    rw [PySem.StrLaws.found_one]
    exact decide_eq_true hin
  cases ho : Builtin.Str.occurrences ⟨s.toArray⟩ ⟨#[k]⟩ 0 (⟨s.toArray⟩ : Str).length 1 with
  | nil => rw [ho] at hne; cases hne
  | cons j rest =>
    refine ⟨rest, ?_⟩
    have hj := (PySem.StrLaws.occ_spec ⟨s.toArray⟩ ⟨#[k]⟩ 0 (⟨s.toArray⟩ : Str).length 1 j (by rw [ho]; simp)).2
    rw [PySem.StrLaws.subAt_eq] at hj
    have hj' : (s.drop j).take 1 = [k] := eq_of_beq hj
    have hjk : s[j]? = some k := by
      have := congrArg (·[0]?) hj'
      simpa using this
    rw [count_one h1 hjk h2]
theorem snd_idxS {a e : E} (ha : SndE c a) (he : SndE c e) : SndE c (.idxS a e) := by
  intro d q W X lo lk ex o h
  cases ex <;> first | (cases h; done) | skip
  rename_i f args kws cp
  match f, args, kws, h with
  | .Attribute x n ap, [y], [], h =>
    simp only [chkE, Bool.and_eq_true] at h
    obtain ⟨⟨⟨hm, hp⟩, h1⟩, h2⟩ := h
    have hn : n = ("index" : Str) := by
      simp only [methB, Bool.and_eq_true, decide_eq_true_eq] at hm
      exact hm.1.1.1
    subst hn
    refine pea_of rfl (PE.imp (pe_m1 F.plainAttrs_str F.slot_str_index F.type_str_index mt_sindex (ha d q W X lo lk x o h1).1 (he d q W X lo lk y o h2).1 hm hp) fun σ H Q z => ?_)
    obtain ⟨φ, st, env, re, rp, p⟩ := z
    simp only [Mx.evE] at p
    refine ⟨φ, st, env, re, rp, (Post.bind p).imp fun x1 H1 z => ?_⟩
    obtain ⟨φ1, st1, v, e1, r1, v1, p1⟩ := z
    cases v1 <;> try exact False.elim p1
    rename_i s hs
    simp only [Mx.isS, Bool.not_true, Bool.false_eq_true, if_false] at p1
    refine ⟨rfl, ?_⟩
    refine ⟨φ1, st1, env, re.mono e1, r1, (Post.bind p1).imp fun y1 H2 z => ?_⟩
    obtain ⟨φ2, st2, u, e2, r2, v2, p2⟩ := z
    cases v2 <;> try exact False.elim p2
    rename_i t ht
    match t, p2 with
    | [], p2 => exact p2.elim
    | _ :: _ :: _, p2 => exact p2.elim
    | [k], p2 =>
      cases hi : s.idxOf? k with
      | none => simp only [hi] at p2; exact p2.elim
      | some i =>
        simp only [hi] at p2
        by_cases hc : s.count k = 1
        · rw [if_pos hc] at p2
          obtain ⟨rest, ho⟩ := occ_first hc hi
          exact ⟨_, _, i, rest, rfl, rfl, ho, Post.val p2 r2 (.int _)⟩
        · rw [if_neg hc] at p2
          exact p2.elim
theorem snd_idx {a e : E} (ha : SndE c a) (he : SndE c e) : SndE c (.idx a e) := by
  intro d q W X lo lk ex o h
  cases ex <;> first | (cases h; done) | skip
  rename_i f args kws cp
  match f, args, kws, h with
  | .Attribute x n ap, [y], [], h =>
    simp only [chkE, Bool.and_eq_true] at h
    obtain ⟨⟨⟨hm, hp⟩, h1⟩, h2⟩ := h
    have hn : n = ("index" : Str) := by
      simp only [methB, Bool.and_eq_true, decide_eq_true_eq] at hm
      exact hm.1.1.1
    subst hn
    refine pea_of rfl (PE.imp (pe_m1 F.plainAttrs_list F.slot_list_index F.type_list_index (mt_indexD o.units) (ha d q W X lo lk x o h1).1 (he d q W X lo lk y o h2).1 hm hp) fun σ H Q z => ?_)
    obtain ⟨φ, st, env, re, rp, p⟩ := z
    simp only [Mx.evE] at p
    refine ⟨φ, st, env, re, rp, (Post.bind p).imp fun x1 H1 z => ?_⟩
    obtain ⟨φ1, st1, v, e1, r1, v1, p1⟩ := z
    cases v1 <;> try exact False.elim p1
    rename_i n' b hn
    cases hl : Mx.listAt st1 n' with
    | none => simp only [Mx.isL, hl] at p1; exact p1.elim
    | some l0 =>
      simp only [Mx.isL, hl, Option.isSome_some, Bool.not_true, Bool.false_eq_true, if_false] at p1
      obtain ⟨xs, hxs, _⟩ := r1.list hl hn X.K
      refine ⟨.inl ⟨rfl, xs, hxs⟩, ?_⟩
      refine ⟨φ1, st1, env, re.mono e1, r1, (Post.bind p1).imp fun y1 H2 z => ?_⟩
      obtain ⟨φ2, st2, u, e2, r2, v2, p2⟩ := z
      have hn2 := e2.get hn
      cases ho : Mx.listAt st2 n' with
      | none => simp only [ho] at p2; exact p2.elim
      | some l =>
        simp only [ho] at p2
        by_cases hw : (Mx.isDL l && Mx.isD u) = true
        · rw [if_pos hw] at p2
          rw [Bool.and_eq_true] at hw
          cases hi : Mx.idxL u l with
          | none => simp only [hi] at p2; exact p2.elim
          | some i =>
            simp only [hi] at p2
            obtain ⟨z, z1, z2, z3⟩ := idxL_spec (y := u) hw.2 hw.1 hi
            obtain ⟨d1, d2⟩ := r2.listD ho hn2 hw.1
            exact ⟨b, y1, toD u, toDL l, i, z, rfl, rfl, o.gx.hK ▸ d1, o.gx.hK ▸ v2.dp hw.2, d2, v2.shaped hw.2, z1, z2, z3, Post.val p2 r2 (.int _)⟩
        · rw [if_neg hw] at p2
          exact p2.elim
/-! ### split -/
theorem spl_one (k : Nat) : ∀ (l acc : List Nat), TL.spl [k] 0 acc l = (match Mx.splitL k l with | h :: t => (acc ++ h) :: t | [] => [acc])
  | [], acc => by simp [TL.spl_nil, Mx.splitL]
  | x :: r, acc => by
    by_cases hx : x = k
    · subst hx
      rw [TL.spl_hit (by simp [TL.pre])]
      have ih := spl_one x r []
      simp only [List.length_singleton, Nat.sub_self, Mx.splitL, if_true, List.append_nil]
      rw [ih]
      cases hs : Mx.splitL x r with
      | nil =>
        exfalso
        cases r with
        | nil => simp [Mx.splitL] at hs
        | cons y r =>
          simp only [Mx.splitL] at hs
          split at hs
          · cases hs
          · split at hs <;> cases hs
      | cons h t => simp
    · rw [TL.spl_miss (TL.pre_of_head [] r hx)]
      rw [spl_one k r (acc ++ [x])]
      simp only [Mx.splitL, hx, if_false]
      cases hs : Mx.splitL k r with
      | nil => simp
      | cons h t => simp
theorem splitL_ne (k : Nat) (l : List Nat) : Mx.splitL k l ≠ [] := by
  cases l with
  | nil => simp [Mx.splitL]
  | cons x r =>
    simp only [Mx.splitL]
    split
    · simp
    · split <;> simp
theorem split_one (k : Nat) (l : List Nat) : TL.spl [k] 0 [] l = Mx.splitL k l := by
  rw [spl_one]
  cases hs : Mx.splitL k l with
  | nil => exact absurd hs (splitL_ne k l)
  | cons h t => simp
theorem splitL_mem {k : Nat} : ∀ {l w : List Nat}, w ∈ Mx.splitL k l → w.length ≤ l.length ∧ ∀ x ∈ w, x ∈ l
  | [], w, h => by simp [Mx.splitL] at h; subst h; simp
  | y :: r, w, h => by
    simp only [Mx.splitL] at h
    split at h
    · rcases List.mem_cons.mp h with rfl | h
      · simp
      · obtain ⟨h1, h2⟩ := splitL_mem h
        exact ⟨by simp; omega, fun x hx => List.mem_cons_of_mem _ (h2 x hx)⟩
    · split at h
      · rename_i hd t he
        rcases List.mem_cons.mp h with rfl | h
        · obtain ⟨h1, h2⟩ := splitL_mem (k := k) (l := r) (w := hd) (by rw [he]; simp)
          refine ⟨by simpa using h1, fun x hx => ?_⟩
          rcases List.mem_cons.mp hx with rfl | hx
          · simp
          · exact List.mem_cons_of_mem _ (h2 x hx)
        · obtain ⟨h1, h2⟩ := splitL_mem (k := k) (l := r) (w := w) (by rw [he]; exact List.mem_cons_of_mem _ h)
          exact ⟨by simp; omega, fun x hx => List.mem_cons_of_mem _ (h2 x hx)⟩
      · simp at h
        subst h
        simp
theorem RVs.strs {g : G} {H : Hp} {φ : List Addr} : ∀ {l : List (List Nat)}, (∀ w ∈ l, Mx.strOk w = true) → RVs g H φ (l.map .str) ((l.map SX.S).map V.str)
  | [], _ => .nil
  | x :: r, h => .cons (.str x (h x (by simp))) (RVs.strs fun w hw => h w (List.mem_cons_of_mem _ hw))
theorem snd_split {a e : E} (ha : SndE c a) (he : SndE c e) : SndE c (.split a e) := by
  intro d q W X lo lk ex o h
  cases ex <;> first | (cases h; done) | skip
  rename_i f args kws cp
  match f, args, kws, h with
  | .Attribute x n ap, [y], [], h =>
    simp only [chkE, Bool.and_eq_true] at h
    obtain ⟨⟨⟨hm, hp⟩, h1⟩, h2⟩ := h
    have hn : n = ("split" : Str) := by
      simp only [methB, Bool.and_eq_true, decide_eq_true_eq] at hm
      exact hm.1.1.1
    subst hn
    refine pea_of rfl (PE.imp (pe_m1 F.plainAttrs_str F.slot_str_split F.type_str_split mt_split (ha d q W X lo lk x o h1).1 (he d q W X lo lk y o h2).1 hm hp) fun σ H Q z => ?_)
    obtain ⟨φ, st, env, re, rp, p⟩ := z
    simp only [Mx.evE] at p
    refine ⟨φ, st, env, re, rp, (Post.bind p).imp fun x1 H1 z => ?_⟩
    obtain ⟨φ1, st1, v, e1, r1, v1, p1⟩ := z
    cases v1 <;> try exact False.elim p1
    rename_i s hs
    simp only [Mx.isS, Bool.not_true, Bool.false_eq_true, if_false] at p1
    refine ⟨rfl, ?_⟩
    refine ⟨φ1, st1, env, re.mono e1, r1, (Post.bind p1).imp fun y1 H2 z => ?_⟩
    obtain ⟨φ2, st2, u, e2, r2, v2, p2⟩ := z
    cases v2 <;> try exact False.elim p2
    rename_i t ht
    match t, p2 with
    | [], p2 => exact p2.elim
    | _ :: _ :: _, p2 => exact p2.elim
    | [k], p2 =>
      by_cases hk : k < 256
      · simp only [hk, if_true] at p2
        have hl := strOk_len hs
        refine ⟨SX.S s, SX.S [k], rfl, rfl, rfl, ?_, fun p' hp' => ?_⟩
        · rw [show (SX.S s).length = s.length from str_len s]
          have := lim_lt
          unfold Mx.lim at hl this
          have e : (100002 : Nat) ≤ sizeLine := by decide
          omega
        · rw [SX.split_S (a := s) (b := [k]) (by simp) (by simpa using hk), split_one]
          refine Post.newL o.gx.ok p2 r2 (RVs.strs fun w hw => ?_) hp'
          obtain ⟨w1, w2⟩ := splitL_mem hw
          exact strOk_sub hs w1 w2
      · simp only [hk, if_false] at p2
        exact p2.elim

/-! ### f-strings -/
theorem snd_fmt {a : E} (ha : SndE c a) : SndE c (.fmt a) := by
  intro d q W X lo lk e o h
  cases e <;> first | (cases h; done) | skip
  rename_i x k spec pos
  cases spec with
  | some _ => cases h
  | none =>
    simp only [chkE, Bool.and_eq_true, decide_eq_true_eq] at h
    obtain ⟨⟨rfl, _⟩, h1⟩ := h
    refine pea_of rfl (PE.imp (pe_fmt (ha d q W X lo lk x o h1).1) fun σ H Q z => ?_)
    refine TEv.imp (TEv.one (f := fun st x => match Mx.strV st x with | some s => .ok (.str s) st | none => .bad) z) fun x H1 z1 => ?_
    obtain ⟨φ, st, v, rep, rv, p⟩ := z1
    cases rv with
    | none => exact p.elim
    | bool b => exact p.elim
    | fn f => exact p.elim
    | clo a b => exact p.elim
    | exc a b => exact p.elim
    | tup h1 h2 => exact p.elim
    | ref hn => exact p.elim
    | str z hz => exact .inl ⟨_, rfl, by rw [str_len]; exact Nat.le_trans (strOk_len hz) lim_le, Post.val p rep (.str _ hz)⟩
    | int i =>
      have p' : Post c.g lo lk W φ H1 (match Mx.digs i with | some s => .ok (.str s) st | none => .bad) Q := p
      cases hd : Mx.digs i with
      | none => rw [hd] at p'; exact p'.elim
      | some z =>
        rw [hd] at p'
        obtain ⟨h1, h2, h3⟩ := digs_ok hd
        refine .inr ⟨i, rfl, log_small h3, ?_⟩
        have e : (V.str (toString i : String)) = .str ⟨z.toArray⟩ := by rw [h1]
        rw [e]
        exact Post.val p' rep (.str _ h2)
theorem isJ_str {cx : Mx.Ctx} {a : E} {lk : List Nat} {env : Mx.Env} {st st' : Store} {v : Val} (h : isJ a = true) (e : Mx.evE cx a lk env st = .ok v st') : ∃ s, v = .str s := by
  cases a <;> first | (cases h; done) | skip
  · rename_i w
    cases w <;> first | (cases h; done) | skip
    cases e
    exact ⟨_, rfl⟩
  · rename_i b
    simp only [Mx.evE] at e
    cases hb : Mx.evE cx b lk env st with
    | exc _ _ => rw [hb] at e; cases e
    | bad => rw [hb] at e; cases e
    | ok x s1 =>
      rw [hb] at e
      simp only [Res.bind] at e
      split at e
      · cases e; exact ⟨_, rfl⟩
      · cases e
/-- the parts' texts, one behind the other -/
def PostJ (g : G) (lo : Nat) (lk : List Nat) (W : Nat → Hp → Prop) (φ : List Addr) (H : Hp) (r : Res Val) (acc : List Nat) (Q : List Nat → Hp → Prop) : Prop :=
  match r with
  | .ok v st => ∃ l s, v = .tup l ∧ Mx.catS l = some s ∧ ∀ φ' H', Ext g lo lk φ H φ' H' → Rep g φ' st H' → Mx.strOk s = true ∨ True → (s.all (fun c => decide (c < 1114112)) = true) → Q (acc ++ s) H'
  | .exc c st => ∀ φ' H', Ext g lo lk φ H φ' H' → Rep g φ' st H' → W c H'
  | .bad => False
def SndJ (c : Cfg) (m : E) : Prop := ∀ (d : Nat) (q : Sc) (W : Nat → Hp → Prop) (X : Cx) (lo : Nat) (lk : List Nat) (es : List Expr), OkX c d q W X → chkJ c.T q m es = true →
  ∃ ts, PJ X es ts ∧ ∀ (acc : List Nat) (σ : L2.St) (H : Hp) (Q : Str → Hp → Prop), acc.length + es.length * Mx.lim ≤ sizeLine →
    (∃ φ st env, REnv c.g H φ env σ ∧ Rep c.g φ st H ∧ PostJ c.g lo lk W φ H (Mx.evE (c.cx d lo) m lk env st) acc (fun l H1 => Q ⟨l.toArray⟩ H1)) → tJs ts ⟨acc.toArray⟩ σ H Q
theorem sndj_nil : SndJ c .nil := by
  intro d q W X lo lk es o h
  cases es with
  | cons _ _ => cases h
  | nil =>
    refine ⟨[], .nil, fun acc σ H Q hl z => ?_⟩
    obtain ⟨φ, st, env, re, rp, l, s, e1, e2, p⟩ := z
    cases e1
    cases e2
    have := p φ H Ext.refl rp (.inr trivial) rfl
    rw [List.append_nil] at this
    exact this
theorem sndj_cons {a r : E} (ha : SndE c a) (hr : SndJ c r) : SndJ c (.cons a r) := by
  intro d q W X lo lk es o h
  cases es with
  | nil => cases h
  | cons e es =>
    simp only [chkJ, Bool.and_eq_true] at h
    obtain ⟨⟨h1, h2⟩, h3⟩ := h
    obtain ⟨ts, pj, ht⟩ := hr d q W X lo lk es o h3
    refine ⟨_, .cons (ha d q W X lo lk e o h2).1 pj, fun acc σ H Q hl z => ?_⟩
    obtain ⟨φ, st, env, re, rp, p⟩ := z
    refine ⟨φ, st, env, re, rp, ?_⟩
    simp only [Mx.evE] at p
    cases hk : Mx.evE (c.cx d lo) a lk env st with
    | bad => rw [hk] at p; exact p
    | exc k s2 => rw [hk] at p; exact p
    | ok v s1 =>
      rw [hk] at p
      simp only [Res.bind] at p
      obtain ⟨y, rfl⟩ := isJ_str h1 hk
      intro φ1 H1 x e1 r1 v1
      cases v1
      rename_i hy
      have hyl := strOk_len hy
      rw [List.length_cons, Nat.succ_mul] at hl
      refine ⟨⟨y.toArray⟩, rfl, ?_, ?_⟩
      · rw [str_app, str_len, List.length_append]
        have : 0 ≤ es.length * Mx.lim := Nat.zero_le _
        omega
      · rw [str_app]
        refine ht (acc ++ y) σ H1 Q (by rw [List.length_append]; omega) ⟨φ1, s1, env, re.mono e1, r1, ?_⟩
        cases hk2 : Mx.evE (c.cx d lo) r lk env s1 with
        | bad => rw [hk2] at p; exact p
        | exc k s2 =>
          rw [hk2] at p
          exact fun φ' H' e2 r2 => p φ' H' (e1.trans e2) r2
        | ok w s2 =>
          rw [hk2] at p
          cases w <;> first | exact False.elim p | skip
          rename_i l
          obtain ⟨l', s, el, es', p⟩ := p
          cases el
          simp only [Mx.catS] at es'
          cases hc : Mx.catS l with
          | none => rw [hc] at es'; cases es'
          | some s' =>
            rw [hc] at es'
            cases es'
            refine ⟨l, s', rfl, hc, fun φ' H' e2 r2 _ hs => ?_⟩
            have := p φ' H' (e1.trans e2) r2 (.inr trivial) (all_app (strOk_chars hy) hs)
            rw [← List.append_assoc] at this
            exact this
theorem snd_fstr {m : E} (hm : SndJ c m) : SndE c (.fstr m) := by
  intro d q W X lo lk e o h
  cases e <;> first | (cases h; done) | skip
  rename_i es pos
  match es, h with
  | x :: y :: r, h =>
    simp only [chkE, Bool.and_eq_true, decide_eq_true_eq] at h
    obtain ⟨ts, pj, ht⟩ := hm d q W X lo lk _ o h.2
    refine pea_of rfl (PE.imp (pe_joined pj) fun σ H Q z => ?_)
    obtain ⟨φ, st, env, re, rp, p⟩ := z
    simp only [Mx.evE] at p
    exact ht [] σ H (fun l H1 => Q (.str l) H1) (by
      have hl := h.1
      simp only [List.length_cons, List.length_nil, Mx.lim]
      have e : (9200000 : Nat) ≤ sizeLine := by decide
      omega) ⟨φ, st, env, re, rp, by
        cases hk : Mx.evE (c.cx d lo) m lk env st with
        | bad => rw [hk] at p; exact p
        | exc k s2 => rw [hk] at p; exact p
        | ok w s2 =>
          rw [hk] at p
          simp only [Res.bind] at p
          cases w <;> first | exact False.elim p | skip
          rename_i l
          simp only at p
          cases hc : Mx.catS l with
          | none => rw [hc] at p; exact p.elim
          | some s =>
            rw [hc] at p
            simp only at p
            by_cases hs : s.length ≤ Mx.lim
            · rw [if_pos hs] at p
              exact ⟨l, s, rfl, hc, fun φ' H' e2 r2 _ ha => p φ' H' _ e2 r2 (.str _ (strOk_mk hs ha))⟩
            · rw [if_neg hs] at p
              exact p.elim⟩
end Sd
end

section
set_option Elab.async false
set_option linter.all false
set_option maxRecDepth 100000
set_option maxHeartbeats 1000000
set_option autoImplicit false
namespace Sd
open PySem PySem.Spec PyProof.Rows L2
open Mx (Val Res SR Op Cmp Ty Tg E S Store)
variable {c : Cfg}

/-! ### what is walked -/
abbrev RL := Res (List Val × List Nat)
/-- what is tracked of it is locked -/
def Held (φ : List Addr) (ls : List Nat) (x : V) : Prop := ∀ a n, x = .ref a → φ[n]? = some a → n ∈ ls
/-- x is a list, a tuple or a text of the items l; ls: its locks -/
def Seqv (g : G) (H : Hp) (φ : List Addr) (ls : List Nat) (l : List Val) (x : V) : Prop :=
  (∃ a xs, x = .ref a ∧ Held φ ls (.ref a) ∧ SqL g.K H a xs ∧ RVs g H φ l xs) ∨ (∃ a xs, x = .ref a ∧ SqT g.K H a xs ∧ RVs g H φ l xs) ∨ ∃ s : List Nat, x = .str ⟨s.toArray⟩ ∧ Mx.strOk s = true ∧ l = s.map fun k => .str [k]
def PostQ (g : G) (lo : Nat) (lk : List Nat) (W : Nat → Hp → Prop) (φ : List Addr) (H : Hp) (r : RL) (Q : VK) : Prop :=
  match r with
  | .ok p st => ∀ φ' H' x, Ext g lo lk φ H φ' H' → Rep g φ' st H' → Seqv g H' φ' p.2 p.1 x → Q x H'
  | .exc c st => ∀ φ' H', Ext g lo lk φ H φ' H' → Rep g φ' st H' → W c H'
  | .bad => False
def TQv (g : G) (lo : Nat) (lk : List Nat) (W : Nat → Hp → Prop) (m : Mx.Env → Store → RL) : TE := fun σ H Q => ∃ φ st env, REnv g H φ env σ ∧ Rep g φ st H ∧ PostQ g lo lk W φ H (m env st) Q
/-- a new list -/
def PostN (g : G) (lo : Nat) (lk : List Nat) (W : Nat → Hp → Prop) (φ : List Addr) (H : Hp) (r : RL) (Q : VK) : Prop :=
  match r with
  | .ok p st => ∀ φ' H' D xs, Ext g lo lk φ H φ' H' → Rep g φ' st H' → D ∉ φ' → H D = none → H' D = some (.lst xs) → RVs g H' φ' p.1 xs → p.1.length < Mx.lim → Q (.ref D) H'
  | .exc c st => ∀ φ' H', Ext g lo lk φ H φ' H' → Rep g φ' st H' → W c H'
  | .bad => False
def TNv (g : G) (lo : Nat) (lk : List Nat) (W : Nat → Hp → Prop) (m : Mx.Env → Store → RL) : TE := fun σ H Q => ∃ φ st env, REnv g H φ env σ ∧ Rep g φ st H ∧ PostN g lo lk W φ H (m env st) Q
/-- a walk over l, as long as the locks hold -/
structure WalkV (g : G) (lo : Nat) (lk : List Nat) (φ : List Addr) (H : Hp) (l : List Val) (J : It) : Prop where
  go : ∀ φ2 H2 i, Ext g lo lk φ H φ2 H2 → i < l.length → J.go i H2
  stop : ∀ φ2 H2, Ext g lo lk φ H φ2 H2 → J.stop l.length H2
  yld : ∀ φ2 H2 i x H3, Ext g lo lk φ H φ2 H2 → i < l.length → J.yld i H2 x H3 → ∃ v, l[i]? = some v ∧ RV g H3 φ2 v x ∧ (H3 = H2 ∨ ∃ T o, H2 T = none ∧ H3 = upd H2 T o)
def PostR (g : G) (lo : Nat) (lk : List Nat) (W : Nat → Hp → Prop) (φ : List Addr) (H : Hp) (r : RL) (R : It → Hp → Prop) : Prop :=
  match r with
  | .ok p st => ∀ φ' H' J, Ext g lo lk φ H φ' H' → Rep g φ' st H' → WalkV g lo (p.2 ++ lk) φ' H' p.1 J → R J H'
  | .exc c st => ∀ φ' H', Ext g lo lk φ H φ' H' → Rep g φ' st H' → W c H'
  | .bad => False
def TIv (g : G) (lo : Nat) (lk : List Nat) (W : Nat → Hp → Prop) (m : Mx.Env → Store → RL) : TI := fun σ H R => ∃ φ st env, REnv g H φ env σ ∧ Rep g φ st H ∧ PostR g lo lk W φ H (m env st) R

theorem PI.imp {X : Cx} {tg e : Expr} {t t' : TI} (h : PI X tg e t) (f : ∀ σ H R, t' σ H R → t σ H R) : PI X tg e t' :=
  ⟨fun pins s σ H R I q => h.run pins s σ H R I (f _ _ _ q)⟩
theorem PG.imp {X : Cx} {e : Expr} {t t' : TG} (h : PG X e t) (f : ∀ v σ H Q, t' v σ H Q → t v σ H Q) : PG X e t' :=
  ⟨fun pins s σ H v u Q I r q => h.run pins s σ H v u Q I r (f _ _ _ _ q)⟩
theorem PGs.imp {X : Cx} {e : List Expr} {t t' : TGs} (h : PGs X e t) (f : ∀ v σ H Q, t' v σ H Q → t v σ H Q) : PGs X e t' :=
  ⟨fun pins s σ H v u Q I r q => h.run pins s σ H v u Q I r (f _ _ _ _ q)⟩
theorem PS.imp {X : Cx} {st : Stmt} {t t' : TS} (h : PS X st t) (f : ∀ D σ H, t' D σ H → t D σ H) : PS X st t' :=
  ⟨fun pins s σ H D I q => h.run pins s σ H D I (f _ _ _ q)⟩
theorem PSs.imp {X : Cx} {st : List Stmt} {t t' : TS} (h : PSs X st t) (f : ∀ D σ H, t' D σ H → t D σ H) : PSs X st t' :=
  ⟨fun pins s σ H D I q => h.run pins s σ H D I (f _ _ _ q)⟩
theorem PE.ex {X : Cx} {e : Expr} {ι : Type} {t : ι → TE} (h : ∀ i, PE X e (t i)) : PE X e (fun σ H Q => ∃ i, t i σ H Q) :=
  ⟨fun pins s σ H Q I ⟨i, q⟩ => (h i).run pins s σ H Q I q⟩
theorem PT.ex {X : Cx} {e : Expr} {ι : Type} {t : ι → TT} (h : ∀ i, PT X e (t i)) : PT X e (fun σ H Q => ∃ i, t i σ H Q) :=
  ⟨fun pins s σ H Q I ⟨i, q⟩ => (h i).run pins s σ H Q I q⟩
theorem PSs.ex {X : Cx} {e : List Stmt} {ι : Type} {t : ι → TS} (h : ∀ i, PSs X e (t i)) : PSs X e (fun D σ H => ∃ i, t i D σ H) :=
  ⟨fun pins s σ H D I ⟨i, q⟩ => (h i).run pins s σ H D I q⟩

/-- a value of any kind is walked -/
def rIt (K : PySem.W.Frag) (x : V) (H : Hp) (R : It → Hp → Prop) : Prop :=
  (∃ a xs, x = .ref a ∧ SqL K H a xs ∧ R (Itl K a) H) ∨ (∃ a xs, x = .ref a ∧ SqT K H a xs ∧ R (Itt K a) H) ∨ ∃ z, x = .str z ∧ R (Its z) H
theorem it_any {X : Cx} {tg : Expr} {pins : List (Addr × Obj)} {σ : L2.St} {H : Hp} {s : Shared} {x : V} {v : Value} {R : It → Hp → Prop} (I : Inv X pins σ H s) (r : RelV x v) (h : rIt X.K x H R) :
    wpAny (model X.prog X.w) X.A (pyIter v) (PIE X pins σ tg R) X.xe s := by
  rcases h with ⟨a, xs, rfl, hq, q⟩ | ⟨a, xs, rfl, hq, q⟩ | ⟨z, rfl, q⟩
  · cases r
    obtain ⟨its, rv, p, hz⟩ := I.list hq
    exact wpAny_pyIter_list p.isList (pi_one (tk := s.toks) I _ (turn_list a _) ⟨_, Heap.get?_push_size _ rfl, rfl, rfl⟩ q)
  · cases r
    obtain ⟨its, rv, p, hz⟩ := I.tuple hq
    exact wpAny_pyIter_tuple (show s.heap.IsTuple a its.toArray from p) (pi_one (tk := s.toks) I _ (turn_tuple a _) ⟨_, Heap.get?_push_size _ rfl, rfl, rfl⟩ q)
  · obtain ⟨t, rfl⟩ := r
    cases ha : z.cps.all (· < 128)
    · exact wpAny_pyIter_wide ha (pi_one (tk := s.toks) I _ (turn_str _ z t "str_iterator" (.inr rfl)) ⟨_, Heap.get?_push_size _ rfl, rfl, rfl⟩ q)
    · exact wpAny_pyIter_ascii ha (pi_one (tk := s.toks) I _ (turn_str _ z t "str_ascii_iterator" (.inl rfl)) ⟨_, Heap.get?_push_size _ rfl, rfl, rfl⟩ q)
theorem pi_any {X : Cx} {tg e : Expr} {te : TE} (h : PE X e te) : PI X tg e (fun σ H R => te σ H fun x H1 => rIt X.K x H1 R) := by
  refine ⟨fun pins s σ H R I q => ?_⟩
  exact thn (h.run pins s σ H _ I q) fun v s1 ⟨x, H1, I1, r1, q1⟩ => it_any I1 r1 q1

theorem SqL.ext {g : G} {lo : Nat} {lk ls : List Nat} {φ φ' : List Addr} {H H' : Hp} {K : PySem.W.Frag} (e : Ext g lo (ls ++ lk) φ H φ' H') {a : Addr} {xs : List V} (h : SqL K H a xs) (hd : Held φ ls (.ref a)) : SqL K H' a xs := by
  rcases h with (h | ⟨o, h⟩) | h
  · exact .inl (.inl (e.keep a _ h (fun n hn => .inr (List.mem_append_left _ (hd a n rfl hn))) (fun ps z => nomatch z)))
  · exact .inl (.inr ⟨o, e.frz _ _ _ h⟩)
  · exact .inr h
theorem Held.ext {g : G} {lo : Nat} {lk ls : List Nat} {φ φ' : List Addr} {H H' : Hp} (e : Ext g lo lk φ H φ' H') {a : Addr} (hd : Held φ ls (.ref a)) (hs : ∃ u, H a = some u) : Held φ' ls (.ref a) := by
  intro b n eb hn
  cases eb
  obtain ⟨ψ, rfl, hψ⟩ := e.pre
  by_cases hl : n < φ.length
  · rw [List.getElem?_append_left hl] at hn
    exact hd a n rfl hn
  · rw [List.getElem?_append_right (Nat.le_of_not_lt hl)] at hn
    obtain ⟨u, hu⟩ := hs
    rw [hψ a (List.mem_of_getElem? hn)] at hu
    cases hu
/-- a sequence is walked -/
theorem Seqv.walk {g : G} {lo : Nat} {lk ls : List Nat} {φ : List Addr} {H : Hp} {l : List Val} {x : V} {R : It → Hp → Prop} (h : Seqv g H φ ls l x) (q : ∀ J, WalkV g lo (ls ++ lk) φ H l J → R J H) : rIt g.K x H R := by
  rcases h with ⟨a, xs, rfl, hd, hq, rv⟩ | ⟨a, xs, rfl, hq, rv⟩ | ⟨s, rfl, hs, rfl⟩
  · refine .inl ⟨a, xs, rfl, hq, q _ ⟨fun φ2 H2 i e hi => ?_, fun φ2 H2 e => ⟨xs, SqL.ext e hq hd, Nat.le_of_eq rv.length.symm⟩, fun φ2 H2 i x H3 e hi y => ?_⟩⟩
    · rw [rv.length] at hi
      exact ⟨xs, xs[i], SqL.ext e hq hd, by simp [hi]⟩
    · obtain ⟨rfl, hx⟩ := y
      obtain ⟨v, hv⟩ : ∃ v, l[i]? = some v := ⟨l[i], by simp [hi]⟩
      obtain ⟨x', hx', rx⟩ := rv.get hv
      have := hx xs (SqL.ext e hq hd)
      rw [hx'] at this
      cases this
      exact ⟨v, hv, rx.mono e, .inl rfl⟩
  · refine .inr (.inl ⟨a, xs, rfl, hq, q _ ⟨fun φ2 H2 i e hi => ?_, fun φ2 H2 e => ⟨xs, SqT.ext e hq, Nat.le_of_eq rv.length.symm⟩, fun φ2 H2 i x H3 e hi y => ?_⟩⟩)
    · rw [rv.length] at hi
      exact ⟨xs, xs[i], SqT.ext e hq, by simp [hi]⟩
    · obtain ⟨rfl, hx⟩ := y
      obtain ⟨v, hv⟩ : ∃ v, l[i]? = some v := ⟨l[i], by simp [hi]⟩
      obtain ⟨x', hx', rx⟩ := rv.get hv
      have := hx xs (SqT.ext e hq)
      rw [hx'] at this
      cases this
      exact ⟨v, hv, rx.mono e, .inl rfl⟩
  · refine .inr (.inr ⟨_, rfl, q _ ⟨fun φ2 H2 i e hi => ?_, fun φ2 H2 e => ?_, fun φ2 H2 i x H3 e hi y => ?_⟩⟩)
    · show i < s.toArray.size
      simpa using hi
    · show s.toArray.size ≤ (s.map fun k => Val.str [k]).length
      simp
    · obtain ⟨rfl, k, hk, rfl⟩ := y
      have hk' : s[i]? = some k := by simpa using hk
      refine ⟨.str [k], by simp [hk'], .str [k] (strOk_one hs (List.mem_of_getElem? hk')), .inl rfl⟩

def SndQ (c : Cfg) (m : E) : Prop := ∀ (d : Nat) (q : Sc) (W : Nat → Hp → Prop) (X : Cx) (lo : Nat) (lk : List Nat) (e : Expr), OkX c d q W X → isQ m = true → chkR c.T q m e = true → PE X e (TQv c.g lo lk W (Mx.evR (c.cx d lo) m lk))
def SndR (c : Cfg) (m : E) : Prop := ∀ (d : Nat) (q : Sc) (W : Nat → Hp → Prop) (X : Cx) (lo : Nat) (lk : List Nat) (e tg : Expr), OkX c d q W X → chkR c.T q m e = true → rawTg m tg = true → PI X tg e (TIv c.g lo lk W (Mx.evR (c.cx d lo) m lk))
theorem PostQ.imp {g : G} {lo : Nat} {lk : List Nat} {W : Nat → Hp → Prop} {φ : List Addr} {H : Hp} {r : RL} {Q Q' : VK} (h : PostQ g lo lk W φ H r Q) (f : ∀ x H', Q x H' → Q' x H') : PostQ g lo lk W φ H r Q' := by
  cases r with
  | ok v st => exact fun φ' H' x a b c => f _ _ (h φ' H' x a b c)
  | exc c st => exact h
  | bad => exact h
theorem sndr_q {m : E} (hq : SndQ c m) (hm : isQ m = true) : SndR c m := by
  intro d q W X lo lk e tg o h _
  refine PI.imp (pi_any (hq d q W X lo lk e o hm h)) fun σ H R z => ?_
  obtain ⟨φ, st, env, re, rp, p⟩ := z
  refine ⟨φ, st, env, re, rp, ?_⟩
  cases hk : Mx.evR (c.cx d lo) m lk env st with
  | bad => rw [hk] at p; exact p
  | exc k s2 => rw [hk] at p; exact p
  | ok v s2 =>
    rw [hk] at p
    intro φ' H' x e' r' sq
    rw [o.gx.hK]
    exact sq.walk fun J w => p φ' H' J e' r' w
theorem sndq_itr {a : E} (ha : SndE c a) : SndQ c (.itr a) := by
  intro d q W X lo lk e o _ h
  simp only [chkR, Bool.and_eq_true] at h
  refine PE.imp (ha d q W X lo lk e o h.2).1 fun σ H Q z => ?_
  obtain ⟨φ, st, env, re, rp, p⟩ := z
  refine ⟨φ, st, env, re, rp, ?_⟩
  simp only [Mx.evR] at p
  cases hk : Mx.evE (c.cx d lo) a lk env st with
  | bad => rw [hk] at p; exact p
  | exc k s2 => rw [hk] at p; exact p
  | ok v s2 =>
    rw [hk] at p
    simp only [Res.bind] at p
    intro φ' H' x e' r' rv
    cases rv <;> try exact False.elim p
    · rename_i z hz
      exact p φ' H' _ e' r' (.inr (.inr ⟨z, rfl, hz, rfl⟩))
    · rename_i a l xs h1 h2
      exact p φ' H' _ e' r' (.inr (.inl ⟨a, xs, rfl, h1, h2⟩))
    · rename_i n a hn
      cases hl : Mx.listAt s2 n with
      | none => simp only [Mx.itrV, hl] at p; exact p.elim
      | some l =>
        simp only [Mx.itrV, hl] at p
        obtain ⟨xs, hxs, rvs⟩ := r'.list hl hn c.g.K
        refine p φ' H' _ e' r' (.inl ⟨a, xs, rfl, fun b m eb hm => ?_, hxs, rvs⟩)
        cases eb
        have : n = m := (List.getElem?_inj (List.getElem?_eq_some_iff.mp hn).1 r'.nd).mp (hn.trans hm.symm)
        rw [this]
        exact List.mem_singleton.mpr rfl
end Sd
end

section
set_option Elab.async false
set_option linter.all false
set_option maxRecDepth 100000
set_option maxHeartbeats 1000000
set_option autoImplicit false
namespace Sd
open PySem PySem.Spec PyProof.Rows L2
open Mx (Val Res SR Op Cmp Ty Tg E S Store)
variable {c : Cfg}

/-! ### targets -/
/-- the slots outside own are as they were -/
def SameOut (own : List Nat) (σ σ' : L2.St) : Prop := L2.wipe σ' own = L2.wipe σ own
theorem SameOut.refl (own : List Nat) (σ : L2.St) : SameOut own σ σ := rfl
theorem SameOut.trans {own : List Nat} {σ σ1 σ2 : L2.St} (a : SameOut own σ σ1) (b : SameOut own σ1 σ2) : SameOut own σ σ2 := Eq.trans b a
theorem wipe_get {σ : L2.St} {i : Nat} : ∀ {vs : List Nat}, i ∈ vs → i < σ.length → (L2.wipe σ vs)[i]? = some none
  | v :: vs, h, hl => by
    unfold L2.wipe
    by_cases e : v = i
    · subst e
      rw [List.getElem?_set_self (by rw [wipe_length]; exact hl)]
    · rw [List.getElem?_set_ne e]
      exact wipe_get (by rcases List.mem_cons.mp h with h | h; exact absurd h.symm e; exact h) hl
theorem SameOut.set {own : List Nat} {σ : L2.St} {i : Nat} {x : Option V} (h : i ∈ own) : SameOut own σ (σ.set i x) := by
  apply List.ext_getElem?
  intro j
  by_cases hj : j ∈ own
  · by_cases hl : j < σ.length
    · rw [wipe_get hj hl, wipe_get hj (by simpa using hl)]
    · rw [List.getElem?_eq_none (by rw [wipe_length]; simpa using hl), List.getElem?_eq_none (by rw [wipe_length]; simpa using hl)]
  · rw [wipe_out hj, wipe_out hj, List.getElem?_set_ne (fun e => hj (by rw [← e]; exact h))]

def TGv (g : G) (cx : Mx.Ctx) (lk : List Nat) (t : Tg) : TG := fun x σ H Q => ∃ φ st env v env', REnv g H φ env σ ∧ Rep g φ st H ∧ RV g H φ v x ∧ Mx.asg cx lk t v env st = some (env', st) ∧
  ∀ σ', REnv g H φ env' σ' → (∀ own, tgIn t own = true → SameOut own σ σ') → Q σ' H
def TGsv (g : G) (cx : Mx.Ctx) (lk : List Nat) (t : Tg) : TGs := fun xs σ H Q => ∃ φ st env l env', REnv g H φ env σ ∧ Rep g φ st H ∧ RVs g H φ l xs ∧ Mx.asg cx lk t (.tup l) env st = some (env', st) ∧
  ∀ σ', REnv g H φ env' σ' → (∀ own, tgIn t own = true → SameOut own σ σ') → Q σ' H
/-- names only -/
def tgN : Tg → Bool
  | .name _ => true
  | .attr _ _ => false
  | .nil => true
  | .cons a b => tgN a && tgN b
theorem asg_st {cx : Mx.Ctx} {lk : List Nat} : ∀ {t : Tg} {v : Val} {env env' : Mx.Env} {st st' : Store}, tgN t = true → Mx.asg cx lk t v env st = some (env', st') → st' = st
  | .name i, v, env, env', st, st', _, h => by
    simp only [Mx.asg] at h
    split at h
    · cases h; rfl
    · cases h
  | .nil, v, env, env', st, st', _, h => by
    cases v <;> first | (cases h; done) | skip
    rename_i l
    cases l with
    | nil => cases h; rfl
    | cons _ _ => cases h
  | .cons a b, v, env, env', st, st', hn, h => by
    simp only [tgN, Bool.and_eq_true] at hn
    cases v <;> first | (cases h; done) | skip
    rename_i l
    cases l with
    | nil => cases h
    | cons x xs =>
      simp only [Mx.asg] at h
      cases ha : Mx.asg cx lk a x env st with
      | none => rw [ha] at h; cases h
      | some p =>
        rw [ha] at h
        obtain ⟨e1, s1⟩ := p
        have h1 := asg_st hn.1 ha
        subst h1
        exact asg_st hn.2 h
theorem tgt_len {env : Env} : ∀ {es : List Expr}, es.all isTgt = true → (assignEach es env).length = es.length
  | [], _ => rfl
  | e :: es, h => by
    rw [List.all_cons, Bool.and_eq_true] at h
    have ih := tgt_len (env := env) h.2
    cases e <;> first | (cases h.1; done) | skip
    · simpa [assignEach] using ih
    · simpa [assignEach] using ih
theorem tgt_star {env : Env} : ∀ {es : List Expr}, es.all isTgt = true → (assignEach es env).findIdx? (·.1) = none
  | [], _ => rfl
  | e :: es, h => by
    rw [List.all_cons, Bool.and_eq_true] at h
    have ih := tgt_star (env := env) h.2
    cases e <;> first | (cases h.1; done) | skip
    · simpa [assignEach, List.findIdx?_cons] using ih
    · simpa [assignEach, List.findIdx?_cons] using ih
theorem tgt_map {env : Env} {e : Expr} {es : List Expr} (h : isTgt e = true) : (assignEach (e :: es) env).map (·.2) = assign e env :: (assignEach es env).map (·.2) := by
  cases e <;> first | (cases h; done) | rfl
theorem chkT_all {q : Sc} : ∀ {t : Tg} {es : List Expr} {k : Nat} {p : Pos}, chkT q t (.Tuple es k p) = true → es.all isTgt = true
  | .nil, [], _, _, _ => rfl
  | .nil, _ :: _, _, _, h => by simp [chkT] at h
  | .name _, _, _, _, h => by simp [chkT] at h
  | .attr _ _, _, _, _, h => by simp [chkT] at h
  | .cons a b, [], _, _, h => by simp [chkT] at h
  | .cons a b, e :: es, k, p, h => by
    simp only [chkT, Bool.and_eq_true] at h
    rw [List.all_cons, h.1.1, chkT_all h.2]
    rfl
theorem chkT_n {q : Sc} : ∀ {t : Tg} {e : Expr}, chkT q t e = true → tgN t = true
  | .name _, _, _ => rfl
  | .nil, _, _ => rfl
  | .attr _ _, e, h => by cases e <;> simp [chkT] at h
  | .cons a b, e, h => by
    cases e <;> first | (simp [chkT] at h; done) | skip
    rename_i es k p
    cases es with
    | nil => simp [chkT] at h
    | cons e es =>
      simp only [chkT, Bool.and_eq_true] at h
      simp only [tgN, chkT_n h.1.2, chkT_n h.2, Bool.and_self]
theorem asg_len {cx : Mx.Ctx} {lk : List Nat} {q : Sc} {st : Store} : ∀ {t : Tg} {l : List Val} {es : List Expr} {k : Nat} {p : Pos} {env env' : Mx.Env}, chkT q t (.Tuple es k p) = true → Mx.asg cx lk t (.tup l) env st = some (env', st) → l.length = es.length
  | .nil, l, [], _, _, env, env', _, h => by
    cases l with
    | nil => rfl
    | cons _ _ => cases h
  | .nil, _, _ :: _, _, _, _, _, h, _ => by simp [chkT] at h
  | .name _, _, _, _, _, _, _, h, _ => by simp [chkT] at h
  | .attr _ _, _, _, _, _, _, _, h, _ => by simp [chkT] at h
  | .cons a b, _, [], _, _, _, _, h, _ => by simp [chkT] at h
  | .cons a b, l, e :: es, k, p, env, env', hc, h => by
    simp only [chkT, Bool.and_eq_true] at hc
    cases l with
    | nil => cases h
    | cons x xs =>
      simp only [Mx.asg] at h
      cases ha : Mx.asg cx lk a x env st with
      | none => rw [ha] at h; cases h
      | some r =>
        rw [ha] at h
        obtain ⟨e1, s1⟩ := r
        have h1 := asg_st (chkT_n hc.1.2) ha
        subst h1
        have := asg_len hc.2 h
        simp [this]

theorem sndG {d : Nat} {q : Sc} {W : Nat → Hp → Prop} {X : Cx} (o : OkX c d q W X) (cx : Mx.Ctx) (lk : List Nat) : ∀ (t : Tg), (∀ e, chkT q t e = true → PG X e (TGv c.g cx lk t)) ∧ (∀ es k p, chkT q t (.Tuple es k p) = true → PGs X es (TGsv c.g cx lk t)) := by
  intro t
  induction t with
  | attr i f => exact ⟨fun e h => by cases e <;> simp [chkT] at h, fun es k p h => by simp [chkT] at h⟩
  | name i =>
    refine ⟨fun e h => ?_, fun es k p h => by simp [chkT] at h⟩
    cases e <;> first | (simp [chkT] at h; done) | skip
    rename_i x pos
    simp only [chkT, Bool.and_eq_true, decide_eq_true_eq, Bool.or_eq_true] at h
    obtain ⟨⟨h1, h2⟩, h3⟩ := h
    refine PG.imp (pg_name (i := i) (by rw [o.N]; exact o.nd) (by rw [o.N]; exact h1) (by rw [o.sc]; exact locB_ok h2) (by rw [o.sc, o.fnb]; exact h3)) fun v σ H Q z => ?_
    obtain ⟨φ, st, env, u, env', re, rp, rv, ha, hq⟩ := z
    simp only [Mx.asg] at ha
    split at ha
    · cases ha
      refine hq _ (re.set rv) fun own ho => SameOut.set ?_
      simpa [tgIn] using ho
    · cases ha
  | nil =>
    have hs : ∀ es k p, chkT q .nil (.Tuple es k p) = true → PGs X es (TGsv c.g cx lk .nil) := fun es k p h => by
      cases es with
      | cons _ _ => simp [chkT] at h
      | nil =>
        refine PGs.imp pgs_nil fun v σ H Q z => ?_
        obtain ⟨φ, st, env, l, env', re, rp, rv, ha, hq⟩ := z
        cases l with
        | cons _ _ => cases ha
        | nil =>
          cases ha
          cases rv
          exact ⟨rfl, hq σ re fun own _ => SameOut.refl own σ⟩
    refine ⟨fun e h => ?_, hs⟩
    cases e <;> first | (simp [chkT] at h; done) | skip
    rename_i es k p
    refine PG.imp (pg_tup o.calm (hs es k p h) (tgt_len (chkT_all h)) (tgt_star (chkT_all h))) fun v σ H Q z => ?_
    obtain ⟨φ, st, env, u, env', re, rp, rv, ha, hq⟩ := z
    cases rv <;> try (cases ha; done)
    rename_i a l xs h1 h2
    exact ⟨a, xs, rfl, o.gx.hK ▸ h1, by rw [← h2.length]; exact asg_len h ha, φ, st, env, l, env', re, rp, h2, ha, hq⟩
  | cons a b iha ihb =>
    have hs : ∀ es k p, chkT q (.cons a b) (.Tuple es k p) = true → PGs X es (TGsv c.g cx lk (.cons a b)) := fun es k p h => by
      cases es with
      | nil => simp [chkT] at h
      | cons e es =>
        have h' := h
        simp only [chkT, Bool.and_eq_true] at h
        refine PGs.imp (pgs_cons (iha.1 e h.1.2) (ihb.2 es k p h.2) (tgt_map h.1.1)) fun v σ H Q z => ?_
        obtain ⟨φ, st, env, l, env', re, rp, rv, ha, hq⟩ := z
        cases l with
        | nil => cases ha
        | cons x xs =>
          cases rv
          rename_i y ys hy hys
          simp only [Mx.asg] at ha
          cases h1 : Mx.asg cx lk a x env st with
          | none => rw [h1] at ha; cases ha
          | some r =>
            rw [h1] at ha
            obtain ⟨e1, s1⟩ := r
            have hst := asg_st (chkT_n h.1.2) h1
            subst hst
            refine ⟨y, ys, rfl, φ, _, env, x, e1, re, rp, hy, h1, fun σ' re' so => ?_⟩
            refine ⟨φ, _, e1, xs, env', re', rp, hys, ha, fun σ2 re2 so2 => ?_⟩
            refine hq σ2 re2 fun own ho => ?_
            simp only [tgIn, Bool.and_eq_true] at ho
            exact (so own ho.1).trans (so2 own ho.2)
    refine ⟨fun e h => ?_, hs⟩
    cases e <;> first | (simp [chkT] at h; done) | skip
    rename_i es k p
    refine PG.imp (pg_tup o.calm (hs es k p h) (tgt_len (chkT_all h)) (tgt_star (chkT_all h))) fun v σ H Q z => ?_
    obtain ⟨φ, st, env, u, env', re, rp, rv, ha, hq⟩ := z
    cases rv <;> try (cases ha; done)
    rename_i a' l xs h1 h2
    exact ⟨a', xs, rfl, o.gx.hK ▸ h1, by rw [← h2.length]; exact asg_len h ha, φ, st, env, l, env', re, rp, h2, ha, hq⟩
end Sd
end

section
set_option Elab.async false
set_option linter.all false
set_option maxRecDepth 100000
set_option maxHeartbeats 1000000
set_option autoImplicit false
namespace Sd
open PySem PySem.Spec PyProof.Rows L2
open Mx (Val Res SR Op Cmp Ty Tg E S Store)
variable {c : Cfg}

section
variable {g : G} {lo : Nat} {lk : List Nat} {φ φ' φ1 : List Addr} {H H' H1 : Hp} {D : Addr} {st : Store}
theorem Ext.notin (e : Ext g lo lk φ H φ' H') (h : D ∉ φ) {u : HO} (hs : H D = some u) : D ∉ φ' := by
  obtain ⟨ψ, rfl, hψ⟩ := e.pre
  intro hm
  rcases List.mem_append.mp hm with z | z
  · exact h z
  · rw [hψ D z] at hs
    cases hs
theorem Ext.keepU (e : Ext g lo lk φ H φ' H') (h : D ∉ φ) {xs : List V} (hs : H D = some (.lst xs)) : H' D = some (.lst xs) :=
  e.keep D _ hs (fun n hn => absurd (List.mem_of_getElem? hn) h) (fun ps z => nomatch z)
mutual
theorem RV.over (ok : GOk g) {o : HO} (hw : Wr H D) (hl : ∃ xs, H D = Option.some (.lst xs)) : ∀ {v : Val} {x : V}, RV g H φ v x → RV g (upd H D o) φ v x
  | _, _, .none => .none
  | _, _, .bool b => .bool b
  | _, _, .int i => .int i
  | _, _, .str s h => .str s h
  | _, _, .tup h r => .tup (by
      rcases h with (h | ⟨ob, h⟩) | h
      · exact .inl (.inl (by rw [upd_ne (fun z => hw.tup (by rw [← z]; exact h))]; exact h))
      · exact .inl (.inr ⟨ob, by rw [upd_ne (fun z => hw.frz (by rw [← z]; exact h))]; exact h⟩)
      · exact .inr h) (RVs.over ok hw hl r)
  | _, _, .ref h => .ref h
  | _, _, .fn f => .fn f
  | _, _, .clo h r => .clo (ok.clo_wr _ _ _ _ _ _ hw h) (RVs.over ok hw hl r)
  | _, _, .exc h n => .exc (by
      obtain ⟨xs, hl⟩ := hl
      rw [upd_ne (fun z => by rw [z, hl] at h; cases h)]; exact h) n
theorem RVs.over (ok : GOk g) {o : HO} (hw : Wr H D) (hl : ∃ xs, H D = Option.some (.lst xs)) : ∀ {v : List Val} {x : List V}, RVs g H φ v x → RVs g (upd H D o) φ v x
  | _, _, .nil => .nil
  | _, _, .cons h r => .cons (RV.over ok hw hl h) (RVs.over ok hw hl r)
end
theorem RO.over (ok : GOk g) {o : HO} (hw : Wr H D) (hl : ∃ xs, H D = Option.some (.lst xs)) {a : Addr} {ob : Mx.Obj} (ha : a ≠ D) (h : RO g H φ a ob) : RO g (upd H D o) φ a ob := by
  cases ob with
  | lst l => obtain ⟨xs, h1, h2⟩ := h; exact ⟨xs, by rw [upd_ne ha]; exact h1, h2.over ok hw hl⟩
  | frz l => obtain ⟨o, xs, h1, h2⟩ := h; exact ⟨o, xs, by rw [upd_ne ha]; exact h1, h2.over ok hw hl⟩
  | dct d =>
    obtain ⟨es, ep, h1, h2, h3⟩ := h
    refine ⟨es, ep, by rw [upd_ne ha]; exact h1, Paired.imp h2 fun p q z => ?_, h3⟩
    obtain ⟨z1, z2, ⟨x, z3, z4⟩, y, z5, z6⟩ := z
    exact ⟨z1, z2, ⟨x, z3, z4.over ok hw hl⟩, y, z5, z6.over ok hw hl⟩
  | ins c fs =>
    obtain ⟨dx, fs', h1, h3, h2⟩ := h
    refine ⟨dx, fs', by rw [upd_ne ha]; exact h1, h3, fun f v hv => ?_⟩
    obtain ⟨x, q1, q2⟩ := h2 f v hv
    exact ⟨x, q1, q2.over ok hw hl⟩
theorem Rep.over (ok : GOk g) {o : HO} (r : Rep g φ st H) (hd : D ∉ φ) (hw : Wr H D) (hl : ∃ xs, H D = some (.lst xs)) : Rep g φ st (upd H D o) :=
  ⟨r.len, r.nd, fun n ob a h1 h2 => RO.over ok hw hl (fun z => hd (by rw [← z]; exact List.mem_of_getElem? h2)) (r.obj n ob a h1 h2), ok.tab_wr _ _ _ hw r.tab⟩
theorem Ext.over (ok : GOk g) {o : HO} (e : Ext g lo lk φ1 H1 φ H) (h1 : H1 D = none) (hw : Wr H D) : Ext g lo lk φ1 H1 φ (upd H D o) := by
  refine ⟨e.pre, fun a u h l t => ?_, fun a xs h => ?_, fun a o u h => ?_, fun k a xs h => ok.clo_wr _ _ _ _ _ _ hw (e.clo _ _ _ h), fun a h => ?_⟩
  · rw [upd_ne (fun z => by rw [z, h1] at h; cases h)]; exact e.keep a u h l t
  · rw [upd_ne (fun z => by rw [z, h1] at h; cases h)]; exact e.tup a xs h
  · rw [upd_ne (fun z => by rw [z, h1] at h; cases h)]; exact e.frz a o u h
  · by_cases z : a = D
    · rw [z]; exact h1
    · rw [upd_ne z] at h; exact e.dom a h
end

theorem wipe_twice (σ : L2.St) (own : List Nat) : L2.wipe (L2.wipe σ own) own = L2.wipe σ own := by
  apply List.ext_getElem?
  intro j
  by_cases hj : j ∈ own
  · by_cases hl : j < σ.length
    · rw [wipe_get hj (by rw [wipe_length]; exact hl), wipe_get hj hl]
    · rw [List.getElem?_eq_none (by rw [wipe_length, wipe_length]; simpa using hl), List.getElem?_eq_none (by rw [wipe_length]; simpa using hl)]
  · rw [wipe_out hj]

/-! ### the block of a comprehension -/
theorem blkB_ok {N : List Str} {sc scope : Scope} {own : List Nat} (h : blkB N sc scope own = true) : BlkOk N sc scope (ownN N own) := by
  simp only [blkB, Bool.and_eq_true, decide_eq_true_eq, List.all_eq_true] at h
  obtain ⟨⟨⟨⟨h1, h2⟩, h3⟩, h4⟩, h5⟩ := h
  refine ⟨h1, h2, fun p hp => ?_, fun y hy e => ?_, fun y hy e => ?_⟩
  · obtain ⟨i, hi, rfl⟩ := List.mem_map.mp hp
    have hl := h3 i hi
    show N[i]? = some (N.getD i Str.empty)
    rw [List.getD_eq_getElem?_getD, List.getElem?_eq_getElem hl]
    rfl
  · have := h4 y hy
    simp only [Bool.or_eq_true, Bool.not_eq_true', decide_eq_false_iff_not, decide_eq_true_eq] at this
    rcases this with (z | z) | z
    · exact absurd e z
    · exact .inl z
    · exact .inr z
  · have := h5 y hy
    simp only [Bool.or_eq_true, Bool.not_eq_true', Bool.or_eq_false_iff, decide_eq_false_iff_not, decide_eq_true_eq, List.any_eq_true] at this
    rcases this with (z | ⟨i, hi, z⟩) | z
    · rcases e with e | e
      · exact absurd e z.1
      · exact absurd e z.2
    · exact .inl (List.mem_map.mpr ⟨(N.getD i Str.empty, i), List.mem_map.mpr ⟨i, hi, rfl⟩, z⟩)
    · exact .inr z
theorem ownN_map (N : List Str) (own : List Nat) : (ownN N own).map (·.2) = own := by
  unfold ownN
  rw [List.map_map]
  exact List.map_id' own
def WF : Nat → Hp → Prop := fun _ _ => False
theorem okX_blk {d : Nat} {q : Sc} {W : Nat → Hp → Prop} {X : Cx} (o : OkX c d q W X) (scope : Scope) (s : Shared) (H : Hp) (C : Addr) (cl : List (Str × Addr)) (fp : List Addr) :
    OkX c d (blkSc q scope) WF (X.blk s H scope (compEnvC scope cl C X.env) fp) := by
  refine ⟨⟨o.gx.hK, o.gx.hw, o.gx.ok, o.gx.bn, o.gx.gl, o.gx.fn, o.gx.fns, o.gx.xc, o.gx.xi, o.gx.xl⟩, o.calm, o.N, o.nd, ?_, rfl, o.room, PassesOwn.never, ?_, fun h => by cases h⟩
  · show relS scope X.env.scope = relS scope q.sc
    rw [o.sc]
  · intro u s' h
    obtain ⟨a, B, sI, pins, σ, H, cls, dd, e, I, nb, up, sky, na, os, ag, x, _, _, w⟩ := h
    exact w

/-! ### [elt for t in src if cond] -/
/-- what a turn gives -/
def itemF (cx : Mx.Ctx) (t : Tg) (cond elt : E) (own : List Nat) (lk : List Nat) (env : Mx.Env) (x : Val) (st : Store) : Res (Option Val) :=
  match Mx.asg cx lk t x (Mx.wipe env own) st with
  | none => .bad
  | some q => (Mx.evE cx cond lk q.1 q.2).bind fun c st => (match c with
    | .bool true => (Mx.evE cx elt lk q.1 st).bind fun v st => .ok (some v) st
    | .bool false => .ok none st
    | _ => .bad)
theorem evR_comp (cx : Mx.Ctx) (t : Tg) (src cond elt : E) (own lk : List Nat) (env : Mx.Env) (st : Store) : Mx.evR cx (.comp t src cond elt own) lk env st =
    (Mx.evR cx src lk env st).bind fun p st => (Mx.loopC (itemF cx t cond elt own (p.2 ++ lk) env) p.1 st).nx.bind fun l st => if l.length < Mx.lim then .ok (l, []) st else .bad := by
  simp only [Mx.evR]
  rfl
theorem item_ok {cx : Mx.Ctx} {t : Tg} {cond elt : E} {own lk : List Nat} {env : Mx.Env} {x : Val} {st st' : Store} {ov : Option Val} (h : itemF cx t cond elt own lk env x st = .ok ov st') :
    ∃ env' st0, Mx.asg cx lk t x (Mx.wipe env own) st = some (env', st0) ∧ ((∃ s1 w, Mx.evE cx cond lk env' st0 = .ok (.bool true) s1 ∧ Mx.evE cx elt lk env' s1 = .ok w st' ∧ ov = some w) ∨ (Mx.evE cx cond lk env' st0 = .ok (.bool false) st' ∧ ov = none)) := by
  unfold itemF at h
  cases ha : Mx.asg cx lk t x (Mx.wipe env own) st with
  | none => rw [ha] at h; cases h
  | some r =>
    obtain ⟨env', st0⟩ := r
    rw [ha] at h
    refine ⟨env', st0, rfl, ?_⟩
    simp only at h
    cases hc : Mx.evE cx cond lk env' st0 with
    | bad => rw [hc] at h; cases h
    | exc _ _ => rw [hc] at h; cases h
    | ok cv s1 =>
      rw [hc] at h
      simp only [Res.bind] at h
      cases cv <;> first | (cases h; done) | skip
      rename_i b
      cases b with
      | false => cases h; exact .inr ⟨rfl, rfl⟩
      | true =>
        cases he : Mx.evE cx elt lk env' s1 with
        | bad => rw [he] at h; cases h
        | exc _ _ => rw [he] at h; cases h
        | ok w s2 =>
          rw [he] at h
          cases h
          exact .inl ⟨s1, w, rfl, he, rfl⟩
theorem loopC_cons {f : Val → Store → Res (Option Val)} {x : Val} {r : List Val} {st st' : Store} {res : List Val} (h : Mx.loopC f (x :: r) st = .ok res st') :
    ∃ ov s1 rest, f x st = .ok ov s1 ∧ Mx.loopC f r s1 = .ok rest st' ∧ res = ov.toList ++ rest := by
  simp only [Mx.loopC] at h
  cases hf : f x st with
  | bad => rw [hf] at h; cases h
  | exc _ _ => rw [hf] at h; cases h
  | ok ov s1 =>
    rw [hf] at h
    simp only [Res.bind] at h
    cases hr : Mx.loopC f r s1 with
    | bad => rw [hr] at h; cases h
    | exc _ _ => rw [hr] at h; cases h
    | ok rest s2 =>
      rw [hr] at h
      cases h
      refine ⟨ov, s1, rest, rfl, hr, ?_⟩
      cases ov <;> rfl
/-- the readings of the block's parts -/
def gC (g : G) (cx : Mx.Ctx) (t : Tg) : TG := fun x σ H Q => ∃ lk', TGv g cx lk' t x σ H Q
def tC1 (g : G) (lo : Nat) (cx : Mx.Ctx) (m : E) : TT := fun σ H Q => ∃ lk', TTv g lo lk' WF (Mx.evE cx m lk') σ H Q
def eC (g : G) (lo : Nat) (cx : Mx.Ctx) (m : E) : TE := fun σ H Q => ∃ lk', TEv g lo lk' WF (Mx.evE cx m lk') σ H Q
theorem comp_imp {g : G} (ok : GOk g) {lo : Nat} {lk : List Nat} {W : Nat → Hp → Prop} {cx : Mx.Ctx} {t : Tg} {src cond elt : E} {own : List Nat} (hn : tgN t = true) (hin : tgIn t own = true) {σ : L2.St} {H : Hp} {Q : VK}
    (z : TNv g lo lk W (Mx.evR cx (.comp t src cond elt own) lk) σ H Q) : tLc (TIv g lo lk W (Mx.evR cx src lk)) (gC g cx t) (tC1 g lo cx cond) (eC g lo cx elt) own σ H Q := by
  obtain ⟨φ, st, env, re, rp, p⟩ := z
  refine ⟨φ, st, env, re, rp, ?_⟩
  rw [evR_comp] at p
  cases hs : Mx.evR cx src lk env st with
  | bad => rw [hs] at p; exact p
  | exc k s2 => rw [hs] at p; exact p
  | ok pr st1 =>
    rw [hs] at p
    simp only [Res.bind] at p
    intro φ1 H1 J e1 r1 w1 D hD
    cases hl : Mx.loopC (itemF cx t cond elt own (pr.2 ++ lk) env) pr.1 st1 with
    | bad => rw [hl] at p; exact p.elim
    | exc k s2 => rw [hl] at p; exact p.elim
    | ok res stN =>
      rw [hl] at p
      simp only [Res.nx] at p
      by_cases hlim : res.length < Mx.lim
      · rw [if_pos hlim] at p
        have hHD : H D = none := e1.dom D hD
        have wk : ∀ {φ2 : List Addr} {H2 : Hp}, Ext g lo (pr.2 ++ lk) φ1 H1 φ2 H2 → Ext g lo lk φ H φ2 H2 := fun e2 => e1.trans (e2.weak fun n hn => hn.imp id (List.mem_append_right _))
        let Iv : Nat → Nat → Hp → Prop := fun i m H' => m = pr.1.length - i ∧ i ≤ pr.1.length ∧ ∃ φ' st' done rest acc, Ext g lo (pr.2 ++ lk) φ1 H1 φ' H' ∧ Rep g φ' st' H' ∧ D ∉ φ' ∧ H' D = some (.lst acc) ∧ RVs g H' φ' done acc ∧
          Mx.loopC (itemF cx t cond elt own (pr.2 ++ lk) env) (pr.1.drop i) st' = .ok rest stN ∧ done ++ rest = res
        refine ⟨Iv, ⟨pr.1.length, by simp, Nat.zero_le _, φ1, st1, [], res, [], Ext.tmp ok hD, r1.tmp ok hD, r1.notin hD, upd_same, .nil, hl, rfl⟩, ?_⟩
        rintro i m H' ⟨rfl, hi, φ', st', done, rest, acc, e', r', nD, hacc, rvs, hrest, hres⟩
        by_cases hlt : i < pr.1.length
        · refine .inr ⟨w1.go φ' H' i e' hlt, Iv (i + 1) (pr.1.length - (i + 1)), fun H'' q => ⟨pr.1.length - (i + 1), by omega, q⟩, fun x H3 y => ?_⟩
          obtain ⟨v, hv, rv, hlay⟩ := w1.yld φ' H' i x H3 e' hlt y
          have hdrop : pr.1.drop i = v :: pr.1.drop (i + 1) := by
            have hg := List.drop_eq_getElem_cons hlt
            rw [hg]
            rw [List.getElem?_eq_getElem hlt] at hv
            cases hv
            rfl
          rw [hdrop] at hrest
          obtain ⟨ov, s1, rest', hf, hr', hrr⟩ := loopC_cons hrest
          obtain ⟨env', st0, hasg, hcase⟩ := item_ok hf
          have hst0 := asg_st hn hasg
          subst hst0
          have e3 : Ext g lo (pr.2 ++ lk) φ' H' φ' H3 := by
            rcases hlay with rfl | ⟨T, ob, hT, rfl⟩
            · exact Ext.refl
            · exact Ext.tmp ok hT
          have r3 : Rep g φ' st0 H3 := by
            rcases hlay with rfl | ⟨T, ob, hT, rfl⟩
            · exact r'
            · exact r'.tmp ok hT
          have hacc3 : H3 D = some (.lst acc) := e3.keepU nD hacc
          have re3 : REnv g H3 φ' env σ := ((re.mono e1).mono e').mono e3
          refine ⟨pr.2 ++ lk, φ', st0, Mx.wipe env own, v, env', re3.wipe own, r3, rv, hasg, fun σ' re' so => ⟨?_, ?_⟩⟩
          · have := so own hin
            unfold SameOut at this
            rw [this, wipe_twice]
          · refine ⟨pr.2 ++ lk, φ', st0, env', re', r3, ?_⟩
            rcases hcase with ⟨sc, w, hc, he, rfl⟩ | ⟨hc, rfl⟩
            · rw [hc]
              intro φ4 H4 xb e4 r4 rv4
              cases rv4
              refine ⟨true, rfl, ?_⟩
              simp only [if_true]
              refine ⟨pr.2 ++ lk, φ4, sc, env', re'.mono e4, r4, ?_⟩
              rw [he]
              intro φ5 H5 yv e5 r5 rv5
              have e35 := e4.trans e5
              have hacc5 : H5 D = some (.lst acc) := e35.keepU nD hacc3
              have nD5 : D ∉ φ5 := e35.notin nD hacc3
              have hw5 : Wr H5 D := .inl ⟨_, hacc5⟩
              have hlen : acc.length < sizeLine := by
                rw [← rvs.length]
                have h1 : done.length ≤ res.length := by rw [← hres]; simp
                exact Nat.lt_of_le_of_lt h1 (Nat.lt_trans hlim lim_lt)
              refine ⟨acc, hacc5, hlen, rfl, hlt, φ5, s1, done ++ [w], rest', acc ++ [yv], Ext.over ok ((e'.trans e3).trans e35) hD hw5, r5.over ok nD5 hw5 ⟨_, hacc5⟩, nD5, upd_same, ?_, hr', ?_⟩
              · exact (RVs.append (((rvs.mono e3).mono e35)) (.cons rv5 .nil)).over ok hw5 ⟨_, hacc5⟩
              · rw [← hres, hrr]
                simp
            · rw [hc]
              intro φ4 H4 xb e4 r4 rv4
              cases rv4
              refine ⟨false, rfl, ?_⟩
              simp only [Bool.false_eq_true, if_false]
              refine ⟨rfl, hlt, φ4, s1, done, rest', acc, (e'.trans e3).trans e4, r4, e4.notin nD hacc3, e4.keepU nD hacc3, (rvs.mono e3).mono e4, hr', ?_⟩
              rw [← hres, hrr]
              rfl
        · have hie : i = pr.1.length := by omega
          subst hie
          rw [List.drop_length] at hrest
          simp only [Mx.loopC] at hrest
          cases hrest
          rw [List.append_nil] at hres
          subst hres
          exact .inl ⟨w1.stop φ' H' e', p φ' H' D acc (wk e') r' nD hHD hacc rvs hlim⟩
      · rw [if_neg hlim] at p
        exact p.elim
end Sd
end

section
set_option Elab.async false
set_option linter.all false
set_option maxRecDepth 100000
set_option maxHeartbeats 1000000
set_option autoImplicit false
namespace Sd
open PySem PySem.Spec PyProof.Rows L2
open Mx (Val Res SR Op Cmp Ty Tg E S Store)
variable {c : Cfg}

theorem PG.ex {X : Cx} {e : Expr} {ι : Type} {t : ι → TG} (h : ∀ i, PG X e (t i)) : PG X e (fun v σ H Q => ∃ i, t i v σ H Q) :=
  ⟨fun pins s σ H v u Q I r ⟨i, q⟩ => (h i).run pins s σ H v u Q I r q⟩
theorem PTs.imp {X : Cx} {es : List Expr} {t t' : TT} (h : PTs X es t) (f : ∀ σ H Q, t' σ H Q → t σ H Q) : PTs X es t' :=
  ⟨fun pins s σ H Q I q => h.run pins s σ H Q I (f _ _ _ q)⟩
theorem plain_fold {e : Expr} (h : plain e = true) (env : Env) (x : Value) : foldedSetIterable e env x = pure x := by
  cases e <;> first | (cases h; done) | rfl

/-- an expression that a comprehension is -/
def PN (X : Cx) (e : Expr) (t : TE) : Prop := PE X e t ∧ (∀ (i : Nat) (y : Str) (py spos : Pos), X.N[i]? = some y → X.env.scope.names.lookup y = some .local →
  swapsWith e (some (.Name y py)) spos.line X.env = pure true → PS X (.Assign [.Name y py] e spos) (tAsg t (gName i)))
theorem PN.imp {X : Cx} {e : Expr} {t t' : TE} (h : PN X e t) (f : ∀ σ H Q, t' σ H Q → t σ H Q) : PN X e t' :=
  ⟨PE.imp h.1 f, fun i y py spos h1 h2 h3 => PS.imp (h.2 i y py spos h1 h2 h3) fun D σ H q => f _ _ _ q⟩
def SndN (c : Cfg) (m : E) : Prop := ∀ (d : Nat) (q : Sc) (W : Nat → Hp → Prop) (X : Cx) (lo : Nat) (lk : List Nat) (e : Expr), OkX c d q W X → isComp m = true → chkR c.T q m e = true → PN X e (TNv c.g lo lk W (Mx.evR (c.cx d lo) m lk))
theorem pts_of {cond : E} (tc : SndT c cond) {d : Nat} {q : Sc} {X : Cx} {lo : Nat} (o : OkX c d q WF X) {ifs : List Expr} (h9 : (match ifs with
    | [] => isTT cond
    | [k] => plain k && chkE c.T q cond k
    | _ => false) = true) : PTs X ifs (tC1 c.g lo (c.cx d lo) cond) := by
  rcases ifs with _ | ⟨k, _ | ⟨k2, r⟩⟩
  · refine PTs.imp pts_nil fun σ H Q z => ?_
    simp only at h9
    cases cond <;> first | (cases h9; done) | skip
    rename_i v
    cases v <;> first | (cases h9; done) | skip
    rename_i b
    cases b with
    | false => cases h9
    | true =>
      obtain ⟨lk', φ, st, env, re, rp, p⟩ := z
      obtain ⟨b, e, q⟩ := Post.val p rp (.bool true)
      cases e
      exact q
  · simp only [Bool.and_eq_true] at h9
    exact pts_one (PT.ex fun lk' => (tc d q WF _ lo lk' k o h9.2).1)
  · cases h9
theorem sndn_comp {src cond elt : E} (t : Tg) (own : List Nat) (hs : SndR c src) (tc : SndT c cond) (he : SndE c elt) : SndN c (.comp t src cond elt own) := by
  intro d q W X lo lk e o _ h
  cases e <;> first | (cases h; done) | skip
  rename_i el gens scope pos
  match gens, h with
  | [⟨tg, it, ifs, 0⟩], h =>
    unfold chkR at h
    simp only [Bool.and_eq_true] at h
    obtain ⟨⟨⟨⟨⟨⟨⟨⟨⟨h1, h2⟩, h3⟩, h4⟩, h5⟩, h6⟩, h7⟩, h8⟩, h9⟩, h10⟩ := h
    have hi := hs d q W X lo lk it tg o h8 h4
    have bo : BlkOk X.N X.env.scope scope (ownN q.N own) := by
      rw [o.N, o.sc]
      exact blkB_ok h6
    have hg : ∀ (s : Shared) (H : Hp) (C : Addr) (cl : List (Str × Addr)) (fp : List Addr), PG (X.blk s H scope (compEnvC scope cl C X.env) fp) tg (gC c.g (c.cx d lo) t) := fun s H C cl fp =>
      PG.ex fun lk' => (sndG (okX_blk o scope s H C cl fp) (c.cx d lo) lk' t).1 tg h7
    have ht : ∀ (s : Shared) (H : Hp) (C : Addr) (cl : List (Str × Addr)) (fp : List Addr), PTs (X.blk s H scope (compEnvC scope cl C X.env) fp) ifs (tC1 c.g lo (c.cx d lo) cond) := fun s H C cl fp =>
      pts_of tc (okX_blk o scope s H C cl fp) h9
    have hel : ∀ (s : Shared) (H : Hp) (C : Addr) (cl : List (Str × Addr)) (fp : List Addr), PE (X.blk s H scope (compEnvC scope cl C X.env) fp) el (eC c.g lo (c.cx d lo) elt) := fun s H C cl fp =>
      PE.ex fun lk' => (he d (blkSc q scope) WF _ lo lk' el (okX_blk o scope s H C cl fp) h10).1
    have nd : X.N.Nodup := by rw [o.N]; exact o.nd
    refine PN.imp (t := tLc (TIv c.g lo lk W (Mx.evR (c.cx d lo) src lk)) (gC c.g (c.cx d lo) t) (tC1 c.g lo (c.cx d lo) cond) (eC c.g lo (c.cx d lo) elt) own) ?_ fun σ H Q z => comp_imp o.gx.ok (chkT_n h7) h5 z
    have e1 := pe_lc (pos := pos) o.calm nd hi bo hg ht hel (fun x => plain_fold h1 _ x)
    rw [ownN_map] at e1
    refine ⟨e1, fun i y py spos hy1 hy2 hsw => ?_⟩
    have e2 := ps_setLc (pos := pos) (i := i) (y := y) (py := py) (spos := spos) o.calm nd hy1 hy2 hsw hi bo hg ht hel (fun x => plain_fold h1 _ x)
    rw [ownN_map] at e2
    exact e2

mutual
theorem RV.app {g : G} {H : Hp} {φ : List Addr} (ψ : List Addr) (hl : ∀ a ∈ ψ, ∃ xs, H a = Option.some (.lst xs)) : ∀ {v : Val} {x : V}, RV g H φ v x → RV g H (φ ++ ψ) v x
  | _, _, .none => .none
  | _, _, .bool b => .bool b
  | _, _, .int i => .int i
  | _, _, .str s h => .str s h
  | _, _, .tup h r => .tup h (RVs.app ψ hl r)
  | _, _, .ref h => .ref (by rw [List.getElem?_append_left (List.getElem?_eq_some_iff.mp h).1]; exact h)
  | _, _, .fn f => .fn f
  | _, _, .clo h r => .clo h (RVs.app ψ hl r)
  | _, _, .exc h n => .exc h (fun hm => by
      rcases List.mem_append.mp hm with z | z
      · exact n z
      · obtain ⟨xs, q⟩ := hl _ z
        rw [q] at h
        cases h)
theorem RVs.app {g : G} {H : Hp} {φ : List Addr} (ψ : List Addr) (hl : ∀ a ∈ ψ, ∃ xs, H a = Option.some (.lst xs)) : ∀ {v : List Val} {x : List V}, RVs g H φ v x → RVs g H (φ ++ ψ) v x
  | _, _, .nil => .nil
  | _, _, .cons h r => .cons (RV.app ψ hl h) (RVs.app ψ hl r)
end
theorem RO.app {g : G} {H : Hp} {φ : List Addr} (ψ : List Addr) (hl : ∀ a ∈ ψ, ∃ xs, H a = Option.some (.lst xs)) {a : Addr} {ob : Mx.Obj} (h : RO g H φ a ob) : RO g H (φ ++ ψ) a ob := by
  cases ob with
  | lst l => obtain ⟨xs, h1, h2⟩ := h; exact ⟨xs, h1, h2.app ψ hl⟩
  | frz l => obtain ⟨o, xs, h1, h2⟩ := h; exact ⟨o, xs, h1, h2.app ψ hl⟩
  | dct d =>
    obtain ⟨es, ep, h1, h2, h3⟩ := h
    refine ⟨es, ep, h1, Paired.imp h2 fun p q z => ?_, h3⟩
    obtain ⟨z1, z2, ⟨x, z3, z4⟩, y, z5, z6⟩ := z
    exact ⟨z1, z2, ⟨x, z3, z4.app ψ hl⟩, y, z5, z6.app ψ hl⟩
  | ins c fs =>
    obtain ⟨dx, fs', h1, h3, h2⟩ := h
    refine ⟨dx, fs', h1, h3, fun f v hv => ?_⟩
    obtain ⟨x, q1, q2⟩ := h2 f v hv
    exact ⟨x, q1, q2.app ψ hl⟩
/-- an untracked object becomes tracked -/
theorem Rep.adopt {g : G} {H : Hp} {φ : List Addr} {st : Store} {D : Addr} {ob : Mx.Obj} (r : Rep g φ st H) (hd : D ∉ φ) (hl : ∃ xs, H D = some (.lst xs)) (h : RO g H φ D ob) : Rep g (φ ++ [D]) (st ++ [ob]) H := by
  have hl' : ∀ a ∈ [D], ∃ xs, H a = some (.lst xs) := fun a ha => by rw [List.mem_singleton.mp ha]; exact hl
  refine ⟨by simp [r.len], ?_, fun n u a h1 h2 => ?_, r.tab⟩
  · rw [List.nodup_append]
    refine ⟨r.nd, by simp, fun a ha b hb => ?_⟩
    rw [List.mem_singleton.mp hb]
    exact fun e => hd (e ▸ ha)
  · by_cases hn : n < st.length
    · rw [List.getElem?_append_left hn] at h1
      rw [List.getElem?_append_left (by rw [r.len]; exact hn)] at h2
      exact (r.obj n u a h1 h2).app _ hl'
    · rw [List.getElem?_append_right (Nat.le_of_not_lt hn)] at h1
      rw [List.getElem?_append_right (by rw [r.len]; exact Nat.le_of_not_lt hn), r.len] at h2
      have e0 : n - st.length = 0 := by
        cases hz : n - st.length with
        | zero => rfl
        | succ k => rw [hz] at h1; simp at h1
      rw [e0] at h1 h2
      cases h1
      cases h2
      exact h.app _ hl'
theorem Ext.adopt {g : G} {lo : Nat} {lk : List Nat} {φ φ' : List Addr} {H H' : Hp} {D : Addr} (e : Ext g lo lk φ H φ' H') (h : H D = none) : Ext g lo lk φ H (φ' ++ [D]) H' := by
  obtain ⟨ψ, rfl, hψ⟩ := e.pre
  refine ⟨⟨ψ ++ [D], by rw [List.append_assoc], fun a ha => ?_⟩, e.keep, e.tup, e.frz, e.clo, e.dom⟩
  rcases List.mem_append.mp ha with z | z
  · exact hψ a z
  · rw [List.mem_singleton.mp z]; exact h

theorem sndq_comp {m : E} (hn : SndN c m) (hm : isComp m = true) : SndQ c m := by
  intro d q W X lo lk e o _ h
  refine PE.imp (hn d q W X lo lk e o hm h).1 fun σ H Q z => ?_
  obtain ⟨φ, st, env, re, rp, p⟩ := z
  refine ⟨φ, st, env, re, rp, ?_⟩
  cases hk : Mx.evR (c.cx d lo) m lk env st with
  | bad => rw [hk] at p; exact p
  | exc k s2 => rw [hk] at p; exact p
  | ok v s2 =>
    rw [hk] at p
    exact fun φ' H' D xs e' r' nD hD hx rvs _ => p φ' H' _ e' r' (.inl ⟨D, xs, rfl, fun a n ea hn => by cases ea; exact absurd (List.mem_of_getElem? hn) nD, .inl (.inl hx), rvs⟩)
theorem lst_comp {m : E} (hn : SndN c m) {d : Nat} {q : Sc} {W : Nat → Hp → Prop} {X : Cx} {lo : Nat} {lk : List Nat} {e : Expr} (o : OkX c d q W X) (hm : isComp m = true) (h : chkR c.T q m e = true) : PN X e (TEv c.g lo lk W (Mx.evE (c.cx d lo) (.lstR m) lk)) := by
  refine PN.imp (hn d q W X lo lk e o hm h) fun σ H Q z => ?_
  obtain ⟨φ, st, env, re, rp, p⟩ := z
  refine ⟨φ, st, env, re, rp, ?_⟩
  simp only [Mx.evE] at p
  cases hk : Mx.evR (c.cx d lo) m lk env st with
  | bad => rw [hk] at p; exact p
  | exc k s2 => rw [hk] at p; exact p
  | ok v s2 =>
    rw [hk] at p
    intro φ' H' D xs e' r' nD hD hx rvs _
    exact p (φ' ++ [D]) H' _ (e'.adopt hD) (r'.adopt nD ⟨xs, hx⟩ ⟨xs, hx, rvs⟩) (.ref (by rw [← r'.len]; simp))

/-! ### list(..), tuple(..), all(..), any(..), join -/
theorem vals_signs {s : List Nat} {acc : Array Value} (h : ItemsOf (SignAt ⟨s.toArray⟩) acc s.length) : Vals (s.map fun k => V.str ⟨#[k]⟩) acc.toList := by
  obtain ⟨h1, h2⟩ := h
  have key : ∀ (n : Nat) (l : List Nat) (m : List Value), l.length = m.length → (∀ (i : Nat) (k : Nat) (v : Value), l[i]? = some k → m[i]? = some v → ∃ t, v = Value.str ⟨#[k]⟩ t) → Vals (l.map fun k => V.str ⟨#[k]⟩) m := by
    intro n l
    induction l with
    | nil => intro m hl _; cases m with | nil => exact .nil | cons _ _ => simp at hl
    | cons x l ih =>
      intro m hl hh
      cases m with
      | nil => simp at hl
      | cons y m =>
        refine .cons ?_ (ih m (by simpa using hl) fun i k v a b => hh (i + 1) k v a b)
        obtain ⟨t, rfl⟩ := hh 0 x y rfl rfl
        exact ⟨t, rfl⟩
  refine key 0 s acc.toList (by simp [h1]) fun i k v hk hv => ?_
  have hi : i < s.length := (List.getElem?_eq_some_iff.mp hk).1
  have hv' : acc[i]? = some v := by simpa using hv
  obtain ⟨k', t, h3, h4⟩ := h2 i v hv'
  have h3' : s[i]? = some k' := by simpa using h3
  rw [hk] at h3'
  cases h3'
  exact ⟨t, h4⟩
theorem RVs.signs {g : G} {H : Hp} {φ : List Addr} {s : List Nat} (hs : Mx.strOk s = true) : RVs g H φ (s.map fun k => .str [k]) (s.map fun k => V.str ⟨#[k]⟩) := by
  have : ∀ l : List Nat, (∀ k ∈ l, k ∈ s) → RVs g H φ (l.map fun k => .str [k]) (l.map fun k => V.str ⟨#[k]⟩) := by
    intro l
    induction l with
    | nil => intro _; exact .nil
    | cons x r ih => intro h; exact .cons (.str [x] (strOk_one hs (h x (by simp)))) (ih fun k hk => h k (List.mem_cons_of_mem _ hk))
  exact this s fun k hk => hk
/-- one raw argument, then a rule -/
def rQ1 (g : G) (lo : Nat) (lk : List Nat) (W : Nat → Hp → Prop) (f : Store → List Val → Res Val) : List V → Hp → VK → Prop := fun xs H Q => ∃ x, xs = [x] ∧ ∃ φ st ls l, Rep g φ st H ∧ Seqv g H φ ls l x ∧ Post g lo lk W φ H (f st l) Q
theorem TQv.one {g : G} {lo : Nat} {lk : List Nat} {W : Nat → Hp → Prop} {m : Mx.Env → Store → RL} {f : Store → List Val → Res Val} {σ : L2.St} {H : Hp} {Q : VK}
    (h : TEv g lo lk W (fun env st => (m env st).bind fun p st => f st p.1) σ H Q) : TQv g lo lk W m σ H (fun x H1 => rQ1 g lo lk W f [x] H1 Q) := by
  obtain ⟨φ, st, env, re, rp, p⟩ := h
  refine ⟨φ, st, env, re, rp, ?_⟩
  cases hk : m env st with
  | bad => simp only [hk, Res.bind] at p; exact p
  | exc k s2 => simp only [hk, Res.bind] at p; exact p
  | ok v s2 =>
    simp only [hk, Res.bind] at p
    exact fun φ' H' x e' r' sq => ⟨x, rfl, φ', s2, v.2, v.1, r', sq, Post.base p e'⟩
theorem snd_tupR {r : E} (hr : SndQ c r) : SndE c (.tupR r) := by
  intro d q W X lo lk e o h
  cases e <;> first | (cases h; done) | skip
  rename_i f args kws pos
  match f, args, kws, h with
  | .Name x p, [y], [], h =>
    simp only [chkE, Bool.and_eq_true, decide_eq_true_eq] at h
    obtain ⟨⟨⟨⟨rfl, hg⟩, hp⟩, hq⟩, h1⟩ := h
    have hc : CallR X (.type "tuple") (rQ1 c.g lo lk W fun st l => .ok (.tup l) st) := by
      intro pins s σ H xs us Q I r h
      obtain ⟨x, rfl, φ, st, ls, l, rep, sq, p⟩ := h
      rcases sq with ⟨a, xs, rfl, hd, hx, rv⟩ | ⟨a, xs, rfl, hx, rv⟩ | ⟨z, rfl, hz, rfl⟩
      · exact call_tuple_of pins s σ H _ us Q I r ⟨a, xs, rfl, .inl ⟨o.gx.hK ▸ hx, fun l' hl => Post.newT o.gx.ok p rep rv hl⟩⟩
      · exact call_tuple_of pins s σ H _ us Q I r ⟨a, xs, rfl, .inr ⟨o.gx.hK ▸ hx, Post.val p rep (.tup hx rv)⟩⟩
      · obtain ⟨u, rfl, t, rfl⟩ := vals1 r
        have hl : z.length ≤ sizeLine := Nat.le_trans (strOk_len hz) lim_le
        refine PySem.call_tuple_str (I.ok.hd o.calm) ⟨z.toArray⟩ t (fun h' tk acc kp hacc => ?_) (by simpa using hl)
        have I1 : Inv X pins σ H { s with heap := h', toks := tk } := I.kept kp
        have hv : Vals (z.map fun k => V.str ⟨#[k]⟩) acc.toList := vals_signs (by simpa using hacc)
        have I2 : Inv X pins σ (upd H h'.objs.size (.tup (z.map fun k => V.str ⟨#[k]⟩))) { s with heap := h'.push { cls := .type "tuple", data := .seq acc }, toks := tk } :=
          I1.laid (t' := tk) (fun b o e => Heap.get?_push_of_some _ e) (Nat.le_refl _) (show ObjOk X.prog X.w _ _ _ (.tup _) from ⟨by simpa using hl, acc.toList, hv, by simpa using IsTup.new h' acc⟩)
        exact ⟨.ref h'.objs.size, _, I2, rfl, Post.newT o.gx.ok p rep (RVs.signs hz) (I1.hok.fresh (Nat.le_refl _))⟩
    refine pea_of rfl (PE.imp (pe_callTy hc (glB_ok (by rw [o.sc]; exact hg)) (o.gx.bn _ (by decide)) (by decide +kernel) (pa_one (hr d q W X lo lk y o hq h1) hp) (by decide) (by decide) (star_one hp) rfl) fun σ H Q z => ?_)
    exact TQv.one (f := fun st l => .ok (.tup l) st) z
theorem snd_lstR {r : E} (hr : SndQ c r) (hn : SndN c r) : SndE c (.lstR r) := by
  intro d q W X lo lk e o h
  cases e <;> first | (cases h; done) | skip
  · rename_i el gens scope pos
    simp only [chkE, Bool.and_eq_true] at h
    exact lst_comp hn o h.1 h.2
  rename_i f args kws pos
  match f, args, kws, h with
  | .Name x p, [y], [], h =>
    simp only [chkE, Bool.and_eq_true, decide_eq_true_eq] at h
    obtain ⟨⟨⟨⟨rfl, hg⟩, hp⟩, hq⟩, h1⟩ := h
    have hc : CallR X (.type "list") (rQ1 c.g lo lk W fun st l => .ok (.ref st.length) (st ++ [.lst l])) := by
      intro pins s σ H xs us Q I r h
      obtain ⟨x, rfl, φ, st, ls, l, rep, sq, p⟩ := h
      rcases sq with ⟨a, xs, rfl, hd, hx, rv⟩ | ⟨a, xs, rfl, hx, rv⟩ | ⟨z, rfl, hz, rfl⟩
      · exact call_list_of pins s σ H _ us Q I r ⟨a, xs, rfl, .inl (o.gx.hK ▸ hx), fun l' hl => Post.newL o.gx.ok p rep rv hl⟩
      · exact call_list_of pins s σ H _ us Q I r ⟨a, xs, rfl, .inr (o.gx.hK ▸ hx), fun l' hl => Post.newL o.gx.ok p rep rv hl⟩
      · obtain ⟨u, rfl, t, rfl⟩ := vals1 r
        have hl : z.length ≤ sizeLine := Nat.le_trans (strOk_len hz) lim_le
        refine PySem.call_list_str (I.ok.hd o.calm) ⟨z.toArray⟩ t (fun h' tk acc c' kp e hacc => ?_) (by simpa using hl)
        have hv : Vals (z.map fun k => V.str ⟨#[k]⟩) acc.toList := vals_signs (by simpa using hacc)
        have I2 : Inv X pins σ (upd H s.heap.objs.size (.lst (z.map fun k => V.str ⟨#[k]⟩))) { s with heap := h', toks := tk } :=
          I.laid (t' := tk) kp (Nat.le_refl _) (show ObjOk X.prog X.w _ _ _ (.lst _) from ⟨by simpa using hl, acc.toList, c', hv, by simpa using e⟩)
        exact ⟨.ref s.heap.objs.size, _, I2, rfl, Post.newL o.gx.ok p rep (RVs.signs hz) (I.hok.fresh (Nat.le_refl _))⟩
    refine pea_of rfl (PE.imp (pe_callTy hc (glB_ok (by rw [o.sc]; exact hg)) (o.gx.bn _ (by decide)) (by decide +kernel) (pa_one (hr d q W X lo lk y o hq h1) hp) (by decide) (by decide) (star_one hp) rfl) fun σ H Q z => ?_)
    exact TQv.one (f := fun st l => .ok (.ref st.length) (st ++ [.lst l])) z
theorem RVs.bools {g : G} {H : Hp} {φ : List Addr} : ∀ {l : List Val} {xs : List V} {bs : List Bool}, RVs g H φ l xs → Mx.boolsOf l = some bs → xs = bs.map V.bl
  | _, _, _, .nil, h => by simp [Mx.boolsOf] at h; subst h; rfl
  | _, _, bs, .cons (v := v) (vs := vs) q r, h => by
    cases q <;> first | (simp [Mx.boolsOf] at h; done) | skip
    rename_i b
    simp only [Mx.boolsOf] at h
    cases hr : Mx.boolsOf vs with
    | none => rw [hr] at h; cases h
    | some bs' =>
      rw [hr] at h
      cases h
      rw [RVs.bools r hr]
      rfl
def rN1 (g : G) (lo : Nat) (lk : List Nat) (W : Nat → Hp → Prop) (f : Store → List Val → Res Val) : List V → Hp → VK → Prop := fun xs H Q => ∃ D ys, xs = [.ref D] ∧ H D = some (.lst ys) ∧ ∃ φ st l, Rep g φ st H ∧ RVs g H φ l ys ∧ Post g lo lk W φ H (f st l) Q
theorem TNv.one {g : G} {lo : Nat} {lk : List Nat} {W : Nat → Hp → Prop} {m : Mx.Env → Store → RL} {f : Store → List Val → Res Val} {σ : L2.St} {H : Hp} {Q : VK}
    (h : TEv g lo lk W (fun env st => (m env st).bind fun p st => f st p.1) σ H Q) : TNv g lo lk W m σ H (fun x H1 => rN1 g lo lk W f [x] H1 Q) := by
  obtain ⟨φ, st, env, re, rp, p⟩ := h
  refine ⟨φ, st, env, re, rp, ?_⟩
  cases hk : m env st with
  | bad => simp only [hk, Res.bind] at p; exact p
  | exc k s2 => simp only [hk, Res.bind] at p; exact p
  | ok v s2 =>
    simp only [hk, Res.bind] at p
    exact fun φ' H' D xs e' r' nD hD hx rvs _ => ⟨D, xs, rfl, hx, φ', s2, v.1, r', rvs, Post.base p e'⟩
theorem snd_allR {r : E} (hn : SndN c r) : SndE c (.allR r) := by
  intro d q W X lo lk e o h
  cases e <;> first | (cases h; done) | skip
  rename_i f args kws pos
  match f, args, kws, h with
  | .Name x p, [y], [], h =>
    simp only [chkE, Bool.and_eq_true, decide_eq_true_eq] at h
    obtain ⟨⟨⟨⟨rfl, hg⟩, hp⟩, hq⟩, h1⟩ := h
    have hc : CallR X (.builtin "all") (rN1 c.g lo lk W fun st l => match Mx.allB l with | some b => .ok (.bool b) st | none => .bad) := by
      intro pins s σ H xs us Q I r h
      obtain ⟨D, ys, rfl, hx, φ, st, l, rep, rv, p⟩ := h
      cases hb : Mx.boolsOf l with
      | none => simp only [Mx.allB, hb] at p; exact p.elim
      | some bs =>
        simp only [Mx.allB, hb, Option.map_some] at p
        have e := rv.bools hb
        subst e
        exact cr_all o.calm pins s σ H _ us Q I r ⟨D, bs, rfl, .inl (.inl hx), Post.val p rep (.bool _)⟩
    refine pea_of rfl (PE.imp (pe_callB hc (glB_ok (by rw [o.sc]; exact hg)) (o.gx.bn _ (by decide)) (by decide +kernel) (pa_one (hn d q W X lo lk y o hq h1).1 hp) (by decide) (by decide) (star_one hp) rfl) fun σ H Q z => ?_)
    exact TNv.one (f := fun st l => match Mx.allB l with | some b => .ok (.bool b) st | none => .bad) z
theorem snd_anyR {r : E} (hn : SndN c r) : SndE c (.anyR r) := by
  intro d q W X lo lk e o h
  cases e <;> first | (cases h; done) | skip
  rename_i f args kws pos
  match f, args, kws, h with
  | .Name x p, [y], [], h =>
    simp only [chkE, Bool.and_eq_true, decide_eq_true_eq] at h
    obtain ⟨⟨⟨⟨rfl, hg⟩, hp⟩, hq⟩, h1⟩ := h
    have hc : CallR X (.builtin "any") (rN1 c.g lo lk W fun st l => match Mx.anyB l with | some b => .ok (.bool b) st | none => .bad) := by
      intro pins s σ H xs us Q I r h
      obtain ⟨D, ys, rfl, hx, φ, st, l, rep, rv, p⟩ := h
      cases hb : Mx.boolsOf l with
      | none => simp only [Mx.anyB, hb] at p; exact p.elim
      | some bs =>
        simp only [Mx.anyB, hb, Option.map_some] at p
        have e := rv.bools hb
        subst e
        exact cr_any o.calm pins s σ H _ us Q I r ⟨D, bs, rfl, .inl (.inl hx), Post.val p rep (.bool _)⟩
    refine pea_of rfl (PE.imp (pe_callB hc (glB_ok (by rw [o.sc]; exact hg)) (o.gx.bn _ (by decide)) (by decide +kernel) (pa_one (hn d q W X lo lk y o hq h1).1 hp) (by decide) (by decide) (star_one hp) rfl) fun σ H Q z => ?_)
    exact TNv.one (f := fun st l => match Mx.anyB l with | some b => .ok (.bool b) st | none => .bad) z
end Sd
end

section
set_option Elab.async false
set_option linter.all false
set_option maxRecDepth 100000
set_option maxHeartbeats 1000000
set_option autoImplicit false
namespace Sd
open PySem PySem.Spec PyProof.Rows L2
open Mx (Val Res SR Op Cmp Ty Tg E S Store)
variable {c : Cfg}

/-! ### enumerate(v), v whatever begins a walk (the library's Begins) -/
/-- the object that enumerate(v) makes over the iterator at n -/
def enumO (n : Addr) : Obj := { cls := .type "enumerate", data := .fields #[.none, .bool false, .ref n, rawInt 0, .none, .none] }
theorem new_enum1 {v : Value} {o : Obj} {Hb : Heap → Prop} (B : Begins v o Hb) :
    Meets (Builtin.«enumerate.__new__» ⟨[.type "enumerate", v], []⟩) fun _ R s => Hb s.heap ∧ R (.ok (.ret (.ref (s.heap.push o).objs.size))) { s with heap := (s.heap.push o).push (enumO s.heap.objs.size) } :=
  .of_wp fun prog w A R s h => by
    have sub := sub_enumerate
    have begin_ : ∀ {A' : Around} {E : Value → Shared → Prop} {Q : Value → Shared → Prop}, Q (.ref s.heap.objs.size) { s with heap := s.heap.push o } → wpAny (model prog w) A' (pyIter v) Q E s := fun q => B.iter prog w _ _ s _ h.1 q
    obtain ⟨hp, gs, dr, tk, os⟩ := s
    wp_walk using begin_
    refine wpAny_stack_any fun st => wpAny_pure ?_
    split
    all_goals try (rename_i cl _ _ _ _ _; cases (cl == Value.type "enumerate"))
    all_goals (wp_walk using begin_; exact ⟨_, rfl, h.2⟩)
theorem call_enum1 {prog : Program} {w : World} {A : Around} {E : Value → Shared → Prop} {s : Shared} {v : Value} {o : Obj} {Hb : Heap → Prop} {Q : Value → Shared → Prop} (B : Begins v o Hb) (hb : Hb s.heap)
    (q : Q (.ref (s.heap.objs.size + 1)) { s with heap := (s.heap.push o).push (enumO s.heap.objs.size) }) : wpAny (model prog w) A (call (.type "enumerate") [v]) Q E s := by
  have sz : (s.heap.push o).objs.size = s.heap.objs.size + 1 := Heap.size_push ..
  have made : ((s.heap.push o).push (enumO s.heap.objs.size)).get? (s.heap.objs.size + 1) = some (enumO s.heap.objs.size) := by
    rw [← sz]
    exact Heap.get?_push_size _ rfl
  have fin : wants (fun ob s1 => s1.TypeIs ob "enumerate" ∧ Q ob s1) E (.ok (.ret (.ref (s.heap.push o).objs.size))) { s with heap := (s.heap.push o).push (enumO s.heap.objs.size) } := by
    rw [sz]
    exact ⟨⟨_, made, rfl⟩, q⟩
  exact callType_new F.called_enumerate (by decide) (F.typeCall_enumerate_1 _) (F.newCall_enumerate_1 _) (fun ob => F.args_object_init_2 ob _) F.entry_enumerate_new (new_enum1 B) ⟨hb, fin⟩
/-! ### the walk over enumerate(a tuple): a bridge from the library's GoesN to a Turn -/
/-- the tuple at a as it stands, each item in a new pair with its place -/
def IteT (K : PySem.W.Frag) (a : Addr) : It where
  go := fun i H => ∃ xs x, SqT K H a xs ∧ xs[i]? = some x
  yld := fun i H v H' => ∃ T x, v = .ref T ∧ H T = none ∧ H' = upd H T (.tup [.int (i : Nat), x]) ∧ ∀ xs, SqT K H a xs → xs[i]? = some x
  stop := fun i H => ∃ xs, SqT K H a xs ∧ xs.length = i
def tnE (a e it : Addr) (i : Nat) (h : Heap) : Prop := (∃ old, IsEnum h e it (0 + (i : Int)) old) ∧ h.IsTupleIter it a i
section
variable {P : Program} {w : World} {A : Around} {elts : List Expr} {kk : Nat} {tpos : Pos} {a e it : Addr}
theorem goes_enumT (hh : A.handled = none) (d1 : a ≠ it) (d2 : e ≠ a) (d3 : e ≠ it) (its : Array Value) :
    GoesN P w A (.Tuple elts kk tpos) e [e, it, a] [e, it] its.size (fun i h0 v h => ∃ T t x, v = .ref T ∧ h0.objs.size ≤ T ∧ its[i]? = some x ∧ h.IsTuple T #[.int (0 + (i : Int)) t, x])
      (fun i h => (∃ old, IsEnum h e it (0 + (i : Int)) old) ∧ h.IsTupleIter it a i ∧ h.IsTuple a its) :=
  GoesN.enumFrom 0 (Draws.tuple (A := A.in1) hh it a d1 its) e d3 (by simp [d2, d3]) (by simp)
theorem turn_enumT {K : PySem.W.Frag} (d1 : a ≠ it) (d2 : e ≠ a) (d3 : e ≠ it) : Turn P w K (.Tuple elts kk tpos) (IteT K a) [e, it] e (tnE a e it) where
  mem := List.mem_cons_self
  obj := fun i h ⟨⟨_, q1⟩, ob, q2, q3, q4⟩ b hb => by
    rcases List.mem_cons.mp hb with z | z
    · subst z
      exact ⟨_, q1, fun v k => by cases k⟩
    · exact ⟨ob, List.mem_singleton.mp z ▸ q2, fun v k => by rw [q4] at k; cases k⟩
  keep := fun i h h' ⟨⟨old, q1⟩, q2⟩ k => ⟨⟨old, k e (by simp) _ q1⟩, q2.at fun ob z => k it (by simp) ob z⟩
  item := fun X eP ew eK hc i pins s σ H E I fp ⟨t1, t2⟩ ⟨xs, x, sq, hx⟩ => by
    subst eP ew eK
    obtain ⟨its, vals, tup, _⟩ := I.tuple sq
    obtain ⟨u, hu, ru⟩ := vals.get hx
    have bound : i < its.toArray.size := by simpa using (List.getElem?_eq_some_iff.mp hu).1
    refine (goes_enumT (I.ok.hd hc) d1 d2 d3 its.toArray).goes i s (fun v s2 => ∃ y H', Inv X pins σ H' s2 ∧ RelV y v ∧ (IteT X.K a).yld i H y H' ∧ tnE a e it (i + 1) s2.heap ∧ ∀ b ∈ [e, it], H' b = none) E bound ⟨t1, t2, tup⟩ ?_
    rintro v h' tk ⟨T, t, x', rfl, old, hx', pair⟩ ⟨n1, n2, _⟩ kept _
    have same : x' = u := by
      have : its[i]? = some x' := by simpa using hx'
      exact Option.some.inj (this.symm.trans hu)
    have hnum : (0 : Int) + (i : Int) = ((i : Nat) : Int) := Int.zero_add _
    have new : ObjOk X.prog X.w (upd H T (.tup [.int (i : Nat), x])) h' T (.tup [.int (i : Nat), x]) := by
      refine ⟨by show 2 ≤ sizeLine; rw [sizeLine_eq]; decide, [.int (0 + (i : Int)) t, x'], .cons ⟨t, by rw [hnum]⟩ (.cons (same ▸ ru) .nil), pair⟩
    refine ⟨.ref T, _, I.turnedNew kept fp old new, rfl, ⟨T, x, rfl, I.hok.fresh old, rfl, fun ys hy => ?_⟩, ⟨n1, n2⟩, fun b hb => ?_⟩
    · rw [I.tuple_inj hy sq]
      exact hx
    · have low : b < s.heap.objs.size := by
        obtain ⟨_, l1⟩ := t1
        obtain ⟨_, l2, _⟩ := t2
        rcases List.mem_cons.mp hb with z | z
        · exact z ▸ Heap.lt_size l1
        · exact List.mem_singleton.mp z ▸ Heap.lt_size l2
      rw [upd_ne (Nat.ne_of_lt (Nat.lt_of_lt_of_le low old))]
      exact (fp b hb).1
  done := fun X eP ew eK hc i pins s σ H E I fp ⟨t1, t2⟩ ⟨xs, sq, hx⟩ => by
    subst eP ew eK
    obtain ⟨its, vals, tup, _⟩ := I.tuple sq
    have last : its.toArray.size = i := by
      have := vals.length
      simp
      omega
    have ends := Draws.tuple (prog := X.prog) (w := X.w) (A := X.A.in1) (I.ok.hd hc) it a d1 its.toArray
    obtain ⟨old, en⟩ := t1
    obtain ⟨f0, f1, _, f3, f4, f5⟩ := fp it (by simp)
    exact wpAny_pyNext_enum_endD ends en (last ▸ ⟨t2, tup⟩) fun h' other => ⟨rfl, I.turned other f0 f1 f3 f4 f5⟩
  self := fun A i s Q E ⟨⟨_, q⟩, _⟩ h => wpAny_pyIter_enum q h
end
def iEnumA (K : PySem.W.Frag) (ta : TA) : TI := fun σ H R => ta σ H fun vs H1 => ∃ a xs, vs = [.ref a] ∧ ((SqL K H1 a xs ∧ R (Ite K a) H1) ∨ (SqT K H1 a xs ∧ R (IteT K a) H1))
/-- two new things at the heap's end are fit to be walked -/
theorem fp_two {X : Cx} {pins : List (Addr × Obj)} {σ : L2.St} {H : Hp} {s : Shared} (I : Inv X pins σ H s) : ∀ b ∈ [s.heap.objs.size + 1, s.heap.objs.size], FpOk X pins H b := fun b hb => by
  have le : s.heap.objs.size ≤ b := by
    simp only [List.mem_cons, List.not_mem_nil, or_false] at hb
    omega
  exact I.fpOk le (I.hok.fresh le)
theorem push_two {s : Shared} {o : Obj} (hf : o.isFreed = false) : (∀ b ob, s.heap.get? b = some ob → ((s.heap.push o).push (enumO s.heap.objs.size)).get? b = some ob) ∧
    IsEnum ((s.heap.push o).push (enumO s.heap.objs.size)) (s.heap.objs.size + 1) s.heap.objs.size 0 .none ∧ ((s.heap.push o).push (enumO s.heap.objs.size)).get? s.heap.objs.size = some o := by
  have sz : (s.heap.push o).objs.size = s.heap.objs.size + 1 := Heap.size_push ..
  refine ⟨fun b ob q => Heap.get?_push_of_some _ (Heap.get?_push_of_some _ q), ?_, Heap.get?_push_of_some _ (Heap.get?_push_size _ hf)⟩
  have := Heap.get?_push_size (s.heap.push o) (o := enumO s.heap.objs.size) rfl
  rw [sz] at this
  exact this
theorem pi_enumA {X : Cx} {e : Expr} {ta : TA} {p pos tpos : Pos} {elts : List Expr} {kk : Nat} (hg : Gl X "enumerate") (hm : X.mg "enumerate" = none) (ha : PA X [e] ta) (hs : starEach [e] X.env = [(false, eval e X.env)]) :
    PI X (.Tuple elts kk tpos) (.Call (.Name "enumerate" p) [e] [] pos) (iEnumA X.K ta) where
  run := fun pins s σ H R I h => by
    have args := ha.run pos pins s σ H _ I h
    refine Call_ (ld_blt I hg hm boot_enumerate (PyProof.Rows.callWith_type1 (thn args ?_) hs rfl))
    rintro us s1 ⟨_, H1, I1, r1, a, xs, rfl, q⟩
    match us, r1 with
    | [u], .cons ru .nil =>
      cases ru
      rcases q with ⟨sq, q⟩ | ⟨sq, q⟩
      · obtain ⟨its, _, isl, _⟩ := I1.list sq
        obtain ⟨k1, k2, k3⟩ := push_two (s := s1) (begins_list a its.toArray).free
        refine call_enum1 (begins_list a its.toArray) isl.isList (wpAny_pyIter_enum k2 ?_)
        exact ⟨_, _, _, _, H1, rfl, I1.kept (t' := s1.toks) k1, turn_enum a _ _, ⟨⟨.none, k2⟩, ⟨_, k3, rfl, rfl⟩, Nat.succ_ne_self _⟩, fp_two I1, q⟩
      · obtain ⟨its, _, tup, _⟩ := I1.tuple sq
        obtain ⟨k1, k2, k3⟩ := push_two (s := s1) (begins_tuple a its.toArray).free
        have low : a < s1.heap.objs.size := by
          obtain ⟨_, l, _⟩ := tup
          exact Heap.lt_size l
        refine call_enum1 (begins_tuple a its.toArray) tup (wpAny_pyIter_enum k2 ?_)
        exact ⟨_, _, _, _, H1, rfl, I1.kept (t' := s1.toks) k1, turn_enumT (Nat.ne_of_lt low) (Nat.ne_of_gt (Nat.lt_succ_of_lt low)) (Nat.succ_ne_self _), ⟨⟨.none, k2⟩, ⟨_, k3, rfl, rfl⟩⟩, fp_two I1, q⟩
end Sd
end

section
set_option Elab.async false
set_option linter.all false
set_option maxRecDepth 100000
set_option maxHeartbeats 1000000
set_option autoImplicit false
namespace Sd
open PySem PySem.Spec PyProof.Rows L2
open Mx (Val Res SR Op Cmp Ty Tg E S Store)
variable {c : Cfg}

theorem enumL_len : ∀ (n : Nat) (l : List Val), (Mx.enumL n l).length = l.length
  | _, [] => rfl
  | n, x :: r => by simp [Mx.enumL, enumL_len (n + 1) r]
theorem enumL_get : ∀ (n : Nat) (l : List Val) (i : Nat), (Mx.enumL n l)[i]? = l[i]?.map fun x => .tup [.int ((n + i : Nat) : Int), x]
  | _, [], i => by simp [Mx.enumL]
  | n, x :: r, 0 => by simp [Mx.enumL]
  | n, x :: r, i + 1 => by
    rw [Mx.enumL, List.getElem?_cons_succ, enumL_get (n + 1) r i, List.getElem?_cons_succ]
    have : n + 1 + i = n + (i + 1) := by omega
    rw [this]
theorem held_one {g : G} {φ : List Addr} {st : Store} {H : Hp} (r : Rep g φ st H) {n : Nat} {a : Addr} (hn : φ[n]? = some a) {ls : List Nat} (h : n ∈ ls) : Held φ ls (.ref a) := by
  intro b m eb hm
  cases eb
  have : n = m := (List.getElem?_inj (List.getElem?_eq_some_iff.mp hn).1 r.nd).mp (hn.trans hm.symm)
  rw [← this]
  exact h
theorem isTup_ex {tg : Expr} (h : isTup tg = true) : ∃ es k p, tg = .Tuple es k p := by
  cases tg <;> first | (cases h; done) | exact ⟨_, _, _, rfl⟩
theorem pair_rv {g : G} (ok : GOk g) {φ : List Addr} {H : Hp} {T : Addr} {v w : Val} {x y : V} (hT : H T = none) (hx : RV g H φ v x) (hy : RV g H φ w y) : RV g (upd H T (.tup [x, y])) φ (.tup [v, w]) (.ref T) :=
  .tup (.inl (.inl upd_same)) (.cons (hx.mono (Ext.tmp (lo := 0) (lk := []) ok hT)) (.cons (hy.mono (Ext.tmp (lo := 0) (lk := []) ok hT)) .nil))
theorem sndr_enum {a : E} (ha : SndE c a) : SndR c (.enum a) := by
  intro d q W X lo lk e tg o h ht
  obtain ⟨elts, kk, tpos, rfl⟩ := isTup_ex ht
  cases e <;> first | (cases h; done) | skip
  rename_i f args kws pos
  match f, args, kws, h with
  | .Name x p, [y], [], h =>
    simp only [chkR, Bool.and_eq_true, decide_eq_true_eq] at h
    obtain ⟨⟨⟨rfl, hg⟩, hp⟩, h1⟩ := h
    refine PI.imp (pi_enumA (glB_ok (by rw [o.sc]; exact hg)) (o.gx.bn _ (by decide)) (pa_one (ha d q W X lo lk y o h1).1 hp) (star_one hp)) fun σ H R z => ?_
    obtain ⟨φ, st, env, re, rp, p⟩ := z
    refine ⟨φ, st, env, re, rp, ?_⟩
    simp only [Mx.evR] at p
    cases hk : Mx.evE (c.cx d lo) a lk env st with
    | bad => rw [hk] at p; exact p
    | exc k s2 => rw [hk] at p; exact p
    | ok v s2 =>
      rw [hk] at p
      simp only [Res.bind] at p
      intro φ' H' x1 e' r' rv
      have hKK := o.gx.hK
      cases rv <;> try exact False.elim p
      · rename_i b l xs h1 h2
        refine ⟨b, xs, rfl, .inr ⟨hKK ▸ h1, p φ' H' _ e' r' ⟨fun φ2 H2 i e2 hi => ?_, fun φ2 H2 e2 => ?_, fun φ2 H2 i x H3 e2 hi y => ?_⟩⟩⟩
        · rw [enumL_len, h2.length] at hi
          exact ⟨xs, xs[i], hKK ▸ SqT.ext e2 h1, by simp [hi]⟩
        · exact ⟨xs, hKK ▸ SqT.ext e2 h1, by rw [enumL_len, h2.length]⟩
        · obtain ⟨T, x, rfl, hT, rfl, hx⟩ := y
          rw [enumL_len] at hi
          obtain ⟨v, hv⟩ : ∃ v, l[i]? = some v := ⟨l[i], by simp [hi]⟩
          obtain ⟨x', hx', rx⟩ := h2.get hv
          have := hx xs (hKK ▸ SqT.ext e2 h1)
          rw [hx'] at this
          cases this
          refine ⟨.tup [.int (i : Nat), v], by rw [enumL_get, hv]; simp, pair_rv o.gx.ok hT (.int _) (rx.mono e2), .inr ⟨T, _, hT, rfl⟩⟩
      · rename_i n b hn
        cases hl : Mx.listAt s2 n with
        | none => simp only [hl] at p; exact p.elim
        | some l =>
          simp only [hl] at p
          obtain ⟨xs, h1, h2⟩ := r'.list hl hn X.K
          have hd := held_one r' hn (ls := [n]) (by simp)
          refine ⟨b, xs, rfl, .inl ⟨h1, p φ' H' _ e' r' ⟨fun φ2 H2 i e2 hi => ?_, fun φ2 H2 e2 => ?_, fun φ2 H2 i x H3 e2 hi y => ?_⟩⟩⟩
          · rw [enumL_len, h2.length] at hi
            exact ⟨xs, xs[i], SqL.ext e2 h1 hd, by simp [hi]⟩
          · exact ⟨xs, SqL.ext e2 h1 hd, by rw [enumL_len, h2.length]; exact Nat.le_refl _⟩
          · obtain ⟨T, x, rfl, hT, rfl, hx⟩ := y
            rw [enumL_len] at hi
            obtain ⟨v, hv⟩ : ∃ v, l[i]? = some v := ⟨l[i], by simp [hi]⟩
            obtain ⟨x', hx', rx⟩ := h2.get hv
            have := hx xs (SqL.ext e2 h1 hd)
            rw [hx'] at this
            cases this
            refine ⟨.tup [.int (i : Nat), v], by rw [enumL_get, hv]; simp, pair_rv o.gx.ok hT (.int _) (rx.mono e2), .inr ⟨T, _, hT, rfl⟩⟩

theorem zipL_len : ∀ (l m : List Val), (Mx.zipL l m).length = min l.length m.length
  | [], _ => by simp [Mx.zipL]
  | _ :: _, [] => by simp [Mx.zipL]
  | x :: l, y :: m => by
    simp only [Mx.zipL, List.length_cons, zipL_len l m]
    omega
theorem zipL_get : ∀ (l m : List Val) (i : Nat) (x y : Val), l[i]? = some x → m[i]? = some y → (Mx.zipL l m)[i]? = some (.tup [x, y])
  | [], _, _, _, _, h, _ => by simp at h
  | _ :: _, [], _, _, _, _, h => by simp at h
  | x :: l, y :: m, 0, _, _, h1, h2 => by
    cases h1
    cases h2
    rfl
  | x :: l, y :: m, i + 1, a, b, h1, h2 => by
    simpa [Mx.zipL] using zipL_get l m i a b (by simpa using h1) (by simpa using h2)
theorem star_two {X : Cx} {e e2 : Expr} (hp : plain e = true) : starEach [e, e2] X.env = (false, eval e X.env) :: starEach [e2] X.env := star_cons hp
theorem sndr_zip {a b : E} (ha : SndE c a) (hb : SndE c b) : SndR c (.zip a b) := by
  intro d q W X lo lk e tg o h ht
  obtain ⟨elts, kk, tpos, rfl⟩ := isTup_ex ht
  cases e <;> first | (cases h; done) | skip
  rename_i f args kws pos
  match f, args, kws, h with
  | .Name x p, [y, y2], [], h =>
    simp only [chkR, Bool.and_eq_true, decide_eq_true_eq] at h
    obtain ⟨⟨⟨⟨⟨rfl, hg⟩, hp⟩, hp2⟩, h1⟩, h2⟩ := h
    refine PI.imp (RZ.pi_zipA (glB_ok (by rw [o.sc]; exact hg)) (o.gx.bn _ (by decide)) (pa_cons (ha d q W X lo lk y o h1).1 (pa_one (hb d q W X lo lk y2 o h2).1 hp2) (star_cons hp)) (star_two hp) (star_any (by rw [List.all_cons, hp2]; rfl))) fun σ H R z => ?_
    obtain ⟨φ, st, env, re, rp, p⟩ := z
    refine ⟨φ, st, env, re, rp, ?_⟩
    simp only [Mx.evR] at p
    cases hk : Mx.evE (c.cx d lo) a lk env st with
    | bad => rw [hk] at p; exact p
    | exc k s2 => rw [hk] at p; exact p
    | ok v s2 =>
      rw [hk] at p
      simp only [Res.bind] at p
      intro φ1 H1 x1 e1 r1 rv1
      refine ⟨φ1, s2, env, re.mono e1, r1, ?_⟩
      cases hk2 : Mx.evE (c.cx d lo) b lk env s2 with
      | bad => rw [hk2] at p; exact p
      | exc k s3 => rw [hk2] at p; exact fun φ' H' e' r' => p φ' H' (e1.trans e') r'
      | ok v2 s3 =>
        rw [hk2] at p
        simp only at p
        intro φ' H' x2 e' r' rv2
        have hKK := o.gx.hK
        have rv1' := rv1.mono e'
        cases rv1' <;> try exact False.elim p
        · rename_i b1 l xs h1 h2
          cases rv2 <;> try exact False.elim p
          rename_i b2 m ys g1 g2
          refine ⟨b1, b2, xs, ys, rfl, .inr ⟨hKK ▸ h1, hKK ▸ g1, p φ' H' _ (e1.trans e') r' ⟨fun φ2 H2 i e2 hi => ?_, fun φ2 H2 e2 => ?_, fun φ2 H2 i x H3 e2 hi y => ?_⟩⟩⟩
          · rw [zipL_len, h2.length, g2.length] at hi
            have i1 : i < xs.length := by omega
            have i2 : i < ys.length := by omega
            exact ⟨xs, ys, xs[i], ys[i], hKK ▸ SqT.ext e2 h1, hKK ▸ SqT.ext e2 g1, by simp [i1], by simp [i2]⟩
          · exact ⟨xs, ys, hKK ▸ SqT.ext e2 h1, hKK ▸ SqT.ext e2 g1, by rw [zipL_len, h2.length, g2.length]; omega⟩
          · obtain ⟨T, x, y, rfl, hT, rfl, hx, hy⟩ := y
            rw [zipL_len] at hi
            obtain ⟨v, hv⟩ : ∃ v, l[i]? = some v := ⟨l[i]'(by omega), by simp⟩
            obtain ⟨u, hu⟩ : ∃ u, m[i]? = some u := ⟨m[i]'(by omega), by simp⟩
            obtain ⟨x', hx', rx⟩ := h2.get hv
            obtain ⟨y', hy', ry⟩ := g2.get hu
            have t1 := hx xs (hKK ▸ SqT.ext e2 h1)
            have t2 := hy ys (hKK ▸ SqT.ext e2 g1)
            rw [hx'] at t1
            rw [hy'] at t2
            cases t1
            cases t2
            exact ⟨.tup [v, u], zipL_get l m i v u hv hu, pair_rv o.gx.ok hT (rx.mono e2) (ry.mono e2), .inr ⟨T, _, hT, rfl⟩⟩
        · rename_i n1 b1 hn1
          cases rv2 <;> try exact False.elim p
          rename_i n2 b2 hn2
          cases hl : Mx.listAt s3 n1 with
          | none => simp only [hl] at p; exact p.elim
          | some l =>
            cases hm : Mx.listAt s3 n2 with
            | none => simp only [hl, hm] at p; exact p.elim
            | some m =>
              simp only [hl, hm] at p
              obtain ⟨xs, h1, h2⟩ := r'.list hl hn1 X.K
              obtain ⟨ys, g1, g2⟩ := r'.list hm hn2 X.K
              have hd1 := held_one r' hn1 (ls := [n1, n2]) (by simp)
              have hd2 := held_one r' hn2 (ls := [n1, n2]) (by simp)
              refine ⟨b1, b2, xs, ys, rfl, .inl ⟨h1, g1, p φ' H' _ (e1.trans e') r' ⟨fun φ2 H2 i e2 hi => ?_, fun φ2 H2 e2 => ?_, fun φ2 H2 i x H3 e2 hi y => ?_⟩⟩⟩
              · rw [zipL_len, h2.length, g2.length] at hi
                have i1 : i < xs.length := by omega
                have i2 : i < ys.length := by omega
                exact ⟨xs, ys, xs[i], ys[i], SqL.ext e2 h1 hd1, SqL.ext e2 g1 hd2, by simp [i1], by simp [i2]⟩
              · exact ⟨xs, ys, SqL.ext e2 h1 hd1, SqL.ext e2 g1 hd2, by rw [zipL_len, h2.length, g2.length]; omega⟩
              · obtain ⟨T, x, y, rfl, hT, rfl, hx, hy⟩ := y
                rw [zipL_len] at hi
                obtain ⟨v, hv⟩ : ∃ v, l[i]? = some v := ⟨l[i]'(by omega), by simp⟩
                obtain ⟨u, hu⟩ : ∃ u, m[i]? = some u := ⟨m[i]'(by omega), by simp⟩
                obtain ⟨x', hx', rx⟩ := h2.get hv
                obtain ⟨y', hy', ry⟩ := g2.get hu
                have t1 := hx xs (SqL.ext e2 h1 hd1)
                have t2 := hy ys (SqL.ext e2 g1 hd2)
                rw [hx'] at t1
                rw [hy'] at t2
                cases t1
                cases t2
                exact ⟨.tup [v, u], zipL_get l m i v u hv hu, pair_rv o.gx.ok hT (rx.mono e2) (ry.mono e2), .inr ⟨T, _, hT, rfl⟩⟩

theorem rangeL_len : ∀ (n : Nat) (lo : Int), (Mx.rangeL lo n).length = n
  | 0, _ => rfl
  | n + 1, lo => by simp [Mx.rangeL, rangeL_len n]
theorem rangeL_get : ∀ (n : Nat) (lo : Int) (i : Nat), i < n → (Mx.rangeL lo n)[i]? = some (.int (lo + i))
  | 0, _, _, h => by omega
  | n + 1, lo, 0, _ => by simp [Mx.rangeL]
  | n + 1, lo, i + 1, h => by
    rw [Mx.rangeL, List.getElem?_cons_succ, rangeL_get n (lo + 1) i (by omega)]
    congr 2
    omega
theorem walk_rng {g : G} {lo : Nat} {lk : List Nat} {φ : List Addr} {H : Hp} (i0 : Int) (n : Nat) : WalkV g lo lk φ H (Mx.rangeL i0 n) (Itr i0 n) := by
  refine ⟨fun φ2 H2 i e hi => ?_, fun φ2 H2 e => ?_, fun φ2 H2 i x H3 e hi y => ?_⟩
  · rw [rangeL_len] at hi; exact hi
  · show n ≤ (Mx.rangeL i0 n).length
    rw [rangeL_len]; exact Nat.le_refl _
  · obtain ⟨rfl, rfl⟩ := y
    rw [rangeL_len] at hi
    exact ⟨_, rangeL_get n i0 i hi, .int _, .inl rfl⟩
theorem sndr_range {es : E} (ha : SndA c es) : SndR c (.range es) := by
  intro d q W X lo lk e tg o h ht
  cases e <;> first | (cases h; done) | skip
  rename_i f args kws pos
  match f, args, kws, h with
  | .Name x p, [y], [], h =>
    simp only [chkR, Bool.and_eq_true, decide_eq_true_eq] at h
    obtain ⟨⟨rfl, hg⟩, h1⟩ := h
    have hpl := chkA_plain h1
    rw [List.all_cons, Bool.and_eq_true] at hpl
    refine PI.imp (pi_range1 (glB_ok (by rw [o.sc]; exact hg)) (o.gx.bn _ (by decide)) (ha d q W X lo lk [y] o h1) (star_one hpl.1)) fun σ H R z => ?_
    obtain ⟨φ, st, env, re, rp, p⟩ := z
    refine ⟨φ, st, env, re, rp, ?_⟩
    simp only [Mx.evR] at p
    cases hk : Mx.evE (c.cx d lo) es lk env st with
    | bad => rw [hk] at p; exact p
    | exc k s2 => rw [hk] at p; exact p
    | ok v s2 =>
      obtain ⟨l, rfl, hl⟩ := evA_shape h1 hk
      rw [hk] at p
      simp only [Res.bind] at p
      refine ⟨l, rfl, fun φ' H' xs e' r' rv => ?_⟩
      rcases l with _ | ⟨v, _ | ⟨u, r⟩⟩
      · simp at hl
      rotate_left
      · simp at hl
      ·
        cases v <;> try exact False.elim p
        rename_i j
        simp only at p
        by_cases hj : (decide (-100000 ≤ j) && decide (j ≤ 100000)) = true
        · rw [if_pos hj] at p
          simp only [Bool.and_eq_true, decide_eq_true_eq] at hj
          cases rv
          rename_i r1 r2
          cases r1
          cases r2
          exact ⟨j, rfl, by omega, by omega, p φ' H' _ e' r' (walk_rng 0 j.toNat)⟩
        · rw [if_neg hj] at p
          exact p.elim
  | .Name x p, [y, y2], [], h =>
    simp only [chkR, Bool.and_eq_true, decide_eq_true_eq] at h
    obtain ⟨⟨rfl, hg⟩, h1⟩ := h
    have hpl := chkA_plain h1
    rw [List.all_cons, Bool.and_eq_true, List.all_cons, Bool.and_eq_true] at hpl
    refine PI.imp (pi_range2 (glB_ok (by rw [o.sc]; exact hg)) (o.gx.bn _ (by decide)) (ha d q W X lo lk [y, y2] o h1) (by rw [star_two hpl.1, star_one hpl.2.1]; rfl) (star_one hpl.2.1)) fun σ H R z => ?_
    obtain ⟨φ, st, env, re, rp, p⟩ := z
    refine ⟨φ, st, env, re, rp, ?_⟩
    simp only [Mx.evR] at p
    cases hk : Mx.evE (c.cx d lo) es lk env st with
    | bad => rw [hk] at p; exact p
    | exc k s2 => rw [hk] at p; exact p
    | ok v s2 =>
      obtain ⟨l, rfl, hl⟩ := evA_shape h1 hk
      rw [hk] at p
      simp only [Res.bind] at p
      refine ⟨l, rfl, fun φ' H' xs e' r' rv => ?_⟩
      rcases l with _ | ⟨v, _ | ⟨u, _ | ⟨w, r⟩⟩⟩
      · simp at hl
      · simp at hl
      rotate_left
      · simp at hl
      ·
        cases v <;> try exact False.elim p
        cases u <;> try exact False.elim p
        rename_i i j
        simp only at p
        by_cases hj : (decide (-100000 ≤ i) && decide (i ≤ 100000) && decide (-100000 ≤ j) && decide (j ≤ 100000)) = true
        · rw [if_pos hj] at p
          simp only [Bool.and_eq_true, decide_eq_true_eq] at hj
          cases rv
          rename_i r1 r2
          cases r1
          cases r2
          rename_i r3 r4
          cases r3
          cases r4
          exact ⟨i, j, rfl, ⟨by omega, by omega, by omega, by omega⟩, p φ' H' _ e' r' (walk_rng i (j - i).toNat)⟩
        · rw [if_neg hj] at p
          exact p.elim

/-! ### join -/
theorem RVs.strsOf {g : G} {H : Hp} {φ : List Addr} : ∀ {l : List Val} {xs : List V} {ss : List (List Nat)}, RVs g H φ l xs → Mx.strsOf l = some ss → xs = (ss.map SX.S).map V.str ∧ ∀ w ∈ ss, Mx.strOk w = true
  | _, _, _, .nil, h => by simp [Mx.strsOf] at h; subst h; simp
  | _, _, ss, .cons (v := v) (vs := vs) q r, h => by
    cases q <;> first | (simp [Mx.strsOf] at h; done) | skip
    rename_i s hs
    simp only [Mx.strsOf] at h
    cases hr : Mx.strsOf vs with
    | none => rw [hr] at h; cases h
    | some ss' =>
      rw [hr] at h
      cases h
      obtain ⟨e, hw⟩ := RVs.strsOf r hr
      refine ⟨by rw [e]; rfl, fun w hw' => ?_⟩
      rcases List.mem_cons.mp hw' with rfl | z
      · exact hs
      · exact hw w z
theorem joinL_eq (a : List Nat) : ∀ l : List (List Nat), TL.joinL a l = Mx.joinL a l
  | [] => rfl
  | [_] => rfl
  | x :: y :: r => by
    rw [TL.joinL, Mx.joinL, joinL_eq a (y :: r), List.append_assoc]
theorem joinL_len (a : List Nat) : ∀ l : List (List Nat), (l.map (·.length)).sum + l.length * a.length ≤ (Mx.joinL a l).length + a.length
  | [] => by simp
  | [x] => by simp [Mx.joinL]
  | x :: y :: r => by
    have := joinL_len a (y :: r)
    simp only [List.map_cons, List.sum_cons, List.length_cons, Mx.joinL, List.length_append, Nat.succ_mul] at this ⊢
    omega
theorem joinL_chars (a : List Nat) (ha : a.all (fun c => decide (c < 1114112)) = true) : ∀ l : List (List Nat), (∀ w ∈ l, Mx.strOk w = true) → (Mx.joinL a l).all (fun c => decide (c < 1114112)) = true
  | [], _ => rfl
  | [x], h => strOk_chars (h x (by simp))
  | x :: y :: r, h => by
    rw [Mx.joinL]
    exact all_app (all_app (strOk_chars (h x (by simp))) ha) (joinL_chars a ha (y :: r) fun w hw => h w (List.mem_cons_of_mem _ hw))
theorem snd_joinR {a r : E} (ha : SndE c a) (hr : SndE c r) : SndE c (.joinR a r) := by
  intro d q W X lo lk ex o h
  cases ex <;> first | (cases h; done) | skip
  rename_i f args kws cp
  match f, args, kws, h with
  | .Attribute x n ap, [y], [], h =>
    simp only [chkE, Bool.and_eq_true] at h
    obtain ⟨⟨⟨hm, hp⟩, h1⟩, h2⟩ := h
    have hn : n = ("join" : Str) := by
      simp only [methB, Bool.and_eq_true, decide_eq_true_eq] at hm
      exact hm.1.1.1
    subst hn
    refine pea_of rfl (PE.imp (pe_m1 F.plainAttrs_str F.slot_str_join F.type_str_join mt_join (ha d q W X lo lk x o h1).1 (hr d q W X lo lk y o h2).1 hm hp) fun σ H Q z => ?_)
    obtain ⟨φ, st, env, re, rp, p⟩ := z
    simp only [Mx.evE] at p
    refine ⟨φ, st, env, re, rp, (Post.bind p).imp fun x1 H1 z => ?_⟩
    obtain ⟨φ1, st1, v, e1, r1, v1, p1⟩ := z
    cases v1 <;> try exact False.elim p1
    rename_i s hs
    simp only [Mx.isS, Bool.not_true, Bool.false_eq_true, if_false] at p1
    refine ⟨rfl, ?_⟩
    refine ⟨φ1, st1, env, re.mono e1, r1, (Post.bind p1).imp fun y1 H2 z => ?_⟩
    obtain ⟨φ2, st2, u, e2, r2, v2, p2⟩ := z
    have fin : ∀ (b : Addr) (l : List Val) (xs : List V), RVs c.g H2 φ2 l xs → y1 = .ref b → (SqL X.K H2 b xs ∨ SqT X.K H2 b xs) → Post c.g lo lk W φ2 H2 (match Mx.strsOf l with
        | some l => if (Mx.joinL s l).length ≤ Mx.lim then .ok (.str (Mx.joinL s l)) st2 else .bad
        | none => .bad) Q → ∃ a p, ∃ ys : List Str, V.str ⟨s.toArray⟩ = .str a ∧ [y1] = [.ref p] ∧ (SqL X.K H2 p (ys.map V.str) ∨ SqT X.K H2 p (ys.map V.str)) ∧
          (ys.map (·.length)).sum + ys.length * a.length ≤ 16777216 ∧ Q (.str (Txt.join a ys)) H2 := fun b l xs rvs hy hsq pp => by
      cases hst : Mx.strsOf l with
      | none => rw [hst] at pp; exact pp.elim
      | some ss =>
        rw [hst] at pp
        simp only at pp
        by_cases hl : (Mx.joinL s ss).length ≤ Mx.lim
        · rw [if_pos hl] at pp
          obtain ⟨rfl, hw⟩ := rvs.strsOf hst
          refine ⟨SX.S s, b, ss.map SX.S, rfl, by rw [hy], hsq, ?_, ?_⟩
          · rw [SX.lens, List.length_map, show (SX.S s).length = s.length from str_len s]
            have h1 := joinL_len s ss
            have h2 := strOk_len hs
            unfold Mx.lim at hl h2
            omega
          · rw [SX.join_S, joinL_eq]
            exact Post.val pp r2 (.str _ (strOk_mk hl (joinL_chars s (strOk_chars hs) ss hw)))
        · rw [if_neg hl] at pp
          exact pp.elim
    cases v2 <;> try exact False.elim p2
    · rename_i b l xs g1 g2
      exact fin b l xs g2 rfl (.inr (o.gx.hK ▸ g1)) p2
    · rename_i n b hn
      cases hl : Mx.listAt st2 n with
      | none => simp only [hl] at p2; exact p2.elim
      | some l =>
        simp only [hl] at p2
        obtain ⟨xs, g1, g2⟩ := r2.list hl hn X.K
        exact fin b l xs g2 rfl (.inl g1) p2
end Sd
end

section
set_option Elab.async false
set_option linter.all false
set_option maxRecDepth 100000
set_option maxHeartbeats 2000000
set_option autoImplicit false
namespace Sd
open PySem PySem.Spec PyProof.Rows L2
open Mx (Val Res SR Op Cmp Ty Tg E S Store)
variable {c : Cfg}

/-! ### l.count(b), all items bools: by the library's rule for such a list -/
theorem bools_of : ∀ {l : List Val} {bs : List Bool}, Mx.boolsOf l = some bs → l = bs.map Val.bool
  | [], bs, h => by cases h; rfl
  | v :: r, bs, h => by
    cases v <;> first | (cases h; done) | skip
    rename_i b
    cases hr : Mx.boolsOf r with
    | none => simp [Mx.boolsOf, hr] at h
    | some cs =>
      simp only [Mx.boolsOf, hr, Option.map_some, Option.some.injEq] at h
      rw [← h, bools_of hr]
      rfl
theorem toDL_bools (bs : List Bool) : toDL (bs.map Val.bool) = bs.map PyData.bool := by
  induction bs with
  | nil => rfl
  | cons b r ih => simp only [List.map_cons, toDL, toD, ih]
theorem has_bools (bs : List Bool) : (bs.map PyData.bool).all Shape.bool.has = true := by
  induction bs with
  | nil => rfl
  | cons b r ih =>
    rw [List.map_cons, List.all_cons, ih]
    cases b <;> rfl
theorem count_bools (k : Bool) (bs : List Bool) : countIn (.bool k) (bs.map PyData.bool) = (Mx.cntB k bs : Int) := by
  induction bs with
  | nil => rfl
  | cons b r ih =>
    rw [List.map_cons, countIn, ih, Mx.cntB]
    have s1 : same (.bool true) (.bool true) = true := by decide +kernel
    have s2 : same (.bool false) (.bool false) = true := by decide +kernel
    have s3 : same (.bool true) (.bool false) = false := by decide +kernel
    have s4 : same (.bool false) (.bool true) = false := by decide +kernel
    cases b <;> cases k <;> simp [s1, s2, s3, s4]
def rCntB (K : PySem.W.Frag) : V → List V → Hp → VK → Prop := fun x xs H Q => ∃ (a : Addr) (k : Bool) (bs : List Bool), x = .ref a ∧ xs = [.bl k] ∧ Dp K H (.ref a) (.list (bs.map PyData.bool)) ∧ Q (.int (Mx.cntB k bs : Nat)) H
theorem mt_cntB {X : Cx} : MtR X "list.count" (rCntB X.K) := fun pins s σ H x xs v us Q I rx rxs ⟨a, k, bs, ex, exs, hd, q⟩ => by
  cases ex
  cases exs
  match us, rxs with
  | [u], .cons ru .nil =>
    cases rx
    cases ru
    match hd with
    | .lst hl hs =>
      obtain ⟨its, vals, isl, _⟩ := I.list hl
      obtain ⟨as, reads⟩ := Dp.readsAll I _ _ its hs vals
      refine count_list_bools isl.isList reads (has_bools bs) ?_
      rw [count_bools]
      exact ⟨.int _, H, I.tok _, ⟨_, rfl⟩, q⟩
theorem snd_cnt {a e : E} (ha : SndE c a) (he : SndE c e) : SndE c (.cnt a e) := by
  intro d q W X lo lk ex o h
  cases ex <;> first | (cases h; done) | skip
  rename_i f args kws cp
  match f, args, kws, h with
  | .Attribute x n ap, [y], [], h =>
    simp only [chkE, Bool.and_eq_true] at h
    obtain ⟨⟨⟨hm, hp⟩, h1⟩, h2⟩ := h
    have hn : n = ("count" : Str) := by
      simp only [methB, Bool.and_eq_true, decide_eq_true_eq] at hm
      exact hm.1.1.1
    subst hn
    refine pea_of rfl (PE.imp (pe_m1 F.plainAttrs_list F.slot_list_count F.type_list_count mt_cntB (ha d q W X lo lk x o h1).1 (he d q W X lo lk y o h2).1 hm hp) fun σ H Q z => ?_)
    obtain ⟨φ, st, env, re, rp, p⟩ := z
    simp only [Mx.evE] at p
    refine ⟨φ, st, env, re, rp, (Post.bind p).imp fun x1 H1 z => ?_⟩
    obtain ⟨φ1, st1, v, e1, r1, v1, p1⟩ := z
    cases v1 <;> try exact False.elim p1
    rename_i n' b hn
    cases hl : Mx.listAt st1 n' with
    | none => simp only [Mx.isL, hl] at p1; exact p1.elim
    | some l0 =>
      simp only [Mx.isL, hl, Option.isSome_some, Bool.not_true, Bool.false_eq_true, if_false] at p1
      obtain ⟨xs, hxs, _⟩ := r1.list hl hn X.K
      refine ⟨.inl ⟨rfl, xs, hxs⟩, ?_⟩
      refine ⟨φ1, st1, env, re.mono e1, r1, (Post.bind p1).imp fun y1 H2 z => ?_⟩
      obtain ⟨φ2, st2, u, e2, r2, v2, p2⟩ := z
      cases v2 <;> try exact False.elim p2
      rename_i k
      cases ho : Mx.listAt st2 n' with
      | none => simp only [ho] at p2; exact p2.elim
      | some l =>
        cases hb : Mx.boolsOf l with
        | none => simp only [ho, Option.bind_some, hb] at p2; exact p2.elim
        | some bs =>
          simp only [ho, Option.bind_some, hb] at p2
          have el := bools_of hb
          have hdl : Mx.isDL l = true := by
            rw [el]
            have : ∀ (bs : List Bool) (n : Nat), Mx.isDLn (bs.map Val.bool) n = true := fun bs n => by
              induction bs with
              | nil => rfl
              | cons b r ih => simp only [List.map_cons, Mx.isDLn, Mx.isDn, ih, Bool.and_self]
            exact this bs 7
          obtain ⟨d1, _⟩ := r2.listD ho (e2.get hn) hdl
          rw [el, toDL_bools] at d1
          exact ⟨b, k, bs, rfl, rfl, o.gx.hK ▸ d1, Post.val p2 r2 (.int _)⟩
end Sd
end

section
set_option Elab.async false
set_option linter.all false
set_option maxRecDepth 100000
set_option maxHeartbeats 4000000
set_option autoImplicit false
namespace Sd
open PySem PySem.Spec PyProof.Rows L2
open Mx (Val Res SR Op Cmp Ty Tg E S Store)
variable {c : Cfg}

theorem pt_ifE {X : Cx} {x y z : Expr} {pos : Pos} {tc ta tb : TT} (hc : PT X x tc) (ha : PT X y ta) (hb : PT X z tb) : PT X (.IfExp x y z pos) (fun σ H Q => tc σ H fun b H1 => if b = true then ta σ H1 Q else tb σ H1 Q) := by
  refine ⟨fun pins s σ H Q I h => ?_⟩
  refine isTrue_IfExp (thn (hc.run pins s σ H _ I h) fun b s1 ⟨H1, I1, q1⟩ => ?_)
  cases b with
  | true =>
    simp only [if_true] at q1
    exact ha.run pins s1 σ H1 Q I1 q1
  | false =>
    simp only [Bool.false_eq_true, if_false] at q1
    exact hb.run pins s1 σ H1 Q I1 q1
theorem sndt_ite {k a b : E} (tk : SndT c k) (ta : SndT c a) (tb : SndT c b) : SndT c (.ite k a b) := by
  intro d q W X lo lk e o h
  cases e <;> first | (cases h; done) | skip
  rename_i x y z pos
  simp only [chkE, Bool.and_eq_true] at h
  obtain ⟨⟨⟨_, h1⟩, h2⟩, h3⟩ := h
  refine ⟨PT.imp (pt_ifE (tk d q W X lo lk x o h1).1 (ta d q W X lo lk y o h2).1 (tb d q W X lo lk z o h3).1) fun σ H Q z => ?_, fun hb => by cases hb⟩
  exact iteV z

def tNode : E → Bool
  | .cmp _ _ _ => true
  | .isc _ _ _ => true
  | .chain _ _ _ => true
  | .and _ _ => true
  | .or _ _ => true
  | .not _ => true
  | .ite _ _ _ => true
  | _ => false
theorem tval_of {T : Tb} {q : Sc} {m : E} {e : Expr} (hm : tNode m = false) (h : chkE T q m e = true) : tval e = true := by
  cases e with
  | UnaryOp op x p => cases op <;> first | rfl | (exfalso; cases m <;> first | (cases hm; done) | (simp [chkE] at h))
  | BoolOp op vs p => exfalso; cases m <;> first | (cases hm; done) | (simp [chkE] at h)
  | IfExp a b d p => exfalso; cases m <;> first | (cases hm; done) | (simp [chkE] at h)
  | Compare l ops rs p => exfalso; cases m <;> first | (cases hm; done) | (simp [chkE] at h)
  | _ => rfl
theorem sndt_of' {m : E} (hm : tNode m = false) (h : SndE c m) : SndT c m := sndt_of h fun T q e hc => tval_of hm hc

structure All7 (c : Cfg) (m : E) : Prop where
  e : SndE c m
  t : SndT c m
  a : SndA c m
  j : SndJ c m
  q : SndQ c m
  n : SndN c m
  r : SndR c m
theorem noA {m : E} (h : ∀ T q es, chkA T q m es = false) : SndA c m := fun d q W X lo lk es o hc => by rw [h] at hc; cases hc
theorem noJ {m : E} (h : ∀ T q es, chkJ T q m es = false) : SndJ c m := fun d q W X lo lk es o hc => by rw [h] at hc; cases hc
theorem noQ {m : E} (h : isQ m = false) : SndQ c m := fun d q W X lo lk e o hq hc => by rw [h] at hq; cases hq
theorem noN {m : E} (h : isComp m = false) : SndN c m := fun d q W X lo lk e o hq hc => by rw [h] at hq; cases hq
theorem noR {m : E} (h : ∀ T q e, chkR T q m e = false) : SndR c m := fun d q W X lo lk e tg o hc => by rw [h] at hc; cases hc
theorem noE {m : E} (h : ∀ T q e, chkE T q m e = false) : SndE c m := fun d q W X lo lk e o hc => by rw [h] at hc; cases hc
/-- an expression that is a value -/
theorem All7.val {m : E} (he : SndE c m) (ht : SndT c m) (h1 : ∀ T q es, chkA T q m es = false) (h2 : ∀ T q es, chkJ T q m es = false) (h3 : isQ m = false) (h4 : isComp m = false) (h5 : ∀ T q e, chkR T q m e = false) : All7 c m :=
  ⟨he, ht, noA h1, noJ h2, noQ h3, noN h4, noR h5⟩
/-- what is walked -/
theorem All7.raw {m : E} (h0 : ∀ T q e, chkE T q m e = false) (hm : tNode m = false) (h1 : ∀ T q es, chkA T q m es = false) (h2 : ∀ T q es, chkJ T q m es = false) (hq : SndQ c m) (hn : SndN c m) (hr : SndR c m) : All7 c m :=
  ⟨noE h0, sndt_of' hm (noE h0), noA h1, noJ h2, hq, hn, hr⟩
theorem all7 : ∀ m : E, All7 c m := by
  intro m
  induction m with
  | var i => exact .val (snd_var i) (sndt_of' rfl (snd_var i)) (by (intros; first | rfl | (simp [chkA]; done) | (simp [chkJ]; done) | (simp [chkE]; done) | (simp [chkR]; done))) (by (intros; first | rfl | (simp [chkA]; done) | (simp [chkJ]; done) | (simp [chkE]; done) | (simp [chkR]; done))) rfl rfl (by (intros; first | rfl | (simp [chkA]; done) | (simp [chkJ]; done) | (simp [chkE]; done) | (simp [chkR]; done)))
  | cst v => exact .val (snd_cst v) (sndt_of' rfl (snd_cst v)) (by (intros; first | rfl | (simp [chkA]; done) | (simp [chkJ]; done) | (simp [chkE]; done) | (simp [chkR]; done))) (by (intros; first | rfl | (simp [chkA]; done) | (simp [chkJ]; done) | (simp [chkE]; done) | (simp [chkR]; done))) rfl rfl (by (intros; first | rfl | (simp [chkA]; done) | (simp [chkJ]; done) | (simp [chkE]; done) | (simp [chkR]; done)))
  | glob k v => exact .val (snd_glob k v) (sndt_of' rfl (snd_glob k v)) (by (intros; first | rfl | (simp [chkA]; done) | (simp [chkJ]; done) | (simp [chkE]; done) | (simp [chkR]; done))) (by (intros; first | rfl | (simp [chkA]; done) | (simp [chkJ]; done) | (simp [chkE]; done) | (simp [chkR]; done))) rfl rfl (by (intros; first | rfl | (simp [chkA]; done) | (simp [chkJ]; done) | (simp [chkE]; done) | (simp [chkR]; done)))
  | nil => exact ⟨snd_nil, sndt_of' rfl snd_nil, snda_nil, sndj_nil, noQ rfl, noN rfl, noR (by (intros; first | rfl | (simp [chkA]; done) | (simp [chkJ]; done) | (simp [chkE]; done) | (simp [chkR]; done)))⟩
  | cons a r ha hr => exact ⟨snd_cons ha.e hr.a, sndt_of' rfl (snd_cons ha.e hr.a), snda_cons ha.e hr.a, sndj_cons ha.e hr.j, noQ rfl, noN rfl, noR (by (intros; first | rfl | (simp [chkA]; done) | (simp [chkJ]; done) | (simp [chkE]; done) | (simp [chkR]; done)))⟩
  | lst es h => exact .val (snd_lst h.a) (sndt_of' rfl (snd_lst h.a)) (by (intros; first | rfl | (simp [chkA]; done) | (simp [chkJ]; done) | (simp [chkE]; done) | (simp [chkR]; done))) (by (intros; first | rfl | (simp [chkA]; done) | (simp [chkJ]; done) | (simp [chkE]; done) | (simp [chkR]; done))) rfl rfl (by (intros; first | rfl | (simp [chkA]; done) | (simp [chkJ]; done) | (simp [chkE]; done) | (simp [chkR]; done)))
  | bin o a b ha hb => exact .val (snd_bin o ha.e hb.e) (sndt_of' rfl (snd_bin o ha.e hb.e)) (by (intros; first | rfl | (simp [chkA]; done) | (simp [chkJ]; done) | (simp [chkE]; done) | (simp [chkR]; done))) (by (intros; first | rfl | (simp [chkA]; done) | (simp [chkJ]; done) | (simp [chkE]; done) | (simp [chkR]; done))) rfl rfl (by (intros; first | rfl | (simp [chkA]; done) | (simp [chkJ]; done) | (simp [chkE]; done) | (simp [chkR]; done)))
  | neg a ha => exact .val (snd_neg ha.e) (sndt_of' rfl (snd_neg ha.e)) (by (intros; first | rfl | (simp [chkA]; done) | (simp [chkJ]; done) | (simp [chkE]; done) | (simp [chkR]; done))) (by (intros; first | rfl | (simp [chkA]; done) | (simp [chkJ]; done) | (simp [chkE]; done) | (simp [chkR]; done))) rfl rfl (by (intros; first | rfl | (simp [chkA]; done) | (simp [chkJ]; done) | (simp [chkE]; done) | (simp [chkR]; done)))
  | cmp o a b ha hb => exact .val (snd_cmp o ha.e hb.e) (sndt_cmp o ha.e hb.e) (by (intros; first | rfl | (simp [chkA]; done) | (simp [chkJ]; done) | (simp [chkE]; done) | (simp [chkR]; done))) (by (intros; first | rfl | (simp [chkA]; done) | (simp [chkJ]; done) | (simp [chkE]; done) | (simp [chkR]; done))) rfl rfl (by (intros; first | rfl | (simp [chkA]; done) | (simp [chkJ]; done) | (simp [chkE]; done) | (simp [chkR]; done)))
  | isc n v a ha => exact .val (snd_isc n v ha.e) (sndt_isc n v ha.e) (by (intros; first | rfl | (simp [chkA]; done) | (simp [chkJ]; done) | (simp [chkE]; done) | (simp [chkR]; done))) (by (intros; first | rfl | (simp [chkA]; done) | (simp [chkJ]; done) | (simp [chkE]; done) | (simp [chkR]; done))) rfl rfl (by (intros; first | rfl | (simp [chkA]; done) | (simp [chkJ]; done) | (simp [chkE]; done) | (simp [chkR]; done)))
  | chain a b k ha hb hk => exact .val (snd_chain ha.e hb.e hk.e) (sndt_chain ha.e hb.e hk.e) (by (intros; first | rfl | (simp [chkA]; done) | (simp [chkJ]; done) | (simp [chkE]; done) | (simp [chkR]; done))) (by (intros; first | rfl | (simp [chkA]; done) | (simp [chkJ]; done) | (simp [chkE]; done) | (simp [chkR]; done))) rfl rfl (by (intros; first | rfl | (simp [chkA]; done) | (simp [chkJ]; done) | (simp [chkE]; done) | (simp [chkR]; done)))
  | and a b ha hb => exact .val (snd_and ha.e hb.e ha.t hb.t) (sndt_and ha.e hb.e ha.t hb.t) (by (intros; first | rfl | (simp [chkA]; done) | (simp [chkJ]; done) | (simp [chkE]; done) | (simp [chkR]; done))) (by (intros; first | rfl | (simp [chkA]; done) | (simp [chkJ]; done) | (simp [chkE]; done) | (simp [chkR]; done))) rfl rfl (by (intros; first | rfl | (simp [chkA]; done) | (simp [chkJ]; done) | (simp [chkE]; done) | (simp [chkR]; done)))
  | or a b ha hb => exact .val (snd_or ha.e hb.e ha.t hb.t) (sndt_or ha.e hb.e ha.t hb.t) (by (intros; first | rfl | (simp [chkA]; done) | (simp [chkJ]; done) | (simp [chkE]; done) | (simp [chkR]; done))) (by (intros; first | rfl | (simp [chkA]; done) | (simp [chkJ]; done) | (simp [chkE]; done) | (simp [chkR]; done))) rfl rfl (by (intros; first | rfl | (simp [chkA]; done) | (simp [chkJ]; done) | (simp [chkE]; done) | (simp [chkR]; done)))
  | not a ha => exact .val (snd_not ha.e ha.t) (sndt_not ha.e ha.t) (by (intros; first | rfl | (simp [chkA]; done) | (simp [chkJ]; done) | (simp [chkE]; done) | (simp [chkR]; done))) (by (intros; first | rfl | (simp [chkA]; done) | (simp [chkJ]; done) | (simp [chkE]; done) | (simp [chkR]; done))) rfl rfl (by (intros; first | rfl | (simp [chkA]; done) | (simp [chkJ]; done) | (simp [chkE]; done) | (simp [chkR]; done)))
  | ite k a b hk ha hb => exact .val (snd_ite hk.t ha.e hb.e) (sndt_ite hk.t ha.t hb.t) (by (intros; first | rfl | (simp [chkA]; done) | (simp [chkJ]; done) | (simp [chkE]; done) | (simp [chkR]; done))) (by (intros; first | rfl | (simp [chkA]; done) | (simp [chkJ]; done) | (simp [chkE]; done) | (simp [chkR]; done))) rfl rfl (by (intros; first | rfl | (simp [chkA]; done) | (simp [chkJ]; done) | (simp [chkE]; done) | (simp [chkR]; done)))
  | sub a i ha hi => exact .val (snd_sub ha.e hi.e) (sndt_of' rfl (snd_sub ha.e hi.e)) (by (intros; first | rfl | (simp [chkA]; done) | (simp [chkJ]; done) | (simp [chkE]; done) | (simp [chkR]; done))) (by (intros; first | rfl | (simp [chkA]; done) | (simp [chkJ]; done) | (simp [chkE]; done) | (simp [chkR]; done))) rfl rfl (by (intros; first | rfl | (simp [chkA]; done) | (simp [chkJ]; done) | (simp [chkE]; done) | (simp [chkR]; done)))
  | slc a l h ha hl hh => exact .val (snd_slc ha.e hl.e hh.e) (sndt_of' rfl (snd_slc ha.e hl.e hh.e)) (by (intros; first | rfl | (simp [chkA]; done) | (simp [chkJ]; done) | (simp [chkE]; done) | (simp [chkR]; done))) (by (intros; first | rfl | (simp [chkA]; done) | (simp [chkJ]; done) | (simp [chkE]; done) | (simp [chkR]; done))) rfl rfl (by (intros; first | rfl | (simp [chkA]; done) | (simp [chkJ]; done) | (simp [chkE]; done) | (simp [chkR]; done)))
  | call f es h => exact .val (snd_call f h.a) (sndt_of' rfl (snd_call f h.a)) (by (intros; first | rfl | (simp [chkA]; done) | (simp [chkJ]; done) | (simp [chkE]; done) | (simp [chkR]; done))) (by (intros; first | rfl | (simp [chkA]; done) | (simp [chkJ]; done) | (simp [chkE]; done) | (simp [chkR]; done))) rfl rfl (by (intros; first | rfl | (simp [chkA]; done) | (simp [chkJ]; done) | (simp [chkE]; done) | (simp [chkR]; done)))
  | isi t a ha => exact .val (snd_isi t ha.e) (sndt_of' rfl (snd_isi t ha.e)) (by (intros; first | rfl | (simp [chkA]; done) | (simp [chkJ]; done) | (simp [chkE]; done) | (simp [chkR]; done))) (by (intros; first | rfl | (simp [chkA]; done) | (simp [chkJ]; done) | (simp [chkE]; done) | (simp [chkR]; done))) rfl rfl (by (intros; first | rfl | (simp [chkA]; done) | (simp [chkJ]; done) | (simp [chkE]; done) | (simp [chkR]; done)))
  | len a ha => exact .val (snd_len ha.e) (sndt_of' rfl (snd_len ha.e)) (by (intros; first | rfl | (simp [chkA]; done) | (simp [chkJ]; done) | (simp [chkE]; done) | (simp [chkR]; done))) (by (intros; first | rfl | (simp [chkA]; done) | (simp [chkJ]; done) | (simp [chkE]; done) | (simp [chkR]; done))) rfl rfl (by (intros; first | rfl | (simp [chkA]; done) | (simp [chkJ]; done) | (simp [chkE]; done) | (simp [chkR]; done)))
  | intOf a ha => exact .val (snd_intOf ha.e) (sndt_of' rfl (snd_intOf ha.e)) (by (intros; first | rfl | (simp [chkA]; done) | (simp [chkJ]; done) | (simp [chkE]; done) | (simp [chkR]; done))) (by (intros; first | rfl | (simp [chkA]; done) | (simp [chkJ]; done) | (simp [chkE]; done) | (simp [chkR]; done))) rfl rfl (by (intros; first | rfl | (simp [chkA]; done) | (simp [chkJ]; done) | (simp [chkE]; done) | (simp [chkR]; done)))
  | strOf a ha => exact .val (snd_strOf ha.e) (sndt_of' rfl (snd_strOf ha.e)) (by (intros; first | rfl | (simp [chkA]; done) | (simp [chkJ]; done) | (simp [chkE]; done) | (simp [chkR]; done))) (by (intros; first | rfl | (simp [chkA]; done) | (simp [chkJ]; done) | (simp [chkE]; done) | (simp [chkR]; done))) rfl rfl (by (intros; first | rfl | (simp [chkA]; done) | (simp [chkJ]; done) | (simp [chkE]; done) | (simp [chkR]; done)))
  | fmt a ha => exact .val (snd_fmt ha.e) (sndt_of' rfl (snd_fmt ha.e)) (by (intros; first | rfl | (simp [chkA]; done) | (simp [chkJ]; done) | (simp [chkE]; done) | (simp [chkR]; done))) (by (intros; first | rfl | (simp [chkA]; done) | (simp [chkJ]; done) | (simp [chkE]; done) | (simp [chkR]; done))) rfl rfl (by (intros; first | rfl | (simp [chkA]; done) | (simp [chkJ]; done) | (simp [chkE]; done) | (simp [chkR]; done)))
  | fstr es h => exact .val (snd_fstr h.j) (sndt_of' rfl (snd_fstr h.j)) (by (intros; first | rfl | (simp [chkA]; done) | (simp [chkJ]; done) | (simp [chkE]; done) | (simp [chkR]; done))) (by (intros; first | rfl | (simp [chkA]; done) | (simp [chkJ]; done) | (simp [chkE]; done) | (simp [chkR]; done))) rfl rfl (by (intros; first | rfl | (simp [chkA]; done) | (simp [chkJ]; done) | (simp [chkE]; done) | (simp [chkR]; done)))
  | app a e ha he => exact .val (snd_app ha.e he.e) (sndt_of' rfl (snd_app ha.e he.e)) (by (intros; first | rfl | (simp [chkA]; done) | (simp [chkJ]; done) | (simp [chkE]; done) | (simp [chkR]; done))) (by (intros; first | rfl | (simp [chkA]; done) | (simp [chkJ]; done) | (simp [chkE]; done) | (simp [chkR]; done))) rfl rfl (by (intros; first | rfl | (simp [chkA]; done) | (simp [chkJ]; done) | (simp [chkE]; done) | (simp [chkR]; done)))
  | idx a e ha he => exact .val (snd_idx ha.e he.e) (sndt_of' rfl (snd_idx ha.e he.e)) (by (intros; first | rfl | (simp [chkA]; done) | (simp [chkJ]; done) | (simp [chkE]; done) | (simp [chkR]; done))) (by (intros; first | rfl | (simp [chkA]; done) | (simp [chkJ]; done) | (simp [chkE]; done) | (simp [chkR]; done))) rfl rfl (by (intros; first | rfl | (simp [chkA]; done) | (simp [chkJ]; done) | (simp [chkE]; done) | (simp [chkR]; done)))
  | idxS a e ha he => exact .val (snd_idxS ha.e he.e) (sndt_of' rfl (snd_idxS ha.e he.e)) (by (intros; first | rfl | (simp [chkA]; done) | (simp [chkJ]; done) | (simp [chkE]; done) | (simp [chkR]; done))) (by (intros; first | rfl | (simp [chkA]; done) | (simp [chkJ]; done) | (simp [chkE]; done) | (simp [chkR]; done))) rfl rfl (by (intros; first | rfl | (simp [chkA]; done) | (simp [chkJ]; done) | (simp [chkE]; done) | (simp [chkR]; done)))
  | cnt a e ha he => exact .val (snd_cnt ha.e he.e) (sndt_of' rfl (snd_cnt ha.e he.e)) (by (intros; first | rfl | (simp [chkA]; done) | (simp [chkJ]; done) | (simp [chkE]; done) | (simp [chkR]; done))) (by (intros; first | rfl | (simp [chkA]; done) | (simp [chkJ]; done) | (simp [chkE]; done) | (simp [chkR]; done))) rfl rfl (by (intros; first | rfl | (simp [chkA]; done) | (simp [chkJ]; done) | (simp [chkE]; done) | (simp [chkR]; done)))
  | split a e ha he => exact .val (snd_split ha.e he.e) (sndt_of' rfl (snd_split ha.e he.e)) (by (intros; first | rfl | (simp [chkA]; done) | (simp [chkJ]; done) | (simp [chkE]; done) | (simp [chkR]; done))) (by (intros; first | rfl | (simp [chkA]; done) | (simp [chkJ]; done) | (simp [chkE]; done) | (simp [chkR]; done))) rfl rfl (by (intros; first | rfl | (simp [chkA]; done) | (simp [chkJ]; done) | (simp [chkE]; done) | (simp [chkR]; done)))
  | joinR a r ha hr => exact .val (snd_joinR ha.e hr.e) (sndt_of' rfl (snd_joinR ha.e hr.e)) (by (intros; first | rfl | (simp [chkA]; done) | (simp [chkJ]; done) | (simp [chkE]; done) | (simp [chkR]; done))) (by (intros; first | rfl | (simp [chkA]; done) | (simp [chkJ]; done) | (simp [chkE]; done) | (simp [chkR]; done))) rfl rfl (by (intros; first | rfl | (simp [chkA]; done) | (simp [chkJ]; done) | (simp [chkE]; done) | (simp [chkR]; done)))
  | tupR r hr => exact .val (snd_tupR hr.q) (sndt_of' rfl (snd_tupR hr.q)) (by (intros; first | rfl | (simp [chkA]; done) | (simp [chkJ]; done) | (simp [chkE]; done) | (simp [chkR]; done))) (by (intros; first | rfl | (simp [chkA]; done) | (simp [chkJ]; done) | (simp [chkE]; done) | (simp [chkR]; done))) rfl rfl (by (intros; first | rfl | (simp [chkA]; done) | (simp [chkJ]; done) | (simp [chkE]; done) | (simp [chkR]; done)))
  | lstR r hr => exact .val (snd_lstR hr.q hr.n) (sndt_of' rfl (snd_lstR hr.q hr.n)) (by (intros; first | rfl | (simp [chkA]; done) | (simp [chkJ]; done) | (simp [chkE]; done) | (simp [chkR]; done))) (by (intros; first | rfl | (simp [chkA]; done) | (simp [chkJ]; done) | (simp [chkE]; done) | (simp [chkR]; done))) rfl rfl (by (intros; first | rfl | (simp [chkA]; done) | (simp [chkJ]; done) | (simp [chkE]; done) | (simp [chkR]; done)))
  | allR r hr => exact .val (snd_allR hr.n) (sndt_of' rfl (snd_allR hr.n)) (by (intros; first | rfl | (simp [chkA]; done) | (simp [chkJ]; done) | (simp [chkE]; done) | (simp [chkR]; done))) (by (intros; first | rfl | (simp [chkA]; done) | (simp [chkJ]; done) | (simp [chkE]; done) | (simp [chkR]; done))) rfl rfl (by (intros; first | rfl | (simp [chkA]; done) | (simp [chkJ]; done) | (simp [chkE]; done) | (simp [chkR]; done)))
  | anyR r hr => exact .val (snd_anyR hr.n) (sndt_of' rfl (snd_anyR hr.n)) (by (intros; first | rfl | (simp [chkA]; done) | (simp [chkJ]; done) | (simp [chkE]; done) | (simp [chkR]; done))) (by (intros; first | rfl | (simp [chkA]; done) | (simp [chkJ]; done) | (simp [chkE]; done) | (simp [chkR]; done))) rfl rfl (by (intros; first | rfl | (simp [chkA]; done) | (simp [chkJ]; done) | (simp [chkE]; done) | (simp [chkR]; done)))
  | itr a ha => exact .raw (by (intros; first | rfl | (simp [chkA]; done) | (simp [chkJ]; done) | (simp [chkE]; done) | (simp [chkR]; done))) rfl (by (intros; first | rfl | (simp [chkA]; done) | (simp [chkJ]; done) | (simp [chkE]; done) | (simp [chkR]; done))) (by (intros; first | rfl | (simp [chkA]; done) | (simp [chkJ]; done) | (simp [chkE]; done) | (simp [chkR]; done))) (sndq_itr ha.e) (noN rfl) (sndr_q (sndq_itr ha.e) rfl)
  | comp t src cond elt own hs hc he =>
    have n := sndn_comp t own hs.r hc.t he.e
    exact .raw (by (intros; first | rfl | (simp [chkA]; done) | (simp [chkJ]; done) | (simp [chkE]; done) | (simp [chkR]; done))) rfl (by (intros; first | rfl | (simp [chkA]; done) | (simp [chkJ]; done) | (simp [chkE]; done) | (simp [chkR]; done))) (by (intros; first | rfl | (simp [chkA]; done) | (simp [chkJ]; done) | (simp [chkE]; done) | (simp [chkR]; done))) (sndq_comp n rfl) n (sndr_q (sndq_comp n rfl) rfl)
  | range es h => exact .raw (by (intros; first | rfl | (simp [chkA]; done) | (simp [chkJ]; done) | (simp [chkE]; done) | (simp [chkR]; done))) rfl (by (intros; first | rfl | (simp [chkA]; done) | (simp [chkJ]; done) | (simp [chkE]; done) | (simp [chkR]; done))) (by (intros; first | rfl | (simp [chkA]; done) | (simp [chkJ]; done) | (simp [chkE]; done) | (simp [chkR]; done))) (noQ rfl) (noN rfl) (sndr_range h.a)
  | enum a ha => exact .raw (by (intros; first | rfl | (simp [chkA]; done) | (simp [chkJ]; done) | (simp [chkE]; done) | (simp [chkR]; done))) rfl (by (intros; first | rfl | (simp [chkA]; done) | (simp [chkJ]; done) | (simp [chkE]; done) | (simp [chkR]; done))) (by (intros; first | rfl | (simp [chkA]; done) | (simp [chkJ]; done) | (simp [chkE]; done) | (simp [chkR]; done))) (noQ rfl) (noN rfl) (sndr_enum ha.e)
  | zip a b ha hb => exact .raw (by (intros; first | rfl | (simp [chkA]; done) | (simp [chkJ]; done) | (simp [chkE]; done) | (simp [chkR]; done))) rfl (by (intros; first | rfl | (simp [chkA]; done) | (simp [chkJ]; done) | (simp [chkE]; done) | (simp [chkR]; done))) (by (intros; first | rfl | (simp [chkA]; done) | (simp [chkJ]; done) | (simp [chkE]; done) | (simp [chkR]; done))) (noQ rfl) (noN rfl) (sndr_zip ha.e hb.e)
  | _ => exact ⟨noE (by (intros; first | rfl | (simp [chkA]; done) | (simp [chkJ]; done) | (simp [chkE]; done) | (simp [chkR]; done))), sndt_of' rfl (noE (by (intros; first | rfl | (simp [chkA]; done) | (simp [chkJ]; done) | (simp [chkE]; done) | (simp [chkR]; done)))), noA (by (intros; first | rfl | (simp [chkA]; done) | (simp [chkJ]; done) | (simp [chkE]; done) | (simp [chkR]; done))), noJ (by (intros; first | rfl | (simp [chkA]; done) | (simp [chkJ]; done) | (simp [chkE]; done) | (simp [chkR]; done))), noQ rfl, noN rfl, noR (by (intros; first | rfl | (simp [chkA]; done) | (simp [chkJ]; done) | (simp [chkE]; done) | (simp [chkR]; done)))⟩
end Sd
end

section
set_option Elab.async false
set_option linter.all false
set_option maxRecDepth 100000
set_option maxHeartbeats 4000000
set_option autoImplicit false
namespace Sd
open PySem PySem.Spec PyProof.Rows L2
open Mx (Val Res SR Op Cmp Ty Tg E S Store)
variable {c : Cfg}

def PostS (g : G) (lo : Nat) (lk : List Nat) (W : Nat → Hp → Prop) (φ : List Addr) (H : Hp) (r : SR) (D : Ends) : Prop :=
  match r with
  | .next env st => ∀ φ' H' σ', Ext g lo lk φ H φ' H' → Rep g φ' st H' → REnv g H' φ' env σ' → D.nx σ' H'
  | .cont env st => ∀ φ' H' σ', Ext g lo lk φ H φ' H' → Rep g φ' st H' → REnv g H' φ' env σ' → D.ct σ' H'
  | .ret v st => ∀ φ' H' x, Ext g lo lk φ H φ' H' → Rep g φ' st H' → RV g H' φ' v x → D.rt x H'
  | .exc c st => ∀ φ' H', Ext g lo lk φ H φ' H' → Rep g φ' st H' → W c H'
  | .bad => False
def TSv (g : G) (lo : Nat) (lk : List Nat) (W : Nat → Hp → Prop) (m : Mx.Env → Store → SR) : TS := fun D σ H => ∃ φ st env, REnv g H φ env σ ∧ Rep g φ st H ∧ PostS g lo lk W φ H (m env st) D
theorem PostS.base {g : G} {lo : Nat} {lk lk' : List Nat} {W : Nat → Hp → Prop} {φ φ1 : List Addr} {H H1 : Hp} {r : SR} {D : Ends} (h : PostS g lo lk W φ H r D) (e : ∀ φ2 H2, Ext g lo lk' φ1 H1 φ2 H2 → Ext g lo lk φ H φ2 H2) : PostS g lo lk' W φ1 H1 r D := by
  cases r with
  | next env st => exact fun φ' H' σ' a b c => h φ' H' σ' (e _ _ a) b c
  | cont env st => exact fun φ' H' σ' a b c => h φ' H' σ' (e _ _ a) b c
  | ret v st => exact fun φ' H' x a b c => h φ' H' x (e _ _ a) b c
  | exc c st => exact fun φ' H' a b => h φ' H' (e _ _ a) b
  | bad => exact h
theorem TSv.expr {g : G} {lo : Nat} {lk : List Nat} {W : Nat → Hp → Prop} {m : Mx.Env → Store → Res Val} {k : Mx.Env → Val → Store → SR} {σ : L2.St} {H : Hp} {D : Ends}
    (h : TSv g lo lk W (fun env st => (m env st).sr (k env)) D σ H) :
    TEv g lo lk W m σ H (fun x H1 => ∃ φ1 st1 env v, REnv g H1 φ1 env σ ∧ Rep g φ1 st1 H1 ∧ RV g H1 φ1 v x ∧ PostS g lo lk W φ1 H1 (k env v st1) D) := by
  obtain ⟨φ, st, env, re, rp, p⟩ := h
  refine ⟨φ, st, env, re, rp, ?_⟩
  cases hk : m env st with
  | bad => simp only [hk, Mx.Res.sr] at p; exact p
  | exc j s2 => simp only [hk, Mx.Res.sr] at p; exact p
  | ok v s2 =>
    simp only [hk, Mx.Res.sr] at p
    exact fun φ' H' x e' r' rv => ⟨φ', s2, env, v, re.mono e', r', rv, PostS.base p fun _ _ z => e'.trans z⟩

def SndS1 (c : Cfg) (m : S) : Prop := ∀ (d : Nat) (q : Sc) (W : Nat → Hp → Prop) (X : Cx) (lo : Nat) (lk : List Nat) (s : Stmt), OkX c d q W X → chkS c.T q m [s] = true → PS X s (TSv c.g lo lk W (Mx.evS (c.cx d lo) m lk))
def SndS (c : Cfg) (m : S) : Prop := ∀ (d : Nat) (q : Sc) (W : Nat → Hp → Prop) (X : Cx) (lo : Nat) (lk : List Nat) (ss : List Stmt), OkX c d q W X → chkS c.T q m ss = true → PSs X ss (TSv c.g lo lk W (Mx.evS (c.cx d lo) m lk))
def isOne : S → Bool
  | .skip => false
  | .seq _ _ => false
  | _ => true
theorem chkS_one {T : Tb} {q : Sc} {m : S} {ss : List Stmt} (hm : isOne m = true) (h : chkS T q m ss = true) : ∃ s, ss = [s] := by
  match ss with
  | [s] => exact ⟨s, rfl⟩
  | [] => exfalso; cases m <;> first | (cases hm; done) | (simp [chkS] at h)
  | _ :: _ :: _ => exfalso; cases m <;> first | (cases hm; done) | (simp [chkS] at h)
theorem snds_one {m : S} (hm : isOne m = true) (h : SndS1 c m) : SndS c m := by
  intro d q W X lo lk ss o hc
  obtain ⟨s, rfl⟩ := chkS_one hm hc
  exact pss_one (h d q W X lo lk s o hc)
theorem chkS_nil {T : Tb} {q : Sc} {m : S} (h : chkS T q m [] = true) : m = .skip := by
  cases m <;> first | rfl | (simp [chkS] at h)
theorem skip_key {lo d : Nat} {lk : List Nat} {W : Nat → Hp → Prop} : ∀ D σ H, TSv c.g lo lk W (Mx.evS (c.cx d lo) .skip lk) D σ H → D.nx σ H := fun D σ H z => by
  obtain ⟨φ, st, env, re, rp, p⟩ := z
  exact p φ H σ Ext.refl rp re
theorem snds1_skip : SndS1 c .skip := by
  intro d q W X lo lk s o h
  match s, h with
  | .Pass p, _ => exact PS.imp ps_pass skip_key
theorem snds_skip : SndS c .skip := by
  intro d q W X lo lk ss o h
  match ss, h with
  | [], _ => exact PSs.imp pss_nil skip_key
  | [.Pass p], _ => exact PSs.imp (pss_one ps_pass) skip_key
theorem seq_key {lo d : Nat} {lk : List Nat} {W : Nat → Hp → Prop} {a b : S} {D : Ends} {σ : L2.St} {H : Hp} (z : TSv c.g lo lk W (Mx.evS (c.cx d lo) (.seq a b) lk) D σ H) :
    tSeq (TSv c.g lo lk W (Mx.evS (c.cx d lo) a lk)) (TSv c.g lo lk W (Mx.evS (c.cx d lo) b lk)) D σ H := by
  obtain ⟨φ, st, env, re, rp, p⟩ := z
  refine ⟨φ, st, env, re, rp, ?_⟩
  simp only [Mx.evS] at p
  cases hk : Mx.evS (c.cx d lo) a lk env st with
  | bad => rw [hk] at p; exact p
  | exc j s2 => rw [hk] at p; exact p
  | ret v s2 => rw [hk] at p; exact p
  | cont e2 s2 => rw [hk] at p; exact p
  | next e2 s2 =>
    rw [hk] at p
    exact fun φ' H' σ' e' r' re' => ⟨φ', s2, e2, re', r', PostS.base p fun _ _ w => e'.trans w⟩
theorem snds1_seq {a b : S} (ha : SndS1 c a) : SndS1 c (.seq a b) := by
  intro d q W X lo lk s o h
  simp only [chkS, Bool.and_eq_true] at h
  have hb := chkS_nil h.2
  subst hb
  refine PS.imp (ha d q W X lo lk s o h.1) fun D σ H z => ?_
  obtain ⟨φ, st, env, re, rp, p⟩ := z
  refine ⟨φ, st, env, re, rp, ?_⟩
  simp only [Mx.evS] at p
  cases hk : Mx.evS (c.cx d lo) a lk env st with
  | bad => rw [hk] at p; exact p
  | exc j s2 => rw [hk] at p; exact p
  | ret v s2 => rw [hk] at p; exact p
  | cont e2 s2 => rw [hk] at p; exact p
  | next e2 s2 => rw [hk] at p; exact p
theorem snds_seq {a b : S} (ha : SndS1 c a) (hb : SndS c b) : SndS c (.seq a b) := by
  intro d q W X lo lk ss o h
  match ss, h with
  | s :: r, h =>
    simp only [chkS, Bool.and_eq_true] at h
    exact PSs.imp (pss_cons (ha d q W X lo lk s o h.1) (hb d q W X lo lk r o h.2)) fun D σ H z => seq_key z

/-! ### small statements -/
theorem evS_expr {cx : Mx.Ctx} {e : E} {lk : List Nat} : Mx.evS cx (.expr e) lk = fun env st => (Mx.evE cx e lk env st).sr fun _ st => .next env st := by
  funext env st
  simp only [Mx.evS]
theorem evS_ret {cx : Mx.Ctx} {e : E} {lk : List Nat} : Mx.evS cx (.ret e) lk = fun env st => (Mx.evE cx e lk env st).sr fun v st => .ret v st := by
  funext env st
  simp only [Mx.evS]
theorem evS_asg {cx : Mx.Ctx} {t : Tg} {e : E} {lk : List Nat} : Mx.evS cx (.asg t e) lk = fun env st => (Mx.evE cx e lk env st).sr fun v st => Mx.asgS (Mx.asg cx lk t v env st) := by
  funext env st
  simp only [Mx.evS]
theorem snds1_expr (e : E) : SndS1 c (.expr e) := by
  intro d q W X lo lk s o h
  cases s <;> first | (cases h; done) | skip
  rename_i x pos
  simp only [chkS, Bool.and_eq_true] at h
  refine PS.imp (ps_expr (all7 e |>.e d q W X lo lk x o h.2).1 (swaps_no h.1.1 _ _ _)) fun D σ H z => ?_
  refine TEv.imp (TSv.expr (k := fun env v st => .next env st) (evS_expr ▸ z)) fun x H1 z1 => ?_
  obtain ⟨φ1, st1, env, v, re, rp, rv, p⟩ := z1
  exact p φ1 H1 σ Ext.refl rp re
theorem snds1_ret (e : E) : SndS1 c (.ret e) := by
  intro d q W X lo lk s o h
  cases s <;> first | (cases h; done) | skip
  rename_i x pos
  cases x with
  | none => cases h
  | some x =>
    simp only [chkS, Bool.and_eq_true] at h
    refine PS.imp (ps_ret (all7 e |>.e d q W X lo lk x o h.2).1) fun D σ H z => ?_
    refine TEv.imp (TSv.expr (k := fun env v st => .ret v st) (evS_ret ▸ z)) fun x H1 z1 => ?_
    obtain ⟨φ1, st1, env, v, re, rp, rv, p⟩ := z1
    exact p φ1 H1 x Ext.refl rp rv
theorem snds1_retN : SndS1 c .retN := by
  intro d q W X lo lk s o h
  cases s <;> first | (cases h; done) | skip
  rename_i x pos
  cases x with
  | some _ => cases h
  | none =>
    refine PS.imp ps_retN fun D σ H z => ?_
    obtain ⟨φ, st, env, re, rp, p⟩ := z
    exact p φ H .non Ext.refl rp .none
theorem snds1_cont : SndS1 c .cont := by
  intro d q W X lo lk s o h
  cases s <;> first | (cases h; done) | skip
  refine PS.imp ps_continue fun D σ H z => ?_
  obtain ⟨φ, st, env, re, rp, p⟩ := z
  exact p φ H σ Ext.refl rp re
theorem snds1_raise (k : Nat) : SndS1 c (.raise k) := by
  intro d q W X lo lk s o h
  cases s <;> first | (cases h; done) | skip
  rename_i x y pos
  match x, y, h with
  | some (.Call (.Name x p) [.Constant (.str m) j p2] [] p3), none, h =>
    simp only [chkS, Bool.and_eq_true, decide_eq_true_eq] at h
    obtain ⟨⟨h1, h2⟩, h3⟩ := h
    obtain ⟨n1, n2, _⟩ := okN_ok h3
    obtain ⟨g1, g2, g3, B, ni, ii, bm, F, g4⟩ := o.gx.xc k x h1
    refine PS.imp (ps_raise o.calm o.takes (pmk_own F g4 g1 g2 g3 (glB_ok (by rw [o.sc]; exact h2)) n1)) fun D σ H z => ?_
    obtain ⟨φ, st, env, re, rp, p⟩ := z
    exact ⟨k, rfl, rfl, p φ H Ext.refl rp⟩
theorem snds1_ite {a b : S} (k : E) (ha : SndS c a) (hb : SndS c b) : SndS1 c (.ite k a b) := by
  intro d q W X lo lk s o h
  cases s <;> first | (cases h; done) | skip
  rename_i x y z pos
  simp only [chkS, Bool.and_eq_true] at h
  obtain ⟨⟨⟨_, h1⟩, h2⟩, h3⟩ := h
  refine PS.imp (ps_if (all7 k |>.t d q W X lo lk x o h1).1 (ha d q W X lo lk y o h2) (hb d q W X lo lk z o h3)) fun D σ H w => ?_
  obtain ⟨φ, st, env, re, rp, p⟩ := w
  refine ⟨φ, st, env, re, rp, ?_⟩
  simp only [Mx.evS] at p
  cases hk : Mx.evE (c.cx d lo) k lk env st with
  | bad => simp only [hk] at p; exact p
  | exc j s2 => simp only [hk] at p; exact p
  | ok v s2 =>
    simp only [hk] at p
    intro φ' H' x e' r' rv
    cases rv <;> try exact False.elim p
    rename_i t
    refine ⟨t, rfl, ?_⟩
    cases t with
    | true =>
      simp only [if_true]
      exact ⟨φ', s2, env, re.mono e', r', PostS.base p fun _ _ w => e'.trans w⟩
    | false =>
      simp only [Bool.false_eq_true, if_false]
      exact ⟨φ', s2, env, re.mono e', r', PostS.base p fun _ _ w => e'.trans w⟩

/-! ### assignment -/
theorem tg_run {g : G} {lo : Nat} {lk : List Nat} {W : Nat → Hp → Prop} {cx : Mx.Ctx} {t : Tg} (hn : tgN t = true) {φ : List Addr} {H : Hp} {σ : L2.St} {env : Mx.Env} {st : Store} {v : Val} {x : V} {D : Ends} (re : REnv g H φ env σ) (rp : Rep g φ st H) (rv : RV g H φ v x)
    (p : PostS g lo lk W φ H (Mx.asgS (Mx.asg cx lk t v env st)) D) : TGv g cx lk t x σ H D.nx := by
  cases ha : Mx.asg cx lk t v env st with
  | none => rw [ha] at p; exact p.elim
  | some r =>
    obtain ⟨env', st'⟩ := r
    have := asg_st hn ha
    subst this
    rw [ha] at p
    simp only [Mx.asgS] at p
    exact ⟨φ, _, env, v, env', re, rp, rv, ha, fun σ' re' _ => p φ H σ' Ext.refl rp re'⟩
theorem asg_key {t : Tg} (hn : tgN t = true) {e : E} {d lo : Nat} {lk : List Nat} {W : Nat → Hp → Prop} {D : Ends} {σ : L2.St} {H : Hp} (z : TSv c.g lo lk W (Mx.evS (c.cx d lo) (.asg t e) lk) D σ H) :
    tAsg (TEv c.g lo lk W (Mx.evE (c.cx d lo) e lk)) (TGv c.g (c.cx d lo) lk t) D σ H := by
  refine TEv.imp (TSv.expr (k := fun env v st => Mx.asgS (Mx.asg (c.cx d lo) lk t v env st)) (evS_asg ▸ z)) fun x H1 z1 => ?_
  obtain ⟨φ1, st1, env, v, re, rp, rv, p⟩ := z1
  exact tg_run hn re rp rv p
theorem name_key {i : Nat} {e : E} {d lo : Nat} {lk : List Nat} {W : Nat → Hp → Prop} {D : Ends} {σ : L2.St} {H : Hp} (z : TSv c.g lo lk W (Mx.evS (c.cx d lo) (.asg (.name i) e) lk) D σ H) :
    tAsg (TEv c.g lo lk W (Mx.evE (c.cx d lo) e lk)) (gName i) D σ H := by
  refine TEv.imp (TSv.expr (k := fun env v st => Mx.asgS (Mx.asg (c.cx d lo) lk (.name i) v env st)) (evS_asg ▸ z)) fun x H1 z1 => ?_
  obtain ⟨φ1, st1, env, v, re, rp, rv, p⟩ := z1
  simp only [Mx.asg] at p
  by_cases hi : i < env.length
  · rw [if_pos hi] at p
    simp only [Mx.asgS] at p
    exact p φ1 H1 _ Ext.refl rp (re.set rv)
  · rw [if_neg hi] at p
    exact p.elim
theorem swaps_name (e : Expr) (x : Str) (p : Pos) (l : Nat) (env : Env) : swapsWith e (some (.Name x p)) l env = pure false ∨ (swapsWith e (some (.Name x p)) l env = pure true ∧ env.scope.names.lookup x = some .local) := by
  cases e <;> first | exact .inl rfl | skip
  all_goals
    rename_i scope pos
    unfold swapsWith
    simp only
    by_cases hk : env.kindOf x = some .local
    · rw [show (env.kindOf x == some NameKind.local) = true by rw [hk]; rfl]
      generalize (env.blockKind == ScopeKind.function && true && _ && _) = b
      cases b
      · exact .inl rfl
      · exact .inr ⟨rfl, hk⟩
    · rw [show (env.kindOf x == some NameKind.local) = false by
        cases h : (env.kindOf x == some NameKind.local) with
        | false => rfl
        | true => exact absurd (eq_of_beq h) hk]
      rw [Bool.and_false, Bool.false_and, Bool.false_and]
      exact .inl rfl
theorem snds1_asgN (i : Nat) (e : E) {d : Nat} {q : Sc} {W : Nat → Hp → Prop} {X : Cx} {lo : Nat} {lk : List Nat} {x : Str} {p pos : Pos} {v : Expr} (o : OkX c d q W X) (h1 : chkT q (.name i) (.Name x p) = true) (h2 : chkE c.T q e v = true) :
    PS X (.Assign [.Name x p] v pos) (TSv c.g lo lk W (Mx.evS (c.cx d lo) (.asg (.name i) e) lk)) := by
  have he := all7 e |>.e d q W X lo lk v o h2
  simp only [chkT, Bool.and_eq_true, decide_eq_true_eq, Bool.or_eq_true] at h1
  obtain ⟨⟨k1, k2⟩, k3⟩ := h1
  rcases swaps_name v x p pos.line X.env with hs | ⟨hs, hl⟩
  · exact PS.imp (ps_set (i := i) (by rw [o.N]; exact o.nd) (by rw [o.N]; exact k1) (by rw [o.sc]; exact locB_ok k2) he.1 hs (by rw [o.sc, o.fnb]; exact k3)) fun D σ H z => name_key z
  · exact PS.imp (he.2 i x p pos (by rw [o.N]; exact k1) hl hs) fun D σ H z => name_key z
end Sd
end

section
set_option Elab.async false
set_option linter.all false
set_option maxRecDepth 100000
set_option maxHeartbeats 4000000
set_option autoImplicit false
namespace Sd
open PySem PySem.Spec PyProof.Rows L2
open Mx (Val Res SR Op Cmp Ty Tg E S Store)
variable {c : Cfg}

/-! ### (a, b) = e -/
theorem sole_tup {ts : List Expr} {k : Nat} {p : Pos} {v : Expr} {l : Nat} {env : Env} : swapsWithSole [.Tuple ts k p] v l env = pure false := by
  show swapsWith v (some (.Tuple ts k p)) l env = pure false
  cases v <;> rfl
theorem stores_no {ts : List Expr} {k : Nat} {p : Pos} {v : Expr} {env : Env} (h : isTupE v = false) : swappedStores [.Tuple ts k p] v env = pure none := by
  cases v <;> first | (cases h; done) | rfl
theorem snds1_asgT {t : Tg} (e : E) {d : Nat} {q : Sc} {W : Nat → Hp → Prop} {X : Cx} {lo : Nat} {lk : List Nat} {ts : List Expr} {kt : Nat} {p pos : Pos} {v : Expr} (o : OkX c d q W X) (h0 : isTupE v = false) (h1 : chkT q t (.Tuple ts kt p) = true) (h2 : chkE c.T q e v = true) :
    PS X (.Assign [.Tuple ts kt p] v pos) (TSv c.g lo lk W (Mx.evS (c.cx d lo) (.asg t e) lk)) :=
  PS.imp (ps_asg (all7 e |>.e d q W X lo lk v o h2).1 ((sndG o (c.cx d lo) lk t).1 _ h1) sole_tup (stores_no h0) rfl) fun D σ H z => asg_key (chkT_n h1) z
theorem stores_two {x y : Str} {px py pt pt2 : Pos} {kt k2 : Nat} {a b : Expr} {env : Env} (hk : env.blockKind = .function) (hx : env.kindOf x = some .local) (hy : env.kindOf y = some .local) (hxy : x ≠ y) (hl : (px.line == py.line) = true)
    (ha : plain a = true) (hb : plain b = true) (h1 : [a, b].all (foldedForSure 8) = false) (h2 : [a, b].all (constantsAlone 8) = false) :
    swappedStores [.Tuple [.Name x px, .Name y py] kt pt] (.Tuple [a, b] k2 pt2) env = pure (some [x, y]) := by
  have hst : ([a, b].any fun | .Starred .. => true | _ => false) = false := by
    cases a <;> first | (cases ha; done) | skip
    all_goals (cases b <;> first | (cases hb; done) | rfl)
  have hl' : (py.line == px.line) = true := by
    have := eq_of_beq hl
    rw [this]
    exact beq_self_eq_true _
  have hn : (y == x) = false := by
    cases h : (y == x) with
    | false => rfl
    | true => exact absurd (eq_of_beq h).symm hxy
  have hsa : (match a with | .Starred .. => true | _ => false) = false := by
    cases a <;> first | (cases ha; done) | rfl
  have hsb : (match b with | .Starred .. => true | _ => false) = false := by
    cases b <;> first | (cases hb; done) | rfl
  have hle : py.line = px.line := eq_of_beq hl'
  have e1 : (Expr.Name x px).pos = px := rfl
  have f1 : foldedForSure 8 a = true → foldedForSure 8 b = false := by simpa using h1
  have f2 : constantsAlone 8 a = true → constantsAlone 8 b = false := by simpa using h2
  unfold swappedStores
  cases g1 : foldedForSure 8 a <;> cases g2 : foldedForSure 8 b <;> cases g3 : constantsAlone 8 a <;> cases g4 : constantsAlone 8 b <;> first
    | (exfalso; rw [f1 g1] at g2; cases g2; done)
    | (exfalso; rw [f2 g3] at g4; cases g4; done)
    | (simp [hk, hx, hy, hle, e1, g1, g2, g3, g4, List.filterMap, hn, List.eraseDups, List.eraseDupsBy, List.eraseDupsBy.loop]
       intro h
       exfalso
       rcases h with h | h
       · cases a <;> first | (cases ha; done) | (cases h; done)
       · cases b <;> first | (cases hb; done) | (cases h; done))
theorem snds1_par {i j : Nat} (m : E) {d : Nat} {q : Sc} {W : Nat → Hp → Prop} {X : Cx} {lo : Nat} {lk : List Nat} {x y : Str} {px py pt pt2 pos : Pos} {kt k2 : Nat} {a b : Expr} (o : OkX c d q W X) (h1 : par2B q i j x y px py [a, b] = true) (ha : plain a = true) (hb : plain b = true) (h2 : chkE c.T q m (.Tuple [a, b] k2 pt2) = true) :
    PS X (.Assign [.Tuple [.Name x px, .Name y py] kt pt] (.Tuple [a, b] k2 pt2) pos) (TSv c.g lo lk W (Mx.evS (c.cx d lo) (.asg (.cons (.name i) (.cons (.name j) .nil)) m) lk)) := by
  simp only [par2B, Bool.and_eq_true, decide_eq_true_eq, Bool.not_eq_true'] at h1
  obtain ⟨⟨⟨⟨⟨⟨⟨⟨k1, k2'⟩, k3⟩, k4⟩, k5⟩, k6⟩, k7⟩, k8⟩, k9⟩ := h1
  have hm : chkA c.T q m [a, b] = true := by
    cases m <;> first | (simp [chkE] at h2; done) | skip
    rename_i m1 m2
    simp only [chkE, Bool.and_eq_true] at h2
    simp only [chkA, Bool.and_eq_true]
    exact ⟨⟨h2.1.1.2, h2.1.2⟩, h2.2⟩
  have hxy : x ≠ y := by
    intro e
    subst e
    have : i = j := (List.getElem?_inj (List.getElem?_eq_some_iff.mp k2').1 o.nd).mp (k2'.trans k3.symm)
    exact k4 this
  have hw : swappedStores [.Tuple [.Name x px, .Name y py] kt pt] (.Tuple [a, b] k2 pt2) X.env = pure (some [x, y]) := by
    refine stores_two ?_ ?_ ?_ hxy k7 ha hb k8 k9
    · unfold Env.blockKind
      rw [o.sc, k1]
      rfl
    · show X.env.scope.names.lookup x = _
      rw [o.sc]; exact k5
    · show X.env.scope.names.lookup y = _
      rw [o.sc]; exact k6
  refine PS.imp (ps_par (i := i) (j := j) o.calm (by rw [o.N]; exact o.nd) (by rw [o.N]; exact k2') (by rw [o.N]; exact k3) k4 (by rw [o.sc]; exact k5) (by rw [o.sc]; exact k6) (all7 m |>.a d q W X lo lk [a, b] o hm) hw sole_tup) fun D σ H z => ?_
  obtain ⟨φ, st, env, re, rp, p⟩ := z
  refine ⟨φ, st, env, re, rp, ?_⟩
  rw [evS_asg] at p
  cases hk : Mx.evE (c.cx d lo) m lk env st with
  | bad => simp only [hk, Mx.Res.sr] at p; exact p
  | exc j s2 => simp only [hk, Mx.Res.sr] at p; exact p
  | ok w s2 =>
    obtain ⟨l, rfl, hl⟩ := evA_shape hm hk
    simp only [hk, Mx.Res.sr] at p
    refine ⟨l, rfl, fun φ' H' xs e' r' rv => ?_⟩
    rcases l with _ | ⟨v, _ | ⟨u, _ | ⟨w, r⟩⟩⟩
    · simp at hl
    · simp at hl
    · cases rv
      rename_i v' vs' q1 q2
      cases q2
      rename_i u' us' q2 q3
      cases q3
      refine ⟨v', u', rfl, ?_⟩
      simp only [Mx.asg] at p
      by_cases hi : i < env.length
      · rw [if_pos hi] at p
        simp only [Option.bind_some] at p
        by_cases hj : j < (env.set i (some v)).length
        · rw [if_pos hj] at p
          simp only [Option.bind_some, Mx.asgS] at p
          exact p φ' H' _ e' r' (((re.mono e').set q1).set q2)
        · rw [if_neg hj] at p
          exact p.elim
      · rw [if_neg hi] at p
        exact p.elim
    · simp at hl
theorem snds1_asg (t : Tg) (e : E) : SndS1 c (.asg t e) := by
  intro d q W X lo lk s o h
  cases s <;> first | (simp [chkS] at h; done) | skip
  rename_i tgs v pos
  rcases tgs with _ | ⟨tg, _ | ⟨tg2, r⟩⟩
  · simp [chkS] at h
  · cases tg <;> first | (simp [chkS] at h; done) | skip
    · rename_i x p
      cases t <;> first | (simp [chkS] at h; done) | skip
      simp only [chkS, Bool.and_eq_true] at h
      exact snds1_asgN _ e o h.1.2 h.2
    · rename_i ts kt pt
      by_cases hv : isTupE v = true
      · cases v <;> first | (cases hv; done) | skip
        rename_i vs k2 p2
        have key : ∃ i j x px y py a b, t = .cons (.name i) (.cons (.name j) .nil) ∧ ts = [.Name x px, .Name y py] ∧ vs = [a, b] ∧ par2B q i j x y px py [a, b] = true ∧ plain a = true ∧ plain b = true ∧ chkE c.T q e (.Tuple [a, b] k2 p2) = true := by
          unfold chkS at h
          split at h <;> (rename_i e1 e2; first | (cases e1; done) | (cases e2; done) | (simp [isTupE] at h; done) | (cases e1; cases e2; simp [isTupE] at h; done) | skip)
          cases e1
          cases e2
          simp only [isTupE, if_true, Bool.and_eq_true] at h
          rcases vs with _ | ⟨a, _ | ⟨b, _ | ⟨u, r⟩⟩⟩
          · cases h.2
          · cases h.2
          · simp only [Bool.and_eq_true] at h
            exact ⟨_, _, _, _, _, _, a, b, rfl, rfl, rfl, h.2.1.1.1, h.2.1.1.2, h.2.1.2, h.2.2⟩
          · cases h.2
        obtain ⟨i, j, x, px, y, py, a, b, rfl, rfl, rfl, k1, k3, k4, k5⟩ := key
        exact snds1_par e o k1 k3 k4 k5
      · have hv' : isTupE v = false := by simpa using hv
        have key : chkT q t (.Tuple ts kt pt) = true ∧ chkE c.T q e v = true := by
          unfold chkS at h
          split at h <;> simp_all
        exact snds1_asgT e o hv' key.1 key.2
  · simp [chkS] at h

/-! ### o[i] = e -/
def rSet (g : G) (lo : Nat) (lk : List Nat) (cx : Mx.Ctx) : TSet := fun ov iv vv H Q => ∃ φ st x y v st', Rep g φ st H ∧ RV g H φ x ov ∧ RV g H φ y iv ∧ RV g H φ v vv ∧ Mx.setV cx lk st x y v = some st' ∧ ∀ H', Ext g lo lk φ H φ H' → Rep g φ st' H' → Q H'
theorem canW_ok {cx : Mx.Ctx} {lk : List Nat} {n : Nat} (h : Mx.canW cx lk n = true) : ¬ (n < cx.lo ∨ n ∈ lk) := by
  simp only [Mx.canW, Bool.and_eq_true, decide_eq_true_eq, Bool.not_eq_true'] at h
  rintro (z | z)
  · exact absurd h.1 (Nat.not_le.mpr z)
  · have : lk.contains n = true := List.contains_iff_mem.mpr z
    rw [this] at h; cases h.2
theorem set_any {g : G} (ok : GOk g) {lk : List Nat} {cx : Mx.Ctx} {X : Cx} (hK : X.K = g.K) (hw : X.w = g.w) (hu : X.A.units + 65 < cLine) : PSet X (rSet g cx.lo lk cx) := by
  intro pins s σ H ov iv vv ov' iv' u Q I ro ri rv h
  obtain ⟨φ, st, x, y, v, st', rep, rx, ry, rv', hset, q⟩ := h
  cases rx <;> try (cases hset; done)
  rename_i n a hn
  simp only [Mx.setV] at hset
  cases ho : st[n]? with
  | none => rw [ho] at hset; cases hset
  | some ob =>
    rw [ho] at hset
    cases ob with
    | frz l => cases hset
    | ins k fs => cases hset
    | lst l =>
      simp only at hset
      cases ry <;> try (cases hset; done)
      rename_i k
      simp only at hset
      cases hj : Mx.ixN l.length k with
      | none => rw [hj] at hset; cases hset
      | some j =>
        rw [hj] at hset
        simp only at hset
        by_cases hc : Mx.canW cx lk n = true
        · rw [if_pos hc] at hset
          cases hset
          obtain ⟨ys, hy, rvs⟩ := rep.lst ho hn
          have hwr : Wr H a := .inl ⟨_, hy⟩
          refine set_list pins s σ H _ _ _ ov' iv' u Q I ro ri rv ⟨a, ys, k, j, rfl, rfl, hy, by rw [← rvs.length]; exact (ixN_same _ _).symm.trans hj, ?_⟩
          exact q _ (Ext.write ok hwr hn (canW_ok hc)) (Rep.write ok rep hwr hn ⟨_, upd_same, (rvs.set rv' j).at_upd ok hwr hn⟩)
        · rw [if_neg hc] at hset
          cases hset
    | dct dd => cases hset
theorem evS_setSub {cx : Mx.Ctx} {a i e : E} {lk : List Nat} : Mx.evS cx (.setSub a i e) lk = fun env st => (Mx.evE cx e lk env st).sr fun v st => ((Mx.evE cx a lk env st).bind fun x st => (Mx.evE cx i lk env st).bind fun y st => (match Mx.setV cx lk st x y v with
      | some st => Res.ok Val.none st
      | none => .bad)).sr fun _ st => .next env st := by
  funext env st
  simp only [Mx.evS] <;> rfl
theorem PostS.sr {g : G} {lo : Nat} {lk : List Nat} {W : Nat → Hp → Prop} {φ : List Addr} {H : Hp} {r : Res Val} {k : Val → Store → SR} {D : Ends} (h : PostS g lo lk W φ H (r.sr k) D) :
    Post g lo lk W φ H r (fun x H1 => ∃ φ1 st1 v, Ext g lo lk φ H φ1 H1 ∧ Rep g φ1 st1 H1 ∧ RV g H1 φ1 v x ∧ PostS g lo lk W φ1 H1 (k v st1) D) := by
  cases r with
  | ok v st => exact fun φ1 H1 x e1 r1 v1 => ⟨φ1, st, v, e1, r1, v1, PostS.base h fun _ _ z => e1.trans z⟩
  | exc c st => exact h
  | bad => exact h
theorem snds1_setSub (a i e : E) : SndS1 c (.setSub a i e) := by
  intro d q W X lo lk s o h
  cases s <;> first | (cases h; done) | skip
  rename_i tgs v pos
  match tgs, h with
  | [.Subscript x y p], h =>
    simp only [chkS, Bool.and_eq_true] at h
    obtain ⟨⟨⟨⟨⟨⟨_, h0⟩, h1⟩, h2⟩, h3⟩, h4⟩, h5⟩ := h
    have pg := pg_sub (pos := p) (all7 a |>.e d q W X lo lk x o h3).1 (all7 i |>.e d q W X lo lk y o h4).1 (set_any (cx := c.cx d lo) (lk := lk) o.gx.ok o.gx.hK o.gx.hw o.units) (fun _ => by cases y <;> first | (cases h2; done) | rfl)
    refine PS.imp (ps_asg (all7 e |>.e d q W X lo lk v o h5).1 pg (by unfold swapsWithSole; exact swaps_no h0 _ _ _) rfl rfl) fun D σ H z => ?_
    obtain ⟨φ, st, env, re, rp, p0⟩ := z
    rw [evS_setSub] at p0
    refine ⟨φ, st, env, re, rp, (PostS.sr p0).imp fun vv H1 z => ?_⟩
    obtain ⟨φ1, st1, v1, e1, r1, rv1, p1⟩ := z
    have re1 := re.mono e1
    cases hk : Mx.evE (c.cx d lo) a lk env st1 with
    | bad => simp only [hk, Res.bind, Mx.Res.sr] at p1; exact p1.elim
    | exc j s2 => 
      refine ⟨φ1, st1, env, re1, r1, ?_⟩
      rw [hk]
      simp only [hk, Res.bind, Mx.Res.sr] at p1
      exact p1
    | ok xv s2 =>
      simp only [hk, Res.bind] at p1
      refine ⟨φ1, st1, env, re1, r1, ?_⟩
      rw [hk]
      intro φ2 H2 xo e2 r2 rvx
      cases hk2 : Mx.evE (c.cx d lo) i lk env s2 with
      | bad => simp only [hk2, Mx.Res.sr] at p1; exact p1.elim
      | exc j s3 =>
        refine ⟨φ2, s2, env, re1.mono e2, r2, ?_⟩
        rw [hk2]
        simp only [hk2, Mx.Res.sr] at p1
        exact fun φ' H' e' r' => p1 φ' H' (e2.trans e') r'
      | ok yv s3 =>
        refine ⟨φ2, s2, env, re1.mono e2, r2, ?_⟩
        rw [hk2]
        intro φ3 H3 yo e3 r3 rvy
        simp only [hk2] at p1
        cases hs : Mx.setV (c.cx d lo) lk s3 xv yv v1 with
        | none => simp only [hs, Mx.Res.sr] at p1; exact p1.elim
        | some s4 =>
          simp only [hs, Mx.Res.sr] at p1
          refine ⟨φ3, s3, xv, yv, v1, s4, r3, rvx.mono e3, rvy, (rv1.mono e2).mono e3, hs, fun H' e' r' => ?_⟩
          exact p1 φ3 H' σ ((e2.trans e3).trans e') r' (((re1.mono e2).mono e3).mono e')
end Sd
end

section
set_option Elab.async false
set_option linter.all false
set_option maxRecDepth 100000
set_option maxHeartbeats 4000000
set_option autoImplicit false
namespace Sd
open PySem PySem.Spec PyProof.Rows L2
open Mx (Val Res SR Op Cmp Ty Tg E S Store)
variable {c : Cfg}

/-! ### for -/
theorem evS_for {cx : Mx.Ctx} {t : Tg} {src : E} {body : S} {lk : List Nat} {env : Mx.Env} {st : Store} : Mx.evS cx (.for_ t src body) lk env st = (match Mx.evR cx src lk env st with
    | .ok p st => Mx.loopF (fun x env st => Mx.asg cx (p.2 ++ lk) t x env st) (fun env st => Mx.evS cx body (p.2 ++ lk) env st) p.1 env st
    | .exc c st => .exc c st
    | .bad => .bad) := by
  simp only [Mx.evS] <;> cases Mx.evR cx src lk env st <;> rfl
def bC (g : G) (lo : Nat) (W : Nat → Hp → Prop) (cx : Mx.Ctx) (m : S) : TS := fun D σ H => ∃ lk', TSv g lo lk' W (Mx.evS cx m lk') D σ H
theorem for_imp {g : G} (ok : GOk g) {lo : Nat} {lk : List Nat} {W : Nat → Hp → Prop} {cx : Mx.Ctx} {t : Tg} {src : E} {body : S} (hn : tgN t = true) {D : Ends} {σ : L2.St} {H : Hp}
    (z : TSv g lo lk W (Mx.evS cx (.for_ t src body) lk) D σ H) : tFor (TIv g lo lk W (Mx.evR cx src lk)) (gC g cx t) (bC g lo W cx body) D σ H := by
  obtain ⟨φ, st, env, re, rp, p⟩ := z
  refine ⟨φ, st, env, re, rp, ?_⟩
  rw [evS_for] at p
  cases hs : Mx.evR cx src lk env st with
  | bad => rw [hs] at p; exact p
  | exc k s2 => rw [hs] at p; exact p
  | ok pr st1 =>
    rw [hs] at p
    simp only at p
    intro φ1 H1 J e1 r1 w1
    let Iv : Nat → Nat → L2.St → Hp → Prop := fun i m σ' H' => m = pr.1.length - i ∧ i ≤ pr.1.length ∧ ∃ φ' st' env', Ext g lo (pr.2 ++ lk) φ1 H1 φ' H' ∧ Rep g φ' st' H' ∧ REnv g H' φ' env' σ' ∧
      PostS g lo (pr.2 ++ lk) W φ' H' (Mx.loopF (fun x env st => Mx.asg cx (pr.2 ++ lk) t x env st) (fun env st => Mx.evS cx body (pr.2 ++ lk) env st) (pr.1.drop i) env' st') D
    refine ⟨Iv, ⟨pr.1.length, by simp, Nat.zero_le _, φ1, st1, env, Ext.refl, r1, re.mono e1, PostS.base p fun φ2 H2 w => e1.trans (w.weak fun n hn => hn.imp id (List.mem_append_right _))⟩, ?_⟩
    rintro i m σ' H' ⟨rfl, hi, φ', st', env', e', r', re', hp⟩
    by_cases hlt : i < pr.1.length
    · refine .inr ⟨w1.go φ' H' i e' hlt, Iv (i + 1) (pr.1.length - (i + 1)), fun σ2 H2 q => ⟨pr.1.length - (i + 1), by omega, q⟩, fun x H3 y => ?_⟩
      obtain ⟨v, hv, rv, hlay⟩ := w1.yld φ' H' i x H3 e' hlt y
      have hdrop : pr.1.drop i = v :: pr.1.drop (i + 1) := by
        have hg := List.drop_eq_getElem_cons hlt
        rw [hg]
        rw [List.getElem?_eq_getElem hlt] at hv
        cases hv
        rfl
      rw [hdrop] at hp
      simp only [Mx.loopF] at hp
      have e3 : Ext g lo (pr.2 ++ lk) φ' H' φ' H3 := by
        rcases hlay with rfl | ⟨T, ob, hT, rfl⟩
        · exact Ext.refl
        · exact Ext.tmp ok hT
      have r3 : Rep g φ' st' H3 := by
        rcases hlay with rfl | ⟨T, ob, hT, rfl⟩
        · exact r'
        · exact r'.tmp ok hT
      cases ha : Mx.asg cx (pr.2 ++ lk) t v env' st' with
      | none => rw [ha] at hp; exact hp.elim
      | some q =>
        obtain ⟨env2, st2⟩ := q
        have := asg_st hn ha
        subst this
        rw [ha] at hp
        simp only at hp
        refine ⟨pr.2 ++ lk, φ', _, env', v, env2, re'.mono e3, r3, rv, ha, fun σ2 re2 _ => ?_⟩
        refine ⟨pr.2 ++ lk, φ', _, env2, re2, r3, ?_⟩
        have next : ∀ {e5 : Mx.Env} {s5 : Store}, PostS g lo (pr.2 ++ lk) W φ' H' (Mx.loopF (fun x env st => Mx.asg cx (pr.2 ++ lk) t x env st) (fun env st => Mx.evS cx body (pr.2 ++ lk) env st) (pr.1.drop (i + 1)) e5 s5) D →
            ∀ φ5 H5 σ5, Ext g lo (pr.2 ++ lk) φ' H3 φ5 H5 → Rep g φ5 s5 H5 → REnv g H5 φ5 e5 σ5 → Iv (i + 1) (pr.1.length - (i + 1)) σ5 H5 := fun hh φ5 H5 σ5 e5 r5 re5 =>
          ⟨rfl, hlt, φ5, _, _, (e'.trans e3).trans e5, r5, re5, PostS.base hh fun _ _ w => (e3.trans e5).trans w⟩
        cases hb : Mx.evS cx body (pr.2 ++ lk) env2 st2 with
        | bad => rw [hb] at hp; exact hp
        | exc k s5 => rw [hb] at hp; exact fun φ5 H5 e5 r5 => hp φ5 H5 (e3.trans e5) r5
        | ret u s5 => rw [hb] at hp; exact fun φ5 H5 x e5 r5 rv5 => hp φ5 H5 x (e3.trans e5) r5 rv5
        | next e5 s5 => rw [hb] at hp; exact next hp
        | cont e5 s5 => rw [hb] at hp; exact next hp
    · have hie : i = pr.1.length := by omega
      subst hie
      rw [List.drop_length] at hp
      simp only [Mx.loopF] at hp
      exact .inl ⟨w1.stop φ' H' e', hp φ' H' σ' Ext.refl r' re'⟩
theorem snds1_for {body : S} (t : Tg) (src : E) (hb : SndS c body) : SndS1 c (.for_ t src body) := by
  intro d q W X lo lk s o h
  cases s <;> first | (cases h; done) | skip
  rename_i tg it b orelse pos
  cases orelse with
  | cons _ _ => cases h
  | nil =>
    simp only [chkS, Bool.and_eq_true] at h
    obtain ⟨⟨⟨⟨⟨h1, h2⟩, h3⟩, h4⟩, h5⟩, h6⟩ := h
    exact PS.imp (ps_for o.pass o.calm (all7 src |>.r d q W X lo lk it tg o h5 h3) (PG.ex fun lk' => (sndG o (c.cx d lo) lk' t).1 tg h4) (PSs.ex fun lk' => hb d q W X lo lk' b o h6) (fun x => plain_fold h1 _ x)) fun D σ H z => for_imp o.gx.ok (chkT_n h4) z

/-! ### while -/
theorem evS_while {cx : Mx.Ctx} {k : E} {body : S} {lk : List Nat} {env : Mx.Env} {st : Store} : Mx.evS cx (.while_ k body) lk env st = Mx.loopW (fun env st => Mx.evE cx k lk env st) (fun env st => Mx.evS cx body lk env st) cx.wf env st := by
  simp only [Mx.evS]
theorem while_imp {g : G} {lo : Nat} {lk : List Nat} {W : Nat → Hp → Prop} {cx : Mx.Ctx} {k : E} {body : S} {D : Ends} {σ : L2.St} {H : Hp}
    (z : TSv g lo lk W (Mx.evS cx (.while_ k body) lk) D σ H) : tWhile (TTv g lo lk W (Mx.evE cx k lk)) (TSv g lo lk W (Mx.evS cx body lk)) D σ H := by
  obtain ⟨φ, st, env, re, rp, p⟩ := z
  rw [evS_while] at p
  refine ⟨fun m σ' H' => ∃ φ' st' env', Rep g φ' st' H' ∧ REnv g H' φ' env' σ' ∧ PostS g lo lk W φ' H' (Mx.loopW (fun env st => Mx.evE cx k lk env st) (fun env st => Mx.evS cx body lk env st) m env' st') D, ⟨_, φ, st, env, rp, re, p⟩, ?_⟩
  rintro m σ' H' ⟨φ', st', env', r', re', hp⟩
  cases m with
  | zero => exact hp.elim
  | succ m =>
    simp only [Mx.loopW] at hp
    refine ⟨φ', st', env', re', r', ?_⟩
    cases hk : Mx.evE cx k lk env' st' with
    | bad => rw [hk] at hp; exact hp
    | exc j s2 => rw [hk] at hp; exact hp
    | ok v s2 =>
      rw [hk] at hp
      intro φ2 H2 x e2 r2 rv
      cases rv <;> try exact False.elim hp
      rename_i b
      refine ⟨b, rfl, ?_⟩
      cases b with
      | false =>
        simp only [Bool.false_eq_true, if_false]
        exact hp φ2 H2 σ' e2 r2 (re'.mono e2)
      | true =>
        simp only [if_true]
        simp only at hp
        refine ⟨fun σ3 H3 => ∃ φ3 st3 env3, Rep g φ3 st3 H3 ∧ REnv g H3 φ3 env3 σ3 ∧ PostS g lo lk W φ3 H3 (Mx.loopW (fun env st => Mx.evE cx k lk env st) (fun env st => Mx.evS cx body lk env st) m env3 st3) D, fun σ3 H3 q => ⟨m, Nat.lt_succ_self m, q⟩, ?_⟩
        refine ⟨φ2, s2, env', re'.mono e2, r2, ?_⟩
        cases hb : Mx.evS cx body lk env' s2 with
        | bad => rw [hb] at hp; exact hp
        | exc j s5 => rw [hb] at hp; exact fun φ5 H5 e5 r5 => hp φ5 H5 (e2.trans e5) r5
        | ret u s5 => rw [hb] at hp; exact fun φ5 H5 x e5 r5 rv5 => hp φ5 H5 x (e2.trans e5) r5 rv5
        | next e5 s5 => rw [hb] at hp; exact fun φ5 H5 σ5 e6 r5 re5 => ⟨φ5, s5, e5, r5, re5, PostS.base hp fun _ _ w => (e2.trans e6).trans w⟩
        | cont e5 s5 => rw [hb] at hp; exact fun φ5 H5 σ5 e6 r5 re5 => ⟨φ5, s5, e5, r5, re5, PostS.base hp fun _ _ w => (e2.trans e6).trans w⟩
theorem snds1_while {body : S} (k : E) (hb : SndS c body) : SndS1 c (.while_ k body) := by
  intro d q W X lo lk s o h
  cases s <;> first | (cases h; done) | skip
  rename_i x b orelse pos
  cases orelse with
  | cons _ _ => cases h
  | nil =>
    simp only [chkS, Bool.and_eq_true] at h
    obtain ⟨⟨_, h1⟩, h2⟩ := h
    exact PS.imp (ps_while o.pass (all7 k |>.t d q W X lo lk x o h1).1 (hb d q W X lo lk b o h2)) fun D σ H z => while_imp z

end Sd
end

section
set_option Elab.async false
set_option linter.all false
set_option maxRecDepth 100000
set_option maxHeartbeats 2000000
set_option autoImplicit false
namespace Sd
open PySem PySem.Spec PyProof.Rows L2
open Mx (Val Res SR Op Cmp Ty Tg E S Store)
variable {c : Cfg}

/-! ### try: r = f(..) / except x as n: m = n, where the caught one is looked at behind the clause.
The library's own rules for `except .. as` let go of the caught object; here it is tracked from then on (ExK). -/
theorem exK_ok {P : Program} {w : World} {H : Hp} {h : Heap} {a : Addr} {cls : Value} {oe : Obj} {vs : Array Value} (g : h.get? a = some oe) (z : Zc cls none oe) (d : oe.data = .fields vs) : ObjOk P w H h a (ExK cls a) :=
  ⟨⟨oe, vs, g, z, d⟩, ⟨oe, g⟩, fun _ _ ⟨oe', vs', q1, q2, q3⟩ k => ⟨oe', vs', k _ q1, q2, q3⟩⟩
/-- what lay untracked is tracked from now on -/
theorem Inv.track {X : Cx} {pins : List (Addr × Obj)} {σ : L2.St} {H : Hp} {s : Shared} {a : Addr} {o : HO} (I : Inv X pins σ H s) (hn : H a = none) (h0 : X.s_0.heap.get? a = none) (hL : a ≠ X.env.locals) (hC : ∀ x k, X.env.cells.lookup x = some k → k ≠ a) (hp : ∀ p ∈ X.pn ++ pins, p.1 ≠ a)
    (new : ObjOk X.prog X.w (upd H a o) s.heap a o) : Inv X pins σ (upd H a o) s := by
  have off : ∀ {b : Addr} {u : HO}, H b = some u → upd H a o b = some u := fun e => by rw [upd_ne (ne_of_none e hn)]; exact e
  have none_ : ∀ {b : Addr}, b ≠ a → H b = none → upd H a o b = none := fun n e => by rw [upd_ne n]; exact e
  exact {
    ok := I.ok, os := I.os, bare := I.bare, loc := I.loc, cell := I.cell, len := I.len
    base := ⟨I.base.keep, I.base.slot, fun b ob e n x => none_ (fun z => by rw [z, h0] at e; cases e) (I.base.free b ob e n x), I.base.there, fun b xs e => off (I.base.tups b xs e), fun b ob u e => off (I.base.frzs b ob u e), fun b ps e => (I.base.tbls b ps e).imp fun _ q => off q⟩
    free := none_ (Ne.symm hL) I.free
    freeC := fun x k e => none_ (hC x k e) (I.freeC x k e)
    pin := fun p q => ⟨(I.pin p q).1, none_ (hp p q) (I.pin p q).2.1, (I.pin p q).2.2⟩
    hok := fun b u e => by
      by_cases z : b = a
      · subst z
        rw [upd_same] at e
        cases e
        exact new
      · rw [upd_ne z] at e
        exact (I.hok b u e).stay (fun _ _ _ q => q) (fun _ q => off q) fun _ _ q => off q }
/-- a caught exception that lies at a, its class cls; sI is the state without it -/
structure Cau (X : Cx) (pins : List (Addr × Obj)) (σ : L2.St) (H : Hp) (a : Addr) (cls : Value) (B : Heap) (sI s : Shared) : Prop where
  inv0 : Inv X pins σ H sI
  nb : ∀ b o, sI.heap.get? b = some o → b ∉ frs X.stack → B.get? b = some o
  up : sI.heap.UpToSlots s.heap
  fly : HandSPX.FlyingZ B (X.env :: X.outer) a (Zc cls none) s.heap
  free : H a = none
  os : s.os = sI.os
  ag : AllBare s.gens
section
variable {X : Cx} {pins : List (Addr × Obj)} {σ : L2.St} {H : Hp} {a : Addr} {cls : Value} {B : Heap} {sI s : Shared}
theorem Cau.inv (c : Cau X pins σ H a cls B sI s) : Inv X pins σ H s := c.inv0.landed c.nb c.fly.1 c.up c.os c.ag
/-- the object itself, and that it is none of the frames -/
theorem Cau.obj (c : Cau X pins σ H a cls B sI s) (hf : X.env.frame = some X.env.locals) : ∃ oe vs, s.heap.get? a = some oe ∧ Zc cls none oe ∧ oe.data = .fields vs ∧ a ∉ frs (X.env :: X.outer) ∧ a ≠ X.env.locals ∧ a ∉ X.fs := by
  obtain ⟨oe, vs, g, z, d⟩ := c.fly.there
  have out : a ∉ frs (X.env :: X.outer) := fun m => by
    obtain ⟨_, o2, g2, no⟩ := c.fly.2.2.1.mem m
    cases g.symm.trans g2
    exact no vs d
  refine ⟨oe, vs, g, z, d, out, fun e => out ?_, fun m => out ?_⟩
  · exact List.mem_filterMap.mpr ⟨_, List.mem_cons_self, by rw [hf, e]⟩
  · obtain ⟨v, m1, m2⟩ := List.mem_filterMap.mp m
    exact List.mem_filterMap.mpr ⟨v, List.mem_cons_of_mem _ m1, m2⟩
/-- it is newer than all that stood before -/
theorem Cau.new (c : Cau X pins σ H a cls B sI s) (hf : X.env.frame = some X.env.locals) (hs : X.stack = X.env :: X.outer) (hex : X.ex = []) : X.s_0.heap.get? a = none ∧ ∀ p ∈ X.pn ++ pins, p.1 ≠ a := by
  obtain ⟨_, _, _, _, _, out, _, _⟩ := c.obj hf
  have none_ : sI.heap.get? a = none := by
    match e : sI.heap.get? a with
    | none => rfl
    | some o =>
      have := c.nb a o e (hs ▸ out)
      rw [c.fly.2.1] at this
      cases this
  refine ⟨?_, fun p hp e => ?_⟩
  · match e : X.s_0.heap.get? a with
    | none => rfl
    | some o =>
      obtain ⟨_, q⟩ := c.inv0.base.there a o e (by simp [hex])
      rw [none_] at q
      cases q
  · have q := (c.inv0.pin p hp).1
    rw [e, none_] at q
    cases q
/-- the clause's class takes it -/
theorem Cau.test (c : Cau X pins σ H a cls B sI s) (hf : X.env.frame = some X.env.locals) {x : Str} {np pos : Pos} {cv : Value} {R : Except Value Flow → Shared → Prop} (hg : Gl X x) (hdb : (x == ("__debug__" : Str)) = false) (hm : X.mg x = some cv) (hb : PySem.W.exmOne X.K cls cv = some true) (h : R (.ok .brk) s) :
    codeAny (model X.prog X.w) (X.A.mark (some (.ref a))) (.handlers (.ref a) [.ExceptHandler (some (.Name x np)) none [] pos] X.env) R s := by
  obtain ⟨oe, vs, g, z, d, _, nL, nF⟩ := c.obj hf
  have S := c.inv.suite g d c.free nL nF
  have kind : PySem.W.Looks (model X.prog X.w) s.heap (typeOf (.ref a)) cls := fun _ _ _ _ k q => wpAny_typeOf_ref (k _ _ g) (z.1.symm ▸ q)
  exact codeAny_handlers_test (ld_glob S hg hm ((PySem.W.exm_one c.inv.kIn kind hb).here h) hdb)
/-- the clause's suite m = n, then n goes; the caught one is tracked -/
theorem Cau.take (c : Cau X pins σ H a cls B sI s) (hf : X.env.frame = some X.env.locals) (hs : X.stack = X.env :: X.outer) (hex : X.ex = []) (hN : X.N.Nodup) {n m : Str} {ie ic : Nat} {pm pn ps pos : Pos} {Q : Flow → Shared → Prop} {E : Value → Shared → Prop}
    (hie : X.N[ie]? = some n) (hln : X.env.kindOf n = some .local) (hdn : (n == ("__debug__" : Str)) = false) (hcn : (n == ("__classdict__" : Str)) = false) (hic : X.N[ic]? = some m) (hlm : Loc X.env.scope m) (hfm : X.fn m = true ∨ X.env.scope.names.lookup m = some .local) (hle : ie < σ.length)
    (h : ∀ s', Inv X pins (((σ.set ie (some (.ref a))).set ic (some (.ref a))).set ie none) (upd H a (ExK cls a)) s' → Q .next s') :
    codeAny (model X.prog X.w) (X.A.mark (some (.ref a))) (.handlers (.ref a) [.ExceptHandler none (some n) [.Assign [.Name m pm] (.Name n pn) ps] pos] X.env)
      (fun r s2 => match r with
        | .ok f => wpAny (model X.prog X.w) X.A (do bindName X.env n .none; unbindBehindTheSuite X.env n pos) (fun _ s3 => Q f s3) E s2
        | .error x => cameBackBy (model X.prog X.w) X.A X.env E x s2) s := by
  refine codeAny_handlers_suite_as (HandSPX.lands_againZ c.fly fun h4 fly4 up4 => ?_)
  have c4 : Cau X pins σ H a cls B sI { s with heap := h4 } := ⟨c.inv0, c.nb, c.up.trans up4, fly4, c.free, c.os, c.ag⟩
  obtain ⟨oe, vs, g, z, d, _, nL, nF⟩ := c4.obj hf
  obtain ⟨new1, new2⟩ := c4.new hf hs hex
  have S := c4.inv.suite g d c4.free nL nF
  refine store_ok (X := X.suite a ((a, oe) :: (X.pn ++ pins))) (v := V.ref a) S hN hie (.inl hln) rfl (fun s5 S5 => ?_) (.inr hln)
  have step : PSs (X.suite a ((a, oe) :: (X.pn ++ pins))) [.Assign [.Name m pm] (.Name n pn) ps] (tAsg (tVar ie) (gName ic)) := pss_one (ps_set hN hic hlm (pe_var hie (.inl hln) hdn hcn) rfl hfm)
  have here : (σ.set ie (some (V.ref a)))[ie]? = some (some (.ref a)) := by rw [List.getElem?_set, if_pos rfl, if_pos hle]
  have run := step.run [] s5 _ H { nx := fun σ' H' => σ' = (σ.set ie (some (.ref a))).set ic (some (.ref a)) ∧ H' = H, rt := fun _ _ => False } S5 ⟨_, here, rfl, rfl⟩
  refine wpAny_mono run (fun f s6 hsp => ?_) (fun _ _ no => no.elim)
  match f, hsp with
  | .next, ⟨_, _, S6, rfl, rfl⟩ =>
    refine gone_ok (X := X.suite a ((a, oe) :: (X.pn ++ pins))) S6 hN hie hln fun s7 S7 => h s7 ?_
    obtain ⟨g7, _⟩ := S7.pin (a, oe) (by simp)
    have J : Inv X pins _ H s7 := S7.unsuite c.inv.ok
    refine Inv.track J c.free new1 nL (fun y k e ek => ?_) new2 (exK_ok g7 z d)
    obtain ⟨v, ob, hob, hcell⟩ := J.cell y k e
    rw [ek, g7] at hob
    cases hob
    rw [d] at hcell
    cases hcell
  | .brk, ⟨_, _, _, no⟩ => exact no.elim
  | .cont, ⟨_, _, _, no⟩ => exact no.elim
  | .ret _, ⟨_, _, _, _, _, no⟩ => exact no.elim
end
/-- what an exception must be, so that the clause takes it -/
def wKeep (K : PySem.W.Frag) (cv : Value) (ie ic : Nat) (D : Ends) : WX := fun cls d σ H => d = none ∧ ie < σ.length ∧ PySem.W.exmOne K cls cv = some true ∧ ∀ a, H a = none → D.nx (((σ.set ie (some (.ref a))).set ic (some (.ref a))).set ie none) (upd H a (ExK cls a))
theorem ps_tryKeep {X : Cx} {x n m : Str} {cv : Value} {ie ic : Nat} {body : List Stmt} {np pm pn ps pos pos' : Pos} {tb : WX → TS} (hf : X.env.frame = some X.env.locals) (hs : X.stack = X.env :: X.outer) (hex : X.ex = []) (hN : X.N.Nodup)
    (hg : Gl X x) (hdb : (x == ("__debug__" : Str)) = false) (hm : X.mg x = some cv) (hie : X.N[ie]? = some n) (hln : X.env.kindOf n = some .local) (hdn : (n == ("__debug__" : Str)) = false) (hcn : (n == ("__classdict__" : Str)) = false)
    (hic : X.N[ic]? = some m) (hlm : Loc X.env.scope m) (hfm : X.fn m = true ∨ X.env.scope.names.lookup m = some .local)
    (hb : ∀ (W : WX) (pn : List (Addr × Obj)) (xe : Value → Shared → Prop), Takes (X.tr pn xe) W → PassesOwn (model X.prog X.w) X.A X.env xe → PSs (X.tr pn xe) body (tb W)) :
    PS X (.Try body [.ExceptHandler (some (.Name x np)) (some n) [.Assign [.Name m pm] (.Name n pn) ps] pos'] [] [] pos) (fun D σ H => tb (wKeep X.K cv ie ic D) { nx := D.nx, rt := fun _ _ => False } σ H) where
  run := fun pins s σ H D I h => by
    refine wpAny_Try_except ?_
    have catch_ : Takes (X.tr (X.pn ++ pins) (fun e s1 => wpAny (model X.prog X.w) X.A (noteFrame e X.env) (fun _ s2 => wpAny (model X.prog X.w) X.A (setFlight e none) (fun _ s3 =>
        wpAny (model X.prog X.w) X.A (handleBy e X.env [.ExceptHandler (some (.Name x np)) (some n) [.Assign [.Name m pm] (.Name n pn) ps] pos']) (SP X pins D) X.xe s3) X.xe s2) X.xe s1)) (wKeep X.K cv ie ic D) := by
      rintro u s' ⟨a, B, sI, pins', σ', H', cls, d, rfl, J, nb, up, sky, na, os, ag, rfl, hle, hx, hD⟩
      have sky' : Sky B (X.env :: X.outer) a (Zc cls none) X.env.locals s'.heap := hs ▸ sky
      refine Sky.land Zc.steady (I.ok.frames.trans (congrArg some hs)) hf sky' fun h3 fly up3 => ?_
      have c : Cau X pins σ' H' a cls B sI { s' with heap := h3 } := ⟨J.ofTry I.ok, nb, up.trans up3, fly, na, os, ag⟩
      refine wpAny_handleBy_cons (c.test hf hg hdb hm hx ?_) (fun z => by cases z)
      exact c.take hf hs hex hN hie hln hdn hcn hic hlm hfm hle fun s7 I7 => ⟨_, _, I7, hD a na⟩
    refine wpAny_mono ((hb _ _ _ catch_ PassesOwn.looking).run [] s σ H _ (I.toTry _) h) (fun f s1 hsp => ?_) (fun _ _ z => z)
    match f, hsp with
    | .next, ⟨σ1, H1, J, q⟩ => exact wpAny_execs_nil ⟨σ1, H1, J.ofTry I.ok, q⟩
    | .brk, ⟨_, _, _, no⟩ => exact no.elim
    | .cont, ⟨_, _, _, no⟩ => exact no.elim
    | .ret _, ⟨_, _, _, _, _, no⟩ => exact no.elim
end Sd
end

section
set_option Elab.async false
set_option linter.all false
set_option maxRecDepth 100000
set_option maxHeartbeats 4000000
set_option autoImplicit false
namespace Sd
open PySem PySem.Spec PyProof.Rows L2
open Mx (Val Res SR Op Cmp Ty Tg E S Store)
variable {c : Cfg}

theorem okX_tr {d : Nat} {q : Sc} {W : Nat → Hp → Prop} {X : Cx} (o : OkX c d q W X) {pn : List (Addr × Obj)} {xe : Value → Shared → Prop} (hp : PassesOwn (model X.prog X.w) X.A X.env xe) : OkX c d q WF (X.tr pn xe) := by
  refine ⟨⟨o.gx.hK, o.gx.hw, o.gx.ok, o.gx.bn, o.gx.gl, o.gx.fn, o.gx.fns, fun k x h => ?_, o.gx.xi, o.gx.xl⟩, o.calm, o.N, o.nd, o.sc, o.fnb, o.room, hp, ?_, o.top⟩
  · obtain ⟨h1, h2, h3, h4⟩ := o.gx.xc k x h
    exact ⟨h1, h2, h3, h4⟩
  · intro u s' h
    obtain ⟨a, B, sI, pins, σ, H, cls, dd, e, I, nb, up, sky, na, os, ag, x, _, _, w⟩ := h
    exact w.elim
theorem snds1_tryAs (f : Nat) (es : E) (ir ie ic : Nat) : SndS1 c (.tryAs f es ir ie ic) := by
  intro d q W X lo lk s o h
  unfold chkS at h
  split at h <;> first | (cases h; done) | skip
  all_goals (rename_i e1 e2; first | (cases e1; done) | skip)
  cases e1
  cases e2
  rename_i r pr fx pf args pc pa x px n m pm n' pn ps ph pt
  simp only [Bool.and_eq_true, decide_eq_true_eq, Bool.not_eq_true'] at h
  obtain ⟨⟨⟨⟨⟨⟨⟨⟨⟨⟨⟨⟨⟨⟨⟨⟨ht, rfl⟩, hg⟩, hn⟩, hf⟩, hgf⟩, hnf⟩, ha⟩, _⟩, hne⟩, hr⟩, hi⟩, hil⟩, rfl⟩, hnn⟩, hm⟩, hij⟩ := h
  obtain ⟨hst, hfr, hex⟩ := o.top ht
  obtain ⟨n1, n2, _⟩ := okN_ok hn
  obtain ⟨f1, f2, _⟩ := okN_ok hnf
  obtain ⟨v1, v2, _⟩ := okN_ok hnn
  simp only [chkT, Bool.and_eq_true, decide_eq_true_eq, Bool.or_eq_true] at hr hm
  obtain ⟨⟨r1, r2⟩, r3⟩ := hr
  obtain ⟨⟨m1, m2⟩, m3⟩ := hm
  have hnd : X.N.Nodup := by rw [o.N]; exact o.nd
  obtain ⟨g1, g2⟩ := o.gx.fn f fx hf
  obtain ⟨fdat, pps, F, B⟩ := o.gx.fns f (List.getElem?_eq_some_iff.mp hf).1
  have hroom : Room (lev d) X.A := o.room.mono (Nat.le_succ _)
  cases args with
  | nil => cases hne
  | cons y ys =>
  have hpl := chkA_plain ha
  rw [List.all_cons, Bool.and_eq_true] at hpl
  have hloc : X.env.kindOf n' = some .local := by
    show X.env.scope.names.lookup n' = _
    rw [o.sc]; exact hil
  have hlm : X.fn m = true ∨ X.env.scope.names.lookup m = some .local := by
    rcases m3 with m3 | m3
    · exact .inl (by rw [o.fnb]; exact m3)
    · exact .inr (by rw [o.sc]; exact m3)
  refine PS.imp (ps_tryKeep (cv := .ref c.g.xl) (ie := ie) (ic := ic) (tb := fun W' => tAsg (tCallS (spF c d f) (WE W') (TAv c.g lo lk WF (Mx.evE (c.cx d lo) es lk))) (gName ir)) hfr hst hex hnd
    (glB_ok (by rw [o.sc]; exact hg)) n1 o.gx.xl (by rw [o.N]; exact hi) hloc v1 v2 (by rw [o.N]; exact m1) (by rw [o.sc]; exact locB_ok m2) hlm (fun W' pn' xe tk hp => ?_)) fun D σ H z => ?_
  · refine pss_one (ps_set hnd (by rw [o.N]; exact r1) (by rw [o.sc]; exact locB_ok r2) (pe_callS F hroom (glB_ok (by rw [o.sc]; exact hgf)) g1 g2 B (passAt tk) (all7 es |>.a d q WF _ lo lk (y :: ys) (okX_tr o hp) ha) f1 (star_cons hpl.1) (star_any hpl.2)) (by rfl) ?_)
    rcases r3 with r3 | r3
    · exact .inl (by rw [show (X.tr pn' xe).fn = X.fn from rfl, o.fnb]; exact r3)
    · exact .inr (by rw [show (X.tr pn' xe).env = X.env from rfl, o.sc]; exact r3)
  · obtain ⟨φ, st, env, re, rp, p⟩ := z
    show tAsg _ _ _ _ _
    refine ⟨φ, st, env, re, rp, ?_⟩
    simp only [Mx.evS] at p
    cases he : Mx.evE (c.cx d lo) es lk env st with
    | bad => rw [he] at p; exact p.elim
    | exc k s1 => rw [he] at p; exact p.elim
    | ok v s1 =>
      rw [he] at p
      cases v <;> first | exact p.elim | skip
      rename_i l
      refine ⟨l, rfl, fun φ1 H1 xs e1 rp1 rv1 => ⟨φ1, s1, l, lo, lk, rp1, rv1, ?_⟩⟩
      have p' : PostS c.g lo lk W φ H (match Mx.callF c.P c.wf d f l lo lk s1 with
        | .ok v st => if ir < env.length then .next (env.set ir (some v)) st else .bad
        | .exc k st => if (decide (k < 10) && decide (ie < env.length) && decide (ic < env.length)) = true then .next ((env.set ic (some (.exc k))).set ie none) st else .bad
        | .bad => .bad) D := p
      cases hcl : Mx.callF c.P c.wf d f l lo lk s1 with
      | bad => rw [hcl] at p'; exact p'.elim
      | ok v s2 =>
        rw [hcl] at p'
        simp only at p'
        by_cases hir : ir < env.length
        · rw [if_pos hir] at p'
          intro φ2 H2 xv e2 rp2 rv2
          exact p' φ2 H2 _ (e1.trans e2) rp2 ((re.mono (e1.trans e2)).set rv2)
        · rw [if_neg hir] at p'
          exact p'.elim
      | exc k s2 =>
        rw [hcl] at p'
        simp only at p'
        by_cases hk : (decide (k < 10) && decide (ie < env.length) && decide (ic < env.length)) = true
        · rw [if_pos hk] at p'
          simp only [Bool.and_eq_true, decide_eq_true_eq] at hk
          obtain ⟨⟨hk1, hk2⟩, hk3⟩ := hk
          intro φ2 H2 e2 rp2
          have hle : ie < (σ : L2.St).length := by rw [← re.len]; exact hk2
          refine ⟨rfl, hle, (o.gx.xi k hk1).2.2.1, fun a ha' => ?_⟩
          have e3 : Ext c.g lo lk φ2 H2 φ2 (upd H2 a (ExK (.ref (c.g.xa k)) a)) := Ext.tmp o.gx.ok ha'
          have re3 := re.mono ((e1.trans e2).trans e3)
          have hx : RV c.g (upd H2 a (ExK (.ref (c.g.xa k)) a)) φ2 (.exc k) (.ref a) := .exc (upd_same ..) (rp2.notin ha')
          have re4 := (re3.set (i := ic) hx).unset ie
          have es4 : (((σ.set ie (some (.ref a))).set ic (some (.ref a))).set ie none) = ((σ.set ic (some (.ref a))).set ie none) := by
            rw [List.set_comm _ _ hij, List.set_set]
          rw [es4]
          exact p' φ2 _ _ ((e1.trans e2).trans e3) (Rep.tmp o.gx.ok rp2 ha') re4
        · rw [if_neg hk] at p'
          exact p'.elim
theorem noS1 {m : S} (h : ∀ T q s, chkS T q m [s] = false) : SndS1 c m := fun d q W X lo lk s o hc => by rw [h] at hc; cases hc
structure AllS (c : Cfg) (m : S) : Prop where
  one : SndS1 c m
  all : SndS c m
theorem AllS.of {m : S} (hm : isOne m = true) (h : SndS1 c m) : AllS c m := ⟨h, snds_one hm h⟩
theorem allS : ∀ m : S, AllS c m := by
  intro m
  induction m with
  | skip => exact ⟨snds1_skip, snds_skip⟩
  | seq a b ha hb => exact ⟨snds1_seq ha.one, snds_seq ha.one hb.all⟩
  | expr e => exact .of rfl (snds1_expr e)
  | asg t e => exact .of rfl (snds1_asg t e)
  | setSub a i e => exact .of rfl (snds1_setSub a i e)
  | ret e => exact .of rfl (snds1_ret e)
  | retN => exact .of rfl snds1_retN
  | ite k a b ha hb => exact .of rfl (snds1_ite k ha.all hb.all)
  | for_ t src body hb => exact .of rfl (snds1_for t src hb.all)
  | while_ k body hb => exact .of rfl (snds1_while k hb.all)
  | cont => exact .of rfl snds1_cont
  | raise k => exact .of rfl (snds1_raise k)
  | tryAs f es ir ie ic => exact .of rfl (snds1_tryAs f es ir ie ic)
  | _ => exact .of rfl (noS1 (by intros; simp [chkS]))
end Sd
end

section
set_option Elab.async false
set_option linter.all false
set_option maxRecDepth 100000
set_option maxHeartbeats 4000000
set_option autoImplicit false
namespace Sd
open PySem PySem.Spec PyProof.Rows L2
open Mx (Val Res SR Op Cmp Ty Tg E S Store)
variable {c : Cfg}

/-- what is known of the program's text -/
structure Top (c : Cfg) (P : Program) (w : World) (K : PySem.W.Frag) (mg : Str → Option Value) (base : Heap) : Prop where
  hK : K = c.g.K
  hw : w = c.g.w
  ok : GOk c.g
  bn : ∀ x ∈ bnames, mg x = none
  gl : ∀ (k : Nat) (x : Str) (v : Val), c.T.gl[k]? = some (x, v) → ∃ y u, mg x = some u ∧ RelV y u ∧ ∀ H φ, RV c.g H φ v y
  fn : ∀ (f : Nat) (x : Str), c.T.fn[f]? = some (some x) → mg x = some (.ref (c.g.fa f)) ∧ PySem.W.keepIn K (.ref (c.g.fa f)) = true
  xc : ∀ (k : Nat) (x : Str), c.T.xc[k]? = some x → mg x = some (.ref (c.g.xa k)) ∧ PySem.W.keepIn K (.ref (c.g.xa k)) = true ∧ (∀ X : Cx, X.K = K → Raises X (.ref (c.g.xa k))) ∧ ∃ B newId initId bmB, ExcBaseFacts B newId initId bmB ∧ PySem.W.excIn K (c.g.xa k) bmB newId = true
  len : c.T.fn.length = c.P.fns.length
  xi : ∀ k, k < 10 → ExcC K (c.g.xa k) ∧ PySem.W.kitOne K (.ref (c.g.xa k)) (.type "ValueError") = some true ∧ PySem.W.exmOne K (.ref (c.g.xa k)) (.ref c.g.xl) = some true ∧ ∀ j, j < 10 → PySem.W.kitOne K (.ref (c.g.xa k)) (.ref (c.g.xa j)) = some (k == j)
  xl : mg c.T.xl = some (.ref c.g.xl)
/-- a def of the text and its form in the evaluator -/
structure DefOk (c : Cfg) (K : PySem.W.Frag) (f : Nat) (fd : Mx.FnDef) : Prop where
  ex : ∃ (x qual : Str) (params : Arguments) (body : List Stmt) (scope : Scope) (fdat : FuncData) (N ps : List Str), FunD K x qual params body scope [] [] (c.g.fa f) fdat ∧ FnScope N ps scope ∧ Binds K fdat ps [] ∧ ps.length = fd.np ∧ N.length = fd.ns ∧ chkS c.T ⟨N, scope, fun _ => true, true⟩ fd.body body = true
/-- all defs keep their promise with d calls deep -/
def FnsOk (c : Cfg) (P : Program) (w : World) (K : PySem.W.Frag) (mg : Str → Option Value) (base : Heap) (d : Nat) : Prop :=
  ∀ f, f < c.T.fn.length → ∃ fdat ps, FnOk P w K mg base (L2.CX P w) (lev d) (c.g.fa f) fdat ps (spF c d f) ∧ Binds K fdat ps []

theorem renv_start {g : G} {H : Hp} {φ : List Addr} {args : List Val} {vs : List V} {N : List Str} {ns : Nat} (r : RVs g H φ args vs) (hn : N.length = ns) (hl : args.length ≤ ns) : REnv g H φ (args.map some ++ List.replicate (ns - args.length) none) (L2.start N vs) := by
  refine ⟨?_, fun i v h => ?_⟩
  · unfold L2.start
    simp [r.length, hn]
  · by_cases hi : i < args.length
    · rw [List.getElem?_append_left (by simpa using hi), List.getElem?_map] at h
      cases ha : args[i]? with
      | none => rw [ha] at h; cases h
      | some a =>
        rw [ha] at h
        cases h
        obtain ⟨x, hx, rx⟩ := r.get ha
        refine ⟨x, ?_, rx⟩
        unfold L2.start
        have hi' : i < vs.length := by rw [← r.length]; exact hi
        rw [List.getElem?_append_left (by simpa using hi'), List.getElem?_map, hx]
        rfl
    · rw [List.getElem?_append_right (by simpa using hi), List.getElem?_replicate] at h
      split at h <;> cases h
theorem okX_fn {P : Program} {w : World} {K : PySem.W.Frag} {mg : Str → Option Value} {base : Heap} {d : Nat} (t : Top c P w K mg base) (ih : FnsOk c P w K mg base d) {N ps : List Str} {qual : Str} {scope : Scope} {f : Addr} {cdv : Value} {A : Around} {outer : List Env} {s : Shared} {H : Hp} {E : XK}
    (S : FnScope N ps scope) (hr : Room (lev d + 1) (A.deeper (envOfC qual scope s.heap.objs.size f cdv))) : OkX c d ⟨N, scope, fun _ => true, true⟩ (fun x H' => E (.ref (c.g.xa x)) none H') (cxOf (L2.CX P w) P w K mg base N qual scope f cdv A outer s H E) := by
  refine ⟨⟨t.hK, t.hw, t.ok, t.bn, t.gl, t.fn, ih, fun k x h => ?_, t.xi, t.xl⟩, rfl, rfl, S.nd, rfl, rfl, hr, passes_of rfl, ?_, fun _ => ⟨rfl, rfl, rfl⟩⟩
  · obtain ⟨h1, h2, h3, h4⟩ := t.xc k x h
    exact ⟨h1, h2, h3 _ rfl, h4⟩
  · refine Takes.imp (takes_of (E := E) rfl rfl rfl rfl) fun cls dd σ H' z => ?_
    obtain ⟨x, rfl, rfl, z⟩ := z
    exact z
theorem run_post {g : G} {lo : Nat} {lk : List Nat} {W : Nat → Hp → Prop} {φ : List Addr} {H : Hp} {cx : Mx.Ctx} {ns : Nat} {body : S} {args : List Val} {st : Store} {Q : VK} (p : Post g lo lk W φ H (Mx.runS cx ns body args lk st) Q) :
    PostS g lo lk W φ H (Mx.evS cx body lk (args.map some ++ List.replicate (ns - args.length) none) st) { nx := fun _ H' => Q .non H', rt := Q } := by
  unfold Mx.runS at p
  cases h : Mx.evS cx body lk (args.map some ++ List.replicate (ns - args.length) none) st with
  | bad => rw [h] at p; exact p
  | exc k s2 => rw [h] at p; exact p
  | ret v s2 => rw [h] at p; exact p
  | cont e s2 => rw [h] at p; exact p.elim
  | next e s2 => rw [h] at p; exact fun φ' H' σ' e' r' _ => p φ' H' .non e' r' .none

mutual
theorem RV.noref {g : G} {H : Hp} {φ φ' : List Addr} : ∀ {v : Val} {x : V}, Mx.noref v = true → RV g H φ v x → RV g H φ' v x
  | _, _, _, .none => .none
  | _, _, _, .bool b => .bool b
  | _, _, _, .int i => .int i
  | _, _, _, .str s h => .str s h
  | _, _, hn, .tup h r => .tup h (RVs.noref (by simpa [Mx.noref] using hn) r)
  | _, _, hn, .ref h => by simp [Mx.noref] at hn
  | _, _, _, .fn f => .fn f
  | _, _, hn, .clo h r => by simp [Mx.noref] at hn
  | _, _, hn, .exc h r => by simp [Mx.noref] at hn
theorem RVs.noref {g : G} {H : Hp} {φ φ' : List Addr} : ∀ {v : List Val} {x : List V}, Mx.norefL v = true → RVs g H φ v x → RVs g H φ' v x
  | _, _, _, .nil => .nil
  | _, _, hn, .cons h r => by
    simp only [Mx.norefL, Bool.and_eq_true] at hn
    exact .cons (RV.noref hn.1 h) (RVs.noref hn.2 r)
end
/-- a temporary run: everything that was there stays -/
theorem Ext.temp {g : G} {lo : Nat} {lk : List Nat} {φ φ' : List Addr} {H H' : Hp} {n : Nat} (hn : φ.length ≤ n) (e : Ext g n [] φ H φ' H') : Ext g lo lk φ H φ H' :=
  ⟨⟨[], by simp, by simp⟩, fun a o h _ t => e.keep a o h (fun m hm => .inl (Nat.lt_of_lt_of_le (List.getElem?_eq_some_iff.mp hm).1 hn)) t, e.tup, e.frz, e.clo, e.dom⟩
theorem RO.notbl {g : G} {H : Hp} {φ : List Addr} {a : Addr} {ob : Mx.Obj} (h : RO g H φ a ob) {u : HO} (hu : H a = Option.some u) : ∀ ps, u ≠ .tbl ps := by
  intro ps e
  subst e
  cases ob with
  | lst l => obtain ⟨xs, h1, _⟩ := h; rw [h1] at hu; cases hu
  | frz l => obtain ⟨o, xs, h1, _⟩ := h; rw [h1] at hu; cases hu
  | dct d => obtain ⟨es, ep, h1, _⟩ := h; rw [h1] at hu; cases hu
  | ins k fs => obtain ⟨dx, fs', h1, _⟩ := h; rw [h1] at hu; cases hu
theorem Rep.temp {g : G} {φ φ' : List Addr} {H H' : Hp} {st st' : Store} (r : Rep g φ st H) (e : Ext g st.length [] φ H φ' H') (r' : Rep g φ' st' H') : Rep g φ st H' := by
  have e0 : Ext g 0 [] φ H φ H' := Ext.temp (Nat.le_of_eq r.len) e
  refine ⟨r.len, r.nd, fun n ob a h1 h2 => ?_, r'.tab⟩
  have h := r.obj n ob a h1 h2
  exact RO.mono e0 h fun u hu => e.keep a u hu (fun m hm => .inl (by rw [← r.len]; exact (List.getElem?_eq_some_iff.mp hm).1)) (h.notbl hu)

theorem callF_zero (f : Nat) (args : List Val) (lo : Nat) (lk : List Nat) (st : Store) : Mx.callF c.P c.wf 0 f args lo lk st = .bad := by
  simp only [Mx.callF]
theorem spF_len {d f : Nat} {fd : Mx.FnDef} (hf : c.P.fns[f]? = some fd) {vs : List V} {H : Hp} {Q : VK} {E : XK} (h : spF c d f vs H Q E) : vs.length = fd.np := by
  obtain ⟨φ, st, args, lo, lk, rep, rvs, p⟩ := h
  cases d with
  | zero => rw [callF_zero] at p; exact p.elim
  | succ d =>
    simp only [Mx.callF, hf] at p
    by_cases hl : args.length = fd.np
    · rw [← rvs.length]; exact hl
    · rw [if_neg hl] at p; exact p.elim
/-- THE RULE for a def -/
theorem def_okF {P : Program} {w : World} {K : PySem.W.Frag} {mg : Str → Option Value} {base : Heap} {d f : Nat} {fd : Mx.FnDef} (t : Top c P w K mg base) (ih : FnsOk c P w K mg base d) (hf : c.P.fns[f]? = some fd) (hk : fd.kd = .plain ∨ fd.kd = .temp)
    {x qual : Str} {params : Arguments} {body : List Stmt} {scope : Scope} {fdat : FuncData} {N ps : List Str} (F : FunD K x qual params body scope [] [] (c.g.fa f) fdat) (S : FnScope N ps scope) (l1 : ps.length = fd.np) (l2 : N.length = fd.ns) (chk : chkS c.T ⟨N, scope, fun _ => true, true⟩ fd.body body = true) :
    FnOk P w K mg base (L2.CX P w) (lev (d + 1)) (c.g.fa f) fdat ps (spF c (d + 1) f) := by
  refine FunD.ok (k := lev d + 1) F S (fun vs H Q E h => by rw [l1]; exact spF_len hf h) fun cdv A outer s H vs Q E hr hsp => ?_
  have hlen := spF_len hf hsp
  obtain ⟨φ, st, args, lo, lk, rep, rvs, p⟩ := hsp
  have hal : args.length = fd.np := by rw [rvs.length]; exact hlen
  have hns : args.length ≤ fd.ns := by
    rw [hal, ← l1, ← l2]
    have := congrArg List.length S.pre
    rw [List.length_take] at this
    omega
  simp only [Mx.callF, hf, hal, if_true] at p
  rcases hk with hk | hk
  · rw [hk] at p
    simp only at p
    exact ⟨_, (allS fd.body).all d ⟨N, scope, fun _ => true, true⟩ _ _ lo lk body (okX_fn t ih S hr) chk, φ, st, _, renv_start rvs l2 hns, rep, run_post p⟩
  · rw [hk] at p
    simp only at p
    refine ⟨_, (allS fd.body).all d ⟨N, scope, fun _ => true, true⟩ _ _ st.length [] body (okX_fn t ih S hr) chk, φ, st, _, renv_start rvs l2 hns, rep, run_post ?_⟩
    show Post c.g st.length [] _ φ H (Mx.runS ⟨st.length, Mx.callF c.P c.wf d, Mx.callC c.P c.wf d, c.wf⟩ fd.ns fd.body args [] st) Q
    cases hr' : Mx.runS ⟨st.length, Mx.callF c.P c.wf d, Mx.callC c.P c.wf d, c.wf⟩ fd.ns fd.body args [] st with
    | bad => rw [hr'] at p; exact p
    | exc k s2 =>
      rw [hr'] at p
      exact fun φ' H' e' r' => p φ H' (Ext.temp (Nat.le_of_eq rep.len) e') (rep.temp e' r')
    | ok v s2 =>
      rw [hr'] at p
      simp only at p
      by_cases hv : Mx.noref v = true
      · rw [if_pos hv] at p
        exact fun φ' H' x e' r' rv => p φ H' x (Ext.temp (Nat.le_of_eq rep.len) e') (rep.temp e' r') (rv.noref hv)
      · rw [if_neg hv] at p
        exact p.elim
theorem def_ok {P : Program} {w : World} {K : PySem.W.Frag} {mg : Str → Option Value} {base : Heap} {d f : Nat} {fd : Mx.FnDef} (t : Top c P w K mg base) (ih : FnsOk c P w K mg base d) (hf : c.P.fns[f]? = some fd) (D : DefOk c K f fd) (hk : fd.kd = .plain ∨ fd.kd = .temp) :
    ∃ fdat ps, FnOk P w K mg base (L2.CX P w) (lev (d + 1)) (c.g.fa f) fdat ps (spF c (d + 1) f) ∧ Binds K fdat ps [] := by
  obtain ⟨x, qual, params, body, scope, fdat, N, ps, F, S, B, l1, l2, chk⟩ := D.ex
  exact ⟨fdat, ps, def_okF t ih hf hk F S l1 l2 chk, B⟩
end Sd
end

section
set_option Elab.async false
set_option linter.all false
set_option maxRecDepth 100000
set_option maxHeartbeats 4000000
set_option autoImplicit false
namespace Sd
open PySem PySem.Spec PyProof.Rows L2
open Mx (Val Res SR Op Cmp Ty Tg E S Store)

/-! ### data that the fragment holds -/
mutual
def kval (K : PySem.W.Frag) : Nat → Value → Val → Bool
  | _, .none, .none => true
  | _, .bool a, .bool b => a == b
  | _, .int i _, .int j => decide (i = j)
  | _, .str s _, .str t => decide (s = ⟨t.toArray⟩) && Mx.strOk t
  | n + 1, .ref a, .tup l => (match K.lookup a with
    | some o => (match o.cls, o.data with
      | .type c, .seq its m => decide (c = "tuple") && decide (its.size ≤ 16777216) && kvals K n its.toList l
      | _, _ => false)
    | none => false)
  | _, _, _ => false
def kvals (K : PySem.W.Frag) : Nat → List Value → List Val → Bool
  | _, [], [] => true
  | n, u :: us, v :: vs => kval K n u v && kvals K n us vs
  | _, _, _ => false
end
mutual
theorem kval_ok {g : G} {K : PySem.W.Frag} (hK : K = g.K) : ∀ (n : Nat) (u : Value) (v : Val), kval K n u v = true → ∃ y, RelV y u ∧ ∀ H φ, RV g H φ v y
  | n, u, v, h => by
    unfold kval at h
    split at h
    · exact ⟨.non, rfl, fun _ _ => .none⟩
    · rw [eq_of_beq h]
      exact ⟨.bl _, rfl, fun _ _ => .bool _⟩
    · rw [of_decide_eq_true h]
      exact ⟨.int _, ⟨_, rfl⟩, fun _ _ => .int _⟩
    · rename_i s tk t
      rw [Bool.and_eq_true] at h
      rw [of_decide_eq_true h.1]
      exact ⟨.str _, ⟨_, rfl⟩, fun _ _ => .str _ h.2⟩
    · rename_i m a l
      cases hl : K.lookup a with
      | none => rw [hl] at h; cases h
      | some o =>
        rw [hl] at h
        simp only at h
        split at h
        · rename_i cn its k h1 h2
          simp only [Bool.and_eq_true, decide_eq_true_eq] at h
          obtain ⟨⟨e1, e2⟩, e3⟩ := h
          obtain ⟨ys, q1, q2⟩ := kvals_ok hK m its.toList l e3
          refine ⟨.ref a, rfl, fun H φ => .tup (.inr ⟨o, its, k, by rw [← hK]; exact hl, by rw [h1, e1], h2, by rw [sizeLine_eq]; exact e2, q1⟩) (q2 H φ)⟩
        · cases h
    · cases h
theorem kvals_ok {g : G} {K : PySem.W.Frag} (hK : K = g.K) : ∀ (n : Nat) (us : List Value) (vs : List Val), kvals K n us vs = true → ∃ ys, Vals ys us ∧ ∀ H φ, RVs g H φ vs ys
  | _, [], [], _ => ⟨[], .nil, fun _ _ => .nil⟩
  | n, u :: us, v :: vs, h => by
    rw [kvals, Bool.and_eq_true] at h
    obtain ⟨y, a1, a2⟩ := kval_ok hK n u v h.1
    obtain ⟨ys, b1, b2⟩ := kvals_ok hK n us vs h.2
    exact ⟨y :: ys, .cons a1 b1, fun H φ => .cons (a2 H φ) (b2 H φ)⟩
  | _, [], _ :: _, h => by simp [kvals] at h
  | _, _ :: _, [], h => by simp [kvals] at h
end
/-! ### what the head tells besides -/
def noList (K : PySem.W.Frag) : Bool := K.all fun p => match p.2.cls with
  | .type c => !(c == "list")
  | _ => true
theorem lookup_mem {α β : Type} [BEq α] [LawfulBEq α] {l : List (α × β)} {a : α} {b : β} (h : l.lookup a = some b) : (a, b) ∈ l := by
  induction l with
  | nil => cases h
  | cons p r ih =>
    obtain ⟨x, y⟩ := p
    rw [List.lookup_cons] at h
    split at h
    · rename_i e
      cases h
      rw [eq_of_beq e]
      exact List.mem_cons_self
    · exact List.mem_cons_of_mem _ (ih h)
theorem noList_ok {K : PySem.W.Frag} (h : noList K = true) {a : Addr} {o : Obj} (e : K.lookup a = some o) : o.cls ≠ .type "list" := fun z => by
  have := List.all_eq_true.mp h (a, o) (lookup_mem e)
  rw [z] at this
  simp at this
def glB' (K : PySem.W.Frag) (p : Str × Val) : Bool := match PySem.W.nsIn K mainGlobals p.1 with
  | some (some u) => kval K 5 u p.2
  | _ => false
def excCB (K : PySem.W.Frag) (D : Addr) : Bool :=
  He.eqO (PySem.W.findIn K (.ref D) "__getattribute__") (some (some (.builtin "BaseException.__getattribute__"))) && (He.eqO (PySem.W.findIn K (.ref D) "__getattr__") (some none) &&
  (decide (PySem.W.subIn K (.ref D) (.type "BaseException") = some true) && (PySem.W.hasDictIn K D && (He.eqO (PySem.W.findIn K (.ref D) "__class__") (some (some (.builtin "object.__class__"))) &&
  (He.eqO (PySem.W.specialIn K (.builtin "object.__class__") "__get__") (some (some (.builtin "getset_descriptor.__get__"))) && (decide (PySem.W.takesIn K (.builtin "object.__class__") = some true) && decide (PySem.W.mroIn K D (.type "object") = some true)))))))
theorem excCB_ok {K : PySem.W.Frag} {D : Addr} (h : excCB K D = true) : ExcC K D := by
  unfold excCB at h
  simp only [Bool.and_eq_true] at h
  obtain ⟨h1, h2, h3, h4, h5, h6, h7, h8⟩ := h
  exact ⟨He.eqO_ok h1, He.eqO_ok h2, of_decide_eq_true h3, h4, He.eqO_ok h5, He.eqO_ok h6, of_decide_eq_true h7, of_decide_eq_true h8⟩
def excsB (K : PySem.W.Frag) (xs : List Str) (xl : Str) : Bool := (List.range 10).all fun k => excCB K (He.ga K (xs.getD k Str.empty)) && (decide (PySem.W.kitOne K (.ref (He.ga K (xs.getD k Str.empty))) (.type "ValueError") = some true) &&
  (decide (PySem.W.exmOne K (.ref (He.ga K (xs.getD k Str.empty))) (.ref (He.ga K xl)) = some true) && (List.range 10).all fun j => decide (PySem.W.kitOne K (.ref (He.ga K (xs.getD k Str.empty))) (.ref (He.ga K (xs.getD j Str.empty))) = some (k == j))))
/-- what a program is made of -/
structure PI where
  ats : List Str
  exs : List Str
  xl : Str
  gl : List (Str × Val)
  P : Mx.Prog
def PI.T (p : PI) : Tb := ⟨p.ats.map some, [], p.gl, [], p.exs, [], p.xl⟩
def PI.g (p : PI) (K : PySem.W.Frag) (w : World) : G := ⟨w, K, fun f => He.ga K (p.ats.getD f Str.empty), fun _ => 0, fun k => He.ga K (p.exs.getD k Str.empty), He.ga K p.xl, fun _ => Str.empty, fun _ _ _ _ => False, fun _ => True⟩
def PI.c (p : PI) (K : PySem.W.Frag) (w : World) (wf : Nat) : Cfg := ⟨p.g K w, p.T, p.P, wf⟩
def PI.fa (p : PI) : List He.Fa := p.ats.map .glo ++ (p.exs.map .glo ++ (p.exs.map .exc ++ (.glo p.xl :: bnames.map .free)))
def PI.ex (p : PI) (K : PySem.W.Frag) : Bool := noList K && (p.gl.all (glB' K) && excsB K p.exs p.xl)
theorem getD_of {l : List Str} {k : Nat} {x : Str} (h : l[k]? = some x) : l.getD k Str.empty = x := by
  rw [List.getD_eq_getElem?_getD, h]
  rfl
section
variable {p : PI} {K : PySem.W.Frag} {h : Heap} {mg : Str → Option Value} {fn : List He.DefD} {P : Program} {w : World} {base : Heap} {wf : Nat}
theorem PI.top (X : K.In h) (G : h.Ns mainGlobals mg) (c : He.SaysD p.fa fn K) (ex : p.ex K = true) (hl : p.ats.length = p.P.fns.length) (hkp : ∀ x ∈ p.ats, PySem.W.keepIn K (.ref (He.ga K x)) = true) : Top (p.c K w wf) P w K mg base := by
  unfold PI.ex at ex
  simp only [Bool.and_eq_true] at ex
  obtain ⟨e1, e2, e3⟩ := ex
  have f1 : ∀ x ∈ p.ats, mg x = some (.ref (He.ga K x)) := fun x hx => He.glo_ok X G (c.facts (List.mem_append.mpr (.inl (List.mem_map_of_mem hx))))
  have f2 : ∀ x ∈ p.exs, mg x = some (.ref (He.ga K x)) := fun x hx => He.glo_ok X G (c.facts (List.mem_append.mpr (.inr (List.mem_append.mpr (.inl (List.mem_map_of_mem hx))))))
  have f3 : ∀ x ∈ p.exs, _ := fun x hx => He.exc_ok (c.facts (f := .exc x) (List.mem_append.mpr (.inr (List.mem_append.mpr (.inr (List.mem_append.mpr (.inl (List.mem_map_of_mem hx))))))))
  have f4 : mg p.xl = some (.ref (He.ga K p.xl)) := He.glo_ok X G (c.facts (List.mem_append.mpr (.inr (List.mem_append.mpr (.inr (List.mem_append.mpr (.inr List.mem_cons_self)))))))
  have f5 : ∀ x ∈ bnames, mg x = none := fun x hx => He.free_ok X G (c.facts (List.mem_append.mpr (.inr (List.mem_append.mpr (.inr (List.mem_append.mpr (.inr (List.mem_cons_of_mem _ (List.mem_map_of_mem hx)))))))))
  refine ⟨rfl, rfl, ⟨fun _ _ _ _ _ _ _ z => z, fun _ _ _ _ _ _ _ z => z, fun _ _ _ _ _ => trivial, fun _ _ _ _ _ => trivial⟩, f5, fun k x v hk => ?_, fun f x hf => ?_, fun k x hk => ?_, ?_, fun k hk => ?_, f4⟩
  · have := List.all_eq_true.mp e2 (x, v) (List.mem_of_getElem? hk)
    unfold glB' at this
    cases hn : PySem.W.nsIn K mainGlobals x with
    | none => simp only [hn] at this; cases this
    | some o =>
      cases o with
      | none => simp only [hn] at this; cases this
      | some u =>
        simp only [hn] at this
        obtain ⟨y, q1, q2⟩ := kval_ok (g := p.g K w) rfl 5 u v this
        exact ⟨y, u, PySem.W.mg_of X G hn, q1, q2⟩
  · have hx : p.ats[f]? = some x := by
      have q : (p.ats.map some)[f]? = some (some x) := hf
      rw [List.getElem?_map] at q
      cases ha : p.ats[f]? with
      | none => rw [ha] at q; cases q
      | some z => rw [ha] at q; cases q; rfl
    have e : (p.c K w wf).g.fa f = He.ga K x := congrArg (He.ga K) (getD_of hx)
    rw [e]
    exact ⟨f1 x (List.mem_of_getElem? hx), hkp x (List.mem_of_getElem? hx)⟩
  · have hx : p.exs[k]? = some x := hk
    have e : (p.c K w wf).g.xa k = He.ga K x := congrArg (He.ga K) (getD_of hx)
    have hm := List.mem_of_getElem? hx
    obtain ⟨a1, a2, a3, a4⟩ := f3 x hm
    rw [e]
    exact ⟨f2 x hm, a2, fun X' hX => raises_own (by rw [hX]; exact a3) (by rw [hX]; exact a4), _, _, _, _, PySem.F.excBase_ValueError, a1⟩
  · show (p.ats.map some).length = _
    rw [List.length_map]
    exact hl
  · have := List.all_eq_true.mp e3 k (List.mem_range.mpr hk)
    simp only [Bool.and_eq_true] at this
    obtain ⟨q1, q2, q3, q4⟩ := this
    exact ⟨excCB_ok q1, of_decide_eq_true q2, of_decide_eq_true q3, fun j hj => of_decide_eq_true (List.all_eq_true.mp q4 j (List.mem_range.mpr hj))⟩
end
/-- all defs, any depth -/
theorem all_fns {c : Cfg} {P : Program} {w : World} {K : PySem.W.Frag} {mg : Str → Option Value} {base : Heap} (t : Top c P w K mg base) (hd : ∀ (f : Nat) (fd : Mx.FnDef), c.P.fns[f]? = some fd → DefOk c K f fd) : ∀ d, FnsOk c P w K mg base d
  | 0 => fun f hf => by
    rw [t.len] at hf
    obtain ⟨x, qual, params, body, scope, fdat, N, ps, F, S, B, _⟩ := (hd f _ (List.getElem?_eq_getElem hf)).ex
    have no : ∀ vs H Q E, spF c 0 f vs H Q E → False := fun vs H Q E z => by
      obtain ⟨φ, st, args, lo, lk, _, _, p⟩ := z
      rw [callF_zero] at p
      exact p
    exact ⟨fdat, ps, ⟨fun vs H Q E z => (no vs H Q E z).elim, fun A outer s H args us vs Q E _ _ _ _ z => (no vs H Q E z).elim⟩, B⟩
  | d + 1 => fun f hf => by
    rw [t.len] at hf
    refine def_ok t (all_fns t hd d) (List.getElem?_eq_getElem hf) (hd f _ (List.getElem?_eq_getElem hf)) ?_
    cases (c.P.fns[f]).kd
    · exact .inl rfl
    · exact .inr rfl
/-- a law's script: its list, read alone or written -/
theorem script_rep {g : G} {K : PySem.W.Frag} {H : Hp} {a : Addr} {ns : List Int} (hK : K = g.K) (hn : noList K = true) (ht : g.tab H) (h : SqL K H a (ns.map V.int)) : ∃ o, (o = Mx.Obj.frz (ns.map .int) ∨ o = Mx.Obj.lst (ns.map .int)) ∧ Rep g [a] [o] H := by
  have rv : ∀ ns : List Int, RVs g H [a] (ns.map .int) (ns.map V.int) := fun ns => by
    induction ns with
    | nil => exact .nil
    | cons n r ih => exact .cons (.int n) ih
  have one : ∀ o, RO g H [a] a o → Rep g [a] [o] H := fun o ro => ⟨rfl, by simp, fun n ob b h1 h2 => by
    cases n with
    | zero => cases h1; cases h2; exact ro
    | succ n => simp at h1, ht⟩
  rcases h with (h | ⟨ob, h⟩) | ⟨ob, its, m, h1, h2, _⟩
  · exact ⟨_, .inr rfl, one _ ⟨_, h, rv ns⟩⟩
  · exact ⟨_, .inl rfl, one _ ⟨ob, _, h, rv ns⟩⟩
  · exact absurd h2 (noList_ok hn h1)
end Sd
end

section
set_option linter.all false
set_option maxRecDepth 100000
set_option autoImplicit false
namespace Pl
open Mx

theorem callP {P : Prog} {wf d f : Nat} {fd : FnDef} {vs : List Val} {lo : Nat} {lk : List Nat} {st : Store} (h : P.fns[f]? = some fd) (hk : fd.kd = .plain) (hl : vs.length = fd.np) :
    callF P wf (d + 1) f vs lo lk st = runS ⟨lo, callF P wf d, callC P wf d, wf⟩ fd.ns fd.body vs lk st := by
  rw [callF, h]
  simp only [hl, hk, if_true]
def tempR (r : Res Val) (st : Store) : Res Val := match r with
  | .ok v _ => if noref v then .ok v st else .bad
  | .exc c _ => .exc c st
  | .bad => .bad
theorem callT {P : Prog} {wf d f : Nat} {fd : FnDef} {vs : List Val} {lo : Nat} {lk : List Nat} {st : Store} (h : P.fns[f]? = some fd) (hk : fd.kd = .temp) (hl : vs.length = fd.np) :
    callF P wf (d + 1) f vs lo lk st = tempR (runS ⟨st.length, callF P wf d, callC P wf d, wf⟩ fd.ns fd.body vs [] st) st := by
  rw [callF, h]
  simp only [hl, hk, if_true]
  rfl
/-- what a def's body answers -/
def SR.res : SR → Res Val
  | .next _ st => .ok .none st
  | .ret v st => .ok v st
  | .exc c st => .exc c st
  | _ => .bad
theorem runS_eq (cx : Ctx) (ns : Nat) (body : S) (vs : List Val) (lk : List Nat) (st : Store) : runS cx ns body vs lk st = SR.res (evS cx body lk (vs.map some ++ List.replicate (ns - vs.length) none) st) := by
  unfold runS SR.res
  cases evS cx body lk (vs.map some ++ List.replicate (ns - vs.length) none) st <;> rfl
end Pl
namespace Pl
open Mx
theorem loopC_map {α : Type} {f : Val → Store → Res (Option Val)} {h : α → Val} {g : α → Option Val} {st : Store} : ∀ {l : List α}, (∀ x ∈ l, f (h x) st = .ok (g x) st) → loopC f (l.map h) st = .ok (l.filterMap g) st
  | [], _ => rfl
  | x :: r, H => by
    rw [List.map_cons, loopC, H x (by simp), Res.bind, loopC_map fun y hy => H y (by simp [hy]), Res.bind, List.filterMap_cons]
    cases g x <;> rfl
theorem allB_map {α : Type} (p : α → Bool) : ∀ l : List α, allB (l.map fun x => .bool (p x)) = some (l.all p)
  | [] => rfl
  | x :: r => by
    have := allB_map p r
    unfold allB at this ⊢
    rw [List.map_cons, boolsOf]
    cases hb : boolsOf (r.map fun x => .bool (p x)) with
    | none => rw [hb] at this; cases this
    | some bs =>
      rw [hb] at this
      simp only [Option.map_some, Option.some.injEq] at this ⊢
      rw [List.all_cons, List.all_cons, this]
      rfl
theorem filterMap_some {α β : Type} (g : α → β) : ∀ l : List α, l.filterMap (fun x => some (g x)) = l.map g
  | [] => rfl
  | x :: r => by rw [List.filterMap_cons, List.map_cons, filterMap_some g r]
/-- a comprehension whose turns change nothing -/
theorem loopC_pure {α : Type} {f : Val → Store → Res (Option Val)} {h : α → Val} {g : α → Val} {st : Store} {l : List α} (H : ∀ x ∈ l, f (h x) st = .ok (some (g x)) st) : loopC f (l.map h) st = .ok (l.map g) st := by
  rw [loopC_map (g := fun x => some (g x)) H, filterMap_some]
theorem enumL_eq : ∀ (n : Nat) (l : List Val), enumL n l = (l.zipIdx n).map fun p => .tup [.int p.2, p.1]
  | _, [] => rfl
  | n, x :: r => by rw [enumL, enumL_eq (n + 1) r, List.zipIdx_cons, List.map_cons]
theorem zipL_eq : ∀ (l m : List Val), zipL l m = (l.zip m).map fun p => .tup [p.1, p.2]
  | [], _ => by simp [zipL]
  | _ :: _, [] => by simp [zipL]
  | x :: xs, y :: ys => by rw [zipL, zipL_eq xs ys, List.zip_cons_cons, List.map_cons]
end Pl
namespace Pl
open Mx
theorem bind_ok {α β : Type} (a : α) (st : Store) (f : α → Store → Res β) : (Res.ok a st).bind f = f a st := rfl
theorem bind_exc {α β : Type} (c : Nat) (st : Store) (f : α → Store → Res β) : (Res.exc c st).bind f = .exc c st := rfl
theorem bind_bad {α β : Type} (f : α → Store → Res β) : (Res.bad).bind f = .bad := rfl
theorem sr_ok (v : Val) (st : Store) (k : Val → Store → SR) : (Res.ok v st).sr k = k v st := rfl
theorem sr_exc (c : Nat) (st : Store) (k : Val → Store → SR) : (Res.exc c st).sr k = .exc c st := rfl
theorem sr_bad (k : Val → Store → SR) : (Res.bad).sr k = .bad := rfl
theorem res_next (e : Env) (st : Store) : SR.res (.next e st) = .ok .none st := rfl
theorem res_ret (v : Val) (st : Store) : SR.res (.ret v st) = .ok v st := rfl
theorem res_exc (c : Nat) (st : Store) : SR.res (.exc c st) = .exc c st := rfl
theorem nx_ok {α : Type} (a : α) (st : Store) : (Res.ok a st).nx = .ok a st := rfl
theorem optR_some {α : Type} (a : α) (st : Store) : optR (some a) st = .ok a st := rfl
theorem and_t (b : Bool) : (true && b) = b := rfl
theorem and_f (b : Bool) : (false && b) = false := rfl
end Pl
namespace Pl
open Mx
theorem loopF_next {t : Val → Env → Store → Option (Env × Store)} {body : Env → Store → SR} {x : Val} {r : List Val} {env e1 e2 : Env} {st s1 s2 : Store} (h1 : t x env st = some (e1, s1)) (h2 : body e1 s1 = .next e2 s2) : loopF t body (x :: r) env st = loopF t body r e2 s2 := by
  rw [loopF, h1]
  simp only [h2]
theorem loopF_ret {t : Val → Env → Store → Option (Env × Store)} {body : Env → Store → SR} {x v : Val} {r : List Val} {env e1 : Env} {st s1 s2 : Store} (h1 : t x env st = some (e1, s1)) (h2 : body e1 s1 = .ret v s2) : loopF t body (x :: r) env st = .ret v s2 := by
  rw [loopF, h1]
  simp only [h2]
theorem loopF_nil {t : Val → Env → Store → Option (Env × Store)} {body : Env → Store → SR} {env : Env} {st : Store} : loopF t body [] env st = .next env st := rfl
end Pl
namespace Pl
open Mx
theorem seq_next {cx : Ctx} {a b : S} {lk : List Nat} {env e : Env} {st s : Store} (h : evS cx a lk env st = .next e s) : evS cx (.seq a b) lk env st = evS cx b lk e s := by
  rw [evS, h]
theorem seq_ret {cx : Ctx} {a b : S} {lk : List Nat} {env : Env} {st s : Store} {v : Val} (h : evS cx a lk env st = .ret v s) : evS cx (.seq a b) lk env st = .ret v s := by
  rw [evS, h]
theorem seq_exc {cx : Ctx} {a b : S} {lk : List Nat} {env : Env} {st s : Store} {c : Nat} (h : evS cx a lk env st = .exc c s) : evS cx (.seq a b) lk env st = .exc c s := by
  rw [evS, h]
end Pl
namespace Pl
open Mx
/-- a turn of a comprehension -/
def itemF (cx : Ctx) (t : Tg) (cond elt : E) (own : List Nat) (lk : List Nat) (env : Env) (x : Val) (st : Store) : Res (Option Val) :=
  match asg cx lk t x (wipe env own) st with
  | none => .bad
  | some q => (evE cx cond lk q.1 q.2).bind fun c st => (match c with
    | .bool true => (evE cx elt lk q.1 st).bind fun v st => .ok (some v) st
    | .bool false => .ok none st
    | _ => .bad)
theorem evR_comp (cx : Ctx) (t : Tg) (src cond elt : E) (own lk : List Nat) (env : Env) (st : Store) : evR cx (.comp t src cond elt own) lk env st =
    (evR cx src lk env st).bind fun p st => (loopC (itemF cx t cond elt own (p.2 ++ lk) env) p.1 st).nx.bind fun l st => if l.length < lim then .ok (l, []) st else .bad := by
  simp only [evR]
  rfl
end Pl
end

section
set_option linter.all false
set_option maxRecDepth 100000
namespace Ast_k52
open Mx
def e0_is_row : E := (.call 0 (.cons (.var 2) (.cons (.cst (.int (0))) (.cons (.bin .sub (.var 0) (.cst (.int (1)))) .nil))))
def r0_is_row : E := .comp (.name 2) (.itr (.var 1)) (.cst (.bool true)) e0_is_row [2]
def e0_is_automaton : E := (.call 1 (.cons (.len (.var 1)) (.cons (.var 3) .nil)))
def r0_is_automaton : E := .comp (.name 3) (.itr (.var 1)) (.cst (.bool true)) e0_is_automaton [3]
def e1_is_automaton : E := (.call 0 (.cons (.var 4) (.cons (.cst (.int (0))) (.cons (.bin .sub (.len (.var 1)) (.cst (.int (1)))) .nil))))
def r1_is_automaton : E := .comp (.name 4) (.itr (.var 2)) (.cst (.bool true)) e1_is_automaton [4]
def e2_is_automaton : E := (.cmp .lt (.var 4) (.var 5))
def r2_is_automaton : E := .comp (.cons (.name 4) (.cons (.name 5) .nil)) (.zip (.var 2) (.slc (.var 2) (.cst (.int (1))) .nil)) (.cst (.bool true)) e2_is_automaton [4, 5]
def b0_text_of : S := .expr (.app (.var 3) (.bin .add (.fstr (.cons (.fmt (.var 5)) (.cons (.fmt (.var 6)) .nil))) (.ite (.cmp .inn (.var 4) (.var 2)) (.cst (.str [42])) (.cst (.str [])))))
def e0_parse_automaton : E := (.ite (.cmp .inn (.var 5) (.glob 1 (.str [48, 49, 50, 51, 52]))) (.intOf (.var 5)) (.neg (.cst (.int (1)))))
def r0_parse_automaton : E := .comp (.name 5) (.itr (.slc (.var 4) .nil (.cst (.int (2))))) (.cst (.bool true)) e0_parse_automaton [5]
def e1_parse_automaton : E := (.tupR (r0_parse_automaton))
def r1_parse_automaton : E := .comp (.name 4) (.itr (.var 1)) (.cst (.bool true)) e1_parse_automaton [4]
def k0_parse_automaton : E := (.cmp .eq (.slc (.var 4) (.cst (.int (2))) .nil) (.cst (.str [42])))
def r2_parse_automaton : E := .comp (.cons (.name 6) (.cons (.name 4) .nil)) (.enum (.var 1)) k0_parse_automaton (.var 6) [4, 6]
def e0__law_automaton : E := (.cons (.call 8 (.cons (.var 0) (.cons (.var 1) (.cons (.var 3) .nil)))) (.cons (.call 8 (.cons (.var 0) (.cons (.var 1) (.cons (.var 3) .nil)))) .nil))
def r0__law_automaton : E := .comp (.name 5) (.range (.cons (.var 3) .nil)) (.cst (.bool true)) e0__law_automaton [5]
def k0__law_automaton : E := (.cmp .eq (.call 8 (.cons (.var 0) (.cons (.var 1) (.cons (.cst (.int (2))) .nil)))) (.cst (.int (0))))
def r1__law_automaton : E := .comp (.name 5) (.range (.cons (.var 3) .nil)) k0__law_automaton (.var 5) [5]
def b0__law_text : S := .expr (.app (.var 1) (.bin .add (.bin .add (.strOf (.sub (.var 3) (.cst (.int (0))))) (.strOf (.sub (.var 3) (.cst (.int (1)))))) (.ite (.cmp .inn (.var 2) (.sub (.var 0) (.cst (.int (1))))) (.cst (.str [42])) (.cst (.str [])))))
def b0__law_plain_read : S := .seq (.ite ((.or (.cmp .nin (.len (.var 4)) (.cons (.cst (.int (2))) (.cons (.cst (.int (3))) .nil))) (.or (.cmp .nin (.sub (.var 4) (.cst (.int (0)))) (.cst (.str [48, 49, 50, 51, 52]))) (.or (.cmp .nin (.sub (.var 4) (.cst (.int (1)))) (.cst (.str [48, 49, 50, 51, 52]))) (.cmp .nin (.slc (.var 4) (.cst (.int (2))) .nil) (.cons (.cst (.str [])) (.cons (.cst (.str [42])) .nil))))))) (.ret (.cst .none)) (.skip)) (.seq (.expr (.app (.var 1) (.cons (.idxS (.cst (.str [48, 49, 50, 51, 52])) (.sub (.var 4) (.cst (.int (0))))) (.cons (.idxS (.cst (.str [48, 49, 50, 51, 52])) (.sub (.var 4) (.cst (.int (1))))) .nil)))) (.ite (.cmp .eq (.slc (.var 4) (.cst (.int (2))) .nil) (.cst (.str [42]))) (.expr (.app (.var 2) (.var 3))) (.skip)))
def b0_law : S := .seq (.asg (.name 5) (.call 8 (.cons (.var 0) (.cons (.var 1) (.cons (.bin .add (.len (.var 3)) (.cst (.int (1)))) .nil))))) (.seq (.asg (.name 6) (.call 9 (.cons (.var 0) (.cons (.var 1) (.cons (.bin .add (.lstR (.itr (.cst (.str [48, 49, 50, 51, 52, 42, 53, 32, 45, 97, 98])))) (.lst (.cons (.cst (.str [])) .nil))) .nil))))) (.seq (.asg (.name 7) (.call 8 (.cons (.var 0) (.cons (.var 1) (.cons (.cst (.int (2))) .nil))))) (.seq (.asg (.name 8) (.bin .add (.bin .add (.slc (.var 3) .nil (.var 5)) (.var 6)) (.slc (.var 3) (.bin .add (.var 5) (.var 7)) .nil))) (.seq (.asg (.name 9) (.call 16 (.cons (.var 8) .nil))) (.seq (.asg (.name 10) (.call 10 (.cons (.cst (.int (0))) (.cons (.var 8) .nil)))) (.ite (.cmp .ne (.var 10) (.ite (.isc true .none (.var 9)) (.cons (.cst (.str [114, 101, 116, 117, 114, 110, 101, 100])) (.cons (.var 9) .nil)) (.call 12 (.cons (.cst (.str [116, 101, 120, 116])) .nil)))) (.ret (.cst (.bool false))) (.skip)))))))
def b1_law : S := .ite (.cmp .ne (.call 10 (.cons (.cst (.int (0))) (.cons (.var 11) .nil))) (.call 12 (.cons (.cst (.str [116, 101, 120, 116])) .nil))) (.ret (.cst (.bool false))) (.skip)
def f_is_between : FnDef := ⟨3, 3, .plain, .ret ((.and (.isi .int (.var 0)) (.and (.not (.isi .bool (.var 0))) (.chain (.var 1) (.var 0) (.var 2)))))⟩
def f_is_row : FnDef := ⟨2, 3, .plain, .ret ((.and (.isi .tup (.var 1)) (.and (.cmp .eq (.len (.var 1)) (.cst (.int (2)))) (.allR (r0_is_row)))))⟩
def f_is_automaton : FnDef := ⟨1, 6, .plain, .seq (.ite ((.or (.not (.isi .tup (.var 0))) (.or (.cmp .ne (.len (.var 0)) (.cst (.int (2)))) (.not (.isi .tup (.sub (.var 0) (.cst (.int (0))))))))) (.ret (.cst (.bool false))) (.skip)) (.seq (.asg (.cons (.name 1) (.cons (.name 2) .nil)) (.var 0)) (.seq (.ite ((.or (.not (.chain (.cst (.int (1))) (.len (.var 1)) (.glob 0 (.int (5))))) (.not (.allR (r0_is_automaton))))) (.ret (.cst (.bool false))) (.skip)) (.seq (.ite ((.or (.not (.isi .tup (.var 2))) (.not (.allR (r1_is_automaton))))) (.ret (.cst (.bool false))) (.skip)) (.ret (.allR (r2_is_automaton))))))⟩
def f_check_automaton : FnDef := ⟨1, 1, .plain, .ite (.not (.call 2 (.cons (.var 0) .nil))) (.raise 0) (.skip)⟩
def f_text_of : FnDef := ⟨1, 7, .temp, .seq (.asg (.cons (.name 1) (.cons (.name 2) .nil)) (.var 0)) (.seq (.asg (.name 3) (.lst .nil)) (.seq (.for_ (.cons (.name 4) (.cons (.cons (.name 5) (.cons (.name 6) .nil)) .nil)) (.enum (.var 1)) b0_text_of) (.ret (.joinR (.cst (.str [32])) (.var 3)))))⟩
def f_format_automaton : FnDef := ⟨1, 1, .temp, .seq (.expr (.call 3 (.cons (.var 0) .nil))) (.ret (.call 4 (.cons (.var 0) .nil)))⟩
def f_parse_automaton : FnDef := ⟨1, 7, .temp, .seq (.ite (.not (.isi .str (.var 0))) (.raise 9) (.skip)) (.seq (.asg (.name 1) (.split (.var 0) (.cst (.str [32])))) (.seq (.asg (.name 2) (.tupR (r1_parse_automaton))) (.seq (.asg (.name 3) ((.cons (.var 2) (.cons (.tupR (r2_parse_automaton)) .nil)))) (.seq (.ite ((.or (.not (.call 2 (.cons (.var 3) .nil))) (.cmp .ne (.call 4 (.cons (.var 3) .nil)) (.var 0)))) (.raise 9) (.skip)) (.ret (.var 3))))))⟩
def f__law_town : FnDef := ⟨1, 1, .plain, .ret (.bin .add (.lst (.cons (.cst (.int (0))) .nil)) (.lstR (.itr (.var 0))))⟩
def f__law_draw : FnDef := ⟨3, 6, .plain, .seq (.setSub (.var 1) (.cst (.int (0))) (.bin .add (.sub (.var 1) (.cst (.int (0)))) (.cst (.int (1))))) (.seq (.ite (.cmp .eq (.var 0) (.lst .nil)) (.ret (.bin .mod (.bin .fdiv (.bin .mul (.bin .mul (.sub (.var 1) (.cst (.int (0)))) (.sub (.var 1) (.cst (.int (0))))) (.cst (.int (7)))) (.cst (.int (3)))) (.var 2))) (.skip)) (.seq (.asg (.name 3) (.bin .mod (.sub (.var 1) (.cst (.int (0)))) (.len (.var 0)))) (.seq (.asg (.name 4) (.sub (.var 1) (.bin .add (.cst (.int (1))) (.var 3)))) (.seq (.ite ((.and (.cmp .ge (.sub (.var 0) (.var 3)) (.bin .pow (.cst (.int (10))) (.cst (.int (18))))) (.cmp .gt (.var 4) (.cst (.int (0)))))) (.seq (.setSub (.var 1) (.bin .add (.cst (.int (1))) (.var 3)) (.bin .fdiv (.var 4) (.var 2))) (.ret (.bin .mod (.var 4) (.var 2)))) (.skip)) (.seq (.asg (.name 5) (.bin .mod (.bin .add (.sub (.var 0) (.var 3)) (.bin .mul (.cst (.int (104729))) (.sub (.var 1) (.cst (.int (0)))))) (.cst (.int (4294967291))))) (.seq (.asg (.name 5) (.bin .mod (.bin .pow (.var 5) (.cst (.int (5)))) (.cst (.int (4294967279))))) (.ret (.bin .mod (.bin .fdiv (.bin .mod (.bin .add (.bin .mul (.bin .fdiv (.var 5) (.cst (.int (64)))) (.cst (.int (69621)))) (.var 5)) (.cst (.int (4294967231)))) (.cst (.int (8)))) (.var 2)))))))))⟩
def f__law_pick : FnDef := ⟨3, 3, .plain, .ret (.sub (.var 2) (.call 8 (.cons (.var 0) (.cons (.var 1) (.cons (.len (.var 2)) .nil)))))⟩
def f__law_outcome : FnDef := ⟨2, 5, .plain, .seq (.asg (.name 2) (.cst .none)) (.seq (.asg (.name 3) (.cst .none)) (.seq (.tryAs 14 (.cons (.var 0) (.cons (.var 1) .nil)) 3 4 2) (.seq (.ite (.isc false .none (.var 2)) (.ret ((.cons (.cst (.str [114, 101, 116, 117, 114, 110, 101, 100])) (.cons (.var 3) .nil)))) (.skip)) (.ret ((.cons (.cst (.str [114, 97, 105, 115, 101, 100])) (.cons (.call 11 (.cons (.var 2) .nil)) .nil)))))))⟩
def f__law_name : FnDef := ⟨1, 2, .temp, .seq (.ite (.not (.isi .verr (.var 0))) (.ret (.neg (.cst (.int (1))))) (.skip)) (.seq (.asg (.name 1) (.lst (.cons (.isi (.xcls 0) (.var 0)) (.cons (.isi (.xcls 1) (.var 0)) .nil)))) (.seq (.asg (.name 1) (.bin .add (.var 1) (.lst (.cons (.isi (.xcls 2) (.var 0)) (.cons (.isi (.xcls 3) (.var 0)) .nil))))) (.seq (.asg (.name 1) (.bin .add (.var 1) (.lst (.cons (.isi (.xcls 4) (.var 0)) (.cons (.isi (.xcls 5) (.var 0)) .nil))))) (.seq (.asg (.name 1) (.bin .add (.var 1) (.lst (.cons (.isi (.xcls 6) (.var 0)) (.cons (.isi (.xcls 7) (.var 0)) .nil))))) (.seq (.asg (.name 1) (.bin .add (.var 1) (.lst (.cons (.isi (.xcls 8) (.var 0)) (.cons (.isi (.xcls 9) (.var 0)) .nil))))) (.ret (.ite (.cmp .eq (.cnt (.var 1) (.cst (.bool true))) (.cst (.int (1)))) (.idx (.var 1) (.cst (.bool true))) (.neg (.cst (.int (1)))))))))))⟩
def f__law_raises : FnDef := ⟨1, 2, .temp, .seq (.asg (.name 1) (.lst (.cons (.cst (.str [97, 117, 116, 111, 109, 97, 116, 111, 110])) (.cons (.cst (.str [119, 111, 114, 100])) (.cons (.cst (.str [108, 101, 118, 101, 108])) (.cons (.cst (.str [108, 101, 110, 103, 116, 104])) (.cons (.cst (.str [115, 116, 97, 116, 101])) (.cons (.cst (.str [115, 97, 109, 112, 108, 101, 115])) (.cons (.cst (.str [99, 111, 110, 116, 114, 97, 100, 105, 99, 116, 105, 111, 110])) (.cons (.cst (.str [108, 97, 114, 103, 101])) (.cons (.cst (.str [117, 110, 100, 111])) (.cons (.cst (.str [116, 101, 120, 116])) .nil)))))))))))) (.ret ((.cons (.cst (.str [114, 97, 105, 115, 101, 100])) (.cons (.idx (.var 1) (.var 0)) .nil))))⟩
def f__law_automaton : FnDef := ⟨3, 6, .plain, .seq (.asg (.name 3) (.bin .add (.cst (.int (1))) (.call 8 (.cons (.var 0) (.cons (.var 1) (.cons (.var 2) .nil)))))) (.seq (.asg (.name 4) (.tupR (r0__law_automaton))) (.ret ((.cons (.var 4) (.cons (.tupR (r1__law_automaton)) .nil)))))⟩
def f__law_call : FnDef := ⟨2, 2, .plain, .ret (.ite (.cmp .eq (.var 0) (.cst (.int (0)))) (.call 6 (.cons (.var 1) .nil)) (.call 5 (.cons (.var 1) .nil)))⟩
def f__law_text : FnDef := ⟨1, 4, .temp, .seq (.asg (.name 1) (.lst .nil)) (.seq (.for_ (.cons (.name 2) (.cons (.name 3) .nil)) (.enum (.sub (.var 0) (.cst (.int (0))))) b0__law_text) (.ret (.joinR (.cst (.str [32])) (.var 1))))⟩
def f__law_plain_read : FnDef := ⟨1, 6, .temp, .seq (.asg (.cons (.name 1) (.cons (.name 2) .nil)) ((.cons (.lst .nil) (.cons (.lst .nil) .nil)))) (.seq (.for_ (.cons (.name 3) (.cons (.name 4) .nil)) (.enum (.split (.var 0) (.cst (.str [32])))) b0__law_plain_read) (.seq (.asg (.name 5) ((.cons (.tupR (.itr (.var 1))) (.cons (.tupR (.itr (.var 2))) .nil)))) (.ret (.ite (.call 2 (.cons (.var 5) .nil)) (.var 5) (.cst .none)))))⟩
def f_law : FnDef := ⟨1, 12, .plain, .seq (.asg (.name 1) (.call 7 (.cons (.var 0) .nil))) (.seq (.asg (.name 2) (.call 13 (.cons (.var 0) (.cons (.var 1) (.cons (.cst (.int (5))) .nil))))) (.seq (.asg (.name 3) (.call 15 (.cons (.var 2) .nil))) (.seq (.ite ((.or (.cmp .ne (.call 5 (.cons (.var 2) .nil)) (.var 3)) (.cmp .ne (.call 6 (.cons (.var 3) .nil)) (.var 2)))) (.ret (.cst (.bool false))) (.skip)) (.seq (.for_ (.name 4) (.range (.cons (.cst (.int (8))) .nil)) b0_law) (.seq (.for_ (.name 11) (.itr (.cons (.cst .none) (.cons (.cst (.int (5))) (.cons (.cst (.str [])) (.cons (.cst (.str [32])) (.cons (.var 2) (.cons (.lst (.cons (.cst (.str [48, 48])) .nil)) (.cons (.bin .add (.var 3) (.cst (.str [32]))) (.cons (.bin .add (.cst (.str [32])) (.var 3)) (.cons (.bin .add (.var 3) (.cst (.str [10]))) (.cons (.cst (.bool true)) .nil))))))))))) b1_law) (.ret (.cmp .eq (.call 10 (.cons (.cst (.int (1))) (.cons (.cons (.sub (.var 2) (.cst (.int (0)))) (.cons (.cons (.cst (.int (9))) .nil) .nil)) .nil))) (.call 12 (.cons (.cst (.str [97, 117, 116, 111, 109, 97, 116, 111, 110])) .nil)))))))))⟩
def prog : Prog := ⟨[f_is_between, f_is_row, f_is_automaton, f_check_automaton, f_text_of, f_format_automaton, f_parse_automaton, f__law_town, f__law_draw, f__law_pick, f__law_outcome, f__law_name, f__law_raises, f__law_automaton, f__law_call, f__law_text, f__law_plain_read, f_law], []⟩
def lawId : Nat := 17
def names : List String := ["is_between", "is_row", "is_automaton", "check_automaton", "text_of", "format_automaton", "parse_automaton", "_law_town", "_law_draw", "_law_pick", "_law_outcome", "_law_name", "_law_raises", "_law_automaton", "_law_call", "_law_text", "_law_plain_read", "law"]
end Ast_k52
end

section
set_option linter.all false
set_option maxRecDepth 100000
set_option autoImplicit false
namespace K52
open Mx Pl Ast_k52
theorem c_between (wf d : Nat) (v a b : Int) (lo : Nat) (lk : List Nat) (st : Store) : callF prog wf (d + 1) 0 [.int v, .int a, .int b] lo lk st = .ok (.bool (decide (a ≤ v) && decide (v ≤ b))) st := by
  rw [callP (fd := f_is_between) rfl rfl rfl, runS_eq]
  by_cases h : a ≤ v <;> simp [f_is_between, h, evS, evE, evR, bind_ok, bind_exc, bind_bad, sr_ok, sr_exc, sr_bad, res_next, res_ret, res_exc, nx_ok, isiV, tyV, subT, isB, subB, lenV, cmpV, eqS, isD, isDn, veq, itrV, optR_some, asg, wipe, binV, subV, asgS, partV, slcV, setV, isL, isS, listAt, if_true, and_t, and_f, List.map_cons, List.map_nil, List.length_cons, List.length_nil, List.replicate, List.cons_append, List.nil_append, List.set_cons_zero, List.set_cons_succ, List.getElem?_cons_zero, List.getElem?_cons_succ]
def rowV (r : List Int) : Val := .tup (r.map .int)
def rowB (n : Int) (r : List Int) : Bool := r.length == 2 && r.all fun x => decide (0 ≤ x) && decide (x ≤ n - 1)
theorem c_row (wf d : Nat) (n : Int) (r : List Int) (lo : Nat) (lk : List Nat) (st : Store) : callF prog wf (d + 2) 1 [.int n, rowV r] lo lk st = .ok (.bool (rowB n r)) st := by
  rw [callP (fd := f_is_row) rfl rfl rfl, runS_eq]
  by_cases h : r.length = 2
  · simp [f_is_row, r0_is_row, e0_is_row, evS, evE, evR, bind_ok, bind_exc, bind_bad, sr_ok, sr_exc, sr_bad, res_next, res_ret, res_exc, nx_ok, isiV, tyV, subT, isB, subB, lenV, cmpV, eqS, isD, isDn, veq, itrV, optR_some, asg, wipe, binV, subV, asgS, partV, slcV, setV, isL, isS, listAt, if_true, and_t, and_f, List.map_cons, List.map_nil, List.length_cons, List.length_nil, List.replicate, List.cons_append, List.nil_append, List.set_cons_zero, List.set_cons_succ, List.getElem?_cons_zero, List.getElem?_cons_succ, rowV, h]
    rw [loopC_pure (g := fun x : Int => .bool (decide (0 ≤ x) && decide (x ≤ n - 1)))]
    · simp [evS, evE, evR, bind_ok, bind_exc, bind_bad, sr_ok, sr_exc, sr_bad, res_next, res_ret, res_exc, nx_ok, isiV, tyV, subT, isB, subB, lenV, cmpV, eqS, isD, isDn, veq, itrV, optR_some, asg, wipe, binV, subV, asgS, partV, slcV, setV, isL, isS, listAt, if_true, and_t, and_f, List.map_cons, List.map_nil, List.length_cons, List.length_nil, List.replicate, List.cons_append, List.nil_append, List.set_cons_zero, List.set_cons_succ, List.getElem?_cons_zero, List.getElem?_cons_succ, h, lim, allB_map, rowB]
    · intro x hx
      rw [c_between]
      rfl
  · have h' : ((r.length : Int) == 2) = false := by simp; omega
    simp [f_is_row, r0_is_row, e0_is_row, evS, evE, evR, bind_ok, bind_exc, bind_bad, sr_ok, sr_exc, sr_bad, res_next, res_ret, res_exc, nx_ok, isiV, tyV, subT, isB, subB, lenV, cmpV, eqS, isD, isDn, veq, itrV, optR_some, asg, wipe, binV, subV, asgS, partV, slcV, setV, isL, isS, listAt, if_true, and_t, and_f, List.map_cons, List.map_nil, List.length_cons, List.length_nil, List.replicate, List.cons_append, List.nil_append, List.set_cons_zero, List.set_cons_succ, List.getElem?_cons_zero, List.getElem?_cons_succ, h, h', rowB, rowV]
def isAut (rows : List (List Int)) (acc : List Int) : Bool := decide (1 ≤ rows.length) && decide (rows.length ≤ 5) && rows.all (rowB rows.length) && acc.all (fun x => decide (0 ≤ x) && decide (x ≤ rows.length - 1)) && (acc.zip (acc.drop 1)).all fun p => decide (p.1 < p.2)
def dfaV (rows : List (List Int)) (acc : List Int) : Val := .tup [.tup (rows.map rowV), .tup (acc.map .int)]
theorem cut1 {α : Type} (l : List α) : cut l (some 1) none = l.drop 1 := by
  unfold cut cutAt
  cases l with
  | nil => rfl
  | cons x r =>
    have e : (max 0 (min (((x :: r).length : Nat) : Int) (if (1 : Int) < 0 then 1 + ((x :: r).length : Int) else 1))).toNat = 1 := by
      simp only [List.length_cons]
      split <;> omega
    simp only [Option.map_some, Option.getD_some, e, Option.map_none, Option.getD_none]
    exact List.take_of_length_le (by simp)
theorem c_aut (wf d : Nat) (rows : List (List Int)) (acc : List Int) (lo : Nat) (lk : List Nat) (st : Store) (hl : rows.length < 50000) (ha : acc.length < 50000) : callF prog wf (d + 3) 2 [dfaV rows acc] lo lk st = .ok (.bool (isAut rows acc)) st := by
  rw [callP (fd := f_is_automaton) rfl rfl rfl, runS_eq]
  have e1 : loopC (fun x st => (callF prog wf (d + 2) 1 [.int rows.length, x] lo lk st).bind fun v st => .ok (some v) st) (rows.map rowV) st = .ok (rows.map fun r => .bool (rowB rows.length r)) st := loopC_pure fun x _ => by rw [c_row]; rfl
  have e2 : loopC (fun x st => (callF prog wf (d + 2) 0 [x, .int 0, .int (rows.length - 1)] lo lk st).bind fun v st => .ok (some v) st) (acc.map .int) st = .ok (acc.map fun x => .bool (decide (0 ≤ x) && decide (x ≤ (rows.length : Int) - 1))) st := loopC_pure fun x _ => by rw [c_between]; rfl
  by_cases h1 : 1 ≤ rows.length
  · by_cases h2 : rows.length ≤ 5
    · have h1' : (1 : Int) ≤ rows.length := by omega
      have h2' : (rows.length : Int) ≤ 5 := by omega
      cases h3 : rows.all (rowB rows.length) with
      | false => simp [f_is_automaton, r0_is_automaton, r1_is_automaton, r2_is_automaton, e0_is_automaton, e1_is_automaton, e2_is_automaton, evS, evE, evR, bind_ok, bind_exc, bind_bad, sr_ok, sr_exc, sr_bad, res_next, res_ret, res_exc, nx_ok, isiV, tyV, subT, isB, subB, lenV, cmpV, eqS, isD, isDn, veq, itrV, optR_some, asg, wipe, binV, subV, asgS, partV, slcV, setV, isL, isS, listAt, if_true, and_t, and_f, List.map_cons, List.map_nil, List.length_cons, List.length_nil, List.replicate, List.cons_append, List.nil_append, List.set_cons_zero, List.set_cons_succ, List.getElem?_cons_zero, List.getElem?_cons_succ, dfaV, atI, ixN, h1', h2', e1, allB_map, h3, isAut, lim, show rows.length < 100000 by omega]
      | true =>
        cases h4 : acc.all (fun x => decide (0 ≤ x) && decide (x ≤ rows.length - 1)) with
        | false => simp [f_is_automaton, r0_is_automaton, r1_is_automaton, r2_is_automaton, e0_is_automaton, e1_is_automaton, e2_is_automaton, evS, evE, evR, bind_ok, bind_exc, bind_bad, sr_ok, sr_exc, sr_bad, res_next, res_ret, res_exc, nx_ok, isiV, tyV, subT, isB, subB, lenV, cmpV, eqS, isD, isDn, veq, itrV, optR_some, asg, wipe, binV, subV, asgS, partV, slcV, setV, isL, isS, listAt, if_true, and_t, and_f, List.map_cons, List.map_nil, List.length_cons, List.length_nil, List.replicate, List.cons_append, List.nil_append, List.set_cons_zero, List.set_cons_succ, List.getElem?_cons_zero, List.getElem?_cons_succ, dfaV, atI, ixN, h1', h2', e1, e2, allB_map, h3, h4, isAut, lim, show rows.length < 100000 by omega, show acc.length < 100000 by omega]
        | true =>
          have e3 : zipL (acc.map Val.int) (cut (acc.map Val.int) (some 1) none) = (acc.zip (acc.drop 1)).map fun p => .tup [.int p.1, .int p.2] := by
            rw [cut1, ← List.map_drop, zipL_eq, List.zip_map, List.map_map]
            rfl
          have hz : (acc.zip (acc.drop 1)).length < 100000 := by rw [List.length_zip]; omega
          simp [f_is_automaton, r0_is_automaton, r1_is_automaton, r2_is_automaton, e0_is_automaton, e1_is_automaton, e2_is_automaton, evS, evE, evR, bind_ok, bind_exc, bind_bad, sr_ok, sr_exc, sr_bad, res_next, res_ret, res_exc, nx_ok, isiV, tyV, subT, isB, subB, lenV, cmpV, eqS, isD, isDn, veq, itrV, optR_some, asg, wipe, binV, subV, asgS, partV, slcV, setV, isL, isS, listAt, if_true, and_t, and_f, List.map_cons, List.map_nil, List.length_cons, List.length_nil, List.replicate, List.cons_append, List.nil_append, List.set_cons_zero, List.set_cons_succ, List.getElem?_cons_zero, List.getElem?_cons_succ, dfaV, atI, ixN, h1', h2', e1, e2, e3, allB_map, h3, h4, isAut, lim, show rows.length < 100000 by omega, show acc.length < 100000 by omega]
          rw [loopC_pure (h := fun p : Int × Int => Val.tup [.int p.1, .int p.2]) (g := fun p => .bool (decide (p.1 < p.2)))]
          · simp [evS, evE, evR, bind_ok, bind_exc, bind_bad, sr_ok, sr_exc, sr_bad, res_next, res_ret, res_exc, nx_ok, isiV, tyV, subT, isB, subB, lenV, cmpV, eqS, isD, isDn, veq, itrV, optR_some, asg, wipe, binV, subV, asgS, partV, slcV, setV, isL, isS, listAt, if_true, and_t, and_f, List.map_cons, List.map_nil, List.length_cons, List.length_nil, List.replicate, List.cons_append, List.nil_append, List.set_cons_zero, List.set_cons_succ, List.getElem?_cons_zero, List.getElem?_cons_succ, show acc.length - 1 < 100000 by omega, allB_map, h1, h2, h3]
          · intro x hx
            simp [evS, evE, evR, bind_ok, bind_exc, bind_bad, sr_ok, sr_exc, sr_bad, res_next, res_ret, res_exc, nx_ok, isiV, tyV, subT, isB, subB, lenV, cmpV, eqS, isD, isDn, veq, itrV, optR_some, asg, wipe, binV, subV, asgS, partV, slcV, setV, isL, isS, listAt, if_true, and_t, and_f, List.map_cons, List.map_nil, List.length_cons, List.length_nil, List.replicate, List.cons_append, List.nil_append, List.set_cons_zero, List.set_cons_succ, List.getElem?_cons_zero, List.getElem?_cons_succ]
    · have h1' : (1 : Int) ≤ rows.length := by omega
      have h2' : ¬ (rows.length : Int) ≤ 5 := by omega
      simp [f_is_automaton, r0_is_automaton, r1_is_automaton, r2_is_automaton, e0_is_automaton, e1_is_automaton, e2_is_automaton, evS, evE, evR, bind_ok, bind_exc, bind_bad, sr_ok, sr_exc, sr_bad, res_next, res_ret, res_exc, nx_ok, isiV, tyV, subT, isB, subB, lenV, cmpV, eqS, isD, isDn, veq, itrV, optR_some, asg, wipe, binV, subV, asgS, partV, slcV, setV, isL, isS, listAt, if_true, and_t, and_f, List.map_cons, List.map_nil, List.length_cons, List.length_nil, List.replicate, List.cons_append, List.nil_append, List.set_cons_zero, List.set_cons_succ, List.getElem?_cons_zero, List.getElem?_cons_succ, dfaV, atI, ixN, h1', h2', isAut, h2]
  · have h1' : ¬ (1 : Int) ≤ rows.length := by omega
    simp [f_is_automaton, r0_is_automaton, r1_is_automaton, r2_is_automaton, e0_is_automaton, e1_is_automaton, e2_is_automaton, evS, evE, evR, bind_ok, bind_exc, bind_bad, sr_ok, sr_exc, sr_bad, res_next, res_ret, res_exc, nx_ok, isiV, tyV, subT, isB, subB, lenV, cmpV, eqS, isD, isDn, veq, itrV, optR_some, asg, wipe, binV, subV, asgS, partV, slcV, setV, isL, isS, listAt, if_true, and_t, and_f, List.map_cons, List.map_nil, List.length_cons, List.length_nil, List.replicate, List.cons_append, List.nil_append, List.set_cons_zero, List.set_cons_succ, List.getElem?_cons_zero, List.getElem?_cons_succ, dfaV, atI, ixN, h1', isAut, h1]
end K52
end

section
set_option linter.all false
set_option maxRecDepth 100000
set_option autoImplicit false
namespace K52
open Mx Pl Ast_k52
theorem get_last {α : Type} (l : List α) (x : α) : (l ++ [x])[l.length]? = some x := by simp
theorem set_last {α : Type} (l : List α) (x y : α) : (l ++ [x]).set l.length y = l ++ [y] := by simp
theorem inL_int (i : Int) : ∀ l : List Int, inL (.int i) (l.map .int) = decide (i ∈ l)
  | [] => rfl
  | y :: r => by
    rw [List.map_cons, inL, inL_int i r, veq]
    by_cases h : y = i
    · simp [h]
    · simp [h, Ne.symm h, show ¬ i = y from fun z => h z.symm]
theorem isDLn_int (n : Nat) : ∀ l : List Int, isDLn (l.map .int) n = true
  | [] => rfl
  | y :: r => by rw [List.map_cons, isDLn, isDLn_int n r]; rfl
theorem inS_int (st : Store) (i : Int) (l : List Int) : inS st (.int i) (.tup (l.map .int)) = some (decide (i ∈ l)) := by
  simp [inS, inL_int, isD, isDn, isDL, isDLn_int]
theorem strsOf_map : ∀ l : List (List Nat), strsOf (l.map .str) = some l
  | [] => rfl
  | x :: r => by rw [List.map_cons, strsOf, strsOf_map r]; rfl
theorem digs1 {a : Int} (h : 0 ≤ a ∧ a ≤ 4) : digs a = some [48 + a.toNat] := by
  unfold digs
  have : (decide (0 ≤ a) && decide (a < 10)) = true := by simp; omega
  rw [if_pos this]
/-- the text of a state -/
def wd (acc : List Int) (p : Int × Int) (i : Nat) : List Nat := [48 + p.1.toNat, 48 + p.2.toNat] ++ (if (i : Int) ∈ acc then [42] else [])
def wds (acc : List Int) : Nat → List (Int × Int) → List (List Nat)
  | _, [] => []
  | i, p :: r => wd acc p i :: wds acc (i + 1) r
theorem wds_len (acc : List Int) : ∀ (i : Nat) (ps : List (Int × Int)), (wds acc i ps).length = ps.length
  | _, [] => rfl
  | i, p :: r => by rw [wds, List.length_cons, wds_len acc (i + 1) r, List.length_cons]
def pairL (p : Int × Int) : List Int := [p.1, p.2]
def inR (p : Int × Int) : Prop := (0 ≤ p.1 ∧ p.1 ≤ 4) ∧ 0 ≤ p.2 ∧ p.2 ≤ 4
def textL (ps : List (Int × Int)) (acc : List Int) : List Nat := joinL [32] (wds acc 0 ps)
theorem wd_len (acc : List Int) (p : Int × Int) (i : Nat) : (wd acc p i).length ≤ 3 := by
  unfold wd
  split <;> simp
theorem join_len (acc : List Int) : ∀ (ps : List (Int × Int)) (i : Nat), (joinL [32] (wds acc i ps)).length ≤ 4 * ps.length
  | [], i => by simp [wds, joinL]
  | [p], i => by
    have := wd_len acc p i
    simp [wds, joinL]
    omega
  | p :: q :: r, i => by
    have h1 := wd_len acc p i
    have h2 := join_len acc (q :: r) (i + 1)
    rw [wds, wds, joinL, List.length_append, List.length_append]
    rw [wds] at h2
    simp at h2 ⊢
    omega
theorem text_len (ps : List (Int × Int)) (acc : List Int) (h : ps.length ≤ 5) : (textL ps acc).length ≤ 20 := by
  have := join_len acc ps 0
  unfold textL
  omega
theorem loop_text (cx : Ctx) (st : Store) (hlo : cx.lo ≤ st.length) (acc : List Int) (x0 x1 : Val) : ∀ (ps : List (Int × Int)) (i : Nat) (ws : List Val) (o4 o5 o6 : Option Val), (∀ p ∈ ps, inR p) → ws.length + ps.length < 1000 → ∃ o4' o5' o6',
    loopF (fun x env st' => asg cx [] (.cons (.name 4) (.cons (.cons (.name 5) (.cons (.name 6) .nil)) .nil)) x env st') (fun env st' => evS cx b0_text_of [] env st')
      (enumL i (ps.map fun p => rowV (pairL p))) [some x0, some x1, some (.tup (acc.map .int)), some (.ref st.length), o4, o5, o6] (st ++ [.lst ws]) =
      .next [some x0, some x1, some (.tup (acc.map .int)), some (.ref st.length), o4', o5', o6'] (st ++ [.lst (ws ++ (wds acc i ps).map .str)])
  | [], i, ws, o4, o5, o6, _, _ => ⟨o4, o5, o6, by simp [enumL, loopF, wds]⟩
  | p :: r, i, ws, o4, o5, o6, h, hl => by
    have hp := h p (by simp)
    obtain ⟨a, b, c, ih⟩ := loop_text cx st hlo acc x0 x1 r (i + 1) (ws ++ [.str (wd acc p i)]) (some (.int i)) (some (.int p.1)) (some (.int p.2)) (fun q hq => h q (by simp [hq])) (by simp at hl ⊢; omega)
    refine ⟨a, b, c, ?_⟩
    have hlim : ws.length < 100000 := by simp at hl; omega
    have hb : evS cx b0_text_of [] [some x0, some x1, some (.tup (acc.map .int)), some (.ref st.length), some (.int i), some (.int p.1), some (.int p.2)] (st ++ [.lst ws]) = .next [some x0, some x1, some (.tup (acc.map .int)), some (.ref st.length), some (.int i), some (.int p.1), some (.int p.2)] (st ++ [.lst (ws ++ [.str (wd acc p i)])]) := by
      by_cases hi : (i : Int) ∈ acc
      · simp [b0_text_of, evS, evE, evR, bind_ok, bind_exc, bind_bad, sr_ok, sr_exc, sr_bad, res_next, res_ret, res_exc, nx_ok, isiV, tyV, subT, isB, subB, lenV, cmpV, eqS, isD, isDn, veq, itrV, optR_some, asg, wipe, binV, subV, asgS, partV, slcV, setV, isL, isS, listAt, if_true, and_t, and_f, List.map_cons, List.map_nil, List.length_cons, List.length_nil, List.replicate, List.cons_append, List.nil_append, List.set_cons_zero, List.set_cons_succ, List.getElem?_cons_zero, List.getElem?_cons_succ, get_last, set_last, inS_int, hi, strV, digs1 hp.1, digs1 hp.2, catS, lim, canW, hlo, hlim, wd]
      · simp [b0_text_of, evS, evE, evR, bind_ok, bind_exc, bind_bad, sr_ok, sr_exc, sr_bad, res_next, res_ret, res_exc, nx_ok, isiV, tyV, subT, isB, subB, lenV, cmpV, eqS, isD, isDn, veq, itrV, optR_some, asg, wipe, binV, subV, asgS, partV, slcV, setV, isL, isS, listAt, if_true, and_t, and_f, List.map_cons, List.map_nil, List.length_cons, List.length_nil, List.replicate, List.cons_append, List.nil_append, List.set_cons_zero, List.set_cons_succ, List.getElem?_cons_zero, List.getElem?_cons_succ, get_last, set_last, inS_int, hi, strV, digs1 hp.1, digs1 hp.2, catS, lim, canW, hlo, hlim, wd]
    simp [enumL, loopF, evS, evE, evR, bind_ok, bind_exc, bind_bad, sr_ok, sr_exc, sr_bad, res_next, res_ret, res_exc, nx_ok, isiV, tyV, subT, isB, subB, lenV, cmpV, eqS, isD, isDn, veq, itrV, optR_some, asg, wipe, binV, subV, asgS, partV, slcV, setV, isL, isS, listAt, if_true, and_t, and_f, List.map_cons, List.map_nil, List.length_cons, List.length_nil, List.replicate, List.cons_append, List.nil_append, List.set_cons_zero, List.set_cons_succ, List.getElem?_cons_zero, List.getElem?_cons_succ, rowV, pairL] at ih ⊢
    simp only [hb]
    rw [ih]
    simp [wds]
theorem c_text_of (wf d : Nat) (ps : List (Int × Int)) (acc : List Int) (lo : Nat) (lk : List Nat) (st : Store) (h : ∀ p ∈ ps, inR p) (hl : ps.length ≤ 5) : callF prog wf (d + 1) 4 [dfaV (ps.map pairL) acc] lo lk st = .ok (.str (textL ps acc)) st := by
  rw [callT (fd := f_text_of) rfl rfl rfl, runS_eq]
  obtain ⟨a, b, c, e⟩ := loop_text ⟨st.length, callF prog wf d, callC prog wf d, wf⟩ st (Nat.le_refl _) acc (dfaV (ps.map pairL) acc) (.tup ((ps.map pairL).map rowV)) ps 0 [] none none none h (by simp; omega)
  have hj : (textL ps acc).length ≤ 100000 := by
    have := text_len ps acc hl
    omega
  simp [f_text_of, evS, evE, evR, bind_ok, bind_exc, bind_bad, sr_ok, sr_exc, sr_bad, res_next, res_ret, res_exc, nx_ok, isiV, tyV, subT, isB, subB, lenV, cmpV, eqS, isD, isDn, veq, itrV, optR_some, asg, wipe, binV, subV, asgS, partV, slcV, setV, isL, isS, listAt, if_true, and_t, and_f, List.map_cons, List.map_nil, List.length_cons, List.length_nil, List.replicate, List.cons_append, List.nil_append, List.set_cons_zero, List.set_cons_succ, List.getElem?_cons_zero, List.getElem?_cons_succ, dfaV, Function.comp_def] at e ⊢
  rw [e]
  have ht : joinL [32] (wds acc 0 ps) = textL ps acc := rfl
  simp [evS, evE, evR, bind_ok, bind_exc, bind_bad, sr_ok, sr_exc, sr_bad, res_next, res_ret, res_exc, nx_ok, isiV, tyV, subT, isB, subB, lenV, cmpV, eqS, isD, isDn, veq, itrV, optR_some, asg, wipe, binV, subV, asgS, partV, slcV, setV, isL, isS, listAt, if_true, and_t, and_f, List.map_cons, List.map_nil, List.length_cons, List.length_nil, List.replicate, List.cons_append, List.nil_append, List.set_cons_zero, List.set_cons_succ, List.getElem?_cons_zero, List.getElem?_cons_succ, get_last, strsOf_map, ht, lim, hj, tempR, noref]
theorem loop_ltext (cx : Ctx) (st : Store) (hlo : cx.lo ≤ st.length) (acc : List Int) (x0 : Val) : ∀ (ps : List (Int × Int)) (i : Nat) (ws : List Val) (o4 o5 : Option Val), (∀ p ∈ ps, inR p) → ws.length + ps.length < 1000 → ∃ o4' o5',
    loopF (fun x env st' => asg cx [] (.cons (.name 2) (.cons (.name 3) .nil)) x env st') (fun env st' => evS cx b0__law_text [] env st')
      (enumL i (ps.map fun p => rowV (pairL p))) [some (.tup [x0, .tup (acc.map .int)]), some (.ref st.length), o4, o5] (st ++ [.lst ws]) =
      .next [some (.tup [x0, .tup (acc.map .int)]), some (.ref st.length), o4', o5'] (st ++ [.lst (ws ++ (wds acc i ps).map .str)])
  | [], i, ws, o4, o5, _, _ => ⟨o4, o5, by simp [enumL, loopF, wds]⟩
  | p :: r, i, ws, o4, o5, h, hl => by
    have hp := h p (by simp)
    obtain ⟨a, b, ih⟩ := loop_ltext cx st hlo acc x0 r (i + 1) (ws ++ [.str (wd acc p i)]) (some (.int i)) (some (rowV (pairL p))) (fun q hq => h q (by simp [hq])) (by simp at hl ⊢; omega)
    refine ⟨a, b, ?_⟩
    have hlim : ws.length < 100000 := by simp at hl; omega
    have hb : evS cx b0__law_text [] [some (.tup [x0, .tup (acc.map .int)]), some (.ref st.length), some (.int i), some (rowV (pairL p))] (st ++ [.lst ws]) = .next [some (.tup [x0, .tup (acc.map .int)]), some (.ref st.length), some (.int i), some (rowV (pairL p))] (st ++ [.lst (ws ++ [.str (wd acc p i)])]) := by
      by_cases hi : (i : Int) ∈ acc
      · simp [b0__law_text, evS, evE, evR, bind_ok, bind_exc, bind_bad, sr_ok, sr_exc, sr_bad, res_next, res_ret, res_exc, nx_ok, isiV, tyV, subT, isB, subB, lenV, cmpV, eqS, isD, isDn, veq, itrV, optR_some, asg, wipe, binV, subV, asgS, partV, slcV, setV, isL, isS, listAt, if_true, and_t, and_f, List.map_cons, List.map_nil, List.length_cons, List.length_nil, List.replicate, List.cons_append, List.nil_append, List.set_cons_zero, List.set_cons_succ, List.getElem?_cons_zero, List.getElem?_cons_succ, rowV, pairL, atI, ixN, get_last, set_last, inS_int, hi, strV, digs1 hp.1, digs1 hp.2, catS, lim, canW, hlo, hlim, wd]
      · simp [b0__law_text, evS, evE, evR, bind_ok, bind_exc, bind_bad, sr_ok, sr_exc, sr_bad, res_next, res_ret, res_exc, nx_ok, isiV, tyV, subT, isB, subB, lenV, cmpV, eqS, isD, isDn, veq, itrV, optR_some, asg, wipe, binV, subV, asgS, partV, slcV, setV, isL, isS, listAt, if_true, and_t, and_f, List.map_cons, List.map_nil, List.length_cons, List.length_nil, List.replicate, List.cons_append, List.nil_append, List.set_cons_zero, List.set_cons_succ, List.getElem?_cons_zero, List.getElem?_cons_succ, rowV, pairL, atI, ixN, get_last, set_last, inS_int, hi, strV, digs1 hp.1, digs1 hp.2, catS, lim, canW, hlo, hlim, wd]
    simp [enumL, loopF, evS, evE, evR, bind_ok, bind_exc, bind_bad, sr_ok, sr_exc, sr_bad, res_next, res_ret, res_exc, nx_ok, isiV, tyV, subT, isB, subB, lenV, cmpV, eqS, isD, isDn, veq, itrV, optR_some, asg, wipe, binV, subV, asgS, partV, slcV, setV, isL, isS, listAt, if_true, and_t, and_f, List.map_cons, List.map_nil, List.length_cons, List.length_nil, List.replicate, List.cons_append, List.nil_append, List.set_cons_zero, List.set_cons_succ, List.getElem?_cons_zero, List.getElem?_cons_succ] at ih ⊢
    simp only [hb]
    rw [ih]
    simp [wds]
theorem c_ltext (wf d : Nat) (ps : List (Int × Int)) (acc : List Int) (lo : Nat) (lk : List Nat) (st : Store) (h : ∀ p ∈ ps, inR p) (hl : ps.length ≤ 5) : callF prog wf (d + 1) 15 [dfaV (ps.map pairL) acc] lo lk st = .ok (.str (textL ps acc)) st := by
  rw [callT (fd := f__law_text) rfl rfl rfl, runS_eq]
  obtain ⟨a, b, e⟩ := loop_ltext ⟨st.length, callF prog wf d, callC prog wf d, wf⟩ st (Nat.le_refl _) acc (.tup ((ps.map pairL).map rowV)) ps 0 [] none none h (by simp; omega)
  have hj : (textL ps acc).length ≤ 100000 := by
    have := text_len ps acc hl
    omega
  simp [f__law_text, evS, evE, evR, bind_ok, bind_exc, bind_bad, sr_ok, sr_exc, sr_bad, res_next, res_ret, res_exc, nx_ok, isiV, tyV, subT, isB, subB, lenV, cmpV, eqS, isD, isDn, veq, itrV, optR_some, asg, wipe, binV, subV, asgS, partV, slcV, setV, isL, isS, listAt, if_true, and_t, and_f, List.map_cons, List.map_nil, List.length_cons, List.length_nil, List.replicate, List.cons_append, List.nil_append, List.set_cons_zero, List.set_cons_succ, List.getElem?_cons_zero, List.getElem?_cons_succ, dfaV, atI, ixN, Function.comp_def] at e ⊢
  rw [e]
  have ht : joinL [32] (wds acc 0 ps) = textL ps acc := rfl
  simp [evS, evE, evR, bind_ok, bind_exc, bind_bad, sr_ok, sr_exc, sr_bad, res_next, res_ret, res_exc, nx_ok, isiV, tyV, subT, isB, subB, lenV, cmpV, eqS, isD, isDn, veq, itrV, optR_some, asg, wipe, binV, subV, asgS, partV, slcV, setV, isL, isS, listAt, if_true, and_t, and_f, List.map_cons, List.map_nil, List.length_cons, List.length_nil, List.replicate, List.cons_append, List.nil_append, List.set_cons_zero, List.set_cons_succ, List.getElem?_cons_zero, List.getElem?_cons_succ, get_last, strsOf_map, ht, lim, hj, tempR, noref]
theorem c_check (wf d : Nat) (rows : List (List Int)) (acc : List Int) (lo : Nat) (lk : List Nat) (st : Store) (hl : rows.length < 50000) (ha : acc.length < 50000) : callF prog wf (d + 4) 3 [dfaV rows acc] lo lk st = if isAut rows acc then .ok .none st else .exc 0 st := by
  rw [callP (fd := f_check_automaton) rfl rfl rfl, runS_eq]
  cases h : isAut rows acc <;> simp [f_check_automaton, evS, evE, evR, bind_ok, bind_exc, bind_bad, sr_ok, sr_exc, sr_bad, res_next, res_ret, res_exc, nx_ok, isiV, tyV, subT, isB, subB, lenV, cmpV, eqS, isD, isDn, veq, itrV, optR_some, asg, wipe, binV, subV, asgS, partV, slcV, setV, isL, isS, listAt, if_true, and_t, and_f, List.map_cons, List.map_nil, List.length_cons, List.length_nil, List.replicate, List.cons_append, List.nil_append, List.set_cons_zero, List.set_cons_succ, List.getElem?_cons_zero, List.getElem?_cons_succ, c_aut, hl, ha, h]
theorem c_format (wf d : Nat) (ps : List (Int × Int)) (acc : List Int) (lo : Nat) (lk : List Nat) (st : Store) (h : ∀ p ∈ ps, inR p) (hl : ps.length ≤ 5) (ha : acc.length < 50000) : callF prog wf (d + 5) 5 [dfaV (ps.map pairL) acc] lo lk st = if isAut (ps.map pairL) acc then .ok (.str (textL ps acc)) st else .exc 0 st := by
  rw [callT (fd := f_format_automaton) rfl rfl rfl, runS_eq]
  have hl' : (ps.map pairL).length < 50000 := by simp; omega
  have e1 := c_check wf d (ps.map pairL) acc st.length [] st hl' ha
  have e2 := c_text_of wf (d + 3) ps acc st.length [] st h hl
  cases hh : isAut (ps.map pairL) acc with
  | true => rw [hh] at e1; simp [f_format_automaton, evS, evE, evR, bind_ok, bind_exc, bind_bad, sr_ok, sr_exc, sr_bad, res_next, res_ret, res_exc, nx_ok, isiV, tyV, subT, isB, subB, lenV, cmpV, eqS, isD, isDn, veq, itrV, optR_some, asg, wipe, binV, subV, asgS, partV, slcV, setV, isL, isS, listAt, if_true, and_t, and_f, List.map_cons, List.map_nil, List.length_cons, List.length_nil, List.replicate, List.cons_append, List.nil_append, List.set_cons_zero, List.set_cons_succ, List.getElem?_cons_zero, List.getElem?_cons_succ, e1, e2, tempR, noref]
  | false => rw [hh] at e1; simp [f_format_automaton, evS, evE, evR, bind_ok, bind_exc, bind_bad, sr_ok, sr_exc, sr_bad, res_next, res_ret, res_exc, nx_ok, isiV, tyV, subT, isB, subB, lenV, cmpV, eqS, isD, isDn, veq, itrV, optR_some, asg, wipe, binV, subV, asgS, partV, slcV, setV, isL, isS, listAt, if_true, and_t, and_f, List.map_cons, List.map_nil, List.length_cons, List.length_nil, List.replicate, List.cons_append, List.nil_append, List.set_cons_zero, List.set_cons_succ, List.getElem?_cons_zero, List.getElem?_cons_succ, e1, tempR]
end K52
end

section
set_option linter.all false
set_option maxRecDepth 100000
set_option autoImplicit false
namespace K52
open Mx Pl Ast_k52
def dg (c : Nat) : Int := if c ∈ [48, 49, 50, 51, 52] then (c : Int) - 48 else -1
def dgB (c : Nat) : Bool := decide (c ∈ [48, 49, 50, 51, 52])
theorem at2 (n d : Nat) : cutAt n d (some 2) = min 2 n := by
  unfold cutAt
  simp only [Option.map_some, Option.getD_some]
  split <;> omega
theorem cut2 {α : Type} (l : List α) : cut l (some 2) none = l.drop 2 := by
  have e : cutAt l.length l.length none = l.length := rfl
  unfold cut
  rw [at2, e]
  match l with
  | [] => rfl
  | [_] => rfl
  | _ :: _ :: r =>
    have : min 2 (r.length + 2) = 2 := by omega
    simp [this]
theorem cutT2 {α : Type} (l : List α) : cut l none (some 2) = l.take 2 := by
  have e : cutAt l.length 0 none = 0 := rfl
  unfold cut
  rw [at2, e]
  match l with
  | [] => rfl
  | [_] => rfl
  | _ :: _ :: r =>
    have : min 2 (r.length + 2) = 2 := by omega
    simp [this]
theorem e0p (cx : Ctx) (lk : List Nat) (st : Store) (x0 x1 x2 x3 x4 x6 : Option Val) (c : Nat) : evE cx e0_parse_automaton lk [x0, x1, x2, x3, x4, some (.str [c]), x6] st = .ok (.int (dg c)) st := by
  by_cases h : c ∈ [48, 49, 50, 51, 52]
  · have : 48 ≤ c ∧ c ≤ 57 := by simp at h; omega
    simp only [e0_parse_automaton, evS, evE, evR, bind_ok, bind_exc, bind_bad, sr_ok, sr_exc, sr_bad, res_next, res_ret, res_exc, nx_ok, isiV, tyV, subT, isB, subB, lenV, cmpV, eqS, isD, isDn, veq, itrV, optR_some, asg, wipe, binV, subV, asgS, partV, slcV, setV, isL, isS, listAt, if_true, and_t, and_f, List.map_cons, List.map_nil, List.length_cons, List.length_nil, List.replicate, List.cons_append, List.nil_append, List.set_cons_zero, List.set_cons_succ, List.getElem?_cons_zero, List.getElem?_cons_succ, inS, h, decide_true, dg, this]
    try simp [evS, evE, evR, bind_ok, bind_exc, bind_bad, sr_ok, sr_exc, sr_bad, res_next, res_ret, res_exc, nx_ok, isiV, tyV, subT, isB, subB, lenV, cmpV, eqS, isD, isDn, veq, itrV, optR_some, asg, wipe, binV, subV, asgS, partV, slcV, setV, isL, isS, listAt, if_true, and_t, and_f, List.map_cons, List.map_nil, List.length_cons, List.length_nil, List.replicate, List.cons_append, List.nil_append, List.set_cons_zero, List.set_cons_succ, List.getElem?_cons_zero, List.getElem?_cons_succ, this]
  · simp only [e0_parse_automaton, evS, evE, evR, bind_ok, bind_exc, bind_bad, sr_ok, sr_exc, sr_bad, res_next, res_ret, res_exc, nx_ok, isiV, tyV, subT, isB, subB, lenV, cmpV, eqS, isD, isDn, veq, itrV, optR_some, asg, wipe, binV, subV, asgS, partV, slcV, setV, isL, isS, listAt, if_true, and_t, and_f, List.map_cons, List.map_nil, List.length_cons, List.length_nil, List.replicate, List.cons_append, List.nil_append, List.set_cons_zero, List.set_cons_succ, List.getElem?_cons_zero, List.getElem?_cons_succ, inS, h, decide_false, dg]
    try simp [evS, evE, evR, bind_ok, bind_exc, bind_bad, sr_ok, sr_exc, sr_bad, res_next, res_ret, res_exc, nx_ok, isiV, tyV, subT, isB, subB, lenV, cmpV, eqS, isD, isDn, veq, itrV, optR_some, asg, wipe, binV, subV, asgS, partV, slcV, setV, isL, isS, listAt, if_true, and_t, and_f, List.map_cons, List.map_nil, List.length_cons, List.length_nil, List.replicate, List.cons_append, List.nil_append, List.set_cons_zero, List.set_cons_succ, List.getElem?_cons_zero, List.getElem?_cons_succ]
def rowOf (w : List Nat) : List Int := (w.take 2).map dg
theorem e1p (cx : Ctx) (lk : List Nat) (st : Store) (x0 x1 x2 x3 x5 x6 : Option Val) (w : List Nat) : evE cx e1_parse_automaton lk [x0, x1, x2, x3, some (.str w), x5, x6] st = .ok (rowV (rowOf w)) st := by
  simp [e1_parse_automaton, r0_parse_automaton, evS, evE, evR, bind_ok, bind_exc, bind_bad, sr_ok, sr_exc, sr_bad, res_next, res_ret, res_exc, nx_ok, isiV, tyV, subT, isB, subB, lenV, cmpV, eqS, isD, isDn, veq, itrV, optR_some, asg, wipe, binV, subV, asgS, partV, slcV, setV, isL, isS, listAt, if_true, and_t, and_f, List.map_cons, List.map_nil, List.length_cons, List.length_nil, List.replicate, List.cons_append, List.nil_append, List.set_cons_zero, List.set_cons_succ, List.getElem?_cons_zero, List.getElem?_cons_succ, cutT2]
  rw [← List.map_take, loopC_pure (g := fun c => .int (dg c))]
  · simp [evS, evE, evR, bind_ok, bind_exc, bind_bad, sr_ok, sr_exc, sr_bad, res_next, res_ret, res_exc, nx_ok, isiV, tyV, subT, isB, subB, lenV, cmpV, eqS, isD, isDn, veq, itrV, optR_some, asg, wipe, binV, subV, asgS, partV, slcV, setV, isL, isS, listAt, if_true, and_t, and_f, List.map_cons, List.map_nil, List.length_cons, List.length_nil, List.replicate, List.cons_append, List.nil_append, List.set_cons_zero, List.set_cons_succ, List.getElem?_cons_zero, List.getElem?_cons_succ, lim, rowV, rowOf]
    rw [if_pos (by omega)]
    rfl
  · intro c _
    rw [e0p]
    rfl
def accFrom (i : Nat) (ws : List (List Nat)) : List Int := (ws.zipIdx i).filterMap fun p => if p.1.drop 2 == [42] then some (p.2 : Int) else none
theorem k0p (cx : Ctx) (lk : List Nat) (st : Store) (x0 x1 x2 x3 x5 x6 : Option Val) (w : List Nat) : evE cx k0_parse_automaton lk [x0, x1, x2, x3, some (.str w), x5, x6] st = .ok (.bool (w.drop 2 == [42])) st := by
  simp [k0_parse_automaton, evS, evE, evR, bind_ok, bind_exc, bind_bad, sr_ok, sr_exc, sr_bad, res_next, res_ret, res_exc, nx_ok, isiV, tyV, subT, isB, subB, lenV, cmpV, eqS, isD, isDn, veq, itrV, optR_some, asg, wipe, binV, subV, asgS, partV, slcV, setV, isL, isS, listAt, if_true, and_t, and_f, List.map_cons, List.map_nil, List.length_cons, List.length_nil, List.replicate, List.cons_append, List.nil_append, List.set_cons_zero, List.set_cons_succ, List.getElem?_cons_zero, List.getElem?_cons_succ, cut2]
theorem split_len (c : Nat) : ∀ t : List Nat, (splitL c t).length ≤ t.length + 1
  | [] => by simp [splitL]
  | x :: r => by
    have := split_len c r
    rw [splitL]
    split
    · simp; omega
    · split
      · rename_i h t e
        rw [e] at this
        simp at this ⊢
        omega
      · simp
theorem acc_len (i : Nat) (ws : List (List Nat)) : (accFrom i ws).length ≤ ws.length := by
  unfold accFrom
  have := List.length_filterMap_le (fun p : List Nat × Nat => if p.1.drop 2 == [42] then some (p.2 : Int) else none) (ws.zipIdx i)
  simpa using this
theorem r1p (cx : Ctx) (lk : List Nat) (st : Store) (x0 x3 x4 x6 x5 : Option Val) (x2 : Option Val) (n : Nat) (ws : List (List Nat)) (hs : st[n]? = some (.lst (ws.map .str))) (hl : ws.length < 50000) : evR cx r1_parse_automaton lk [x0, some (.ref n), x2, x3, x4, x5, x6] st = .ok (ws.map fun w => rowV (rowOf w), []) st := by
  simp [r1_parse_automaton, evS, evE, evR, bind_ok, bind_exc, bind_bad, sr_ok, sr_exc, sr_bad, res_next, res_ret, res_exc, nx_ok, isiV, tyV, subT, isB, subB, lenV, cmpV, eqS, isD, isDn, veq, itrV, optR_some, asg, wipe, binV, subV, asgS, partV, slcV, setV, isL, isS, listAt, if_true, and_t, and_f, List.map_cons, List.map_nil, List.length_cons, List.length_nil, List.replicate, List.cons_append, List.nil_append, List.set_cons_zero, List.set_cons_succ, List.getElem?_cons_zero, List.getElem?_cons_succ, hs]
  rw [loopC_pure (g := fun w => rowV (rowOf w))]
  · simp [evS, evE, evR, bind_ok, bind_exc, bind_bad, sr_ok, sr_exc, sr_bad, res_next, res_ret, res_exc, nx_ok, isiV, tyV, subT, isB, subB, lenV, cmpV, eqS, isD, isDn, veq, itrV, optR_some, asg, wipe, binV, subV, asgS, partV, slcV, setV, isL, isS, listAt, if_true, and_t, and_f, List.map_cons, List.map_nil, List.length_cons, List.length_nil, List.replicate, List.cons_append, List.nil_append, List.set_cons_zero, List.set_cons_succ, List.getElem?_cons_zero, List.getElem?_cons_succ, lim, show ws.length < 100000 by omega]
  · intro w _
    rw [e1p]
    rfl
theorem r2p (cx : Ctx) (lk : List Nat) (st : Store) (x0 x3 x4 x6 x5 : Option Val) (x2 : Option Val) (n : Nat) (ws : List (List Nat)) (hs : st[n]? = some (.lst (ws.map .str))) (hl : ws.length < 50000) : evR cx r2_parse_automaton lk [x0, some (.ref n), x2, x3, x4, x5, x6] st = .ok ((accFrom 0 ws).map .int, []) st := by
  have e : enumL 0 (ws.map .str) = (ws.zipIdx 0).map fun p => .tup [.int p.2, .str p.1] := by
    rw [enumL_eq, List.zipIdx_map, List.map_map]
    rfl
  have := acc_len 0 ws
  simp [r2_parse_automaton, evS, evE, evR, bind_ok, bind_exc, bind_bad, sr_ok, sr_exc, sr_bad, res_next, res_ret, res_exc, nx_ok, isiV, tyV, subT, isB, subB, lenV, cmpV, eqS, isD, isDn, veq, itrV, optR_some, asg, wipe, binV, subV, asgS, partV, slcV, setV, isL, isS, listAt, if_true, and_t, and_f, List.map_cons, List.map_nil, List.length_cons, List.length_nil, List.replicate, List.cons_append, List.nil_append, List.set_cons_zero, List.set_cons_succ, List.getElem?_cons_zero, List.getElem?_cons_succ, hs]
  rw [e, loopC_map (g := fun p : List Nat × Nat => if p.1.drop 2 == [42] then some (.int (p.2 : Int)) else none)]
  · have e2 : (ws.zipIdx 0).filterMap (fun p : List Nat × Nat => if p.1.drop 2 == [42] then some (Val.int (p.2 : Int)) else none) = (accFrom 0 ws).map .int := by
      unfold accFrom
      rw [List.map_filterMap]
      congr 1
      funext p
      split <;> rfl
    rw [e2]
    simp [evS, evE, evR, bind_ok, bind_exc, bind_bad, sr_ok, sr_exc, sr_bad, res_next, res_ret, res_exc, nx_ok, isiV, tyV, subT, isB, subB, lenV, cmpV, eqS, isD, isDn, veq, itrV, optR_some, asg, wipe, binV, subV, asgS, partV, slcV, setV, isL, isS, listAt, if_true, and_t, and_f, List.map_cons, List.map_nil, List.length_cons, List.length_nil, List.replicate, List.cons_append, List.nil_append, List.set_cons_zero, List.set_cons_succ, List.getElem?_cons_zero, List.getElem?_cons_succ, lim, show (accFrom 0 ws).length < 100000 by omega]
  · intro p _
    cases hp : (p.1.drop 2 == [42]) <;> simp [evS, evE, evR, bind_ok, bind_exc, bind_bad, sr_ok, sr_exc, sr_bad, res_next, res_ret, res_exc, nx_ok, isiV, tyV, subT, isB, subB, lenV, cmpV, eqS, isD, isDn, veq, itrV, optR_some, asg, wipe, binV, subV, asgS, partV, slcV, setV, isL, isS, listAt, if_true, and_t, and_f, List.map_cons, List.map_nil, List.length_cons, List.length_nil, List.replicate, List.cons_append, List.nil_append, List.set_cons_zero, List.set_cons_succ, List.getElem?_cons_zero, List.getElem?_cons_succ, k0p, hp]
def psOf (ws : List (List Nat)) : List (Int × Int) := ws.map fun w => (dg (w.getD 0 0), dg (w.getD 1 0))
theorem aut_ps {ws : List (List Nat)} {acc : List Int} (h : isAut (ws.map rowOf) acc = true) : ws.map rowOf = (psOf ws).map pairL ∧ (∀ p ∈ psOf ws, inR p) ∧ ws.length ≤ 5 := by
  simp only [isAut, Bool.and_eq_true, decide_eq_true_eq, List.length_map, List.all_eq_true] at h
  obtain ⟨⟨⟨⟨h1, h2⟩, h3⟩, _⟩, _⟩ := h
  have key : ∀ w ∈ ws, rowOf w = pairL (dg (w.getD 0 0), dg (w.getD 1 0)) ∧ inR (dg (w.getD 0 0), dg (w.getD 1 0)) := by
    intro w hw
    have hr := h3 (rowOf w) (List.mem_map_of_mem hw)
    simp only [rowB, Bool.and_eq_true, beq_iff_eq, List.all_eq_true, decide_eq_true_eq] at hr
    match w, hr with
    | [], hr => simp [rowOf] at hr
    | [_], hr => simp [rowOf] at hr
    | a :: b :: r, hr =>
      have e : rowOf (a :: b :: r) = [dg a, dg b] := by simp [rowOf]
      rw [e] at hr
      have ha := hr.2 (dg a) (by simp)
      have hb := hr.2 (dg b) (by simp)
      refine ⟨by rw [e]; rfl, ⟨ha.1, ?_⟩, hb.1, ?_⟩
      · show dg a ≤ 4
        omega
      · show dg b ≤ 4
        omega
  refine ⟨?_, fun p hp => ?_, h2⟩
  · unfold psOf
    rw [List.map_map]
    exact List.map_congr_left fun w hw => (key w hw).1
  · unfold psOf at hp
    obtain ⟨w, hw, rfl⟩ := List.mem_map.mp hp
    exact (key w hw).2
theorem noref_ints : ∀ l : List Int, norefL (l.map .int) = true
  | [] => rfl
  | x :: r => by rw [List.map_cons, norefL, noref_ints r]; rfl
theorem noref_rows : ∀ l : List (List Int), norefL (l.map rowV) = true
  | [] => rfl
  | x :: r => by
    rw [List.map_cons, norefL, noref_rows r, rowV, noref, noref_ints]
    rfl
theorem noref_dfa (rows : List (List Int)) (acc : List Int) : noref (dfaV rows acc) = true := by
  simp [dfaV, noref, norefL, noref_rows, noref_ints]
def rowsOf (ws : List (List Nat)) : List (List Int) := ws.map rowOf
theorem c_parse (wf d : Nat) (t : List Nat) (lo : Nat) (lk : List Nat) (st : Store) (hl : t.length < 1000) : callF prog wf (d + 4) 6 [.str t] lo lk st =
    if isAut (rowsOf (splitL 32 t)) (accFrom 0 (splitL 32 t)) && (textL (psOf (splitL 32 t)) (accFrom 0 (splitL 32 t)) == t) then .ok (dfaV (rowsOf (splitL 32 t)) (accFrom 0 (splitL 32 t))) st else .exc 9 st := by
  rw [callT (fd := f_parse_automaton) rfl rfl rfl, runS_eq]
  have hws : (splitL 32 t).length < 50000 := by have := split_len 32 t; omega
  have hac : (accFrom 0 (splitL 32 t)).length < 50000 := by have := acc_len 0 (splitL 32 t); omega
  obtain ⟨ws, hw⟩ : ∃ ws, splitL 32 t = ws := ⟨_, rfl⟩
  rw [hw] at hws hac ⊢
  have q1 := fun cx lk x0 x3 x4 x6 x5 x2 => r1p cx lk (st ++ [.lst (ws.map .str)]) x0 x3 x4 x6 x5 x2 st.length ws (get_last _ _) hws
  have q2 := fun cx lk x0 x3 x4 x6 x5 x2 => r2p cx lk (st ++ [.lst (ws.map .str)]) x0 x3 x4 x6 x5 x2 st.length ws (get_last _ _) hws
  have ev : ∀ acc, Val.tup [Val.tup (ws.map fun w => rowV (rowOf w)), .tup (acc.map .int)] = dfaV (rowsOf ws) acc := fun acc => by simp [dfaV, rowsOf, Function.comp_def]
  have ea := c_aut wf d (rowsOf ws) (accFrom 0 ws) st.length [] (st ++ [.lst (ws.map .str)]) (by simpa [rowsOf] using hws) hac
  rw [← ev] at ea ⊢
  cases hA : isAut (rowsOf ws) (accFrom 0 ws) with
  | false =>
    rw [hA] at ea
    simp [f_parse_automaton, evS, evE, evR, bind_ok, bind_exc, bind_bad, sr_ok, sr_exc, sr_bad, res_next, res_ret, res_exc, nx_ok, isiV, tyV, subT, isB, subB, lenV, cmpV, eqS, isD, isDn, veq, itrV, optR_some, asg, wipe, binV, subV, asgS, partV, slcV, setV, isL, isS, listAt, if_true, and_t, and_f, List.map_cons, List.map_nil, List.length_cons, List.length_nil, List.replicate, List.cons_append, List.nil_append, List.set_cons_zero, List.set_cons_succ, List.getElem?_cons_zero, List.getElem?_cons_succ, get_last, hw, q1, q2, lim, show ws.length < 100000 by omega, show (accFrom 0 ws).length < 100000 by omega, ea, tempR]
  | true =>
    rw [hA] at ea
    obtain ⟨p1, p2, p3⟩ := aut_ps hA
    have et := c_text_of wf (d + 2) (psOf ws) (accFrom 0 ws) st.length [] (st ++ [.lst (ws.map .str)]) p2 (by simpa [psOf] using p3)
    rw [← p1] at et
    change callF prog wf (d + 3) 4 [dfaV (rowsOf ws) (accFrom 0 ws)] _ _ _ = _ at et
    rw [← ev] at et
    have hn : noref (.tup [.tup (ws.map fun w => rowV (rowOf w)), .tup ((accFrom 0 ws).map .int)]) = true := by
      rw [ev]
      exact noref_dfa _ _
    cases hT : (textL (psOf ws) (accFrom 0 ws) == t) <;> simp [f_parse_automaton, evS, evE, evR, bind_ok, bind_exc, bind_bad, sr_ok, sr_exc, sr_bad, res_next, res_ret, res_exc, nx_ok, isiV, tyV, subT, isB, subB, lenV, cmpV, eqS, isD, isDn, veq, itrV, optR_some, asg, wipe, binV, subV, asgS, partV, slcV, setV, isL, isS, listAt, if_true, and_t, and_f, List.map_cons, List.map_nil, List.length_cons, List.length_nil, List.replicate, List.cons_append, List.nil_append, List.set_cons_zero, List.set_cons_succ, List.getElem?_cons_zero, List.getElem?_cons_succ, get_last, hw, q1, q2, lim, show ws.length < 100000 by omega, show (accFrom 0 ws).length < 100000 by omega, ea, et, hT, tempR, hn]
end K52
end

section
set_option linter.all false
set_option maxRecDepth 100000
set_option autoImplicit false
namespace K52
open Mx Pl Ast_k52
def wfB (w : List Nat) : Bool := (w.length == 2 || w.length == 3) && dgB (w.getD 0 0) && dgB (w.getD 1 0) && (w.drop 2 == [] || w.drop 2 == [42])
theorem idx48 {c : Nat} (h : dgB c = true) : [48, 49, 50, 51, 52].idxOf? c = some (c - 48) ∧ [48, 49, 50, 51, 52].count c = 1 ∧ dg c = ((c - 48 : Nat) : Int) := by
  have : c = 48 ∨ c = 49 ∨ c = 50 ∨ c = 51 ∨ c = 52 := by simpa [dgB] using h
  rcases this with rfl | rfl | rfl | rfl | rfl <;> decide
theorem inS_chr (st : Store) (c : Nat) : inS st (.str [c]) (.str [48, 49, 50, 51, 52]) = some (dgB c) := rfl
theorem g0 (st : Store) (a b c : Obj) : (st ++ [a, b, c])[st.length]? = some a := by simp
theorem g1 (st : Store) (a b c : Obj) : (st ++ [a, b, c])[st.length + 1]? = some b := by simp
theorem g2 (st : Store) (a b c : Obj) : (st ++ [a, b, c])[st.length + 2]? = some c := by simp
theorem s0 (st : Store) (a b c x : Obj) : (st ++ [a, b, c]).set st.length x = st ++ [x, b, c] := by simp
theorem s1 (st : Store) (a b c x : Obj) : (st ++ [a, b, c]).set (st.length + 1) x = st ++ [a, x, c] := by
  rw [List.set_append_right _ _ (by omega)]
  simp
theorem body_no (cx : Ctx) (lk : List Nat) (st : Store) (x0 x1 x2 x3 x5 : Option Val) (w : List Nat) (h : wfB w = false) : evS cx b0__law_plain_read lk [x0, x1, x2, x3, some (.str w), x5] st = .ret .none st := by
  by_cases hl : w.length = 2 ∨ w.length = 3
  · match w, hl with
    | [a, b], _ =>
      have i1 := inS_int st 2 [2, 3]
      cases ha : dgB a <;> cases hb : dgB b <;> simp [wfB, ha, hb] at h <;> simp [b0__law_plain_read, evS, evE, evR, bind_ok, bind_exc, bind_bad, sr_ok, sr_exc, sr_bad, res_next, res_ret, res_exc, nx_ok, isiV, tyV, subT, isB, subB, lenV, cmpV, eqS, isD, isDn, veq, itrV, optR_some, asg, wipe, binV, subV, asgS, partV, slcV, setV, isL, isS, listAt, if_true, and_t, and_f, List.map_cons, List.map_nil, List.length_cons, List.length_nil, List.replicate, List.cons_append, List.nil_append, List.set_cons_zero, List.set_cons_succ, List.getElem?_cons_zero, List.getElem?_cons_succ, i1, atI, ixN, inS_chr, ha, hb] at i1 ⊢ <;> simp [i1, evS, evE, evR, bind_ok, bind_exc, bind_bad, sr_ok, sr_exc, sr_bad, res_next, res_ret, res_exc, nx_ok, isiV, tyV, subT, isB, subB, lenV, cmpV, eqS, isD, isDn, veq, itrV, optR_some, asg, wipe, binV, subV, asgS, partV, slcV, setV, isL, isS, listAt, if_true, and_t, and_f, List.map_cons, List.map_nil, List.length_cons, List.length_nil, List.replicate, List.cons_append, List.nil_append, List.set_cons_zero, List.set_cons_succ, List.getElem?_cons_zero, List.getElem?_cons_succ, atI, ixN, inS_chr, ha, hb]
    | [a, b, e], _ =>
      have i1 := inS_int st 3 [2, 3]
      have h4 : dgB a = true → dgB b = true → (42 == e) = false := fun q1 q2 => by
        simp [wfB, q1, q2] at h
        simpa using fun z => h z.symm
      cases ha : dgB a with
      | false =>
        simp [b0__law_plain_read, evS, evE, evR, bind_ok, bind_exc, bind_bad, sr_ok, sr_exc, sr_bad, res_next, res_ret, res_exc, nx_ok, isiV, tyV, subT, isB, subB, lenV, cmpV, eqS, isD, isDn, veq, itrV, optR_some, asg, wipe, binV, subV, asgS, partV, slcV, setV, isL, isS, listAt, if_true, and_t, and_f, List.map_cons, List.map_nil, List.length_cons, List.length_nil, List.replicate, List.cons_append, List.nil_append, List.set_cons_zero, List.set_cons_succ, List.getElem?_cons_zero, List.getElem?_cons_succ, i1, atI, ixN, inS_chr, ha] at i1 ⊢
        simp [i1, evS, evE, evR, bind_ok, bind_exc, bind_bad, sr_ok, sr_exc, sr_bad, res_next, res_ret, res_exc, nx_ok, isiV, tyV, subT, isB, subB, lenV, cmpV, eqS, isD, isDn, veq, itrV, optR_some, asg, wipe, binV, subV, asgS, partV, slcV, setV, isL, isS, listAt, if_true, and_t, and_f, List.map_cons, List.map_nil, List.length_cons, List.length_nil, List.replicate, List.cons_append, List.nil_append, List.set_cons_zero, List.set_cons_succ, List.getElem?_cons_zero, List.getElem?_cons_succ, atI, ixN, inS_chr, ha]
      | true =>
        cases hb : dgB b with
        | false =>
          simp [b0__law_plain_read, evS, evE, evR, bind_ok, bind_exc, bind_bad, sr_ok, sr_exc, sr_bad, res_next, res_ret, res_exc, nx_ok, isiV, tyV, subT, isB, subB, lenV, cmpV, eqS, isD, isDn, veq, itrV, optR_some, asg, wipe, binV, subV, asgS, partV, slcV, setV, isL, isS, listAt, if_true, and_t, and_f, List.map_cons, List.map_nil, List.length_cons, List.length_nil, List.replicate, List.cons_append, List.nil_append, List.set_cons_zero, List.set_cons_succ, List.getElem?_cons_zero, List.getElem?_cons_succ, i1, atI, ixN, inS_chr, ha, hb] at i1 ⊢
          simp [i1, evS, evE, evR, bind_ok, bind_exc, bind_bad, sr_ok, sr_exc, sr_bad, res_next, res_ret, res_exc, nx_ok, isiV, tyV, subT, isB, subB, lenV, cmpV, eqS, isD, isDn, veq, itrV, optR_some, asg, wipe, binV, subV, asgS, partV, slcV, setV, isL, isS, listAt, if_true, and_t, and_f, List.map_cons, List.map_nil, List.length_cons, List.length_nil, List.replicate, List.cons_append, List.nil_append, List.set_cons_zero, List.set_cons_succ, List.getElem?_cons_zero, List.getElem?_cons_succ, atI, ixN, inS_chr, ha, hb]
        | true =>
          have h5 := h4 ha hb
          simp [b0__law_plain_read, evS, evE, evR, bind_ok, bind_exc, bind_bad, sr_ok, sr_exc, sr_bad, res_next, res_ret, res_exc, nx_ok, isiV, tyV, subT, isB, subB, lenV, cmpV, eqS, isD, isDn, veq, itrV, optR_some, asg, wipe, binV, subV, asgS, partV, slcV, setV, isL, isS, listAt, if_true, and_t, and_f, List.map_cons, List.map_nil, List.length_cons, List.length_nil, List.replicate, List.cons_append, List.nil_append, List.set_cons_zero, List.set_cons_succ, List.getElem?_cons_zero, List.getElem?_cons_succ, i1, atI, ixN, inS_chr, ha, hb] at i1 ⊢
          simp [i1, evS, evE, evR, bind_ok, bind_exc, bind_bad, sr_ok, sr_exc, sr_bad, res_next, res_ret, res_exc, nx_ok, isiV, tyV, subT, isB, subB, lenV, cmpV, eqS, isD, isDn, veq, itrV, optR_some, asg, wipe, binV, subV, asgS, partV, slcV, setV, isL, isS, listAt, if_true, and_t, and_f, List.map_cons, List.map_nil, List.length_cons, List.length_nil, List.replicate, List.cons_append, List.nil_append, List.set_cons_zero, List.set_cons_succ, List.getElem?_cons_zero, List.getElem?_cons_succ, atI, ixN, inS_chr, ha, hb, cut2, inS, inL, isDL, isDLn, h5]
  · have i1 := inS_int st w.length [2, 3]
    have h2 : ¬ ((w.length : Int) = 2 ∨ (w.length : Int) = 3) := by omega
    simp [h2] at i1
    simp [b0__law_plain_read, evS, evE, evR, bind_ok, bind_exc, bind_bad, sr_ok, sr_exc, sr_bad, res_next, res_ret, res_exc, nx_ok, isiV, tyV, subT, isB, subB, lenV, cmpV, eqS, isD, isDn, veq, itrV, optR_some, asg, wipe, binV, subV, asgS, partV, slcV, setV, isL, isS, listAt, if_true, and_t, and_f, List.map_cons, List.map_nil, List.length_cons, List.length_nil, List.replicate, List.cons_append, List.nil_append, List.set_cons_zero, List.set_cons_succ, List.getElem?_cons_zero, List.getElem?_cons_succ, i1]
theorem body_ok (cx : Ctx) (st : Store) (hlo : cx.lo ≤ st.length) (x0 x5 : Option Val) (w : List Nat) (i : Nat) (R A W : List Val) (hR : R.length < 1000) (hA : A.length < 1000) (h : wfB w = true) :
    evS cx b0__law_plain_read [st.length + 2] [x0, some (.ref st.length), some (.ref (st.length + 1)), some (.int i), some (.str w), x5] (st ++ [.lst R, .lst A, .lst W]) =
      .next [x0, some (.ref st.length), some (.ref (st.length + 1)), some (.int i), some (.str w), x5] (st ++ [.lst (R ++ [rowV (rowOf w)]), .lst (A ++ (if w.drop 2 == [42] then [.int i] else [])), .lst W]) := by
  have hl : w.length = 2 ∨ w.length = 3 := by
    simp only [wfB, Bool.and_eq_true, Bool.or_eq_true, beq_iff_eq] at h
    exact h.1.1.1
  have hw : ∀ n, cx.lo ≤ st.length + n := fun n => by omega
  match w, hl with
  | [a, b], _ =>
    have ha : dgB a = true := by simp [wfB] at h; exact h.1
    have hb : dgB b = true := by simp [wfB] at h; exact h.2
    obtain ⟨a1, a2, a3⟩ := idx48 ha
    obtain ⟨b1, b2, b3⟩ := idx48 hb
    have i1 := inS_int (st ++ [.lst R, .lst A, .lst W]) 2 [2, 3]
    simp [b0__law_plain_read, evS, evE, evR, bind_ok, bind_exc, bind_bad, sr_ok, sr_exc, sr_bad, res_next, res_ret, res_exc, nx_ok, isiV, tyV, subT, isB, subB, lenV, cmpV, eqS, isD, isDn, veq, itrV, optR_some, asg, wipe, binV, subV, asgS, partV, slcV, setV, isL, isS, listAt, if_true, and_t, and_f, List.map_cons, List.map_nil, List.length_cons, List.length_nil, List.replicate, List.cons_append, List.nil_append, List.set_cons_zero, List.set_cons_succ, List.getElem?_cons_zero, List.getElem?_cons_succ, i1, atI, ixN, inS_chr, ha, hb] at i1 ⊢
    simp [i1, evS, evE, evR, bind_ok, bind_exc, bind_bad, sr_ok, sr_exc, sr_bad, res_next, res_ret, res_exc, nx_ok, isiV, tyV, subT, isB, subB, lenV, cmpV, eqS, isD, isDn, veq, itrV, optR_some, asg, wipe, binV, subV, asgS, partV, slcV, setV, isL, isS, listAt, if_true, and_t, and_f, List.map_cons, List.map_nil, List.length_cons, List.length_nil, List.replicate, List.cons_append, List.nil_append, List.set_cons_zero, List.set_cons_succ, List.getElem?_cons_zero, List.getElem?_cons_succ, atI, ixN, inS_chr, ha, hb, cut2, inS, inL, isDL, isDLn, g0, g1, s0, s1, a1, a2, b1, b2, lim, hlo, canW, show R.length < 100000 by omega, rowV, rowOf, a3, b3]
  | [a, b, e], _ =>
    have ha : dgB a = true := by simp [wfB] at h; exact h.1.1
    have hb : dgB b = true := by simp [wfB] at h; exact h.1.2
    have he : e = 42 := by simp [wfB] at h; exact h.2
    subst he
    obtain ⟨a1, a2, a3⟩ := idx48 ha
    obtain ⟨b1, b2, b3⟩ := idx48 hb
    have i1 := inS_int (st ++ [.lst R, .lst A, .lst W]) 3 [2, 3]
    simp [b0__law_plain_read, evS, evE, evR, bind_ok, bind_exc, bind_bad, sr_ok, sr_exc, sr_bad, res_next, res_ret, res_exc, nx_ok, isiV, tyV, subT, isB, subB, lenV, cmpV, eqS, isD, isDn, veq, itrV, optR_some, asg, wipe, binV, subV, asgS, partV, slcV, setV, isL, isS, listAt, if_true, and_t, and_f, List.map_cons, List.map_nil, List.length_cons, List.length_nil, List.replicate, List.cons_append, List.nil_append, List.set_cons_zero, List.set_cons_succ, List.getElem?_cons_zero, List.getElem?_cons_succ, i1, atI, ixN, inS_chr, ha, hb] at i1 ⊢
    simp [i1, evS, evE, evR, bind_ok, bind_exc, bind_bad, sr_ok, sr_exc, sr_bad, res_next, res_ret, res_exc, nx_ok, isiV, tyV, subT, isB, subB, lenV, cmpV, eqS, isD, isDn, veq, itrV, optR_some, asg, wipe, binV, subV, asgS, partV, slcV, setV, isL, isS, listAt, if_true, and_t, and_f, List.map_cons, List.map_nil, List.length_cons, List.length_nil, List.replicate, List.cons_append, List.nil_append, List.set_cons_zero, List.set_cons_succ, List.getElem?_cons_zero, List.getElem?_cons_succ, atI, ixN, inS_chr, ha, hb, cut2, inS, inL, isDL, isDLn, g0, g1, s0, s1, a1, a2, b1, b2, lim, hlo, hw, canW, show R.length < 100000 by omega, show A.length < 100000 by omega, rowV, rowOf, a3, b3]
theorem accFrom_cons (i : Nat) (w : List Nat) (r : List (List Nat)) : accFrom i (w :: r) = (if w.drop 2 == [42] then [(i : Int)] else []) ++ accFrom (i + 1) r := by
  unfold accFrom
  rw [List.zipIdx_cons, List.filterMap_cons]
  by_cases h : (w.drop 2 == [42]) = true
  · simp [h]
  · simp [h]
theorem loop_read (cx : Ctx) (st : Store) (hlo : cx.lo ≤ st.length) (x0 : Option Val) (W : List Val) : ∀ (ws : List (List Nat)) (i : Nat) (R A : List Val) (o3 o4 : Option Val), R.length + ws.length < 1000 → A.length + ws.length < 1000 →
    (ws.all wfB = true → ∃ o3' o4', loopF (fun x env st' => asg cx [st.length + 2] (.cons (.name 3) (.cons (.name 4) .nil)) x env st') (fun env st' => evS cx b0__law_plain_read [st.length + 2] env st')
      (enumL i (ws.map .str)) [x0, some (.ref st.length), some (.ref (st.length + 1)), o3, o4, none] (st ++ [.lst R, .lst A, .lst W]) =
      .next [x0, some (.ref st.length), some (.ref (st.length + 1)), o3', o4', none] (st ++ [.lst (R ++ ws.map fun w => rowV (rowOf w)), .lst (A ++ (accFrom i ws).map .int), .lst W])) ∧
    (ws.all wfB = false → ∃ st'', loopF (fun x env st' => asg cx [st.length + 2] (.cons (.name 3) (.cons (.name 4) .nil)) x env st') (fun env st' => evS cx b0__law_plain_read [st.length + 2] env st')
      (enumL i (ws.map .str)) [x0, some (.ref st.length), some (.ref (st.length + 1)), o3, o4, none] (st ++ [.lst R, .lst A, .lst W]) = .ret .none st'')
  | [], i, R, A, o3, o4, _, _ => ⟨fun _ => ⟨o3, o4, by simp [enumL, loopF, accFrom]⟩, fun h => by cases h⟩
  | w :: r, i, R, A, o3, o4, hR, hA => by
    have ha : asg cx [st.length + 2] (.cons (.name 3) (.cons (.name 4) .nil)) (.tup [.int i, .str w]) [x0, some (.ref st.length), some (.ref (st.length + 1)), o3, o4, none] (st ++ [.lst R, .lst A, .lst W]) = some ([x0, some (.ref st.length), some (.ref (st.length + 1)), some (.int i), some (.str w), none], st ++ [.lst R, .lst A, .lst W]) := by
      simp [evS, evE, evR, bind_ok, bind_exc, bind_bad, sr_ok, sr_exc, sr_bad, res_next, res_ret, res_exc, nx_ok, isiV, tyV, subT, isB, subB, lenV, cmpV, eqS, isD, isDn, veq, itrV, optR_some, asg, wipe, binV, subV, asgS, partV, slcV, setV, isL, isS, listAt, if_true, and_t, and_f, List.map_cons, List.map_nil, List.length_cons, List.length_nil, List.replicate, List.cons_append, List.nil_append, List.set_cons_zero, List.set_cons_succ, List.getElem?_cons_zero, List.getElem?_cons_succ]
    simp only [List.length_cons] at hR hA
    cases hw : wfB w with
    | false =>
      refine ⟨fun h => by simp [hw] at h, fun _ => ⟨st ++ [.lst R, .lst A, .lst W], ?_⟩⟩
      rw [List.map_cons, enumL]
      exact loopF_ret ha (body_no cx _ _ _ _ _ _ _ w hw)
    | true =>
      have hb := body_ok cx st hlo x0 none w i R A W (by omega) (by omega) hw
      have ih := loop_read cx st hlo x0 W r (i + 1) (R ++ [rowV (rowOf w)]) (A ++ (if w.drop 2 == [42] then [.int i] else [])) (some (.int i)) (some (.str w)) (by simp; omega) (by split <;> simp <;> omega)
      have e : (w :: r).all wfB = r.all wfB := by rw [List.all_cons, hw]; rfl
      rw [e, List.map_cons, enumL, loopF_next ha hb]
      refine ⟨fun h => ?_, ih.2⟩
      obtain ⟨a, b, q⟩ := ih.1 h
      refine ⟨a, b, ?_⟩
      rw [q, accFrom_cons]
      by_cases hd : (w.drop 2 == [42]) = true
      · simp [hd]
      · simp [hd]
theorem c_read (wf d : Nat) (t : List Nat) (lo : Nat) (lk : List Nat) (st : Store) (hl : t.length < 500) : callF prog wf (d + 4) 16 [.str t] lo lk st =
    if (splitL 32 t).all wfB && isAut (rowsOf (splitL 32 t)) (accFrom 0 (splitL 32 t)) then .ok (dfaV (rowsOf (splitL 32 t)) (accFrom 0 (splitL 32 t))) st else .ok .none st := by
  rw [callT (fd := f__law_plain_read) rfl rfl rfl, runS_eq]
  have hws : (splitL 32 t).length < 600 := by have := split_len 32 t; omega
  have hac : (accFrom 0 (splitL 32 t)).length < 600 := by have := acc_len 0 (splitL 32 t); omega
  obtain ⟨ws, hw⟩ : ∃ ws, splitL 32 t = ws := ⟨_, rfl⟩
  rw [hw] at hws hac ⊢
  have hr := loop_read ⟨st.length, callF prog wf (d + 3), callC prog wf (d + 3), wf⟩ st (Nat.le_refl _) (some (.str t)) (ws.map .str) ws 0 [] [] none none (by simp; omega) (by simp; omega)
  have ev : ∀ acc, Val.tup [Val.tup (ws.map fun w => rowV (rowOf w)), .tup (acc.map .int)] = dfaV (rowsOf ws) acc := fun acc => by simp [dfaV, rowsOf, Function.comp_def]
  cases hA : ws.all wfB with
  | false =>
    obtain ⟨s2, e⟩ := hr.2 hA
    simp only [f__law_plain_read, evS, evE, evR, bind_ok, bind_exc, bind_bad, sr_ok, sr_exc, sr_bad, res_next, res_ret, res_exc, nx_ok, isiV, tyV, subT, isB, subB, lenV, cmpV, eqS, isD, isDn, veq, itrV, optR_some, asg, wipe, binV, subV, asgS, partV, slcV, setV, isL, isS, listAt, if_true, and_t, and_f, List.map_cons, List.map_nil, List.length_cons, List.length_nil, List.replicate, List.cons_append, List.nil_append, List.set_cons_zero, List.set_cons_succ, List.getElem?_cons_zero, List.getElem?_cons_succ, hw] at e ⊢
    simp [evS, evE, evR, bind_ok, bind_exc, bind_bad, sr_ok, sr_exc, sr_bad, res_next, res_ret, res_exc, nx_ok, isiV, tyV, subT, isB, subB, lenV, cmpV, eqS, isD, isDn, veq, itrV, optR_some, asg, wipe, binV, subV, asgS, partV, slcV, setV, isL, isS, listAt, if_true, and_t, and_f, List.map_cons, List.map_nil, List.length_cons, List.length_nil, List.replicate, List.cons_append, List.nil_append, List.set_cons_zero, List.set_cons_succ, List.getElem?_cons_zero, List.getElem?_cons_succ, hw] at e ⊢
    rw [e]
    simp [evS, evE, evR, bind_ok, bind_exc, bind_bad, sr_ok, sr_exc, sr_bad, res_next, res_ret, res_exc, nx_ok, isiV, tyV, subT, isB, subB, lenV, cmpV, eqS, isD, isDn, veq, itrV, optR_some, asg, wipe, binV, subV, asgS, partV, slcV, setV, isL, isS, listAt, if_true, and_t, and_f, List.map_cons, List.map_nil, List.length_cons, List.length_nil, List.replicate, List.cons_append, List.nil_append, List.set_cons_zero, List.set_cons_succ, List.getElem?_cons_zero, List.getElem?_cons_succ, tempR, noref]
  | true =>
    obtain ⟨a, b, e⟩ := hr.1 hA
    have ea := c_aut wf d (rowsOf ws) (accFrom 0 ws) st.length [] (st ++ [.lst (ws.map fun w => rowV (rowOf w)), .lst ((accFrom 0 ws).map .int), .lst (ws.map .str)]) (by simp [rowsOf]; omega) (by omega)
    rw [← ev] at ea ⊢
    have hn : noref (.tup [.tup (ws.map fun w => rowV (rowOf w)), .tup ((accFrom 0 ws).map .int)]) = true := by
      rw [ev]
      exact noref_dfa _ _
    simp only [f__law_plain_read, evS, evE, evR, bind_ok, bind_exc, bind_bad, sr_ok, sr_exc, sr_bad, res_next, res_ret, res_exc, nx_ok, isiV, tyV, subT, isB, subB, lenV, cmpV, eqS, isD, isDn, veq, itrV, optR_some, asg, wipe, binV, subV, asgS, partV, slcV, setV, isL, isS, listAt, if_true, and_t, and_f, List.map_cons, List.map_nil, List.length_cons, List.length_nil, List.replicate, List.cons_append, List.nil_append, List.set_cons_zero, List.set_cons_succ, List.getElem?_cons_zero, List.getElem?_cons_succ, hw] at e ⊢
    simp [evS, evE, evR, bind_ok, bind_exc, bind_bad, sr_ok, sr_exc, sr_bad, res_next, res_ret, res_exc, nx_ok, isiV, tyV, subT, isB, subB, lenV, cmpV, eqS, isD, isDn, veq, itrV, optR_some, asg, wipe, binV, subV, asgS, partV, slcV, setV, isL, isS, listAt, if_true, and_t, and_f, List.map_cons, List.map_nil, List.length_cons, List.length_nil, List.replicate, List.cons_append, List.nil_append, List.set_cons_zero, List.set_cons_succ, List.getElem?_cons_zero, List.getElem?_cons_succ, hw] at e ⊢
    rw [e]
    cases hh : isAut (rowsOf ws) (accFrom 0 ws) with
    | false =>
      simp [hh] at ea
      simp [evS, evE, evR, bind_ok, bind_exc, bind_bad, sr_ok, sr_exc, sr_bad, res_next, res_ret, res_exc, nx_ok, isiV, tyV, subT, isB, subB, lenV, cmpV, eqS, isD, isDn, veq, itrV, optR_some, asg, wipe, binV, subV, asgS, partV, slcV, setV, isL, isS, listAt, if_true, and_t, and_f, List.map_cons, List.map_nil, List.length_cons, List.length_nil, List.replicate, List.cons_append, List.nil_append, List.set_cons_zero, List.set_cons_succ, List.getElem?_cons_zero, List.getElem?_cons_succ, tempR, noref, ea, g0, g1]
    | true =>
      simp [hh] at ea
      simp [evS, evE, evR, bind_ok, bind_exc, bind_bad, sr_ok, sr_exc, sr_bad, res_next, res_ret, res_exc, nx_ok, isiV, tyV, subT, isB, subB, lenV, cmpV, eqS, isD, isDn, veq, itrV, optR_some, asg, wipe, binV, subV, asgS, partV, slcV, setV, isL, isS, listAt, if_true, and_t, and_f, List.map_cons, List.map_nil, List.length_cons, List.length_nil, List.replicate, List.cons_append, List.nil_append, List.set_cons_zero, List.set_cons_succ, List.getElem?_cons_zero, List.getElem?_cons_succ, tempR, ea, g0, g1, hn]
end K52
end

section
set_option linter.all false
set_option maxRecDepth 100000
set_option autoImplicit false
namespace K52
open Mx Pl Ast_k52
theorem split_ne (c : Nat) : ∀ t : List Nat, splitL c t ≠ []
  | [] => by simp [splitL]
  | x :: r => by
    rw [splitL]
    split
    · simp
    · split <;> simp
theorem join_cons (x : List Nat) (ws : List (List Nat)) (h : ws ≠ []) : joinL [32] (x :: ws) = x ++ 32 :: joinL [32] ws := by
  cases ws with
  | nil => exact absurd rfl h
  | cons y r => simp [joinL]
theorem join_head (c : Nat) (h : List Nat) (t : List (List Nat)) : joinL [32] ((c :: h) :: t) = c :: joinL [32] (h :: t) := by
  cases t <;> simp [joinL]
theorem join_split : ∀ t : List Nat, joinL [32] (splitL 32 t) = t
  | [] => rfl
  | x :: r => by
    have ih := join_split r
    have hn := split_ne 32 r
    rw [splitL]
    split
    · rename_i h
      subst h
      rw [join_cons _ _ hn, ih]
      rfl
    · split
      · rename_i h t e
        rw [e] at ih
        rw [join_head, ih]
      · rename_i e
        exact absurd e hn
theorem split_word : ∀ (w : List Nat) (t : List Nat), 32 ∉ w → splitL 32 (w ++ 32 :: t) = w :: splitL 32 t
  | [], t, _ => by simp [splitL]
  | x :: w, t, h => by
    have hx : x ≠ 32 := fun e => h (by simp [e])
    have ih := split_word w t (fun z => h (by simp [z]))
    rw [List.cons_append, splitL, if_neg hx, ih]
theorem split_last : ∀ (w : List Nat), 32 ∉ w → splitL 32 w = [w]
  | [], _ => rfl
  | x :: w, h => by
    have hx : x ≠ 32 := fun e => h (by simp [e])
    rw [splitL, if_neg hx, split_last w (fun z => h (by simp [z]))]
theorem split_join : ∀ ws : List (List Nat), ws ≠ [] → (∀ w ∈ ws, 32 ∉ w) → splitL 32 (joinL [32] ws) = ws
  | [], h, _ => absurd rfl h
  | [w], _, h => split_last w (h w (by simp))
  | w :: v :: r, _, h => by
    rw [join_cons _ _ (by simp), split_word _ _ (h w (by simp)), split_join (v :: r) (by simp) fun u hu => h u (by simp at hu ⊢; exact .inr hu)]
theorem wd_no (acc : List Int) (p : Int × Int) (i : Nat) : 32 ∉ wd acc p i := by
  unfold wd
  split <;> simp <;> omega
theorem wds_get (acc : List Int) : ∀ (ps : List (Int × Int)) (k j : Nat), (wds acc k ps)[j]? = (ps[j]?).map fun p => wd acc p (k + j)
  | [], k, j => by simp [wds]
  | p :: r, k, 0 => by simp [wds]
  | p :: r, k, j + 1 => by
    rw [wds, List.getElem?_cons_succ, List.getElem?_cons_succ, wds_get acc r (k + 1) j]
    congr 1
    funext q
    rw [show k + 1 + j = k + (j + 1) by omega]
theorem wds_no (acc : List Int) (ps : List (Int × Int)) (k : Nat) : ∀ w ∈ wds acc k ps, 32 ∉ w := by
  intro w hw
  obtain ⟨j, hj⟩ := List.getElem?_of_mem hw
  rw [wds_get] at hj
  cases hp : ps[j]? with
  | none => rw [hp] at hj; cases hj
  | some p => rw [hp] at hj; cases hj; exact wd_no _ _ _
theorem wds_ne (acc : List Int) {ps : List (Int × Int)} (h : ps ≠ []) (k : Nat) : wds acc k ps ≠ [] := by
  cases ps with
  | nil => exact absurd rfl h
  | cons p r => simp [wds]
theorem split_text (ps : List (Int × Int)) (acc : List Int) (h : ps ≠ []) : splitL 32 (textL ps acc) = wds acc 0 ps := split_join _ (wds_ne acc h 0) (wds_no acc ps 0)
theorem dgB_num {a : Int} (h : 0 ≤ a ∧ a ≤ 4) : dgB (48 + a.toNat) = true ∧ dg (48 + a.toNat) = a := by
  have : a = 0 ∨ a = 1 ∨ a = 2 ∨ a = 3 ∨ a = 4 := by omega
  rcases this with rfl | rfl | rfl | rfl | rfl <;> decide
theorem wd_wf (acc : List Int) {p : Int × Int} (h : inR p) (i : Nat) : wfB (wd acc p i) = true := by
  have h1 := (dgB_num h.1).1
  have h2 := (dgB_num h.2).1
  unfold wd
  split <;> simp [wfB, h1, h2]
theorem wds_wf (acc : List Int) (ps : List (Int × Int)) (h : ∀ p ∈ ps, inR p) (k : Nat) : (wds acc k ps).all wfB = true := by
  rw [List.all_eq_true]
  intro w hw
  obtain ⟨j, hj⟩ := List.getElem?_of_mem hw
  rw [wds_get] at hj
  cases hp : ps[j]? with
  | none => rw [hp] at hj; cases hj
  | some p => rw [hp] at hj; cases hj; exact wd_wf acc (h p (List.mem_of_getElem? hp)) _
theorem acc_mem (ws : List (List Nat)) (k : Nat) : (k : Int) ∈ accFrom 0 ws ↔ ∃ w, ws[k]? = some w ∧ w.drop 2 = [42] := by
  unfold accFrom
  rw [List.mem_filterMap]
  constructor
  · rintro ⟨⟨w, j⟩, hm, he⟩
    by_cases h : (w.drop 2 == [42]) = true
    · simp only [h, if_true, Option.some.injEq] at he
      have : j = k := by omega
      subst this
      exact ⟨w, List.mem_zipIdx_iff_getElem?.mp hm, by simpa using h⟩
    · simp [h] at he
  · rintro ⟨w, h1, h2⟩
    exact ⟨(w, k), List.mem_zipIdx_iff_getElem?.mpr h1, by simp [h2]⟩
theorem dg_back {c : Nat} (h : dgB c = true) : 48 + (dg c).toNat = c := by
  have : c = 48 ∨ c = 49 ∨ c = 50 ∨ c = 51 ∨ c = 52 := by simpa [dgB] using h
  rcases this with rfl | rfl | rfl | rfl | rfl <;> decide
theorem wd_back (acc : List Int) {w : List Nat} (h : wfB w = true) (i : Nat) (hi : (i : Int) ∈ acc ↔ w.drop 2 = [42]) : wd acc (dg (w.getD 0 0), dg (w.getD 1 0)) i = w := by
  have hl : w.length = 2 ∨ w.length = 3 := by
    simp only [wfB, Bool.and_eq_true, Bool.or_eq_true, beq_iff_eq] at h
    exact h.1.1.1
  match w, hl with
  | [a, b], _ =>
    have ha : dgB a = true := by simp [wfB] at h; exact h.1
    have hb : dgB b = true := by simp [wfB] at h; exact h.2
    have hn : ¬ (i : Int) ∈ acc := by rw [hi]; simp
    simp [wd, hn, dg_back ha, dg_back hb]
  | [a, b, e], _ =>
    have ha : dgB a = true := by simp [wfB] at h; exact h.1.1
    have hb : dgB b = true := by simp [wfB] at h; exact h.1.2
    have he : e = 42 := by simp [wfB] at h; exact h.2
    subst he
    have hn : (i : Int) ∈ acc := by rw [hi]; simp
    simp [wd, hn, dg_back ha, dg_back hb]
theorem wds_back (acc : List Int) : ∀ (r : List (List Nat)) (k : Nat), (∀ j w, r[j]? = some w → wfB w = true ∧ (((k + j : Nat) : Int) ∈ acc ↔ w.drop 2 = [42])) → wds acc k (psOf r) = r
  | [], k, _ => rfl
  | w :: r, k, h => by
    have h0 := h 0 w rfl
    show wd acc _ k :: wds acc (k + 1) (psOf r) = w :: r
    rw [wd_back acc h0.1 k h0.2, wds_back acc r (k + 1) fun j u hu => by
      have := h (j + 1) u hu
      rwa [show k + 1 + j = k + (j + 1) by omega]]
theorem key (t : List Nat) (h : isAut (rowsOf (splitL 32 t)) (accFrom 0 (splitL 32 t)) = true) : (textL (psOf (splitL 32 t)) (accFrom 0 (splitL 32 t)) == t) = (splitL 32 t).all wfB := by
  obtain ⟨p1, p2, p3⟩ := aut_ps h
  have hne : psOf (splitL 32 t) ≠ [] := by
    unfold psOf
    simpa using split_ne 32 t
  cases hw : (splitL 32 t).all wfB with
  | true =>
    have e : wds (accFrom 0 (splitL 32 t)) 0 (psOf (splitL 32 t)) = splitL 32 t := wds_back _ _ 0 fun j w hj => ⟨List.all_eq_true.mp hw w (List.mem_of_getElem? hj), by
      rw [Nat.zero_add, acc_mem]
      constructor
      · rintro ⟨u, hu, hd⟩
        rw [hj] at hu
        cases hu
        exact hd
      · exact fun hd => ⟨w, hj, hd⟩⟩
    unfold textL
    rw [e, join_split]
    simp
  | false =>
    cases ht : (textL (psOf (splitL 32 t)) (accFrom 0 (splitL 32 t)) == t) with
    | false => rfl
    | true =>
      have e := split_text (psOf (splitL 32 t)) (accFrom 0 (splitL 32 t)) hne
      rw [eq_of_beq ht] at e
      have := wds_wf (accFrom 0 (splitL 32 t)) (psOf (splitL 32 t)) p2 0
      rw [← e, hw] at this
      cases this
def goodT (t : List Nat) : Bool := (splitL 32 t).all wfB && isAut (rowsOf (splitL 32 t)) (accFrom 0 (splitL 32 t))
def dfaT (t : List Nat) : Val := dfaV (rowsOf (splitL 32 t)) (accFrom 0 (splitL 32 t))
theorem c_parse' (wf d : Nat) (t : List Nat) (lo : Nat) (lk : List Nat) (st : Store) (hl : t.length < 1000) : callF prog wf (d + 4) 6 [.str t] lo lk st = if goodT t then .ok (dfaT t) st else .exc 9 st := by
  rw [c_parse wf d t lo lk st hl]
  unfold goodT dfaT
  cases h : isAut (rowsOf (splitL 32 t)) (accFrom 0 (splitL 32 t)) with
  | false => simp
  | true =>
    rw [key t h]
    simp
theorem c_read' (wf d : Nat) (t : List Nat) (lo : Nat) (lk : List Nat) (st : Store) (hl : t.length < 500) : callF prog wf (d + 4) 16 [.str t] lo lk st = .ok (if goodT t then dfaT t else .none) st := by
  rw [c_read wf d t lo lk st hl]
  unfold goodT dfaT
  split <;> rfl
/-- accepting states: those below n with p -/
def accP (k n : Nat) (p : Nat → Bool) : List Int := ((List.range' k n).filter p).map fun (i : Nat) => (i : Int)
theorem accP_mem (k n : Nat) (p : Nat → Bool) (i : Nat) : (i : Int) ∈ accP k n p ↔ (k ≤ i ∧ i < k + n) ∧ p i = true := by
  unfold accP
  rw [List.mem_map]
  constructor
  · rintro ⟨j, hj, e⟩
    have : j = i := by omega
    subst this
    rw [List.mem_filter, List.mem_range'_1] at hj
    exact hj
  · rintro ⟨h1, h2⟩
    exact ⟨i, List.mem_filter.mpr ⟨List.mem_range'_1.mpr h1, h2⟩, rfl⟩
theorem acc_wds (acc : List Int) : ∀ (ps : List (Int × Int)) (k : Nat), accFrom k (wds acc k ps) = accP k ps.length fun i => decide ((i : Int) ∈ acc)
  | [], k => rfl
  | p :: r, k => by
    rw [wds, accFrom_cons, acc_wds acc r (k + 1)]
    unfold accP
    rw [List.length_cons, List.range'_succ, List.filter_cons]
    by_cases h : (k : Int) ∈ acc
    · simp [wd, h]
    · simp [wd, h]
theorem rows_wds (acc : List Int) (ps : List (Int × Int)) (h : ∀ p ∈ ps, inR p) (k : Nat) : rowsOf (wds acc k ps) = ps.map pairL := by
  apply List.ext_getElem?
  intro j
  unfold rowsOf
  rw [List.getElem?_map, wds_get, List.getElem?_map]
  cases hp : ps[j]? with
  | none => rfl
  | some p =>
    have hr := h p (List.mem_of_getElem? hp)
    simp [rowOf, wd, (dgB_num hr.1).2, (dgB_num hr.2).2, pairL]
theorem good_text (ps : List (Int × Int)) (p : Nat → Bool) (hne : ps ≠ []) (h : ∀ q ∈ ps, inR q) (ha : isAut (ps.map pairL) (accP 0 ps.length p) = true) :
    goodT (textL ps (accP 0 ps.length p)) = true ∧ dfaT (textL ps (accP 0 ps.length p)) = dfaV (ps.map pairL) (accP 0 ps.length p) := by
  have e2 : accFrom 0 (wds (accP 0 ps.length p) 0 ps) = accP 0 ps.length p := by
    rw [acc_wds]
    conv => rhs; unfold accP
    unfold accP
    congr 1
    apply List.filter_congr
    intro i hi
    rw [List.mem_range'_1] at hi
    have := accP_mem 0 ps.length p i
    unfold accP at this
    cases hp : p i with
    | true => simpa using this.mpr ⟨hi, hp⟩
    | false =>
      rw [decide_eq_false_iff_not]
      intro hm
      rw [this.mp hm |>.2] at hp
      cases hp
  unfold goodT dfaT
  rw [split_text _ _ hne, rows_wds _ _ h, e2, wds_wf _ _ h, ha]
  exact ⟨rfl, rfl⟩
theorem acc_sorted : ∀ l : List Nat, l.Pairwise (· < ·) → ((l.map fun (i : Nat) => (i : Int)).zip ((l.map fun (i : Nat) => (i : Int)).drop 1)).all (fun p => decide (p.1 < p.2)) = true
  | [], _ => rfl
  | [_], _ => rfl
  | a :: b :: r, h => by
    have h1 : a < b := by
      rw [List.pairwise_cons] at h
      exact h.1 b (by simp)
    have h2 := acc_sorted (b :: r) (List.pairwise_cons.mp h).2
    simp only [List.map_cons, List.drop_succ_cons, List.drop_zero, List.zip_cons_cons, List.all_cons, Bool.and_eq_true, decide_eq_true_eq] at h2 ⊢
    exact ⟨by omega, h2⟩
theorem isAut_of (ps : List (Int × Int)) (p : Nat → Bool) (h1 : 1 ≤ ps.length) (h2 : ps.length ≤ 5) (h : ∀ q ∈ ps, (0 ≤ q.1 ∧ q.1 < ps.length) ∧ 0 ≤ q.2 ∧ q.2 < ps.length) : isAut (ps.map pairL) (accP 0 ps.length p) = true := by
  simp only [isAut, List.length_map, Bool.and_eq_true, decide_eq_true_eq, List.all_eq_true]
  refine ⟨⟨⟨⟨h1, h2⟩, fun r hr => ?_⟩, fun x hx => ?_⟩, ?_⟩
  · obtain ⟨q, hq, rfl⟩ := List.mem_map.mp hr
    have := h q hq
    simp [rowB, pairL]
    omega
  · unfold accP at hx
    obtain ⟨i, hi, rfl⟩ := List.mem_map.mp hx
    have := (List.mem_filter.mp hi).1
    rw [List.mem_range'_1] at this
    omega
  · have := acc_sorted ((List.range' 0 ps.length).filter p) (List.Pairwise.filter _ List.pairwise_lt_range')
    rw [List.all_eq_true] at this
    intro x hx
    simpa using this x hx
end K52
end

section
set_option linter.all false
set_option maxRecDepth 100000
set_option autoImplicit false
set_option maxHeartbeats 4000000
namespace K52
open Mx Pl Ast_k52
theorem atI_nat {α : Type} (l : List α) (k : Nat) : atI l (k : Int) = l[k]? := by
  unfold atI ixN
  by_cases h : k < l.length
  · rw [if_pos ⟨by omega, by omega⟩, if_neg (by omega)]
    simp
  · rw [if_neg (fun z => h (by omega))]
    simp [h]
theorem ixN_nat (n k : Nat) (h : k < n) : ixN n (k : Int) = some k := by
  unfold ixN
  rw [if_pos ⟨by omega, by omega⟩, if_neg (by omega)]
  simp
theorem isDL_int (l : List Int) : isDL (l.map .int) = true := isDLn_int 7 l
/-- the script and the numbers that are drawn from it -/
structure Tn (s : List Int) (a b N : Nat) (st : Store) : Prop where
  ab : a ≠ b
  sc : ∃ o, (o = Obj.frz (s.map .int) ∨ o = Obj.lst (s.map .int)) ∧ st[a]? = some o
  tn : ∃ (n : Nat) (ts : List Int), n ≤ N ∧ ts.length = s.length ∧ st[b]? = some (.lst (.int n :: ts.map .int))
structure Dr (s : List Int) (a b N : Nat) (st st' : Store) : Prop where
  tn : Tn s a b N st'
  keep : ∀ k, k ≠ b → k < st.length → st'[k]? = st[k]?
  len : st.length ≤ st'.length
theorem setget_ne {α : Type} {l : List α} {b k : Nat} {x : α} (h : k ≠ b) : (l.set b x)[k]? = l[k]? := by
  rw [List.getElem?_set, if_neg (Ne.symm h)]
theorem Dr.mk' {s : List Int} {a b N : Nat} {st : Store} (t : Tn s a b N st) {n : Nat} {ts : List Int} {ex : Store} (hn : n ≤ N + 1) (hl : ts.length = s.length) : Dr s a b (N + 1) st (st.set b (.lst (.int n :: ts.map .int)) ++ ex) := by
  have hb : b < st.length := by
    obtain ⟨_, _, _, _, h⟩ := t.tn
    exact (List.getElem?_eq_some_iff.mp h).1
  obtain ⟨ob, hob, hsc⟩ := t.sc
  have ha : a < st.length := (List.getElem?_eq_some_iff.mp hsc).1
  have keep : ∀ k, k ≠ b → k < st.length → (st.set b (.lst (.int n :: ts.map .int)) ++ ex)[k]? = st[k]? := fun k h1 h2 => by
    rw [List.getElem?_append_left (by simpa using h2), setget_ne h1]
  refine ⟨⟨t.ab, ?_, n, ts, hn, hl, ?_⟩, keep, by simp⟩
  · exact ⟨ob, hob, by rw [keep a t.ab ha]; exact hsc⟩
  · rw [List.getElem?_append_left (by simpa using hb), List.getElem?_set, if_pos rfl, if_pos hb]
theorem c_draw_o (wf d : Nat) {s : List Int} {a b N : Nat} {st : Store} (t : Tn s a b N st) {ob : Obj} (hob : ob = Obj.frz (s.map .int) ∨ ob = Obj.lst (s.map .int)) (hsc : st[a]? = some ob) (hN : N < 1000000) {L : Int} (hL : 0 < L ∧ L < 1000000000) {lo : Nat} {lk : List Nat} (hlo : lo ≤ b) (hlk : b ∉ lk) :
    ∃ r st', callF prog wf (d + 1) 8 [.ref a, .ref b, .int L] lo lk st = .ok (.int r) st' ∧ (0 ≤ r ∧ r < L) ∧ Dr s a b (N + 1) st st' := by
  obtain ⟨n, ts, hn, hl, hb⟩ := t.tn
  have hbl : b < st.length := (List.getElem?_eq_some_iff.mp hb).1
  have hal : a < st.length := (List.getElem?_eq_some_iff.mp hsc).1
  obtain ⟨L1, hL1⟩ : ∃ st1 : Store, st1 = st.set b (.lst (.int ((n : Int) + 1) :: ts.map .int)) := ⟨_, rfl⟩
  have q1 : L1[b]? = some (.lst (.int ((n : Int) + 1) :: ts.map .int)) := by rw [hL1, List.getElem?_set, if_pos rfl, if_pos hbl]
  have q2 : L1[a]? = some ob := by rw [hL1, setget_ne t.ab]; exact hsc
  have hlen : L1.length = st.length := by rw [hL1]; simp
  have p1 : (L1 ++ [.lst []])[b]? = some (.lst (.int ((n : Int) + 1) :: ts.map .int)) := by rw [List.getElem?_append_left (by omega)]; exact q1
  have p2 : (L1 ++ [.lst []])[a]? = some ob := by rw [List.getElem?_append_left (by omega)]; exact q2
  have p3 : (L1 ++ [Obj.lst []])[L1.length]? = some (.lst []) := by simp
  have hcw : canW ⟨lo, callF prog wf d, callC prog wf d, wf⟩ lk b = true := by simp [canW, hlo, hlk]
  have hbig : big ((n : Int) + 1) = true := by unfold big; rw [decide_eq_true_eq]; omega
  have i0 : ∀ m : Nat, ixN (m + 1) 0 = some 0 := fun m => ixN_nat (m + 1) 0 (by omega)
  have b7 : big 7 = true := by decide
  have bA : big 104729 = true := by decide
  have bB : big 69621 = true := by decide
  have b10 : big 10 = true := by decide
  have at0 : ∀ (x : Val) (l : List Val), atI (x :: l) 0 = some x := fun x l => by unfold atI; rw [List.length_cons, i0]; rfl
  rw [callP (fd := f__law_draw) rfl rfl rfl, runS_eq]
  have s1 : evS ⟨lo, callF prog wf d, callC prog wf d, wf⟩ (.setSub (.var 1) (.cst (.int 0)) (.bin .add (.sub (.var 1) (.cst (.int 0))) (.cst (.int 1)))) lk [some (.ref a), some (.ref b), some (.int L), none, none, none] st = .next [some (.ref a), some (.ref b), some (.int L), none, none, none] L1 := by
    simp [evS, evE, evR, bind_ok, bind_exc, bind_bad, sr_ok, sr_exc, sr_bad, res_next, res_ret, res_exc, nx_ok, isiV, tyV, subT, isB, subB, lenV, cmpV, eqS, isD, isDn, veq, itrV, optR_some, asg, wipe, binV, subV, asgS, partV, slcV, setV, isL, isS, listAt, if_true, and_t, and_f, List.map_cons, List.map_nil, List.length_cons, List.length_nil, List.replicate, List.cons_append, List.nil_append, List.set_cons_zero, List.set_cons_succ, List.getElem?_cons_zero, List.getElem?_cons_succ, hb, at0, i0, hcw, hL1]
  have dv : 0 < L ∧ L < 1073741824 := by omega
  cases s with
  | nil =>
    have hts : ts = [] := List.eq_nil_of_length_eq_zero hl
    subst hts
    have hm := Int.emod_nonneg (((n : Int) + 1) * ((n : Int) + 1) * 7 / 3) (show L ≠ 0 by omega)
    have hm2 := Int.emod_lt_of_pos (((n : Int) + 1) * ((n : Int) + 1) * 7 / 3) hL.1
    refine ⟨((n : Int) + 1) * ((n : Int) + 1) * 7 / 3 % L, L1 ++ [.lst []], ?_, ⟨hm, hm2⟩, ?_⟩
    · refine (congrArg SR.res (seq_next s1)).trans ?_
      simp only [List.map_nil] at p1 hob
      rcases hob with rfl | rfl <;> simp [evS, evE, evR, bind_ok, bind_exc, bind_bad, sr_ok, sr_exc, sr_bad, res_next, res_ret, res_exc, nx_ok, isiV, tyV, subT, isB, subB, lenV, cmpV, eqS, isD, isDn, veq, itrV, optR_some, asg, wipe, binV, subV, asgS, partV, slcV, setV, isL, isS, listAt, if_true, and_t, and_f, List.map_cons, List.map_nil, List.length_cons, List.length_nil, List.replicate, List.cons_append, List.nil_append, List.set_cons_zero, List.set_cons_succ, List.getElem?_cons_zero, List.getElem?_cons_succ, at0, i0, p1, p2, p3, isDL, isDLn, veqL, hbig, b7, hL.1]
    · have := Dr.mk' t (n := n + 1) (ts := []) (ex := [.lst []]) (by omega) rfl
      rw [hL1]
      simpa using this
  | cons s0 sr =>
    obtain ⟨s, hs⟩ : ∃ s, s = s0 :: sr := ⟨_, rfl⟩
    rw [← hs] at t hl hob ⊢
    have hpos : 0 < s.length := by rw [hs]; simp
    obtain ⟨j, hj⟩ : ∃ j, j = (n + 1) % s.length := ⟨_, rfl⟩
    have hjl : j < s.length := by rw [hj]; exact Nat.mod_lt _ hpos
    have hj' : ((n : Int) + 1) % (s.length : Int) = (j : Int) := by rw [hj]; push_cast; rfl
    have e1 : (1 : Int) + (j : Int) = ((j + 1 : Nat) : Int) := by push_cast; omega
    have g1 : (s.map Val.int)[j]? = some (.int s[j]) := by simp [hjl]
    have hjt : j < ts.length := by omega
    have g2 : (Val.int ((n : Int) + 1) :: ts.map Val.int)[j + 1]? = some (.int ts[j]) := by simp [hjt]
    have hne : veqL (s.map Val.int) [] = false := by rw [hs]; rfl
    have s2 : evS ⟨lo, callF prog wf d, callC prog wf d, wf⟩ (.ite (.cmp .eq (.var 0) (.lst .nil)) (.ret (.bin .mod (.bin .fdiv (.bin .mul (.bin .mul (.sub (.var 1) (.cst (.int (0)))) (.sub (.var 1) (.cst (.int (0))))) (.cst (.int (7)))) (.cst (.int (3)))) (.var 2))) (.skip)) lk [some (.ref a), some (.ref b), some (.int L), none, none, none] L1 = .next [some (.ref a), some (.ref b), some (.int L), none, none, none] (L1 ++ [.lst []]) := by
      have : isDLn [] 7 = true := rfl
      rcases hob with rfl | rfl <;> simp [evS, evE, evR, bind_ok, bind_exc, bind_bad, sr_ok, sr_exc, sr_bad, res_next, res_ret, res_exc, nx_ok, isiV, tyV, subT, isB, subB, lenV, cmpV, eqS, isD, isDn, veq, itrV, optR_some, asg, wipe, binV, subV, asgS, partV, slcV, setV, isL, isS, listAt, if_true, and_t, and_f, List.map_cons, List.map_nil, List.length_cons, List.length_nil, List.replicate, List.cons_append, List.nil_append, List.set_cons_zero, List.set_cons_succ, List.getElem?_cons_zero, List.getElem?_cons_succ, p2, p3, isDL_int, isDL, this, hne, isDLn_int]
    have s3 : evS ⟨lo, callF prog wf d, callC prog wf d, wf⟩ (.asg (.name 3) (.bin .mod (.sub (.var 1) (.cst (.int (0)))) (.len (.var 0)))) lk [some (.ref a), some (.ref b), some (.int L), none, none, none] (L1 ++ [.lst []]) = .next [some (.ref a), some (.ref b), some (.int L), some (.int j), none, none] (L1 ++ [.lst []]) := by
      rcases hob with rfl | rfl <;> simp [evS, evE, evR, bind_ok, bind_exc, bind_bad, sr_ok, sr_exc, sr_bad, res_next, res_ret, res_exc, nx_ok, isiV, tyV, subT, isB, subB, lenV, cmpV, eqS, isD, isDn, veq, itrV, optR_some, asg, wipe, binV, subV, asgS, partV, slcV, setV, isL, isS, listAt, if_true, and_t, and_f, List.map_cons, List.map_nil, List.length_cons, List.length_nil, List.replicate, List.cons_append, List.nil_append, List.set_cons_zero, List.set_cons_succ, List.getElem?_cons_zero, List.getElem?_cons_succ, p1, p2, at0, hpos, hj']
    have s4 : evS ⟨lo, callF prog wf d, callC prog wf d, wf⟩ (.asg (.name 4) (.sub (.var 1) (.bin .add (.cst (.int (1))) (.var 3)))) lk [some (.ref a), some (.ref b), some (.int L), some (.int j), none, none] (L1 ++ [.lst []]) = .next [some (.ref a), some (.ref b), some (.int L), some (.int j), some (.int ts[j]), none] (L1 ++ [.lst []]) := by
      have at1 : atI (Val.int ((n : Int) + 1) :: ts.map Val.int) (1 + (j : Int)) = some (.int ts[j]) := by rw [e1, atI_nat]; exact g2
      have at2 : atI (Val.int ((n : Int) + 1) :: ts.map Val.int) ((j : Int) + 1) = some (.int ts[j]) := by rw [Int.add_comm (j : Int) 1]; exact at1
      simp [evS, evE, evR, bind_ok, bind_exc, bind_bad, sr_ok, sr_exc, sr_bad, res_next, res_ret, res_exc, nx_ok, isiV, tyV, subT, isB, subB, lenV, cmpV, eqS, isD, isDn, veq, itrV, optR_some, asg, wipe, binV, subV, asgS, partV, slcV, setV, isL, isS, listAt, if_true, and_t, and_f, List.map_cons, List.map_nil, List.length_cons, List.length_nil, List.replicate, List.cons_append, List.nil_append, List.set_cons_zero, List.set_cons_succ, List.getElem?_cons_zero, List.getElem?_cons_succ, p1, p2, at1, at2]
    obtain ⟨x, hx⟩ : ∃ x, s[j] = x := ⟨_, rfl⟩
    obtain ⟨y, hy⟩ : ∃ y, ts[j] = y := ⟨_, rfl⟩
    have gx : (s.map Val.int)[j]? = some (.int x) := by rw [g1, hx]
    rw [hy] at s4 g2
    by_cases hc : (1000000000000000000 : Int) ≤ x ∧ 0 < y
    · refine ⟨y % L, (L1 ++ [Obj.lst []]).set b (.lst (.int ((n : Int) + 1) :: (ts.set j (y / L)).map .int)), ?_, ⟨Int.emod_nonneg _ (by omega), Int.emod_lt_of_pos _ hL.1⟩, ?_⟩
      · refine (congrArg SR.res ((seq_next s1).trans ((seq_next s2).trans ((seq_next s3).trans (seq_next s4))))).trans ?_
        have i1 : ixN ((ts.length) + 1) (1 + (j : Int)) = some (j + 1) := by rw [e1]; exact ixN_nat _ _ (by omega)
        rcases hob with rfl | rfl <;> simp [evS, evE, evR, bind_ok, bind_exc, bind_bad, sr_ok, sr_exc, sr_bad, res_next, res_ret, res_exc, nx_ok, isiV, tyV, subT, isB, subB, lenV, cmpV, eqS, isD, isDn, veq, itrV, optR_some, asg, wipe, binV, subV, asgS, partV, slcV, setV, isL, isS, listAt, if_true, and_t, and_f, List.map_cons, List.map_nil, List.length_cons, List.length_nil, List.replicate, List.cons_append, List.nil_append, List.set_cons_zero, List.set_cons_succ, List.getElem?_cons_zero, List.getElem?_cons_succ, p1, p2, atI_nat, gx, hc, i1, dv, hcw, b10, List.map_set]
      · rw [hL1, List.set_append_left _ _ (by simpa using hbl), List.set_set]
        exact Dr.mk' t (n := n + 1) (ts := ts.set j (y / L)) (by omega) (by simpa using hl)
    · obtain ⟨u, hu⟩ : ∃ u, u = (x + 104729 * ((n : Int) + 1)) % 4294967291 := ⟨_, rfl⟩
      have u1 : 0 ≤ u ∧ u < 4294967291 := by rw [hu]; exact ⟨Int.emod_nonneg _ (by decide), Int.emod_lt_of_pos _ (by decide)⟩
      have bu : big u = true := by unfold big; rw [decide_eq_true_eq]; omega
      obtain ⟨v, hv⟩ : ∃ v, v = u ^ 5 % 4294967279 := ⟨_, rfl⟩
      refine ⟨(v / 64 * 69621 + v) % 4294967231 / 8 % L, L1 ++ [.lst []], ?_, ⟨Int.emod_nonneg _ (by omega), Int.emod_lt_of_pos _ hL.1⟩, ?_⟩
      · refine (congrArg SR.res ((seq_next s1).trans ((seq_next s2).trans ((seq_next s3).trans (seq_next s4))))).trans ?_
        by_cases hx1 : (1000000000000000000 : Int) ≤ x
        · have hy1 : ¬ 0 < y := fun z => hc ⟨hx1, z⟩
          rcases hob with rfl | rfl <;> simp [evS, evE, evR, bind_ok, bind_exc, bind_bad, sr_ok, sr_exc, sr_bad, res_next, res_ret, res_exc, nx_ok, isiV, tyV, subT, isB, subB, lenV, cmpV, eqS, isD, isDn, veq, itrV, optR_some, asg, wipe, binV, subV, asgS, partV, slcV, setV, isL, isS, listAt, if_true, and_t, and_f, List.map_cons, List.map_nil, List.length_cons, List.length_nil, List.replicate, List.cons_append, List.nil_append, List.set_cons_zero, List.set_cons_succ, List.getElem?_cons_zero, List.getElem?_cons_succ, p1, p2, atI_nat, at0, gx, hx1, hy1, b10, bA, bB, ← hu, bu, ← hv, hL.1]
        · rcases hob with rfl | rfl <;> simp [evS, evE, evR, bind_ok, bind_exc, bind_bad, sr_ok, sr_exc, sr_bad, res_next, res_ret, res_exc, nx_ok, isiV, tyV, subT, isB, subB, lenV, cmpV, eqS, isD, isDn, veq, itrV, optR_some, asg, wipe, binV, subV, asgS, partV, slcV, setV, isL, isS, listAt, if_true, and_t, and_f, List.map_cons, List.map_nil, List.length_cons, List.length_nil, List.replicate, List.cons_append, List.nil_append, List.set_cons_zero, List.set_cons_succ, List.getElem?_cons_zero, List.getElem?_cons_succ, p1, p2, atI_nat, at0, gx, hx1, b10, bA, bB, ← hu, bu, ← hv, hL.1]
      · rw [hL1]
        exact Dr.mk' t (n := n + 1) (ts := ts) (by omega) hl
theorem c_draw (wf d : Nat) {s : List Int} {a b N : Nat} {st : Store} (t : Tn s a b N st) (hN : N < 1000000) {L : Int} (hL : 0 < L ∧ L < 1000000000) {lo : Nat} {lk : List Nat} (hlo : lo ≤ b) (hlk : b ∉ lk) :
    ∃ r st', callF prog wf (d + 1) 8 [.ref a, .ref b, .int L] lo lk st = .ok (.int r) st' ∧ (0 ≤ r ∧ r < L) ∧ Dr s a b (N + 1) st st' := by
  obtain ⟨ob, hob, hsc⟩ := t.sc
  exact c_draw_o wf d t hob hsc hN hL hlo hlk
end K52
end

section
set_option linter.all false
set_option maxRecDepth 100000
set_option autoImplicit false
namespace K52
open Mx Pl Ast_k52
theorem Dr.trans {s : List Int} {a b N1 N2 : Nat} {st st1 st2 : Store} (h1 : Dr s a b N1 st st1) (h2 : Dr s a b N2 st1 st2) : Dr s a b N2 st st2 :=
  ⟨h2.tn, fun k hk hl => (h2.keep k hk (Nat.lt_of_lt_of_le hl h1.len)).trans (h1.keep k hk hl), Nat.le_trans h1.len h2.len⟩
theorem Tn.mono {s : List Int} {a b N N' : Nat} {st : Store} (t : Tn s a b N st) (h : N ≤ N') : Tn s a b N' st := by
  obtain ⟨n, ts, h1, h2, h3⟩ := t.tn
  exact ⟨t.ab, t.sc, n, ts, Nat.le_trans h1 h, h2, h3⟩
theorem Dr.refl {s : List Int} {a b N : Nat} {st : Store} (t : Tn s a b N st) : Dr s a b N st st := ⟨t, fun _ _ _ => rfl, Nat.le_refl _⟩
theorem loopC_rows {s : List Int} {a b M : Nat} {okp : Int × Int → Prop} {f : Val → Store → Res (Option Val)}
    (hf : ∀ x st N, N < M → Tn s a b N st → ∃ p st', f x st = .ok (some (rowV (pairL p))) st' ∧ okp p ∧ Dr s a b (N + 2) st st') : ∀ (l : List Val) (N : Nat) (st : Store), N + 2 * l.length < M → Tn s a b N st →
    ∃ (ps : List (Int × Int)) (st' : Store), loopC f l st = .ok (ps.map fun p => rowV (pairL p)) st' ∧ ps.length = l.length ∧ (∀ p ∈ ps, okp p) ∧ Dr s a b (N + 2 * l.length) st st'
  | [], N, st, _, t => ⟨[], st, rfl, rfl, fun p hp => by simp at hp, .refl t⟩
  | x :: r, N, st, h, t => by
    simp only [List.length_cons] at h
    obtain ⟨p, st1, e1, h1, d1⟩ := hf x st N (by omega) t
    obtain ⟨ps, st2, e2, h2, h3, d2⟩ := loopC_rows hf r (N + 2) st1 (by omega) d1.tn
    refine ⟨p :: ps, st2, ?_, by simp [h2], fun q hq => ?_, ?_⟩
    · rw [loopC, e1, bind_ok, e2, bind_ok]
      rfl
    · rcases List.mem_cons.mp hq with rfl | hq
      · exact h1
      · exact h3 q hq
    · rw [List.length_cons, show N + 2 * (r.length + 1) = N + 2 + 2 * r.length by omega]
      exact d1.trans d2
theorem accP_succ (k m : Nat) (t : Bool) (p : Nat → Bool) : accP k (m + 1) (fun i => if i = k then t else p i) = (if t then [(k : Int)] else []) ++ accP (k + 1) m p := by
  unfold accP
  rw [List.range'_succ, List.filter_cons]
  have e : (List.range' (k + 1) m).filter (fun i => if i = k then t else p i) = (List.range' (k + 1) m).filter p := by
    apply List.filter_congr
    intro i hi
    rw [List.mem_range'_1] at hi
    rw [if_neg (by omega)]
  rw [e]
  cases t <;> simp
theorem loopC_accs {s : List Int} {a b M : Nat} {f : Val → Store → Res (Option Val)}
    (hf : ∀ (k : Nat) st N, N < M → Tn s a b N st → ∃ (t : Bool) (st' : Store), f (.int k) st = .ok (if t then some (.int k) else none) st' ∧ Dr s a b (N + 1) st st') : ∀ (m k N : Nat) (st : Store), N + m < M → Tn s a b N st →
    ∃ p st', loopC f (rangeL k m) st = .ok ((accP k m p).map .int) st' ∧ Dr s a b (N + m) st st'
  | 0, k, N, st, _, t => ⟨fun _ => false, st, rfl, .refl t⟩
  | m + 1, k, N, st, h, t => by
    obtain ⟨t1, st1, e1, d1⟩ := hf k st N (by omega) t
    obtain ⟨p, st2, e2, d2⟩ := loopC_accs hf m (k + 1) (N + 1) st1 (by omega) d1.tn
    refine ⟨fun i => if i = k then t1 else p i, st2, ?_, ?_⟩
    · have e2' : loopC f (rangeL ((k : Int) + 1) m) st1 = .ok ((accP (k + 1) m p).map .int) st2 := by
        have : ((k + 1 : Nat) : Int) = (k : Int) + 1 := by push_cast; rfl
        rw [← this]
        exact e2
      rw [rangeL, loopC, e1, bind_ok, e2', bind_ok, accP_succ]
      cases t1 <;> simp
    · rw [show N + (m + 1) = N + 1 + m by omega]
      exact d1.trans d2
theorem rangeL_len (lo : Int) : ∀ n : Nat, (rangeL lo n).length = n
  | 0 => rfl
  | n + 1 => by rw [rangeL, List.length_cons, rangeL_len (lo + 1) n]
theorem acc_le (k m : Nat) (p : Nat → Bool) : (accP k m p).length ≤ m := by
  unfold accP
  have := List.length_filter_le p (List.range' k m)
  simpa using this
theorem r0a (wf d : Nat) {s : List Int} {a b N : Nat} {st : Store} (t : Tn s a b N st) (hN : N < 100000) {m : Nat} (hm : 1 ≤ m ∧ m ≤ 5) {lo : Nat} {lk : List Nat} (hlo : lo ≤ b) (hlk : b ∉ lk) (x2 x4 x5 : Option Val) :
    ∃ (ps : List (Int × Int)) (st' : Store), evR ⟨lo, callF prog wf (d + 1), callC prog wf (d + 1), wf⟩ r0__law_automaton lk [some (.ref a), some (.ref b), x2, some (.int m), x4, x5] st = .ok (ps.map fun p => rowV (pairL p), []) st' ∧ ps.length = m ∧ (∀ q ∈ ps, (0 ≤ q.1 ∧ q.1 < (m : Int)) ∧ 0 ≤ q.2 ∧ q.2 < (m : Int)) ∧ Dr s a b (N + 2 * m) st st' := by
  obtain ⟨ps, st', e, h1, h2, h3⟩ := loopC_rows (s := s) (a := a) (b := b) (M := 200000) (okp := fun q => (0 ≤ q.1 ∧ q.1 < (m : Int)) ∧ 0 ≤ q.2 ∧ q.2 < (m : Int))
    (f := itemF ⟨lo, callF prog wf (d + 1), callC prog wf (d + 1), wf⟩ (.name 5) (.cst (.bool true)) e0__law_automaton [5] ([] ++ lk) [some (.ref a), some (.ref b), x2, some (.int m), x4, x5]) (fun x st N hN t => by
      obtain ⟨r1, st1, e1, k1, d1⟩ := c_draw wf d t (by omega) (L := m) (by omega) hlo hlk
      obtain ⟨r2, st2, e2, k2, d2⟩ := c_draw wf d d1.tn (by omega) (L := m) (by omega) hlo hlk
      refine ⟨(r1, r2), st2, ?_, ⟨k1, k2⟩, d1.trans d2⟩
      simp [itemF, evS, evE, evR, bind_ok, bind_exc, bind_bad, sr_ok, sr_exc, sr_bad, res_next, res_ret, res_exc, nx_ok, isiV, tyV, subT, isB, subB, lenV, cmpV, eqS, isD, isDn, veq, itrV, optR_some, asg, wipe, binV, subV, asgS, partV, slcV, setV, isL, isS, listAt, if_true, and_t, and_f, List.map_cons, List.map_nil, List.length_cons, List.length_nil, List.replicate, List.cons_append, List.nil_append, List.set_cons_zero, List.set_cons_succ, List.getElem?_cons_zero, List.getElem?_cons_succ, e0__law_automaton, e1, e2, rowV, pairL]) (rangeL 0 m) N st (by rw [rangeL_len]; omega) t
  rw [rangeL_len] at h1 h3
  refine ⟨ps, st', ?_, h1, h2, h3⟩
  have hr : -100000 ≤ (m : Int) ∧ (m : Int) ≤ 100000 := by omega
  rw [r0__law_automaton, evR_comp]
  have hsrc : evR ⟨lo, callF prog wf (d + 1), callC prog wf (d + 1), wf⟩ (.range (.cons (.var 3) .nil)) lk [some (.ref a), some (.ref b), x2, some (.int m), x4, x5] st = .ok (rangeL 0 m, []) st := by
    simp [evS, evE, evR, bind_ok, bind_exc, bind_bad, sr_ok, sr_exc, sr_bad, res_next, res_ret, res_exc, nx_ok, isiV, tyV, subT, isB, subB, lenV, cmpV, eqS, isD, isDn, veq, itrV, optR_some, asg, wipe, binV, subV, asgS, partV, slcV, setV, isL, isS, listAt, if_true, and_t, and_f, List.map_cons, List.map_nil, List.length_cons, List.length_nil, List.replicate, List.cons_append, List.nil_append, List.set_cons_zero, List.set_cons_succ, List.getElem?_cons_zero, List.getElem?_cons_succ, hr]
  rw [hsrc, bind_ok, e, nx_ok, bind_ok, if_pos (by simp [h1, lim]; omega)]
theorem r1a (wf d : Nat) {s : List Int} {a b N : Nat} {st : Store} (t : Tn s a b N st) (hN : N < 100000) {m : Nat} (hm : 1 ≤ m ∧ m ≤ 5) {lo : Nat} {lk : List Nat} (hlo : lo ≤ b) (hlk : b ∉ lk) (x2 x4 x5 : Option Val) :
    ∃ p st', evR ⟨lo, callF prog wf (d + 1), callC prog wf (d + 1), wf⟩ r1__law_automaton lk [some (.ref a), some (.ref b), x2, some (.int m), x4, x5] st = .ok ((accP 0 m p).map .int, []) st' ∧ Dr s a b (N + m) st st' := by
  obtain ⟨p, st', e, h3⟩ := loopC_accs (s := s) (a := a) (b := b) (M := 200000)
    (f := itemF ⟨lo, callF prog wf (d + 1), callC prog wf (d + 1), wf⟩ (.name 5) k0__law_automaton (.var 5) [5] ([] ++ lk) [some (.ref a), some (.ref b), x2, some (.int m), x4, x5]) (fun k st N hN t => by
      obtain ⟨r1, st1, e1, k1, d1⟩ := c_draw wf d t (by omega) (L := 2) (by omega) hlo hlk
      refine ⟨r1 == 0, st1, ?_, d1⟩
      cases h : (r1 == 0) <;> simp [itemF, evS, evE, evR, bind_ok, bind_exc, bind_bad, sr_ok, sr_exc, sr_bad, res_next, res_ret, res_exc, nx_ok, isiV, tyV, subT, isB, subB, lenV, cmpV, eqS, isD, isDn, veq, itrV, optR_some, asg, wipe, binV, subV, asgS, partV, slcV, setV, isL, isS, listAt, if_true, and_t, and_f, List.map_cons, List.map_nil, List.length_cons, List.length_nil, List.replicate, List.cons_append, List.nil_append, List.set_cons_zero, List.set_cons_succ, List.getElem?_cons_zero, List.getElem?_cons_succ, k0__law_automaton, e1, h]) m 0 N st (by omega) t
  refine ⟨p, st', ?_, h3⟩
  have hr : -100000 ≤ (m : Int) ∧ (m : Int) ≤ 100000 := by omega
  rw [r1__law_automaton, evR_comp]
  have hsrc : evR ⟨lo, callF prog wf (d + 1), callC prog wf (d + 1), wf⟩ (.range (.cons (.var 3) .nil)) lk [some (.ref a), some (.ref b), x2, some (.int m), x4, x5] st = .ok (rangeL 0 m, []) st := by
    simp [evS, evE, evR, bind_ok, bind_exc, bind_bad, sr_ok, sr_exc, sr_bad, res_next, res_ret, res_exc, nx_ok, isiV, tyV, subT, isB, subB, lenV, cmpV, eqS, isD, isDn, veq, itrV, optR_some, asg, wipe, binV, subV, asgS, partV, slcV, setV, isL, isS, listAt, if_true, and_t, and_f, List.map_cons, List.map_nil, List.length_cons, List.length_nil, List.replicate, List.cons_append, List.nil_append, List.set_cons_zero, List.set_cons_succ, List.getElem?_cons_zero, List.getElem?_cons_succ, hr]
  have := acc_le 0 m p
  rw [hsrc, bind_ok, show (0 : Int) = ((0 : Nat) : Int) from rfl, e, nx_ok, bind_ok, if_pos (by simp [lim]; omega)]
theorem c_auto (wf d : Nat) {s : List Int} {a b N : Nat} {st : Store} (t : Tn s a b N st) (hN : N < 10000) {lo : Nat} {lk : List Nat} (hlo : lo ≤ b) (hlk : b ∉ lk) :
    ∃ (ps : List (Int × Int)) (p : Nat → Bool) (st' : Store), callF prog wf (d + 2) 13 [.ref a, .ref b, .int 5] lo lk st = .ok (dfaV (ps.map pairL) (accP 0 ps.length p)) st' ∧ (1 ≤ ps.length ∧ ps.length ≤ 5) ∧ (∀ q ∈ ps, (0 ≤ q.1 ∧ q.1 < (ps.length : Int)) ∧ 0 ≤ q.2 ∧ q.2 < (ps.length : Int)) ∧ Dr s a b (N + 16) st st' := by
  obtain ⟨r, st1, e1, k1, d1⟩ := c_draw wf d t (by omega) (L := 5) (by omega) hlo hlk
  obtain ⟨m, hm⟩ : ∃ m : Nat, (m : Int) = 1 + r := ⟨(1 + r).toNat, by omega⟩
  obtain ⟨ps, st2, e2, h2, h3, d2⟩ := r0a wf d d1.tn (by omega) (m := m) (by omega) hlo hlk (some (.int 5)) none none
  obtain ⟨p, st3, e3, d3⟩ := r1a wf d d2.tn (by omega) (m := m) (by omega) hlo hlk (some (.int 5)) (some (.tup (ps.map fun p => rowV (pairL p)))) none
  refine ⟨ps, p, st3, ?_, by omega, fun q hq => by rw [h2]; exact h3 q hq, ?_⟩
  · rw [callP (fd := f__law_automaton) rfl rfl rfl, runS_eq]
    simp [f__law_automaton, evS, evE, evR, bind_ok, bind_exc, bind_bad, sr_ok, sr_exc, sr_bad, res_next, res_ret, res_exc, nx_ok, isiV, tyV, subT, isB, subB, lenV, cmpV, eqS, isD, isDn, veq, itrV, optR_some, asg, wipe, binV, subV, asgS, partV, slcV, setV, isL, isS, listAt, if_true, and_t, and_f, List.map_cons, List.map_nil, List.length_cons, List.length_nil, List.replicate, List.cons_append, List.nil_append, List.set_cons_zero, List.set_cons_succ, List.getElem?_cons_zero, List.getElem?_cons_succ, e1, ← hm, e2, e3, dfaV, h2, Function.comp_def]
  · have dd := (d1.trans d2).trans d3
    exact ⟨dd.tn.mono (by omega), dd.keep, dd.len⟩
theorem c_pick (wf d : Nat) {s : List Int} {a b N : Nat} {st : Store} (t : Tn s a b N st) (hN : N < 10000) {lo : Nat} {lk : List Nat} (hlo : lo ≤ b) (hlk : b ∉ lk) {c : Nat} {l : List Val} (hc : st[c]? = some (.lst l)) (hcb : c ≠ b) (hl : 0 < l.length ∧ l.length < 1000) :
    ∃ v st', callF prog wf (d + 2) 9 [.ref a, .ref b, .ref c] lo lk st = .ok v st' ∧ v ∈ l ∧ Dr s a b (N + 1) st st' := by
  obtain ⟨r, st1, e1, k1, d1⟩ := c_draw wf d t (by omega) (L := l.length) (by omega) hlo hlk
  obtain ⟨m, hm⟩ : ∃ m : Nat, r = (m : Int) := ⟨r.toNat, by omega⟩
  subst hm
  have hcl : c < st.length := (List.getElem?_eq_some_iff.mp hc).1
  have hc1 : st1[c]? = some (.lst l) := by rw [d1.keep c hcb hcl]; exact hc
  have hml : m < l.length := by omega
  refine ⟨l[m], st1, ?_, List.getElem_mem hml, d1⟩
  rw [callP (fd := f__law_pick) rfl rfl rfl, runS_eq]
  simp [f__law_pick, evS, evE, evR, bind_ok, bind_exc, bind_bad, sr_ok, sr_exc, sr_bad, res_next, res_ret, res_exc, nx_ok, isiV, tyV, subT, isB, subB, lenV, cmpV, eqS, isD, isDn, veq, itrV, optR_some, asg, wipe, binV, subV, asgS, partV, slcV, setV, isL, isS, listAt, if_true, and_t, and_f, List.map_cons, List.map_nil, List.length_cons, List.length_nil, List.replicate, List.cons_append, List.nil_append, List.set_cons_zero, List.set_cons_succ, List.getElem?_cons_zero, List.getElem?_cons_succ, hc, e1, hc1, atI_nat, hml]
end K52
end

section
set_option linter.all false
set_option maxRecDepth 100000
set_option autoImplicit false
namespace K52
open Mx Pl Ast_k52
def sRet : List Nat := [114, 101, 116, 117, 114, 110, 101, 100]
def sRai : List Nat := [114, 97, 105, 115, 101, 100]
theorem name_step (cx : Ctx) (k i j : Nat) (hk : k < 10) (hi : i < 10) (hj : j < 10) (lk : List Nat) (S : Store) (n : Nat) (l : List Val) (h : S[n]? = some (.lst l)) (hl : l.length ≤ 20) :
    ∃ n' S', evS cx (.asg (.name 1) (.bin .add (.var 1) (.lst (.cons (.isi (.xcls i) (.var 0)) (.cons (.isi (.xcls j) (.var 0)) .nil))))) lk [some (.exc k), some (.ref n)] S = .next [some (.exc k), some (.ref n')] S' ∧ S'[n']? = some (.lst (l ++ [.bool (k == i), .bool (k == j)])) := by
  have hn : n < S.length := (List.getElem?_eq_some_iff.mp h).1
  have h1 : (S ++ [.lst [.bool (k == i), .bool (k == j)]])[n]? = some (.lst l) := by rw [List.getElem?_append_left hn]; exact h
  have h2 : (S ++ [Obj.lst [.bool (k == i), .bool (k == j)]])[S.length]? = some (.lst [.bool (k == i), .bool (k == j)]) := by simp
  refine ⟨(S ++ [Obj.lst [.bool (k == i), .bool (k == j)]]).length, (S ++ [Obj.lst [.bool (k == i), .bool (k == j)]]) ++ [.lst (l ++ [.bool (k == i), .bool (k == j)])], ?_, get_last _ _⟩
  obtain ⟨T, hT⟩ : ∃ T, T = S ++ [Obj.lst [.bool (k == i), .bool (k == j)]] := ⟨_, rfl⟩
  have hll : evE cx (.lst (.cons (.isi (.xcls i) (.var 0)) (.cons (.isi (.xcls j) (.var 0)) .nil))) lk [some (.exc k), some (.ref n)] S = .ok (.ref S.length) T := by
    simp [evS, evE, evR, bind_ok, bind_exc, bind_bad, sr_ok, sr_exc, sr_bad, res_next, res_ret, res_exc, nx_ok, isiV, tyV, subT, isB, subB, lenV, cmpV, eqS, isD, isDn, veq, itrV, optR_some, asg, wipe, binV, subV, asgS, partV, slcV, setV, isL, isS, listAt, if_true, and_t, and_f, List.map_cons, List.map_nil, List.length_cons, List.length_nil, List.replicate, List.cons_append, List.nil_append, List.set_cons_zero, List.set_cons_succ, List.getElem?_cons_zero, List.getElem?_cons_succ, hk, hi, hj, hT]
  rw [← hT] at h1 h2 ⊢
  have hlim : l.length + 2 ≤ lim := by unfold lim; omega
  have hv : evE cx (.var 1) lk [some (.exc k), some (.ref n)] S = .ok (.ref n) S := by simp [evS, evE, evR, bind_ok, bind_exc, bind_bad, sr_ok, sr_exc, sr_bad, res_next, res_ret, res_exc, nx_ok, isiV, tyV, subT, isB, subB, lenV, cmpV, eqS, isD, isDn, veq, itrV, optR_some, asg, wipe, binV, subV, asgS, partV, slcV, setV, isL, isS, listAt, if_true, and_t, and_f, List.map_cons, List.map_nil, List.length_cons, List.length_nil, List.replicate, List.cons_append, List.nil_append, List.set_cons_zero, List.set_cons_succ, List.getElem?_cons_zero, List.getElem?_cons_succ]
  rw [evS, evE, hv, bind_ok, hll]
  simp [evS, evE, evR, bind_ok, bind_exc, bind_bad, sr_ok, sr_exc, sr_bad, res_next, res_ret, res_exc, nx_ok, isiV, tyV, subT, isB, subB, lenV, cmpV, eqS, isD, isDn, veq, itrV, optR_some, asg, wipe, binV, subV, asgS, partV, slcV, setV, isL, isS, listAt, if_true, and_t, and_f, List.map_cons, List.map_nil, List.length_cons, List.length_nil, List.replicate, List.cons_append, List.nil_append, List.set_cons_zero, List.set_cons_succ, List.getElem?_cons_zero, List.getElem?_cons_succ, h1, h2, hlim]
theorem c_name (wf d k : Nat) (hk : k < 10) (lo : Nat) (lk : List Nat) (st : Store) : callF prog wf (d + 1) 11 [.exc k] lo lk st = .ok (.int k) st := by
  rw [callT (fd := f__law_name) rfl rfl rfl, runS_eq]
  obtain ⟨cx, hcx⟩ : ∃ cx : Ctx, cx = ⟨st.length, callF prog wf d, callC prog wf d, wf⟩ := ⟨_, rfl⟩
  rw [← hcx]
  have e0 : evS cx (.ite (.not (.isi .verr (.var 0))) (.ret (.neg (.cst (.int (1))))) (.skip)) [] [some (.exc k), none] st = .next [some (.exc k), none] st := by simp [evS, evE, evR, bind_ok, bind_exc, bind_bad, sr_ok, sr_exc, sr_bad, res_next, res_ret, res_exc, nx_ok, isiV, tyV, subT, isB, subB, lenV, cmpV, eqS, isD, isDn, veq, itrV, optR_some, asg, wipe, binV, subV, asgS, partV, slcV, setV, isL, isS, listAt, if_true, and_t, and_f, List.map_cons, List.map_nil, List.length_cons, List.length_nil, List.replicate, List.cons_append, List.nil_append, List.set_cons_zero, List.set_cons_succ, List.getElem?_cons_zero, List.getElem?_cons_succ, hk]
  have e1 : evS cx (.asg (.name 1) (.lst (.cons (.isi (.xcls 0) (.var 0)) (.cons (.isi (.xcls 1) (.var 0)) .nil)))) [] [some (.exc k), none] st = .next [some (.exc k), some (.ref st.length)] (st ++ [.lst [.bool (k == 0), .bool (k == 1)]]) := by simp [evS, evE, evR, bind_ok, bind_exc, bind_bad, sr_ok, sr_exc, sr_bad, res_next, res_ret, res_exc, nx_ok, isiV, tyV, subT, isB, subB, lenV, cmpV, eqS, isD, isDn, veq, itrV, optR_some, asg, wipe, binV, subV, asgS, partV, slcV, setV, isL, isS, listAt, if_true, and_t, and_f, List.map_cons, List.map_nil, List.length_cons, List.length_nil, List.replicate, List.cons_append, List.nil_append, List.set_cons_zero, List.set_cons_succ, List.getElem?_cons_zero, List.getElem?_cons_succ, hk]
  obtain ⟨n2, s2, e2, g2⟩ := name_step cx k 2 3 hk (by decide) (by decide) [] _ _ _ (get_last st (.lst [.bool (k == 0), .bool (k == 1)])) (by simp)
  obtain ⟨n3, s3, e3, g3⟩ := name_step cx k 4 5 hk (by decide) (by decide) [] _ _ _ g2 (by simp)
  obtain ⟨n4, s4, e4, g4⟩ := name_step cx k 6 7 hk (by decide) (by decide) [] _ _ _ g3 (by simp)
  obtain ⟨n5, s5, e5, g5⟩ := name_step cx k 8 9 hk (by decide) (by decide) [] _ _ _ g4 (by simp)
  have e : evS cx f__law_name.body [] [some (.exc k), none] st = .ret (.int k) s5 := by
    refine (seq_next e0).trans ((seq_next e1).trans ((seq_next e2).trans ((seq_next e3).trans ((seq_next e4).trans ((seq_next e5).trans ?_)))))
    have : k = 0 ∨ k = 1 ∨ k = 2 ∨ k = 3 ∨ k = 4 ∨ k = 5 ∨ k = 6 ∨ k = 7 ∨ k = 8 ∨ k = 9 := by omega
    rcases this with rfl | rfl | rfl | rfl | rfl | rfl | rfl | rfl | rfl | rfl <;> simp [evS, evE, evR, bind_ok, bind_exc, bind_bad, sr_ok, sr_exc, sr_bad, res_next, res_ret, res_exc, nx_ok, isiV, tyV, subT, isB, subB, lenV, cmpV, eqS, isD, isDn, veq, itrV, optR_some, asg, wipe, binV, subV, asgS, partV, slcV, setV, isL, isS, listAt, if_true, and_t, and_f, List.map_cons, List.map_nil, List.length_cons, List.length_nil, List.replicate, List.cons_append, List.nil_append, List.set_cons_zero, List.set_cons_succ, List.getElem?_cons_zero, List.getElem?_cons_succ, g5, isDL, isDLn, boolsOf, cntB, idxL]
  show tempR (SR.res (evS cx f__law_name.body [] [some (.exc k), none] st)) st = _
  rw [e]
  simp [evS, evE, evR, bind_ok, bind_exc, bind_bad, sr_ok, sr_exc, sr_bad, res_next, res_ret, res_exc, nx_ok, isiV, tyV, subT, isB, subB, lenV, cmpV, eqS, isD, isDn, veq, itrV, optR_some, asg, wipe, binV, subV, asgS, partV, slcV, setV, isL, isS, listAt, if_true, and_t, and_f, List.map_cons, List.map_nil, List.length_cons, List.length_nil, List.replicate, List.cons_append, List.nil_append, List.set_cons_zero, List.set_cons_succ, List.getElem?_cons_zero, List.getElem?_cons_succ, tempR, noref]
theorem c_raises (wf d : Nat) (lo : Nat) (lk : List Nat) (st : Store) : callF prog wf (d + 1) 12 [.str [116, 101, 120, 116]] lo lk st = .ok (.tup [.str sRai, .int 9]) st ∧ callF prog wf (d + 1) 12 [.str [97, 117, 116, 111, 109, 97, 116, 111, 110]] lo lk st = .ok (.tup [.str sRai, .int 0]) st := by
  constructor <;> rw [callT (fd := f__law_raises) rfl rfl rfl, runS_eq] <;> simp [f__law_raises, evS, evE, evR, bind_ok, bind_exc, bind_bad, sr_ok, sr_exc, sr_bad, res_next, res_ret, res_exc, nx_ok, isiV, tyV, subT, isB, subB, lenV, cmpV, eqS, isD, isDn, veq, itrV, optR_some, asg, wipe, binV, subV, asgS, partV, slcV, setV, isL, isS, listAt, if_true, and_t, and_f, List.map_cons, List.map_nil, List.length_cons, List.length_nil, List.replicate, List.cons_append, List.nil_append, List.set_cons_zero, List.set_cons_succ, List.getElem?_cons_zero, List.getElem?_cons_succ, isDL, isDLn, idxL, tempR, noref, norefL, sRai]
theorem c_outcome_ok (wf d : Nat) (w v r : Val) (lo : Nat) (lk : List Nat) (st : Store) (h : callF prog wf d 14 [w, v] lo lk st = .ok r st) : callF prog wf (d + 1) 10 [w, v] lo lk st = .ok (.tup [.str sRet, r]) st := by
  rw [callP (fd := f__law_outcome) rfl rfl rfl, runS_eq]
  simp [f__law_outcome, evS, evE, evR, bind_ok, bind_exc, bind_bad, sr_ok, sr_exc, sr_bad, res_next, res_ret, res_exc, nx_ok, isiV, tyV, subT, isB, subB, lenV, cmpV, eqS, isD, isDn, veq, itrV, optR_some, asg, wipe, binV, subV, asgS, partV, slcV, setV, isL, isS, listAt, if_true, and_t, and_f, List.map_cons, List.map_nil, List.length_cons, List.length_nil, List.replicate, List.cons_append, List.nil_append, List.set_cons_zero, List.set_cons_succ, List.getElem?_cons_zero, List.getElem?_cons_succ, h, sRet]
theorem c_outcome_exc (wf d : Nat) (w v : Val) (k : Nat) (hk : k = 0 ∨ k = 9) (lo : Nat) (lk : List Nat) (st : Store) (h : callF prog wf (d + 1) 14 [w, v] lo lk st = .exc k st) : callF prog wf (d + 2) 10 [w, v] lo lk st = .ok (.tup [.str sRai, .int k]) st := by
  rw [callP (fd := f__law_outcome) rfl rfl rfl, runS_eq]
  have hk' : k < 10 := by omega
  simp [f__law_outcome, evS, evE, evR, bind_ok, bind_exc, bind_bad, sr_ok, sr_exc, sr_bad, res_next, res_ret, res_exc, nx_ok, isiV, tyV, subT, isB, subB, lenV, cmpV, eqS, isD, isDn, veq, itrV, optR_some, asg, wipe, binV, subV, asgS, partV, slcV, setV, isL, isS, listAt, if_true, and_t, and_f, List.map_cons, List.map_nil, List.length_cons, List.length_nil, List.replicate, List.cons_append, List.nil_append, List.set_cons_zero, List.set_cons_succ, List.getElem?_cons_zero, List.getElem?_cons_succ, h, hk', c_name wf d k hk', sRai]
theorem c_call0 (wf d : Nat) (v : Val) (lo : Nat) (lk : List Nat) (st : Store) : callF prog wf (d + 1) 14 [.int 0, v] lo lk st = callF prog wf d 6 [v] lo lk st := by
  rw [callP (fd := f__law_call) rfl rfl rfl, runS_eq]
  simp [f__law_call, evS, evE, evR, bind_ok, bind_exc, bind_bad, sr_ok, sr_exc, sr_bad, res_next, res_ret, res_exc, nx_ok, isiV, tyV, subT, isB, subB, lenV, cmpV, eqS, isD, isDn, veq, itrV, optR_some, asg, wipe, binV, subV, asgS, partV, slcV, setV, isL, isS, listAt, if_true, and_t, and_f, List.map_cons, List.map_nil, List.length_cons, List.length_nil, List.replicate, List.cons_append, List.nil_append, List.set_cons_zero, List.set_cons_succ, List.getElem?_cons_zero, List.getElem?_cons_succ]
  cases callF prog wf d 6 [v] lo lk st <;> rfl
theorem c_call1 (wf d : Nat) (v : Val) (lo : Nat) (lk : List Nat) (st : Store) : callF prog wf (d + 1) 14 [.int 1, v] lo lk st = callF prog wf d 5 [v] lo lk st := by
  rw [callP (fd := f__law_call) rfl rfl rfl, runS_eq]
  simp [f__law_call, evS, evE, evR, bind_ok, bind_exc, bind_bad, sr_ok, sr_exc, sr_bad, res_next, res_ret, res_exc, nx_ok, isiV, tyV, subT, isB, subB, lenV, cmpV, eqS, isD, isDn, veq, itrV, optR_some, asg, wipe, binV, subV, asgS, partV, slcV, setV, isL, isS, listAt, if_true, and_t, and_f, List.map_cons, List.map_nil, List.length_cons, List.length_nil, List.replicate, List.cons_append, List.nil_append, List.set_cons_zero, List.set_cons_succ, List.getElem?_cons_zero, List.getElem?_cons_succ]
  cases callF prog wf d 5 [v] lo lk st <;> rfl
/-- parse of what is no text -/
theorem c_parse_no (wf d : Nat) (v : Val) (lo : Nat) (lk : List Nat) (st : Store) (h : isiV st .str v = some false) : callF prog wf (d + 1) 6 [v] lo lk st = .exc 9 st := by
  rw [callT (fd := f_parse_automaton) rfl rfl rfl, runS_eq]
  have e : evS ⟨st.length, callF prog wf d, callC prog wf d, wf⟩ (.ite (.not (.isi .str (.var 0))) (.raise 9) (.skip)) [] [some v, none, none, none, none, none, none] st = .exc 9 st := by
    simp only [evS, evE, bind_ok, List.getElem?_cons_zero, h]
    rfl
  exact congrArg (fun r => tempR (SR.res r) st) (seq_exc e)
theorem out_text (wf d : Nat) (t : List Nat) (hl : t.length < 1000) (lo : Nat) (lk : List Nat) (st : Store) : callF prog wf (d + 6) 10 [.int 0, .str t] lo lk st = .ok (if goodT t then .tup [.str sRet, dfaT t] else .tup [.str sRai, .int 9]) st := by
  have e := c_parse' wf d t lo lk st hl
  rw [← c_call0] at e
  cases h : goodT t with
  | true =>
    rw [h] at e
    exact c_outcome_ok wf (d + 5) _ _ _ lo lk st e
  | false =>
    rw [h] at e
    exact c_outcome_exc wf (d + 4) _ _ 9 (.inr rfl) lo lk st e
theorem out_no (wf d : Nat) (v : Val) (lo : Nat) (lk : List Nat) (st : Store) (h : isiV st .str v = some false) : callF prog wf (d + 3) 10 [.int 0, v] lo lk st = .ok (.tup [.str sRai, .int 9]) st := by
  have e := c_parse_no wf d v lo lk st h
  rw [← c_call0] at e
  exact c_outcome_exc wf (d + 1) _ _ 9 (.inr rfl) lo lk st e
mutual
theorem veq_refl : ∀ (v : Val) (n : Nat), isDn v n = true → veq v v = true
  | .none, _, _ => rfl
  | .bool b, _, _ => by simp [veq]
  | .int i, _, _ => by simp [veq]
  | .str s, _, _ => by simp [veq]
  | .tup l, n + 1, h => by
    rw [isDn] at h
    rw [veq]
    exact veqL_refl l n h
  | .tup l, 0, h => by simp [isDn] at h
  | .ref _, n, h => by simp [isDn] at h
  | .fn _, n, h => by simp [isDn] at h
  | .clo _ _, n, h => by simp [isDn] at h
  | .exc _, n, h => by simp [isDn] at h
theorem veqL_refl : ∀ (l : List Val) (n : Nat), isDLn l n = true → veqL l l = true
  | [], _, _ => rfl
  | x :: r, n, h => by
    simp only [isDLn, Bool.and_eq_true] at h
    rw [veqL, veq_refl x n h.1, veqL_refl r n h.2]
    rfl
end
theorem isDLn_rows (n : Nat) : ∀ l : List (List Int), isDLn (l.map rowV) (n + 1) = true
  | [] => rfl
  | x :: r => by
    rw [List.map_cons, isDLn, isDLn_rows n r, rowV, isDn, isDLn_int]
    rfl
theorem dfa_D (rows : List (List Int)) (acc : List Int) (n : Nat) : isDn (dfaV rows acc) (n + 3) = true := by
  simp [dfaV, isDn, isDLn, isDLn_rows, isDLn_int]
theorem eqS_dfa (st : Store) (rows : List (List Int)) (acc : List Int) : eqS st (dfaV rows acc) (dfaV rows acc) = some true := by
  have h1 : isD (dfaV rows acc) = true := dfa_D rows acc 4
  have h2 := veq_refl _ _ h1
  show (if isD _ && isD _ then some (veq _ _) else none) = some true
  rw [h1, h2]
  rfl
theorem eqS_ret (st : Store) (t : List Nat) : eqS st (.tup [.str sRet, dfaT t]) (.tup [.str sRet, dfaT t]) = some true := by
  have h1 : isD (.tup [.str sRet, dfaT t]) = true := by
    have := dfa_D (rowsOf (splitL 32 t)) (accFrom 0 (splitL 32 t)) 3
    simp only [isD, isDn, isDLn, dfaT, this]
    rfl
  have h2 := veq_refl _ _ h1
  show (if isD _ && isD _ then some (veq _ _) else none) = some true
  rw [h1, h2]
  rfl
end K52
end

section
set_option linter.all false
set_option maxRecDepth 100000
set_option autoImplicit false
set_option maxHeartbeats 4000000
namespace K52
open Mx Pl Ast_k52
theorem Dr.app {s : List Int} {a b N : Nat} {st : Store} (t : Tn s a b N st) (ex : Store) : Dr s a b N st (st ++ ex) := by
  obtain ⟨n, ts, h1, h2, h3⟩ := t.tn
  obtain ⟨ob, hob, hsc⟩ := t.sc
  have ha := (List.getElem?_eq_some_iff.mp hsc).1
  have hb := (List.getElem?_eq_some_iff.mp h3).1
  refine ⟨⟨t.ab, ?_, n, ts, h1, h2, ?_⟩, fun k _ hk => List.getElem?_append_left hk, by simp⟩
  · exact ⟨ob, hob, by rw [List.getElem?_append_left ha]; exact hsc⟩
  · rw [List.getElem?_append_left hb]; exact h3
theorem cut_len {α : Type} (l : List α) (lo hi : Option Int) : (cut l lo hi).length ≤ l.length := by
  unfold cut
  rw [List.length_take, List.length_drop]
  omega
def signs : List Val := [.str [48], .str [49], .str [50], .str [51], .str [52], .str [42], .str [53], .str [32], .str [45], .str [97], .str [98], .str []]
theorem sign_mem {v : Val} (h : v ∈ signs) : ∃ x, v = .str x ∧ x.length ≤ 1 := by
  simp only [signs, List.mem_cons, List.not_mem_nil, or_false] at h
  rcases h with rfl | rfl | rfl | rfl | rfl | rfl | rfl | rfl | rfl | rfl | rfl | rfl <;> exact ⟨_, rfl, by decide⟩
theorem body_law (wf d : Nat) {s : List Int} {N : Nat} {st : Store} (t : Tn s 0 3 N st) (hN : N < 5000) (T : List Nat) (hT : T.length ≤ 20) (D o4 o5 o6 o7 o8 o9 o10 o11 : Option Val) :
    ∃ (p5 p6 p7 p8 p9 p10 : Option Val) (st' : Store), evS ⟨0, callF prog wf (d + 6), callC prog wf (d + 6), wf⟩ b0_law [] [some (.ref 0), some (.ref 3), D, some (.str T), o4, o5, o6, o7, o8, o9, o10, o11] st = .next [some (.ref 0), some (.ref 3), D, some (.str T), o4, p5, p6, p7, p8, p9, p10, o11] st' ∧ Dr s 0 3 (N + 3) st st' := by
  obtain ⟨r, st1, e1, k1, d1⟩ := c_draw wf (d + 5) t (by omega) (L := (T.length : Int) + 1) (by omega) (lo := 0) (lk := []) (by omega) (by simp)
  have a1 : evS ⟨0, callF prog wf (d + 6), callC prog wf (d + 6), wf⟩ (.asg (.name 5) (.call 8 (.cons (.var 0) (.cons (.var 1) (.cons (.bin .add (.len (.var 3)) (.cst (.int (1)))) .nil))))) [] [some (.ref 0), some (.ref 3), D, some (.str T), o4, o5, o6, o7, o8, o9, o10, o11] st = .next [some (.ref 0), some (.ref 3), D, some (.str T), o4, some (.int r), o6, o7, o8, o9, o10, o11] st1 := by
    simp [evS, evE, evR, bind_ok, bind_exc, bind_bad, sr_ok, sr_exc, sr_bad, res_next, res_ret, res_exc, nx_ok, isiV, tyV, subT, isB, subB, lenV, cmpV, eqS, isD, isDn, veq, itrV, optR_some, asg, wipe, binV, subV, asgS, partV, slcV, setV, isL, isS, listAt, if_true, and_t, and_f, List.map_cons, List.map_nil, List.length_cons, List.length_nil, List.replicate, List.cons_append, List.nil_append, List.set_cons_zero, List.set_cons_succ, List.getElem?_cons_zero, List.getElem?_cons_succ, e1]
  have dA := Dr.app d1.tn [.lst (signs.take 11), .lst [.str []], .lst signs]
  obtain ⟨v, st2, e2, k2, d2⟩ := c_pick wf (d + 4) dA.tn (by omega) (lo := 0) (lk := []) (by omega) (by simp) (g2 st1 _ _ _) (by
    obtain ⟨_, _, _, _, h⟩ := d1.tn.tn
    have := (List.getElem?_eq_some_iff.mp h).1
    omega) (by decide)
  obtain ⟨x, rfl, hx⟩ := sign_mem k2
  have a2 : evS ⟨0, callF prog wf (d + 6), callC prog wf (d + 6), wf⟩ (.asg (.name 6) (.call 9 (.cons (.var 0) (.cons (.var 1) (.cons (.bin .add (.lstR (.itr (.cst (.str [48, 49, 50, 51, 52, 42, 53, 32, 45, 97, 98])))) (.lst (.cons (.cst (.str [])) .nil))) .nil))))) [] [some (.ref 0), some (.ref 3), D, some (.str T), o4, some (.int r), o6, o7, o8, o9, o10, o11] st1 = .next [some (.ref 0), some (.ref 3), D, some (.str T), o4, some (.int r), some (.str x), o7, o8, o9, o10, o11] st2 := by
    have el : evE ⟨0, callF prog wf (d + 6), callC prog wf (d + 6), wf⟩ (.bin .add (.lstR (.itr (.cst (.str [48, 49, 50, 51, 52, 42, 53, 32, 45, 97, 98])))) (.lst (.cons (.cst (.str [])) .nil))) [] [some (.ref 0), some (.ref 3), D, some (.str T), o4, some (.int r), o6, o7, o8, o9, o10, o11] st1 = .ok (.ref (st1.length + 2)) (st1 ++ [.lst (signs.take 11), .lst [.str []], .lst signs]) := by
      have g1' : (st1 ++ [.lst (signs.take 11), .lst [Val.str []]])[st1.length]? = some (.lst (signs.take 11)) := by simp
      have g2' : (st1 ++ [.lst (signs.take 11), .lst [Val.str []]])[st1.length + 1]? = some (.lst [.str []]) := by simp
      simp only [signs, List.take] at g1' g2' ⊢
      simp only [evS, evE, evR, bind_ok, bind_exc, bind_bad, sr_ok, sr_exc, sr_bad, res_next, res_ret, res_exc, nx_ok, isiV, tyV, subT, isB, subB, lenV, cmpV, eqS, isD, isDn, veq, itrV, optR_some, asg, wipe, binV, subV, asgS, partV, slcV, setV, isL, isS, listAt, if_true, and_t, and_f, List.map_cons, List.map_nil, List.length_cons, List.length_nil, List.replicate, List.cons_append, List.nil_append, List.set_cons_zero, List.set_cons_succ, List.getElem?_cons_zero, List.getElem?_cons_succ, List.append_assoc, List.length_append]
      simp [g1', g2', lim]
    generalize (E.bin .add (.lstR (.itr (.cst (.str [48, 49, 50, 51, 52, 42, 53, 32, 45, 97, 98])))) (.lst (.cons (.cst (.str [])) .nil))) = e0 at el ⊢
    simp only [evS, evE, el, bind_ok, List.getElem?_cons_zero, List.getElem?_cons_succ, e2, sr_ok, asg, asgS]
    simp
  obtain ⟨q, st3, e3, k3, d3⟩ := c_draw wf (d + 5) d2.tn (by omega) (L := 2) (by omega) (lo := 0) (lk := []) (by omega) (by simp)
  have a3 : evS ⟨0, callF prog wf (d + 6), callC prog wf (d + 6), wf⟩ (.asg (.name 7) (.call 8 (.cons (.var 0) (.cons (.var 1) (.cons (.cst (.int (2))) .nil))))) [] [some (.ref 0), some (.ref 3), D, some (.str T), o4, some (.int r), some (.str x), o7, o8, o9, o10, o11] st2 = .next [some (.ref 0), some (.ref 3), D, some (.str T), o4, some (.int r), some (.str x), some (.int q), o8, o9, o10, o11] st3 := by
    simp [evS, evE, evR, bind_ok, bind_exc, bind_bad, sr_ok, sr_exc, sr_bad, res_next, res_ret, res_exc, nx_ok, isiV, tyV, subT, isB, subB, lenV, cmpV, eqS, isD, isDn, veq, itrV, optR_some, asg, wipe, binV, subV, asgS, partV, slcV, setV, isL, isS, listAt, if_true, and_t, and_f, List.map_cons, List.map_nil, List.length_cons, List.length_nil, List.replicate, List.cons_append, List.nil_append, List.set_cons_zero, List.set_cons_succ, List.getElem?_cons_zero, List.getElem?_cons_succ, e3]
  obtain ⟨Y, hY⟩ : ∃ Y, Y = cut T none (some r) ++ x ++ cut T (some (r + q)) none := ⟨_, rfl⟩
  have c1 := cut_len T none (some r)
  have c2 := cut_len T (some (r + q)) none
  have hYl : Y.length < 500 := by rw [hY]; simp; omega
  have l1 : (cut T none (some r)).length + x.length ≤ lim := by unfold lim; omega
  have l2 : (cut T none (some r)).length + x.length + (cut T (some (r + q)) none).length ≤ lim := by unfold lim; omega
  have a4 : evS ⟨0, callF prog wf (d + 6), callC prog wf (d + 6), wf⟩ (.asg (.name 8) (.bin .add (.bin .add (.slc (.var 3) .nil (.var 5)) (.var 6)) (.slc (.var 3) (.bin .add (.var 5) (.var 7)) .nil))) [] [some (.ref 0), some (.ref 3), D, some (.str T), o4, some (.int r), some (.str x), some (.int q), o8, o9, o10, o11] st3 = .next [some (.ref 0), some (.ref 3), D, some (.str T), o4, some (.int r), some (.str x), some (.int q), some (.str Y), o9, o10, o11] st3 := by
    simp [evS, evE, evR, bind_ok, bind_exc, bind_bad, sr_ok, sr_exc, sr_bad, res_next, res_ret, res_exc, nx_ok, isiV, tyV, subT, isB, subB, lenV, cmpV, eqS, isD, isDn, veq, itrV, optR_some, asg, wipe, binV, subV, asgS, partV, slcV, setV, isL, isS, listAt, if_true, and_t, and_f, List.map_cons, List.map_nil, List.length_cons, List.length_nil, List.replicate, List.cons_append, List.nil_append, List.set_cons_zero, List.set_cons_succ, List.getElem?_cons_zero, List.getElem?_cons_succ, l1, l2, hY]
  have e5 := c_read' wf (d + 2) Y 0 [] st3 hYl
  have a5 : evS ⟨0, callF prog wf (d + 6), callC prog wf (d + 6), wf⟩ (.asg (.name 9) (.call 16 (.cons (.var 8) .nil))) [] [some (.ref 0), some (.ref 3), D, some (.str T), o4, some (.int r), some (.str x), some (.int q), some (.str Y), o9, o10, o11] st3 = .next [some (.ref 0), some (.ref 3), D, some (.str T), o4, some (.int r), some (.str x), some (.int q), some (.str Y), some (if goodT Y then dfaT Y else .none), o10, o11] st3 := by
    simp only [evS, evE, bind_ok, List.getElem?_cons_zero, List.getElem?_cons_succ, e5, sr_ok, asg, asgS]
    simp
  have e6 := out_text wf d Y (by omega) 0 [] st3
  have a6 : evS ⟨0, callF prog wf (d + 6), callC prog wf (d + 6), wf⟩ (.asg (.name 10) (.call 10 (.cons (.cst (.int (0))) (.cons (.var 8) .nil)))) [] [some (.ref 0), some (.ref 3), D, some (.str T), o4, some (.int r), some (.str x), some (.int q), some (.str Y), some (if goodT Y then dfaT Y else .none), o10, o11] st3 = .next [some (.ref 0), some (.ref 3), D, some (.str T), o4, some (.int r), some (.str x), some (.int q), some (.str Y), some (if goodT Y then dfaT Y else .none), some (if goodT Y then .tup [.str sRet, dfaT Y] else .tup [.str sRai, .int 9]), o11] st3 := by
    simp only [evS, evE, bind_ok, List.getElem?_cons_zero, List.getElem?_cons_succ, e6, sr_ok, asg, asgS]
    simp
  refine ⟨some (.int r), some (.str x), some (.int q), some (.str Y), some (if goodT Y then dfaT Y else .none), some (if goodT Y then .tup [.str sRet, dfaT Y] else .tup [.str sRai, .int 9]), st3, ?_, ?_⟩
  · refine (seq_next a1).trans ((seq_next a2).trans ((seq_next a3).trans ((seq_next a4).trans ((seq_next a5).trans ((seq_next a6).trans ?_)))))
    cases hg : goodT Y with
    | true =>
      have h1 := eqS_ret st3 Y
      have hd : ∃ l, dfaT Y = .tup l := ⟨_, rfl⟩
      obtain ⟨l, hd⟩ := hd
      simp only [hd, sRet] at h1
      simp [evS, evE, bind_ok, cmpV, hd, h1, sRet]
    | false =>
      have h1 := (c_raises wf (d + 5) 0 [] st3).1
      simp [evS, evE, bind_ok, cmpV, h1, eqS, sRai, isD, isDn, isDLn, veq, veqL]
  · exact ((d1.trans dA).trans d2).trans d3
end K52
end

section
set_option linter.all false
set_option maxRecDepth 100000
set_option autoImplicit false
set_option maxHeartbeats 4000000
namespace K52
open Mx Pl Ast_k52
theorem bad_of {t : List Nat} {ws : List (List Nat)} {w : List Nat} (e : splitL 32 t = ws) (hm : w ∈ ws) (h : wfB w = false) : goodT t = false := by
  unfold goodT
  rw [e]
  have : ws.all wfB = false := by
    rw [List.all_eq_false]
    exact ⟨w, hm, by simp [h]⟩
  rw [this]
  rfl
theorem join_snoc : ∀ (l : List (List Nat)) (w x : List Nat), joinL [32] (l ++ [w]) ++ x = joinL [32] (l ++ [w ++ x])
  | [], w, x => by simp [joinL]
  | y :: l, w, x => by
    rw [List.cons_append, List.cons_append, join_cons _ _ (by simp), join_cons _ _ (by simp), ← join_snoc l w x]
    simp
theorem join_end : ∀ (ws : List (List Nat)), ws ≠ [] → joinL [32] ws ++ [32] = joinL [32] (ws ++ [[]])
  | [], h => absurd rfl h
  | [w], _ => by simp [joinL]
  | w :: v :: r, _ => by
    rw [List.cons_append, join_cons w (v :: r) (by simp), join_cons w (v :: r ++ [[]]) (by simp), ← join_end (v :: r) (by simp)]
    simp
theorem bad_end (ps : List (Int × Int)) (acc : List Int) (h : ps ≠ []) : goodT (textL ps acc ++ [32]) = false := by
  have hn := wds_ne acc h 0
  unfold textL
  rw [join_end _ hn]
  refine bad_of (split_join _ (by simp) fun w hw => ?_) (w := []) (by simp) rfl
  rcases List.mem_append.mp hw with hw | hw
  · exact wds_no acc ps 0 w hw
  · rw [List.mem_singleton.mp hw]; simp
theorem bad_start (t : List Nat) : goodT ([32] ++ t) = false := bad_of (ws := [] :: splitL 32 t) (w := []) (by simp [splitL]) (by simp) rfl
theorem wd_nl (acc : List Int) (p : Int × Int) (i : Nat) : wfB (wd acc p i ++ [10]) = false := by
  unfold wd
  split <;> simp [wfB]
theorem bad_nl (ps : List (Int × Int)) (acc : List Int) (h : ps ≠ []) : goodT (textL ps acc ++ [10]) = false := by
  have hn := wds_ne acc h 0
  obtain ⟨l, w, hlw⟩ : ∃ l w, wds acc 0 ps = l ++ [w] := ⟨_, _, (List.dropLast_concat_getLast hn).symm⟩
  have hw : w ∈ wds acc 0 ps := by rw [hlw]; simp
  have hno := wds_no acc ps 0
  rw [hlw] at hno
  unfold textL
  rw [hlw, join_snoc]
  refine bad_of (split_join _ (by simp) fun u hu => ?_) (w := w ++ [10]) (by simp) ?_
  · rcases List.mem_append.mp hu with hu | hu
    · exact hno u (List.mem_append.mpr (.inl hu))
    · rw [List.mem_singleton.mp hu]
      have := hno w (by simp)
      simp [this]
  · obtain ⟨j, hj⟩ := List.getElem?_of_mem hw
    rw [wds_get] at hj
    cases hp : ps[j]? with
    | none => rw [hp] at hj; cases hj
    | some p => rw [hp] at hj; cases hj; exact wd_nl _ _ _
theorem loop_law (wf d : Nat) {s : List Int} (T : List Nat) (hT : T.length ≤ 20) (D o11 : Option Val) : ∀ (l : List Val) (N : Nat) (st : Store) (o4 o5 o6 o7 o8 o9 o10 : Option Val), Tn s 0 3 N st → N + 3 * l.length < 5000 →
    ∃ (p4 p5 p6 p7 p8 p9 p10 : Option Val) (st' : Store), loopF (fun x env st' => asg ⟨0, callF prog wf (d + 6), callC prog wf (d + 6), wf⟩ ([] ++ []) (.name 4) x env st') (fun env st' => evS ⟨0, callF prog wf (d + 6), callC prog wf (d + 6), wf⟩ b0_law ([] ++ []) env st') l [some (.ref 0), some (.ref 3), D, some (.str T), o4, o5, o6, o7, o8, o9, o10, o11] st =
      .next [some (.ref 0), some (.ref 3), D, some (.str T), p4, p5, p6, p7, p8, p9, p10, o11] st' ∧ Dr s 0 3 (N + 3 * l.length) st st'
  | [], N, st, o4, o5, o6, o7, o8, o9, o10, t, _ => ⟨o4, o5, o6, o7, o8, o9, o10, st, rfl, .refl t⟩
  | x :: r, N, st, o4, o5, o6, o7, o8, o9, o10, t, h => by
    simp only [List.length_cons] at h
    obtain ⟨p5, p6, p7, p8, p9, p10, st1, e1, d1⟩ := body_law wf d t (by omega) T hT D (some x) o5 o6 o7 o8 o9 o10 o11
    obtain ⟨q4, q5, q6, q7, q8, q9, q10, st2, e2, d2⟩ := loop_law wf d T hT D o11 r (N + 3) st1 (some x) p5 p6 p7 p8 p9 p10 d1.tn (by omega)
    refine ⟨q4, q5, q6, q7, q8, q9, q10, st2, ?_, ?_⟩
    · refine (loopF_next (e1 := [some (.ref 0), some (.ref 3), D, some (.str T), some x, o5, o6, o7, o8, o9, o10, o11]) (s1 := st) (by simp [asg]) e1).trans e2
    · rw [List.length_cons, show N + 3 * (r.length + 1) = N + 3 + 3 * r.length by omega]
      exact d1.trans d2
theorem body_bad (wf d : Nat) (st : Store) (v : Val) (h : callF prog wf (d + 6) 10 [.int 0, v] 0 [] st = .ok (.tup [.str sRai, .int 9]) st) (x0 x1 x2 x3 x4 x5 x6 x7 x8 x9 x10 : Option Val) :
    evS ⟨0, callF prog wf (d + 6), callC prog wf (d + 6), wf⟩ b1_law [] [x0, x1, x2, x3, x4, x5, x6, x7, x8, x9, x10, some v] st = .next [x0, x1, x2, x3, x4, x5, x6, x7, x8, x9, x10, some v] st := by
  have h1 := (c_raises wf (d + 5) 0 [] st).1
  simp [b1_law, evS, evE, bind_ok, cmpV, h, h1, eqS, sRai, isD, isDn, isDLn, veq, veqL]
theorem loop_bad (wf d : Nat) (st : Store) (x0 x1 x2 x3 x4 x5 x6 x7 x8 x9 x10 : Option Val) : ∀ (l : List Val) (o : Option Val), (∀ v ∈ l, callF prog wf (d + 6) 10 [.int 0, v] 0 [] st = .ok (.tup [.str sRai, .int 9]) st) →
    ∃ o', loopF (fun x env st' => asg ⟨0, callF prog wf (d + 6), callC prog wf (d + 6), wf⟩ ([] ++ []) (.name 11) x env st') (fun env st' => evS ⟨0, callF prog wf (d + 6), callC prog wf (d + 6), wf⟩ b1_law ([] ++ []) env st') l [x0, x1, x2, x3, x4, x5, x6, x7, x8, x9, x10, o] st = .next [x0, x1, x2, x3, x4, x5, x6, x7, x8, x9, x10, o'] st
  | [], o, _ => ⟨o, rfl⟩
  | v :: r, o, h => by
    obtain ⟨o', e⟩ := loop_bad wf d st x0 x1 x2 x3 x4 x5 x6 x7 x8 x9 x10 r (some v) fun u hu => h u (by simp [hu])
    exact ⟨o', (loopF_next (e1 := [x0, x1, x2, x3, x4, x5, x6, x7, x8, x9, x10, some v]) (s1 := st) (by simp [asg]) (body_bad wf d st v (h v (by simp)) x0 x1 x2 x3 x4 x5 x6 x7 x8 x9 x10)).trans e⟩
theorem law_ok' (wf d d0 : Nat) (hd : d = d0 + 1) (s : List Int) (hs : s.length ≤ 63) (ob : Obj) (hob : ob = .frz (s.map .int) ∨ ob = .lst (s.map .int)) : ∃ st', callF prog wf (d + 7) 17 [.ref 0] 0 [] [ob] = .ok (.bool true) st' := by
  obtain ⟨cx, hcx⟩ : ∃ cx : Ctx, cx = ⟨0, callF prog wf (d + 6), callC prog wf (d + 6), wf⟩ := ⟨_, rfl⟩
  -- the town
  have e0 : callF prog wf (d + 6) 7 [.ref 0] 0 [] [ob] = .ok (.ref 3) [ob, .lst [.int 0], .lst (s.map .int), .lst (.int 0 :: s.map .int)] := by
    rw [callP (fd := f__law_town) rfl rfl rfl, runS_eq]
    rcases hob with rfl | rfl <;> simp [f__law_town, evS, evE, evR, bind_ok, bind_exc, bind_bad, sr_ok, sr_exc, sr_bad, res_next, res_ret, res_exc, nx_ok, isiV, tyV, subT, isB, subB, lenV, cmpV, eqS, isD, isDn, veq, itrV, optR_some, asg, wipe, binV, subV, asgS, partV, slcV, setV, isL, isS, listAt, if_true, and_t, and_f, List.map_cons, List.map_nil, List.length_cons, List.length_nil, List.replicate, List.cons_append, List.nil_append, List.set_cons_zero, List.set_cons_succ, List.getElem?_cons_zero, List.getElem?_cons_succ, lim, show 1 + s.length ≤ 100000 by omega, show s.length + 1 ≤ 100000 by omega]
  have t0 : Tn s 0 3 0 [ob, .lst [.int 0], .lst (s.map .int), .lst (.int 0 :: s.map .int)] := ⟨by decide, ⟨ob, hob, rfl⟩, 0, s, Nat.le_refl _, rfl, rfl⟩
  obtain ⟨ps, p, st1, e1, h1, h2, d1⟩ := c_auto wf (d + 4) t0 (by omega) (lo := 0) (lk := []) (by omega) (by simp)
  have hne : ps ≠ [] := fun z => by rw [z] at h1; simp at h1
  have hin : ∀ q ∈ ps, inR q := fun q hq => by
    have := h2 q hq
    unfold inR
    omega
  have hA := isAut_of ps p h1.1 h1.2 h2
  have hacl : (accP 0 ps.length p).length < 50000 := by have := acc_le 0 ps.length p; omega
  obtain ⟨T, hT⟩ : ∃ T, T = textL ps (accP 0 ps.length p) := ⟨_, rfl⟩
  have hTl : T.length ≤ 20 := by rw [hT]; exact text_len _ _ h1.2
  obtain ⟨D, hD⟩ : ∃ D, D = dfaV (ps.map pairL) (accP 0 ps.length p) := ⟨_, rfl⟩
  have e2 : callF prog wf (d + 6) 15 [D] 0 [] st1 = .ok (.str T) st1 := by rw [hD, hT]; exact c_ltext wf (d + 5) ps _ 0 [] st1 hin h1.2
  have e3 : callF prog wf (d + 6) 5 [D] 0 [] st1 = .ok (.str T) st1 := by
    have := c_format wf (d + 1) ps (accP 0 ps.length p) 0 [] st1 hin h1.2 hacl
    rw [hA] at this
    rw [hD, hT]
    exact this
  obtain ⟨g1, g2⟩ := good_text ps p hne hin hA
  rw [← hT] at g1 g2
  rw [← hD] at g2
  have e4 : callF prog wf (d + 6) 6 [.str T] 0 [] st1 = .ok D st1 := by
    rw [c_parse' wf (d + 2) T 0 [] st1 (by omega), g1, g2]
    rfl
  rw [← hD] at e1
  have eqD : eqS st1 D D = some true := by rw [hD]; exact eqS_dfa _ _ _
  have a1 : evS cx (.asg (.name 1) (.call 7 (.cons (.var 0) .nil))) [] [some (.ref 0), none, none, none, none, none, none, none, none, none, none, none] [ob] = .next [some (.ref 0), some (.ref 3), none, none, none, none, none, none, none, none, none, none] [ob, .lst [.int 0], .lst (s.map .int), .lst (.int 0 :: s.map .int)] := by
    rw [hcx]
    simp only [evS, evE, bind_ok, List.getElem?_cons_zero, e0, sr_ok, asg, asgS]
    rfl
  have a2 : evS cx (.asg (.name 2) (.call 13 (.cons (.var 0) (.cons (.var 1) (.cons (.cst (.int (5))) .nil))))) [] [some (.ref 0), some (.ref 3), none, none, none, none, none, none, none, none, none, none] [ob, .lst [.int 0], .lst (s.map .int), .lst (.int 0 :: s.map .int)] = .next [some (.ref 0), some (.ref 3), some D, none, none, none, none, none, none, none, none, none] st1 := by
    rw [hcx]
    simp only [evS, evE, bind_ok, List.getElem?_cons_zero, List.getElem?_cons_succ, e1, sr_ok, asg, asgS]
    rfl
  have a3 : evS cx (.asg (.name 3) (.call 15 (.cons (.var 2) .nil))) [] [some (.ref 0), some (.ref 3), some D, none, none, none, none, none, none, none, none, none] st1 = .next [some (.ref 0), some (.ref 3), some D, some (.str T), none, none, none, none, none, none, none, none] st1 := by
    rw [hcx]
    simp only [evS, evE, bind_ok, List.getElem?_cons_zero, List.getElem?_cons_succ, e2, sr_ok, asg, asgS]
    rfl
  have a4 : evS cx (.ite ((.or (.cmp .ne (.call 5 (.cons (.var 2) .nil)) (.var 3)) (.cmp .ne (.call 6 (.cons (.var 3) .nil)) (.var 2)))) (.ret (.cst (.bool false))) (.skip)) [] [some (.ref 0), some (.ref 3), some D, some (.str T), none, none, none, none, none, none, none, none] st1 = .next [some (.ref 0), some (.ref 3), some D, some (.str T), none, none, none, none, none, none, none, none] st1 := by
    have eT : eqS st1 (.str T) (.str T) = some true := by simp [eqS, isD, isDn, veq]
    rw [hcx]
    simp only [evS, evE, bind_ok, List.getElem?_cons_zero, List.getElem?_cons_succ, e3, e4, cmpV, eqD, eT, Option.map_some, Bool.not_true]
  obtain ⟨p4, p5, p6, p7, p8, p9, p10, st2, e5, d2⟩ := loop_law wf d T hTl (some D) none (rangeL 0 8) 16 st1 none none none none none none none d1.tn (by decide)
  have a5 : evS cx (.for_ (.name 4) (.range (.cons (.cst (.int (8))) .nil)) b0_law) [] [some (.ref 0), some (.ref 3), some D, some (.str T), none, none, none, none, none, none, none, none] st1 = .next [some (.ref 0), some (.ref 3), some D, some (.str T), p4, p5, p6, p7, p8, p9, p10, none] st2 := by
    have er : evR cx (.range (.cons (.cst (.int (8))) .nil)) [] [some (.ref 0), some (.ref 3), some D, some (.str T), none, none, none, none, none, none, none, none] st1 = .ok (rangeL 0 8, []) st1 := by simp [evS, evE, evR, bind_ok, bind_exc, bind_bad, sr_ok, sr_exc, sr_bad, res_next, res_ret, res_exc, nx_ok, isiV, tyV, subT, isB, subB, lenV, cmpV, eqS, isD, isDn, veq, itrV, optR_some, asg, wipe, binV, subV, asgS, partV, slcV, setV, isL, isS, listAt, if_true, and_t, and_f, List.map_cons, List.map_nil, List.length_cons, List.length_nil, List.replicate, List.cons_append, List.nil_append, List.set_cons_zero, List.set_cons_succ, List.getElem?_cons_zero, List.getElem?_cons_succ]
    rw [evS, er, hcx]
    exact e5
  obtain ⟨st3, hst3⟩ : ∃ st3 : Store, st3 = st2 ++ [.lst [.str [48, 48]]] := ⟨_, rfl⟩
  have hTD : ∃ l, D = .tup l := ⟨_, hD⟩
  obtain ⟨o', e6⟩ := loop_bad wf d st3 (some (.ref 0)) (some (.ref 3)) (some D) (some (.str T)) p4 p5 p6 p7 p8 p9 p10 [.none, .int 5, .str [], .str [32], D, .ref st2.length, .str (T ++ [32]), .str ([32] ++ T), .str (T ++ [10]), .bool true] none (fun v hv => by
    have ot : ∀ t : List Nat, t.length < 1000 → goodT t = false → callF prog wf (d + 6) 10 [.int 0, .str t] 0 [] st3 = .ok (.tup [.str sRai, .int 9]) st3 := fun t h1 h2 => by
      rw [out_text wf d t h1, h2]
      rfl
    simp only [List.mem_cons, List.not_mem_nil, or_false] at hv
    rcases hv with rfl | rfl | rfl | rfl | rfl | rfl | rfl | rfl | rfl | rfl
    · exact out_no wf (d + 3) _ 0 [] st3 rfl
    · exact out_no wf (d + 3) _ 0 [] st3 rfl
    · exact ot [] (by decide) (by decide +kernel)
    · exact ot [32] (by decide) (by decide +kernel)
    · obtain ⟨l, hl⟩ := hTD
      rw [hl]
      exact out_no wf (d + 3) _ 0 [] st3 rfl
    · refine out_no wf (d + 3) _ 0 [] st3 ?_
      have : st3[st2.length]? = some (.lst [.str [48, 48]]) := by rw [hst3]; exact get_last _ _
      simp [isiV, tyV, this, subT, isB, subB]
    · refine ot _ (by simp; omega) ?_
      rw [hT]
      exact bad_end ps _ hne
    · exact ot _ (by simp; omega) (bad_start T)
    · refine ot _ (by simp; omega) ?_
      rw [hT]
      exact bad_nl ps _ hne
    · exact out_no wf (d + 3) _ 0 [] st3 rfl)
  have a6 : evS cx (.for_ (.name 11) (.itr (.cons (.cst .none) (.cons (.cst (.int (5))) (.cons (.cst (.str [])) (.cons (.cst (.str [32])) (.cons (.var 2) (.cons (.lst (.cons (.cst (.str [48, 48])) .nil)) (.cons (.bin .add (.var 3) (.cst (.str [32]))) (.cons (.bin .add (.cst (.str [32])) (.var 3)) (.cons (.bin .add (.var 3) (.cst (.str [10]))) (.cons (.cst (.bool true)) .nil))))))))))) b1_law) [] [some (.ref 0), some (.ref 3), some D, some (.str T), p4, p5, p6, p7, p8, p9, p10, none] st2 = .next [some (.ref 0), some (.ref 3), some D, some (.str T), p4, p5, p6, p7, p8, p9, p10, o'] st3 := by
    have hl1 : T.length + 1 ≤ lim := by unfold lim; omega
    have hl2 : 1 + T.length ≤ lim := by unfold lim; omega
    have er : evR cx (.itr (.cons (.cst .none) (.cons (.cst (.int (5))) (.cons (.cst (.str [])) (.cons (.cst (.str [32])) (.cons (.var 2) (.cons (.lst (.cons (.cst (.str [48, 48])) .nil)) (.cons (.bin .add (.var 3) (.cst (.str [32]))) (.cons (.bin .add (.cst (.str [32])) (.var 3)) (.cons (.bin .add (.var 3) (.cst (.str [10]))) (.cons (.cst (.bool true)) .nil))))))))))) [] [some (.ref 0), some (.ref 3), some D, some (.str T), p4, p5, p6, p7, p8, p9, p10, none] st2 = .ok ([.none, .int 5, .str [], .str [32], D, .ref st2.length, .str (T ++ [32]), .str ([32] ++ T), .str (T ++ [10]), .bool true], []) st3 := by
      simp [evS, evE, evR, bind_ok, bind_exc, bind_bad, sr_ok, sr_exc, sr_bad, res_next, res_ret, res_exc, nx_ok, isiV, tyV, subT, isB, subB, lenV, cmpV, eqS, isD, isDn, veq, itrV, optR_some, asg, wipe, binV, subV, asgS, partV, slcV, setV, isL, isS, listAt, if_true, and_t, and_f, List.map_cons, List.map_nil, List.length_cons, List.length_nil, List.replicate, List.cons_append, List.nil_append, List.set_cons_zero, List.set_cons_succ, List.getElem?_cons_zero, List.getElem?_cons_succ, hl1, hl2, hst3]
    rw [evS, er, hcx]
    exact e6
  have e7 : callF prog wf (d + 6) 10 [.int 1, dfaV (ps.map pairL) [9]] 0 [] st3 = .ok (.tup [.str sRai, .int 0]) st3 := by
    have hf := c_format wf d0 ps [9] 0 [] st3 hin h1.2 (by decide)
    have hno : isAut (ps.map pairL) [9] = false := by
      cases h : isAut (ps.map pairL) [9] with
      | false => rfl
      | true =>
        simp only [isAut, List.length_map, Bool.and_eq_true, List.all_cons, decide_eq_true_eq] at h
        have := h.1.2.1.2
        omega
    rw [hno, ← c_call1] at hf
    subst hd
    exact c_outcome_exc wf (d0 + 5) _ _ 0 (.inl rfl) 0 [] st3 hf
  have e8 := (c_raises wf (d + 5) 0 [] st3).2
  have a7 : evS cx (.ret (.cmp .eq (.call 10 (.cons (.cst (.int (1))) (.cons (.cons (.sub (.var 2) (.cst (.int (0)))) (.cons (.cons (.cst (.int (9))) .nil) .nil)) .nil))) (.call 12 (.cons (.cst (.str [97, 117, 116, 111, 109, 97, 116, 111, 110])) .nil)))) [] [some (.ref 0), some (.ref 3), some D, some (.str T), p4, p5, p6, p7, p8, p9, p10, o'] st3 = .ret (.bool true) st3 := by
    have hsub : subV st3 D (.int 0) = some (.tup ((ps.map pairL).map rowV)) := by rw [hD]; rfl
    have e7' : callF prog wf (d + 6) 10 [.int 1, .tup [.tup ((ps.map pairL).map rowV), .tup [.int 9]]] 0 [] st3 = .ok (.tup [.str sRai, .int 0]) st3 := e7
    rw [hcx]
    simp only [evS, evE, bind_ok, List.getElem?_cons_zero, List.getElem?_cons_succ, hsub, optR_some, e7', e8, cmpV, sr_ok]
    simp [eqS, isD, isDn, isDLn, veq, veqL, sRai, evS, evE, evR, bind_ok, bind_exc, bind_bad, sr_ok, sr_exc, sr_bad, res_next, res_ret, res_exc, nx_ok, isiV, tyV, subT, isB, subB, lenV, cmpV, eqS, isD, isDn, veq, itrV, optR_some, asg, wipe, binV, subV, asgS, partV, slcV, setV, isL, isS, listAt, if_true, and_t, and_f, List.map_cons, List.map_nil, List.length_cons, List.length_nil, List.replicate, List.cons_append, List.nil_append, List.set_cons_zero, List.set_cons_succ, List.getElem?_cons_zero, List.getElem?_cons_succ]
  refine ⟨st3, ?_⟩
  rw [callP (fd := f_law) rfl rfl rfl, runS_eq, ← hcx]
  exact congrArg SR.res ((seq_next a1).trans ((seq_next a2).trans ((seq_next a3).trans ((seq_next a4).trans ((seq_next a5).trans ((seq_next a6).trans a7))))))
theorem law_ok (wf d : Nat) (s : List Int) (hs : s.length ≤ 63) (ob : Obj) (hob : ob = .frz (s.map .int) ∨ ob = .lst (s.map .int)) : ∃ st', callF prog wf (d + 8) 17 [.ref 0] 0 [] [ob] = .ok (.bool true) st' := law_ok' wf (d + 1) d rfl s hs ob hob
theorem law_ok0 (wf : Nat) (s : List Int) (hs : s.length ≤ 63) (ob : Obj) (hob : ob = .frz (s.map .int) ∨ ob = .lst (s.map .int)) : ∃ st', callF prog wf 8 17 [.ref 0] 0 [] [ob] = .ok (.bool true) st' := law_ok wf 0 s hs ob hob
end K52
end

section
set_option Elab.async false
set_option linter.all false
set_option maxRecDepth 100000
set_option maxHeartbeats 0
namespace Hd
open PySem PySem.Spec PyProof.Rows L2
def top (i : Nat) : Stmt := PySem.Challenge.pw_wordlevels_k52_whole_texts.main.body.getD i (.Pass ⟨0, 0, 0, 0⟩)
def fn0 : List He.DefD := [⟨("is_between", none), "is_between", "is_between", defArgs (top 14), defBody (top 14), defScope (top 14), [], []⟩, ⟨("is_row", none), "is_row", "is_row", defArgs (top 15), defBody (top 15), defScope (top 15), [], []⟩, ⟨("is_automaton", none), "is_automaton", "is_automaton", defArgs (top 16), defBody (top 16), defScope (top 16), [], []⟩, ⟨("check_automaton", none), "check_automaton", "check_automaton", defArgs (top 17), defBody (top 17), defScope (top 17), [], []⟩, ⟨("text_of", none), "text_of", "text_of", defArgs (top 20), defBody (top 20), defScope (top 20), [], []⟩, ⟨("format_automaton", none), "format_automaton", "format_automaton", defArgs (top 21), defBody (top 21), defScope (top 21), [], []⟩, ⟨("parse_automaton", none), "parse_automaton", "parse_automaton", defArgs (top 22), defBody (top 22), defScope (top 22), [], []⟩, ⟨("_law_town", none), "_law_town", "_law_town", defArgs (top 24), defBody (top 24), defScope (top 24), [], []⟩, ⟨("_law_draw", none), "_law_draw", "_law_draw", defArgs (top 25), defBody (top 25), defScope (top 25), [], []⟩, ⟨("_law_pick", none), "_law_pick", "_law_pick", defArgs (top 26), defBody (top 26), defScope (top 26), [], []⟩, ⟨("_law_outcome", none), "_law_outcome", "_law_outcome", defArgs (top 27), defBody (top 27), defScope (top 27), [], []⟩, ⟨("_law_name", none), "_law_name", "_law_name", defArgs (top 28), defBody (top 28), defScope (top 28), [], []⟩, ⟨("_law_raises", none), "_law_raises", "_law_raises", defArgs (top 29), defBody (top 29), defScope (top 29), [], []⟩, ⟨("_law_automaton", none), "_law_automaton", "_law_automaton", defArgs (top 30), defBody (top 30), defScope (top 30), [], []⟩, ⟨("_law_call", none), "_law_call", "_law_call", defArgs (top 31), defBody (top 31), defScope (top 31), [], []⟩, ⟨("_law_text", none), "_law_text", "_law_text", defArgs (top 32), defBody (top 32), defScope (top 32), [], []⟩, ⟨("_law_plain_read", none), "_law_plain_read", "_law_plain_read", defArgs (top 33), defBody (top 33), defScope (top 33), [], []⟩, ⟨("law", none), "law", "law", defArgs (top 34), defBody (top 34), defScope (top 34), [], []⟩]
def fn : List He.DefD := fn0
def loose0 : List PySem.Str := ["LevelError", "InvalidAutomaton", "InvalidWord", "InvalidLevel", "InvalidLength", "InvalidState", "InvalidSamples", "Contradiction", "TooLarge", "NothingToUndo", "InvalidText", "MOST", "is_between", "is_row", "is_automaton", "check_automaton", "DIGITS", "text_of", "format_automaton", "parse_automaton", "_law_town", "_law_draw", "_law_pick", "_law_outcome", "_law_name", "_law_raises", "_law_automaton", "_law_call", "_law_text", "_law_plain_read"]
def loose : List PySem.Str := loose0
def ats0 : List PySem.Str := ["is_between", "is_row", "is_automaton", "check_automaton", "text_of", "format_automaton", "parse_automaton", "_law_town", "_law_draw", "_law_pick", "_law_outcome", "_law_name", "_law_raises", "_law_automaton", "_law_call", "_law_text", "_law_plain_read", "law"]
def ats : List PySem.Str := ats0
def gls0 : List (PySem.Str × Mx.Val) := [("MOST", (.int (5))), ("DIGITS", (.str [48, 49, 50, 51, 52]))]
def gls : List (PySem.Str × Mx.Val) := gls0
def pi : Sd.PI := ⟨ats, ["InvalidAutomaton", "InvalidWord", "InvalidLevel", "InvalidLength", "InvalidState", "InvalidSamples", "Contradiction", "TooLarge", "NothingToUndo", "InvalidText"], "LevelError", gls, Ast_k52.prog⟩
abbrev R : PySem.W.OpenRow := PySem.W.OpenLaw.row PySem.Challenge.rw_wordlevels_k52_whole_texts
abbrev hk : PySem.W.Hook := He.hookX 5 pi.fa fn [] [] pi.ex
def ob (s : PySem.W.SharedT) : He.AlX := He.obsX 5 pi.fa fn [] [] pi.ex (HandSHeadRun.getT s)
theorem ob_eq (s : PySem.W.SharedT) : ob s = hk.obs s.abs := He.obsX_eq (HandSHeadRun.getT_eq s)
theorem run (w : World) : HandSHeadRun.RunEq R (PySem.W.view R.prog [34]) hk ob 20000 loose w := by
  intro os
  kernel_rfl
section
variable {K : PySem.W.Frag} {w : World} {wf : Nat}
theorem ck0 : Sd.chkS pi.T ⟨["value", "least", "most"], defScope (top 14), fun _ => true, true⟩ Ast_k52.f_is_between.body (defBody (top 14)) = true := by decide +kernel
theorem df0 (c : He.SaysD pi.fa fn K) : Sd.DefOk (pi.c K w wf) K 0 Ast_k52.f_is_between := by
  obtain ⟨fdat, F⟩ := c.def_ 0 (d := ⟨("is_between", none), "is_between", "is_between", defArgs (top 14), defBody (top 14), defScope (top 14), [], []⟩) rfl
  exact ⟨_, _, _, _, _, fdat, ["value", "least", "most"], ["value", "least", "most"], F, ⟨rfl, rfl, rfl, by decide +kernel, rfl, by decide +kernel, by decide +kernel⟩, FunD.bindsN F fun _ _ _ _ _ _ us hl => match us, hl with | [_, _, _], _ => rfl, rfl, rfl, ck0⟩
theorem ck1 : Sd.chkS pi.T ⟨["size", "value", "one"], defScope (top 15), fun _ => true, true⟩ Ast_k52.f_is_row.body (defBody (top 15)) = true := by decide +kernel
theorem df1 (c : He.SaysD pi.fa fn K) : Sd.DefOk (pi.c K w wf) K 1 Ast_k52.f_is_row := by
  obtain ⟨fdat, F⟩ := c.def_ 1 (d := ⟨("is_row", none), "is_row", "is_row", defArgs (top 15), defBody (top 15), defScope (top 15), [], []⟩) rfl
  exact ⟨_, _, _, _, _, fdat, ["size", "value", "one"], ["size", "value"], F, ⟨rfl, rfl, rfl, by decide +kernel, rfl, by decide +kernel, by decide +kernel⟩, FunD.bindsN F fun _ _ _ _ _ _ us hl => match us, hl with | [_, _], _ => rfl, rfl, rfl, ck1⟩
theorem ck2 : Sd.chkS pi.T ⟨["value", "rows", "accepting", "row", "one", "other"], defScope (top 16), fun _ => true, true⟩ Ast_k52.f_is_automaton.body (defBody (top 16)) = true := by decide +kernel
theorem df2 (c : He.SaysD pi.fa fn K) : Sd.DefOk (pi.c K w wf) K 2 Ast_k52.f_is_automaton := by
  obtain ⟨fdat, F⟩ := c.def_ 2 (d := ⟨("is_automaton", none), "is_automaton", "is_automaton", defArgs (top 16), defBody (top 16), defScope (top 16), [], []⟩) rfl
  exact ⟨_, _, _, _, _, fdat, ["value", "rows", "accepting", "row", "one", "other"], ["value"], F, ⟨rfl, rfl, rfl, by decide +kernel, rfl, by decide +kernel, by decide +kernel⟩, FunD.bindsN F fun _ _ _ _ _ _ us hl => match us, hl with | [_], _ => rfl, rfl, rfl, ck2⟩
theorem ck3 : Sd.chkS pi.T ⟨["dfa"], defScope (top 17), fun _ => true, true⟩ Ast_k52.f_check_automaton.body (defBody (top 17)) = true := by decide +kernel
theorem df3 (c : He.SaysD pi.fa fn K) : Sd.DefOk (pi.c K w wf) K 3 Ast_k52.f_check_automaton := by
  obtain ⟨fdat, F⟩ := c.def_ 3 (d := ⟨("check_automaton", none), "check_automaton", "check_automaton", defArgs (top 17), defBody (top 17), defScope (top 17), [], []⟩) rfl
  exact ⟨_, _, _, _, _, fdat, ["dfa"], ["dfa"], F, ⟨rfl, rfl, rfl, by decide +kernel, rfl, by decide +kernel, by decide +kernel⟩, FunD.bindsN F fun _ _ _ _ _ _ us hl => match us, hl with | [_], _ => rfl, rfl, rfl, ck3⟩
theorem ck4 : Sd.chkS pi.T ⟨["dfa", "rows", "accepting", "words", "state", "to_a", "to_b"], defScope (top 20), fun _ => true, true⟩ Ast_k52.f_text_of.body (defBody (top 20)) = true := by decide +kernel
theorem df4 (c : He.SaysD pi.fa fn K) : Sd.DefOk (pi.c K w wf) K 4 Ast_k52.f_text_of := by
  obtain ⟨fdat, F⟩ := c.def_ 4 (d := ⟨("text_of", none), "text_of", "text_of", defArgs (top 20), defBody (top 20), defScope (top 20), [], []⟩) rfl
  exact ⟨_, _, _, _, _, fdat, ["dfa", "rows", "accepting", "words", "state", "to_a", "to_b"], ["dfa"], F, ⟨rfl, rfl, rfl, by decide +kernel, rfl, by decide +kernel, by decide +kernel⟩, FunD.bindsN F fun _ _ _ _ _ _ us hl => match us, hl with | [_], _ => rfl, rfl, rfl, ck4⟩
theorem ck5 : Sd.chkS pi.T ⟨["dfa"], defScope (top 21), fun _ => true, true⟩ Ast_k52.f_format_automaton.body (defBody (top 21)) = true := by decide +kernel
theorem df5 (c : He.SaysD pi.fa fn K) : Sd.DefOk (pi.c K w wf) K 5 Ast_k52.f_format_automaton := by
  obtain ⟨fdat, F⟩ := c.def_ 5 (d := ⟨("format_automaton", none), "format_automaton", "format_automaton", defArgs (top 21), defBody (top 21), defScope (top 21), [], []⟩) rfl
  exact ⟨_, _, _, _, _, fdat, ["dfa"], ["dfa"], F, ⟨rfl, rfl, rfl, by decide +kernel, rfl, by decide +kernel, by decide +kernel⟩, FunD.bindsN F fun _ _ _ _ _ _ us hl => match us, hl with | [_], _ => rfl, rfl, rfl, ck5⟩
theorem ck6 : Sd.chkS pi.T ⟨["text", "words", "rows", "found", "word", "sign", "state"], defScope (top 22), fun _ => true, true⟩ Ast_k52.f_parse_automaton.body (defBody (top 22)) = true := by decide +kernel
theorem df6 (c : He.SaysD pi.fa fn K) : Sd.DefOk (pi.c K w wf) K 6 Ast_k52.f_parse_automaton := by
  obtain ⟨fdat, F⟩ := c.def_ 6 (d := ⟨("parse_automaton", none), "parse_automaton", "parse_automaton", defArgs (top 22), defBody (top 22), defScope (top 22), [], []⟩) rfl
  exact ⟨_, _, _, _, _, fdat, ["text", "words", "rows", "found", "word", "sign", "state"], ["text"], F, ⟨rfl, rfl, rfl, by decide +kernel, rfl, by decide +kernel, by decide +kernel⟩, FunD.bindsN F fun _ _ _ _ _ _ us hl => match us, hl with | [_], _ => rfl, rfl, rfl, ck6⟩
theorem ck7 : Sd.chkS pi.T ⟨["script"], defScope (top 24), fun _ => true, true⟩ Ast_k52.f__law_town.body (defBody (top 24)) = true := by decide +kernel
theorem df7 (c : He.SaysD pi.fa fn K) : Sd.DefOk (pi.c K w wf) K 7 Ast_k52.f__law_town := by
  obtain ⟨fdat, F⟩ := c.def_ 7 (d := ⟨("_law_town", none), "_law_town", "_law_town", defArgs (top 24), defBody (top 24), defScope (top 24), [], []⟩) rfl
  exact ⟨_, _, _, _, _, fdat, ["script"], ["script"], F, ⟨rfl, rfl, rfl, by decide +kernel, rfl, by decide +kernel, by decide +kernel⟩, FunD.bindsN F fun _ _ _ _ _ _ us hl => match us, hl with | [_], _ => rfl, rfl, rfl, ck7⟩
theorem ck8 : Sd.chkS pi.T ⟨["script", "town", "limit", "at", "left", "number"], defScope (top 25), fun _ => true, true⟩ Ast_k52.f__law_draw.body (defBody (top 25)) = true := by decide +kernel
theorem df8 (c : He.SaysD pi.fa fn K) : Sd.DefOk (pi.c K w wf) K 8 Ast_k52.f__law_draw := by
  obtain ⟨fdat, F⟩ := c.def_ 8 (d := ⟨("_law_draw", none), "_law_draw", "_law_draw", defArgs (top 25), defBody (top 25), defScope (top 25), [], []⟩) rfl
  exact ⟨_, _, _, _, _, fdat, ["script", "town", "limit", "at", "left", "number"], ["script", "town", "limit"], F, ⟨rfl, rfl, rfl, by decide +kernel, rfl, by decide +kernel, by decide +kernel⟩, FunD.bindsN F fun _ _ _ _ _ _ us hl => match us, hl with | [_, _, _], _ => rfl, rfl, rfl, ck8⟩
theorem ck9 : Sd.chkS pi.T ⟨["script", "town", "choices"], defScope (top 26), fun _ => true, true⟩ Ast_k52.f__law_pick.body (defBody (top 26)) = true := by decide +kernel
theorem df9 (c : He.SaysD pi.fa fn K) : Sd.DefOk (pi.c K w wf) K 9 Ast_k52.f__law_pick := by
  obtain ⟨fdat, F⟩ := c.def_ 9 (d := ⟨("_law_pick", none), "_law_pick", "_law_pick", defArgs (top 26), defBody (top 26), defScope (top 26), [], []⟩) rfl
  exact ⟨_, _, _, _, _, fdat, ["script", "town", "choices"], ["script", "town", "choices"], F, ⟨rfl, rfl, rfl, by decide +kernel, rfl, by decide +kernel, by decide +kernel⟩, FunD.bindsN F fun _ _ _ _ _ _ us hl => match us, hl with | [_, _, _], _ => rfl, rfl, rfl, ck9⟩
theorem ck10 : Sd.chkS pi.T ⟨["way", "arguments", "caught", "result", "error"], defScope (top 27), fun _ => true, true⟩ Ast_k52.f__law_outcome.body (defBody (top 27)) = true := by decide +kernel
theorem df10 (c : He.SaysD pi.fa fn K) : Sd.DefOk (pi.c K w wf) K 10 Ast_k52.f__law_outcome := by
  obtain ⟨fdat, F⟩ := c.def_ 10 (d := ⟨("_law_outcome", none), "_law_outcome", "_law_outcome", defArgs (top 27), defBody (top 27), defScope (top 27), [], []⟩) rfl
  exact ⟨_, _, _, _, _, fdat, ["way", "arguments", "caught", "result", "error"], ["way", "arguments"], F, ⟨rfl, rfl, rfl, by decide +kernel, rfl, by decide +kernel, by decide +kernel⟩, FunD.bindsN F fun _ _ _ _ _ _ us hl => match us, hl with | [_, _], _ => rfl, rfl, rfl, ck10⟩
theorem ck11 : Sd.chkS pi.T ⟨["caught", "found"], defScope (top 28), fun _ => true, true⟩ Ast_k52.f__law_name.body (defBody (top 28)) = true := by decide +kernel
theorem df11 (c : He.SaysD pi.fa fn K) : Sd.DefOk (pi.c K w wf) K 11 Ast_k52.f__law_name := by
  obtain ⟨fdat, F⟩ := c.def_ 11 (d := ⟨("_law_name", none), "_law_name", "_law_name", defArgs (top 28), defBody (top 28), defScope (top 28), [], []⟩) rfl
  exact ⟨_, _, _, _, _, fdat, ["caught", "found"], ["caught"], F, ⟨rfl, rfl, rfl, by decide +kernel, rfl, by decide +kernel, by decide +kernel⟩, FunD.bindsN F fun _ _ _ _ _ _ us hl => match us, hl with | [_], _ => rfl, rfl, rfl, ck11⟩
theorem ck12 : Sd.chkS pi.T ⟨["name", "names"], defScope (top 29), fun _ => true, true⟩ Ast_k52.f__law_raises.body (defBody (top 29)) = true := by decide +kernel
theorem df12 (c : He.SaysD pi.fa fn K) : Sd.DefOk (pi.c K w wf) K 12 Ast_k52.f__law_raises := by
  obtain ⟨fdat, F⟩ := c.def_ 12 (d := ⟨("_law_raises", none), "_law_raises", "_law_raises", defArgs (top 29), defBody (top 29), defScope (top 29), [], []⟩) rfl
  exact ⟨_, _, _, _, _, fdat, ["name", "names"], ["name"], F, ⟨rfl, rfl, rfl, by decide +kernel, rfl, by decide +kernel, by decide +kernel⟩, FunD.bindsN F fun _ _ _ _ _ _ us hl => match us, hl with | [_], _ => rfl, rfl, rfl, ck12⟩
theorem ck13 : Sd.chkS pi.T ⟨["script", "town", "most", "size", "rows", "state"], defScope (top 30), fun _ => true, true⟩ Ast_k52.f__law_automaton.body (defBody (top 30)) = true := by decide +kernel
theorem df13 (c : He.SaysD pi.fa fn K) : Sd.DefOk (pi.c K w wf) K 13 Ast_k52.f__law_automaton := by
  obtain ⟨fdat, F⟩ := c.def_ 13 (d := ⟨("_law_automaton", none), "_law_automaton", "_law_automaton", defArgs (top 30), defBody (top 30), defScope (top 30), [], []⟩) rfl
  exact ⟨_, _, _, _, _, fdat, ["script", "town", "most", "size", "rows", "state"], ["script", "town", "most"], F, ⟨rfl, rfl, rfl, by decide +kernel, rfl, by decide +kernel, by decide +kernel⟩, FunD.bindsN F fun _ _ _ _ _ _ us hl => match us, hl with | [_, _, _], _ => rfl, rfl, rfl, ck13⟩
theorem ck14 : Sd.chkS pi.T ⟨["way", "arguments"], defScope (top 31), fun _ => true, true⟩ Ast_k52.f__law_call.body (defBody (top 31)) = true := by decide +kernel
theorem df14 (c : He.SaysD pi.fa fn K) : Sd.DefOk (pi.c K w wf) K 14 Ast_k52.f__law_call := by
  obtain ⟨fdat, F⟩ := c.def_ 14 (d := ⟨("_law_call", none), "_law_call", "_law_call", defArgs (top 31), defBody (top 31), defScope (top 31), [], []⟩) rfl
  exact ⟨_, _, _, _, _, fdat, ["way", "arguments"], ["way", "arguments"], F, ⟨rfl, rfl, rfl, by decide +kernel, rfl, by decide +kernel, by decide +kernel⟩, FunD.bindsN F fun _ _ _ _ _ _ us hl => match us, hl with | [_, _], _ => rfl, rfl, rfl, ck14⟩
theorem ck15 : Sd.chkS pi.T ⟨["dfa", "words", "state", "row"], defScope (top 32), fun _ => true, true⟩ Ast_k52.f__law_text.body (defBody (top 32)) = true := by decide +kernel
theorem df15 (c : He.SaysD pi.fa fn K) : Sd.DefOk (pi.c K w wf) K 15 Ast_k52.f__law_text := by
  obtain ⟨fdat, F⟩ := c.def_ 15 (d := ⟨("_law_text", none), "_law_text", "_law_text", defArgs (top 32), defBody (top 32), defScope (top 32), [], []⟩) rfl
  exact ⟨_, _, _, _, _, fdat, ["dfa", "words", "state", "row"], ["dfa"], F, ⟨rfl, rfl, rfl, by decide +kernel, rfl, by decide +kernel, by decide +kernel⟩, FunD.bindsN F fun _ _ _ _ _ _ us hl => match us, hl with | [_], _ => rfl, rfl, rfl, ck15⟩
theorem ck16 : Sd.chkS pi.T ⟨["text", "rows", "accepting", "state", "word", "dfa"], defScope (top 33), fun _ => true, true⟩ Ast_k52.f__law_plain_read.body (defBody (top 33)) = true := by decide +kernel
theorem df16 (c : He.SaysD pi.fa fn K) : Sd.DefOk (pi.c K w wf) K 16 Ast_k52.f__law_plain_read := by
  obtain ⟨fdat, F⟩ := c.def_ 16 (d := ⟨("_law_plain_read", none), "_law_plain_read", "_law_plain_read", defArgs (top 33), defBody (top 33), defScope (top 33), [], []⟩) rfl
  exact ⟨_, _, _, _, _, fdat, ["text", "rows", "accepting", "state", "word", "dfa"], ["text"], F, ⟨rfl, rfl, rfl, by decide +kernel, rfl, by decide +kernel, by decide +kernel⟩, FunD.bindsN F fun _ _ _ _ _ _ us hl => match us, hl with | [_], _ => rfl, rfl, rfl, ck16⟩
theorem ck17 : Sd.chkS pi.T ⟨["script", "town", "dfa", "text", "k", "at", "sign", "skip", "other", "due", "outcome", "bad"], defScope (top 34), fun _ => true, true⟩ Ast_k52.f_law.body (defBody (top 34)) = true := by decide +kernel
theorem df17 (c : He.SaysD pi.fa fn K) : Sd.DefOk (pi.c K w wf) K 17 Ast_k52.f_law := by
  obtain ⟨fdat, F⟩ := c.def_ 17 (d := ⟨("law", none), "law", "law", defArgs (top 34), defBody (top 34), defScope (top 34), [], []⟩) rfl
  exact ⟨_, _, _, _, _, fdat, ["script", "town", "dfa", "text", "k", "at", "sign", "skip", "other", "due", "outcome", "bad"], ["script"], F, ⟨rfl, rfl, rfl, by decide +kernel, rfl, by decide +kernel, by decide +kernel⟩, FunD.bindsN F fun _ _ _ _ _ _ us hl => match us, hl with | [_], _ => rfl, rfl, rfl, ck17⟩
theorem dfs (c : He.SaysD pi.fa fn K) : ∀ (f : Nat) (fd : Mx.FnDef), pi.P.fns[f]? = some fd → Sd.DefOk (pi.c K w wf) K f fd := by
  intro f fd h
  match f, h with
  | 0, h => cases h; exact df0 c
  | 1, h => cases h; exact df1 c
  | 2, h => cases h; exact df2 c
  | 3, h => cases h; exact df3 c
  | 4, h => cases h; exact df4 c
  | 5, h => cases h; exact df5 c
  | 6, h => cases h; exact df6 c
  | 7, h => cases h; exact df7 c
  | 8, h => cases h; exact df8 c
  | 9, h => cases h; exact df9 c
  | 10, h => cases h; exact df10 c
  | 11, h => cases h; exact df11 c
  | 12, h => cases h; exact df12 c
  | 13, h => cases h; exact df13 c
  | 14, h => cases h; exact df14 c
  | 15, h => cases h; exact df15 c
  | 16, h => cases h; exact df16 c
  | 17, h => cases h; exact df17 c
  | n + 18, h => simp [pi, Ast_k52.prog] at h
end
end Hd
open PySem PySem.W PySem.Calls PyProof.Rows
theorem PySem.Challenge.cw_wordlevels_k52_whole_texts_holds : PySem.Challenge.rw_wordlevels_k52_whole_texts.Holds := by
  w_on; o_law
  refine HandSHeadRun.head_any (r := OpenLaw.row PySem.Challenge.rw_wordlevels_k52_whole_texts) (q := view (OpenLaw.row PySem.Challenge.rw_wordlevels_k52_whole_texts).prog [34]) (H := Hd.hk) (ob := Hd.ob) (M := 20000) (loose := Hd.loose) (d := HandSHeadRun.topDef (OpenLaw.row PySem.Challenge.rw_wordlevels_k52_whole_texts).prog 34) (kwd := []) Hd.ob_eq
    (by kernel_rfl) (fun s => by kernel_rfl) Hd.run (by kernel_rfl) (by kernel_rfl) (by kernel_rfl) (by rfl) (by first | assumption | decide +kernel) (by decide +kernel) ⟨rfl, rfl, rfl, rfl, rfl, by decide +kernel⟩ ?hw ?hc
  case hw => w_witness2
  case hc =>
    refine LamX.walk_ofTsE (l := PySem.Challenge.rw_wordlevels_k52_whole_texts) (n := 63) (k := Sd.lev 8) (x := "script") (CX := fun w => L2.CX PySem.Challenge.rw_wordlevels_k52_whole_texts.prog w) rfl (by decide) (by kernel_rfl) ⟨rfl, by decide, by decide⟩ ?F (fun w H s e s' z => by
      obtain ⟨_, _, _, _, _, _, _, _, _, _, _, _, z⟩ := z
      exact z)
    intro w mg fa h Y G hmg0
    obtain ⟨K, KX, c⟩ := Y
    have hmg : mg ("law" : PySem.Str) = some (.ref fa) := by
      have e : (HandSHeadRun.topDef (OpenLaw.row PySem.Challenge.rw_wordlevels_k52_whole_texts).prog 34).name = ("law" : PySem.Str) := by kernel_rfl
      rw [← e]
      exact hmg0
    have hkp : ∀ x ∈ Hd.pi.ats, PySem.W.keepIn K (.ref (He.ga K x)) = true := fun x hx => by
      obtain ⟨i, hi⟩ := List.getElem?_of_mem hx
      have hlt : i < Hd.pi.P.fns.length := (List.getElem?_eq_some_iff.mp hi).1
      obtain ⟨_, _, _, _, _, _, _, _, F, _⟩ := (Hd.dfs (w := w) (wf := 100000) c.t.d i _ (List.getElem?_eq_getElem hlt)).ex
      have e : (Hd.pi.c K w 100000).g.fa i = He.ga K x := congrArg (He.ga K) (Sd.getD_of hi)
      have := F.kp
      rw [e] at this
      exact this
    have hex := c.more
    have hnl : Sd.noList K = true := by
      have := hex
      unfold Sd.PI.ex at this
      simp only [Bool.and_eq_true] at this
      exact this.1
    have efa : fa = He.ga K ("law" : PySem.Str) := by
      have e := He.glo_ok KX G (c.t.d.facts (f := .glo "law") (List.mem_append.mpr (.inl (List.mem_map_of_mem (List.mem_of_getElem? (l := Hd.pi.ats) (i := 17) rfl)))))
      rw [hmg] at e
      cases e
      rfl
    have tp : ∀ base : Heap, Sd.Top (Hd.pi.c K w 100000) PySem.Challenge.rw_wordlevels_k52_whole_texts.prog w K mg base := fun base => Sd.PI.top KX G c.t.d hex rfl hkp
    obtain ⟨fdat, F⟩ := c.t.d.def_ 17 (d := ⟨("law", none), "law", "law", L2.defArgs (Hd.top 34), L2.defBody (Hd.top 34), L2.defScope (Hd.top 34), [], []⟩) rfl
    have hb := L2.FunD.bindsA (ps := ["script"]) F fun _ _ _ _ _ _ us hl => match us, hl with | [_], _ => rfl
    refine ⟨K, KX, fdat, [], Sd.spF (Hd.pi.c K w 100000) 8 17, (fun p hp => nomatch hp), (fun p hp => nomatch hp), (fun p hp => nomatch hp), fun s u => hb s [u] rfl, fun H a ns hlen _ _ hS => ?_, fun base _ _ _ => ?_⟩
    · obtain ⟨o, ho, rep⟩ := Sd.script_rep (g := Hd.pi.g K w) rfl hnl trivial hS
      obtain ⟨st', e⟩ := K52.law_ok0 100000 ns hlen o ho
      refine ⟨[a], [o], [.ref 0], 0, [], rep, .cons (.ref rfl) .nil, ?_⟩
      show Sd.Post _ _ _ _ _ _ (Mx.callF Ast_k52.prog 100000 8 17 [.ref 0] 0 [] [o]) _
      rw [e]
      intro φ' H' x _ _ rv
      cases rv
      rfl
    · have q := Sd.def_okF (f := 17) (tp base) (Sd.all_fns (tp base) (Hd.dfs c.t.d) 7) rfl (.inl rfl) (N := ["script", "town", "dfa", "text", "k", "at", "sign", "skip", "other", "due", "outcome", "bad"]) (ps := ["script"]) F ⟨rfl, rfl, rfl, by decide +kernel, rfl, by decide +kernel, by decide +kernel⟩ rfl rfl Hd.ck17
      rw [efa]
      exact q
end
