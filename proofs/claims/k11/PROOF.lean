import PyProof.Rows.All
import Wide.All
import OpenK.AllK
import Wide.FinOn
import KE.KStateDown
import HandS.Head0
import HandS.Head1
import HandS.Head2
import HandS.HeadEnd
import HandS.HeadHook1
import HandS.HeadHook2
import HandS.HeadHook4
import HandS.EndTab
import HandS.HeadWalk
import PyProof.EqLayable
import PyProof.P3Statements
import PyProof.SliceList
import HandS.ForMost
import HandS.ForExc
import HandS.Flow
import HandS.Style
import HandS.IsInst
import HandS.SortInts
import HandS.SetFor
import HandS.Strs
import HandS.Wide
import HandS.Defaults
import HandS.Lambda
import HandS.ExcCtx
import HandS.HotCalls
import KE.DataMinMax
import KE.KSortedM
import HandS.CallSlots
import HandS.Nested
import HandS.NestedHot
import HandS.CallLocal
import HandS.New0
import HandS.Conv
import HandS.ExcIs
import HandS.EndBits
import PySem.Challenge.RW_handnotes_k11_refused_books
set_option Elab.async false
set_option linter.all false
section
set_option linter.all false
/-! Ev0: an IR of the Python that is met here, its store, its evaluator. Plain Lean. -/
namespace Ev
open PySem

/-- values: loc l, the object at place l of the store; fn f, a def of the text by its number; scr ns: the script (read alone);
    clo f ws: the lambda f with what it captured, handed to a def (in a slot alone); vn, vc: what is captured, one behind another -/
inductive Va where
  | non | bl (b : Bool) | int (i : Int) | str (x : Str) | loc (l : Nat) | fn (f : Nat) | scr (ns : List Int) | clo (f : Nat) (ws : Va) | vn | vc (a b : Va)
  deriving DecidableEq, Inhabited
/-- a value that may be read, stored, told -/
def plain : Va → Bool
  | .clo _ _ => false
  | .vn => false
  | .vc _ _ => false
  | _ => true
def clist : Va → List Va
  | .vc a b => a :: clist b
  | _ => []
/-- objects; own x: the own dict of the instance at x -/
inductive Ob where
  | lst (xs : List Va) | tup (xs : List Va) | dct (kvs : List (Int × Va)) | ins (c dx : Nat) (fs : List (Nat × Va)) | own (x : Nat)
  deriving Inhabited
abbrev Sto := List Ob
abbrev Rho := List (Option Va)
/-- what a lambda captures -/
def capsOf (r : Rho) : List Nat → Option Va
  | [] => some .vn
  | j :: js => match r[j]?, capsOf r js with
    | some (some v), some b => if plain v then some (.vc v b) else none
    | _, _ => none
inductive Res (α : Type) where
  | ok (a : α) (S : Sto) | exc (c : Nat) (S : Sto) | bad
  deriving Inhabited
def Res.bind {α β : Type} (r : Res α) (k : α → Sto → Res β) : Res β := match r with
  | .ok a S => k a S
  | .exc c S => .exc c S
  | .bad => .bad
@[simp] theorem Res.bind_ok {α β : Type} (a : α) (S : Sto) (k : α → Sto → Res β) : (Res.ok a S).bind k = k a S := rfl
@[simp] theorem Res.bind_exc {α β : Type} (c : Nat) (S : Sto) (k : α → Sto → Res β) : (Res.exc c S).bind k = .exc c S := rfl
@[simp] theorem Res.bind_bad {α β : Type} (k : α → Sto → Res β) : (Res.bad : Res α).bind k = .bad := rfl

inductive Bop where | add | sub | mul | fdiv | mod | pow
  deriving DecidableEq
inductive Cop where | lt | le | gt | ge | eq | ne | isin | notin
  deriving DecidableEq
inductive Ty where | int | bool | list | tuple | str | dict
  deriving DecidableEq
inductive Bi where | len | sum | abs | min | min2 | max | sorted | sortedSet | list | tuple | any | all | int | rng1 | rng2
  deriving DecidableEq
inductive Lm where | append | extend | remove | reverse | pop | clear | index | count
  deriving DecidableEq
/-- targets -/
inductive Tg where
  | nm (i : Nat) | nil | cons (a b : Tg) | tup (ts : Tg)
  deriving DecidableEq
/-- expressions; nil, cons: argument lists; rng1 .. zip: what is walked -/
inductive E where
  | var (i : Nat) | con (v : Va) | nil | cons (a b : E)
  | bin (o : Bop) (a b : E) | neg (a : E) | not (a : E) | and (a b : E) | or (a b : E) | ite (c a b : E)
  | cmp (o : Cop) (a b : E) | chain (o p : Cop) (a b c : E) | isC (v : Va) (neg : Bool) (a : E) | inStrs (a : E) (xs : List Str)
  | lst (as : E) | tup (as : E) | dnew
  | idx (a b : E) | sl (a lo hi : E) | rev (a : E) | sls (a lo st : E)
  | fld (a : E) (f : Nat) | call (f : Nat) (as : E) | callL (g f : Nat) (js : List Nat) (as : E) | callv (i : Nat) (as : E) | make (c : Nat) (as : E) | meth (a : E) (m : Nat) (as : E) | lm (m : Lm) (a as : E) | bi (b : Bi) (as : E)
  | isTy (t : Ty) (a : E) | isCls (c : Nat) (a : E)
  | comp (own : List Nat) (t : Tg) (it c e : E)
  | seq (a : E) | rng1 (a : E) | rng2 (a b : E) | rng3 (a b c : E) | enum (a : E) | zip (a b : E)
  deriving DecidableEq
/-- statements -/
inductive Sm where
  | skip | seq (a b : Sm) | asg (t : Tg) (e : E) | par (is : List Nat) (as : E) | ex (e : E) | ret (e : E) | ite (c : E) (a b : Sm) | for_ (t : Tg) (it : E) (b : Sm) | while_ (c : E) (b : Sm)
  | setf (o : E) (f : Nat) (e : E) | augf (o : E) (f : Nat) (k : Int) | seti (o i e : E) | raise (c : Nat)
  | tryA (i : Nat) (as : E) (c x k w : Nat)
inductive Fl where
  | nx (r : Rho) (S : Sto) | rt (v : Va) (S : Sto) | bk (r : Rho) (S : Sto) | ct (r : Rho) (S : Sto) | exc (c : Nat) (S : Sto) | bad
  deriving Inhabited

/-! ### lists -/
def line : Nat := 16777216
def ixN (n : Nat) (i : Int) : Option Nat := if 0 ≤ i then (if i < n then some i.toNat else none) else if -(n : Int) ≤ i then some (i + n).toNat else none
def atI {α : Type} (xs : List α) (i : Int) : Option α := (ixN xs.length i).bind fun j => xs[j]?
def sIx (n d : Nat) : Option Int → Nat
  | none => d
  | some v => if v < 0 then (v + (n : Int)).toNat else min v.toNat n
def cut {α : Type} (xs : List α) (lo hi : Option Int) : List α := (xs.drop (sIx xs.length 0 lo)).take (sIx xs.length xs.length hi - sIx xs.length 0 lo)
/-- xs[lo::st] -/
def pick {α : Type} (xs : List α) (lo st : Int) : List α :=
  (PySem.sliceRange (sliceBounds (some lo) none (some st) xs.length).1 (sliceBounds (some lo) none (some st) xs.length).2.1 (sliceBounds (some lo) none (some st) xs.length).2.2).filterMap fun i => xs[i]?
def insI (x : Int) : List Int → List Int
  | [] => [x]
  | y :: r => if x ≤ y then x :: y :: r else y :: insI x r
def srt : List Int → List Int
  | [] => []
  | x :: r => insI x (srt r)
/-- without what is there already -/
def uniq : List Int → List Int
  | [] => []
  | x :: r => if r.contains x then uniq r else x :: uniq r
def minI : Int → List Int → Int
  | m, [] => m
  | m, x :: r => minI (if x < m then x else m) r
def intsOf : List Va → Option (List Int)
  | [] => some []
  | .int i :: r => (intsOf r).map (i :: ·)
  | _ => none
def blsOf : List Va → Option (List Bool)
  | [] => some []
  | .bl i :: r => (blsOf r).map (i :: ·)
  | _ => none
def flat : Va → Bool
  | .non | .bl _ | .int _ | .str _ => true
  | _ => false
def eqF : Va → Va → Bool
  | .non, .non => true
  | .bl a, .bl b => a == b
  | .bl a, .int b => (if a then 1 else 0) == b
  | .int a, .bl b => a == (if b then 1 else 0)
  | .int a, .int b => a == b
  | .str a, .str b => a == b
  | _, _ => false
def look (k : Int) : List (Int × Va) → Option Va
  | [] => none
  | (j, v) :: r => if j = k then some v else look k r
def put (k : Int) (v : Va) (kvs : List (Int × Va)) : List (Int × Va) :=
  if (kvs.any fun kv => decide (kv.1 = k)) = true then kvs.map (fun kv => if kv.1 = k then (kv.1, v) else kv) else kvs ++ [(k, v)]
def lookF (k : Nat) : List (Nat × Va) → Option Va
  | [] => none
  | (j, v) :: r => if j = k then some v else lookF k r
def putF (k : Nat) (v : Va) : List (Nat × Va) → List (Nat × Va)
  | [] => [(k, v)]
  | (j, u) :: r => if j = k then (j, v) :: r else (j, u) :: putF k v r

/-! ### the store -/
def new (o : Ob) (S : Sto) : Res Va := .ok (.loc S.length) (S ++ [o])
/-- a list to be read -/
def getL (S : Sto) : Va → Option (List Va)
  | .loc l => match S[l]? with
    | some (.lst xs) => some xs
    | _ => none
  | .scr ns => some (ns.map .int)
  | _ => none
def getT (S : Sto) : Va → Option (List Va)
  | .loc l => match S[l]? with
    | some (.tup xs) => some xs
    | _ => none
  | _ => none
/-- a list to be written -/
def getW (S : Sto) : Va → Option (Nat × List Va)
  | .loc l => match S[l]? with
    | some (.lst xs) => some (l, xs)
    | _ => none
  | _ => none
def allD (f : Va → Option PyData) : List Va → Option (List PyData)
  | [] => some []
  | v :: r => match f v, allD f r with
    | some d, some ds => some (d :: ds)
    | _, _ => none
def toD (S : Sto) : Nat → Va → Option PyData
  | 0, v => match v with
    | .non => some .none
    | .bl b => some (.bool b)
    | .int i => some (.int i)
    | .str x => some (.str x)
    | _ => none
  | n + 1, v => match v with
    | .non => some .none
    | .bl b => some (.bool b)
    | .int i => some (.int i)
    | .str x => some (.str x)
    | .fn _ => none
    | .clo _ _ => none
    | .vn => none
    | .vc _ _ => none
    | .scr ns => some (.list (ns.map .int))
    | .loc l => match S[l]? with
      | some (.lst xs) => (allD (toD S n) xs).map .list
      | some (.tup xs) => (allD (toD S n) xs).map .tuple
      | _ => none
def eqS (S : Sto) (x y : Va) : Option Bool := match toD S 12 x, toD S 12 y with
  | some d, some e => if d.canLay0 && e.canLay0 then some (PyData.eqv d e) else none
  | _, _ => none

/-- the text: the classes' answers (class c is a class d), methods, makers, fields -/
structure Tx where
  sub : Nat → Nat → Option Bool
  mth : Nat → Nat → Option Nat
  ini : Nat → Option (Option Nat)
  fl : Nat → Nat → Bool
  /-- parameters, slots, body -/
  fn : Nat → Option (Nat × Nat × Sm)
  /-- the exception d is a c; what the def w says of it -/
  xs : Nat → Nat → Bool
  wh : Nat → Nat → Option Int
  /-- how many defs; lambdas behind them -/
  nd : Nat

/-! ### operators -/
def mulFits (i j : Int) : Bool := decide (i.natAbs.log2 + j.natAbs.log2 < 100000000)
def bop (o : Bop) (x y : Va) (S : Sto) : Res Va := match o, x, y with
  | .add, .int i, .int j => .ok (.int (i + j)) S
  | .sub, .int i, .int j => .ok (.int (i - j)) S
  | .mul, .int i, .int j => if mulFits i j then .ok (.int (i * j)) S else .bad
  | .fdiv, .int i, .int j => if 0 < j ∧ j < 1073741824 then .ok (.int (i / j)) S else .bad
  | .mod, .int i, .int j => if 0 < j then .ok (.int (i % j)) S else .bad
  | .pow, .int i, .int j => if 0 ≤ j ∧ j ≤ 1000 ∧ i.natAbs < 2 ^ 64 then .ok (.int (i ^ j.toNat)) S else .bad
  | .add, .loc l, .loc m => match getW S (.loc l), getW S (.loc m) with
    | some (_, xs), some (_, ys) => if xs.length + ys.length ≤ line then new (.lst (xs ++ ys)) S else .bad
    | _, _ => .bad
  | .mul, .loc l, .int k => match getW S (.loc l) with
    | some (_, xs) => if -(2 ^ 63) ≤ k ∧ k < 2 ^ 63 ∧ xs.length * k.toNat ≤ line then new (.lst (List.replicate k.toNat xs).flatten) S else .bad
    | none => .bad
  | _, _, _ => .bad
def cop (o : Cop) (x y : Va) (S : Sto) : Res Va := match o with
  | .lt => match x, y with | .int i, .int j => .ok (.bl (decide (i < j))) S | _, _ => .bad
  | .le => match x, y with | .int i, .int j => .ok (.bl (decide (i ≤ j))) S | _, _ => .bad
  | .gt => match x, y with | .int i, .int j => .ok (.bl (decide (j < i))) S | _, _ => .bad
  | .ge => match x, y with | .int i, .int j => .ok (.bl (decide (j ≤ i))) S | _, _ => .bad
  | .eq => match eqS S x y with | some b => .ok (.bl b) S | none => .bad
  | .ne => match eqS S x y with | some b => .ok (.bl !b) S | none => .bad
  | .isin => match (getL S y).or (getT S y) with | some ys => if flat x && ys.all flat then .ok (.bl (ys.any fun z => eqF z x)) S else .bad | none => .bad
  | .notin => match (getL S y).or (getT S y) with | some ys => if flat x && ys.all flat then .ok (.bl !(ys.any fun z => eqF z x)) S else .bad | none => .bad
def isC (v : Va) (neg : Bool) (x : Va) (S : Sto) : Res Va := match v with
  | .non => .ok (.bl (neg != decide (x = .non))) S
  | .bl b => match x with
    | .bl c => .ok (.bl (neg != decide (c = b))) S
    | _ => .bad
  | _ => .bad
def inStrs (xs : List Str) (x : Va) (S : Sto) : Res Va := if flat x then .ok (.bl (xs.any fun z => eqF (.str z) x)) S else .bad
def idx (x y : Va) (S : Sto) : Res Va := match y with
  | .int i => match getL S x with
    | some xs => match atI xs i with | some v => .ok v S | none => .bad
    | none => match getT S x with
      | some xs => match atI xs i with | some v => .ok v S | none => .bad
      | none => match x with
        | .loc l => match S[l]? with
          | some (.dct kvs) => match look i kvs with | some v => .ok v S | none => .bad
          | _ => .bad
        | _ => .bad
  | _ => .bad
def asI (v : Va) (S : Sto) : Res (Option Int) := match v with
  | .int i => .ok (some i) S
  | _ => .bad
def sl (x : Va) (lo hi : Option Int) (S : Sto) : Res Va := match getL S x with
  | some xs => new (.lst (cut xs lo hi)) S
  | none => .bad
def rev (x : Va) (S : Sto) : Res Va := match getL S x with
  | some xs => new (.lst xs.reverse) S
  | _ => .bad
/-- xs[lo::st] -/
def sls (x : Va) (lo st : Option Int) (S : Sto) : Res Va := match getL S x, lo, st with
  | some xs, some l, some k => if k ≠ 0 then new (.lst (pick xs l k)) S else .bad
  | _, _, _ => .bad
def fld (T : Tx) (x : Va) (f : Nat) (S : Sto) : Res Va := match x with
  | .loc l => match S[l]? with
    | some (.ins c _ fs) => if T.fl c f then (match lookF f fs with | some v => .ok v S | none => .bad) else .bad
    | _ => .bad
  | _ => .bad
def setF (T : Tx) (x : Va) (f : Nat) (v : Va) (S : Sto) : Option Sto := match x with
  | .loc l => match S[l]? with
    | some (.ins c dx fs) => if T.fl c f ∧ fs.length < 900 then some (S.set l (.ins c dx (putF f v fs))) else none
    | _ => none
  | _ => none
def setI (x i v : Va) (S : Sto) : Option Sto := match x, i with
  | .loc l, .int k => match S[l]? with
    | some (.lst xs) => match ixN xs.length k with
      | some j => some (S.set l (.lst (xs.set j v)))
      | none => none
    | some (.dct kvs) => if kvs.length < line then some (S.set l (.dct (put k v kvs))) else none
    | _ => none
  | _, _ => none
def lmAppend (l : Nat) (xs as : List Va) (S : Sto) : Res Va := match as with
  | [v] => if xs.length < line then .ok .non (S.set l (.lst (xs ++ [v]))) else .bad
  | _ => .bad
def lmExtend (l : Nat) (xs as : List Va) (S : Sto) : Res Va := match as with
  | [b] => match getW S b with
    | some (_, ys) => if xs.length + ys.length ≤ line then .ok .non (S.set l (.lst (xs ++ ys))) else .bad
    | none => .bad
  | _ => .bad
def lmRemove (l : Nat) (xs as : List Va) (S : Sto) : Res Va := match as with
  | [.int k] => match intsOf xs with
    | some ns => if ns.contains k then .ok .non (S.set l (.lst ((ns.erase k).map .int))) else .bad
    | none => .bad
  | _ => .bad
def lmPop (l : Nat) (xs as : List Va) (S : Sto) : Res Va := match as with
  | [] => match xs[xs.length - 1]? with
    | some v => .ok v (S.set l (.lst xs.dropLast))
    | none => .bad
  | _ => .bad
def lm0 (l : Nat) (zs as : List Va) (S : Sto) : Res Va := match as with
  | [] => .ok .non (S.set l (.lst zs))
  | _ => .bad
def lmB (f : List Bool → Bool → Option Nat) (xs as : List Va) (S : Sto) : Res Va := match as with
  | [.bl b] => match blsOf xs with
    | some bs => match f bs b with
      | some n => .ok (.int (n : Nat)) S
      | none => .bad
    | none => .bad
  | _ => .bad
def idxB : List Bool → Bool → Option Nat
  | [], _ => none
  | a :: r, b => if a = b then some 0 else (idxB r b).map (· + 1)
def lm (m : Lm) (x : Va) (as : List Va) (S : Sto) : Res Va := match getW S x with
  | none => .bad
  | some (l, xs) => match m with
    | .append => lmAppend l xs as S
    | .extend => lmExtend l xs as S
    | .remove => lmRemove l xs as S
    | .reverse => lm0 l xs.reverse as S
    | .pop => lmPop l xs as S
    | .clear => lm0 l [] as S
    | .index => lmB idxB xs as S
    | .count => lmB (fun bs b => some (bs.count b)) xs as S
def ranged (lo : Int) (n : Nat) : List Va := (List.range n).map fun i => .int (lo + (i : Nat))
def lexLt : List Int → List Int → Bool
  | [], [] => false
  | [], _ :: _ => true
  | _ :: _, [] => false
  | x :: xs, y :: ys => if x = y then lexLt xs ys else decide (x < y)
def biAbs (as : List Va) (S : Sto) : Res Va := match as with
  | [.int i] => .ok (.int (if i < 0 then -i else i)) S
  | _ => .bad
def biMin2 (as : List Va) (S : Sto) : Res Va := match as with
  | [x, y] => match x, y with
    | .int i, .int j => .ok (.int (if j < i then j else i)) S
    | .loc l, .loc m => match (getT S (.loc l)).bind intsOf, (getT S (.loc m)).bind intsOf with
      | some is, some js => .ok (if lexLt js is then .loc m else .loc l) S
      | _, _ => .bad
    | _, _ => .bad
  | _ => .bad
def biMin (as : List Va) (S : Sto) : Res Va := match as with
  | [x] => match (getL S x).bind intsOf with
    | some (n :: ns) => .ok (.int (minI n ns)) S
    | _ => .bad
  | [x, y] => biMin2 [x, y] S
  | _ => .bad
def biMax (as : List Va) (S : Sto) : Res Va := match as with
  | [.int i, .int j] => .ok (.int (if j > i then j else i)) S
  | _ => .bad
def biInt (as : List Va) (S : Sto) : Res Va := match as with
  | [.bl b] => .ok (.int (if b then 1 else 0)) S
  | _ => .bad
def biRng1 (as : List Va) (S : Sto) : Res Va := match as with
  | [.int j] => if -(2 ^ 62) ≤ j ∧ j < line then new (.lst (ranged 0 j.toNat)) S else .bad
  | _ => .bad
def biRng2 (as : List Va) (S : Sto) : Res Va := match as with
  | [.int i, .int j] => if -(2 ^ 62) ≤ i ∧ i < 2 ^ 62 ∧ -(2 ^ 62) ≤ j ∧ j < 2 ^ 62 ∧ j - i < line then new (.lst (ranged i (j - i).toNat)) S else .bad
  | _ => .bad
def biL (f : List Va → Sto → Res Va) (as : List Va) (S : Sto) : Res Va := match as with
  | [x] => match getL S x with
    | some xs => f xs S
    | none => .bad
  | _ => .bad
def biLT (f : List Va → Sto → Res Va) (as : List Va) (S : Sto) : Res Va := match as with
  | [x] => match (getL S x).or (getT S x) with
    | some xs => f xs S
    | none => .bad
  | _ => .bad
def biI (f : List Int → Sto → Res Va) (as : List Va) (S : Sto) : Res Va := match as with
  | [x] => match (getL S x).bind intsOf with
    | some xs => f xs S
    | none => .bad
  | _ => .bad
def biB (f : List Bool → Sto → Res Va) (as : List Va) (S : Sto) : Res Va := match as with
  | [x] => match (getL S x).bind blsOf with
    | some xs => f xs S
    | none => .bad
  | _ => .bad
def bi (b : Bi) (as : List Va) (S : Sto) : Res Va := match b with
  | .len => biLT (fun xs S => .ok (.int xs.length) S) as S
  | .sum => biI (fun ns S => .ok (.int ns.sum) S) as S
  | .abs => biAbs as S
  | .min => biMin as S
  | .min2 => biMin2 as S
  | .max => biMax as S
  | .sorted => biI (fun ns S => new (.lst ((srt ns).map .int)) S) as S
  | .sortedSet => biI (fun ns S => if ns.length ≤ 4000 then new (.lst ((srt (uniq ns)).map .int)) S else .bad) as S
  | .list => biLT (fun xs S => new (.lst xs) S) as S
  | .tuple => biL (fun xs S => new (.tup xs) S) as S
  | .any => biB (fun bs S => .ok (.bl (bs.any id)) S) as S
  | .all => biB (fun bs S => .ok (.bl (bs.all id)) S) as S
  | .int => biInt as S
  | .rng1 => biRng1 as S
  | .rng2 => biRng2 as S
def tyOf (S : Sto) : Va → Option Ty
  | .bl _ => some .bool
  | .int _ => some .int
  | .str _ => some .str
  | .scr _ => some .list
  | .loc l => match S[l]? with
    | some (.lst _) => some .list
    | some (.tup _) => some .tuple
    | some (.dct _) => some .dict
    | _ => none
  | _ => none
/-- isinstance(x, t): a bool is an int -/
def isTy (T : Tx) (t : Ty) (x : Va) (S : Sto) : Res Va := match x with
  | .non => .ok (.bl false) S
  | .loc l => match S[l]? with
    | some (.ins c _ _) => if (T.sub c c).isSome then .ok (.bl false) S else .bad
    | some (.own _) => .bad
    | _ => match tyOf S x with
      | some u => .ok (.bl (decide (u = t))) S
      | none => .bad
  | x => match tyOf S x with
    | some u => .ok (.bl (decide (u = t) || (decide (u = .bool) && decide (t = .int)))) S
    | none => .bad

/-! ### what is walked -/
inductive Iter where
  | lst (l : Nat) | tup (l : Nat) | rng (lo st : Int) (n : Nat) | enum (l : Nat) | zip (l m : Nat)
/-- none: not to be walked; some none: at its end -/
def nextI : Iter → Nat → Sto → Option (Option (Va × Sto))
  | .lst l, i, S => match getL S (.loc l) with
    | some xs => match xs[i]? with | some v => some (some (v, S)) | none => some none
    | none => none
  | .tup l, i, S => match getT S (.loc l) with
    | some xs => match xs[i]? with | some v => some (some (v, S)) | none => some none
    | none => none
  | .rng lo st n, i, S => if i < n then some (some (.int (lo + i * st), S)) else some none
  | .enum l, i, S => match getL S (.loc l) with
    | some xs => match xs[i]? with | some v => some (some (.loc S.length, S ++ [.tup [.int i, v]])) | none => some none
    | none => none
  | .zip l m, i, S => match getL S (.loc l), getL S (.loc m) with
    | some xs, some ys => match xs[i]?, ys[i]? with | some v, some u => some (some (.loc S.length, S ++ [.tup [v, u]])) | _, _ => some none
    | _, _ => none
def lenI : Iter → Sto → Nat
  | .lst l, S => ((getL S (.loc l)).getD []).length
  | .tup l, S => ((getT S (.loc l)).getD []).length
  | .rng _ _ n, _ => n
  | .enum l, S => ((getL S (.loc l)).getD []).length
  | .zip l _, S => ((getL S (.loc l)).getD []).length
mutual
def asgT (S : Sto) : Tg → Va → Rho → Option Rho
  | .nm i, v, r => some (r.set i (some v))
  | .tup ts, v, r => match getT S v with
    | some xs => asgTs S ts xs r
    | none => none
  | .nil, _, _ => none
  | .cons _ _, _, _ => none
def asgTs (S : Sto) : Tg → List Va → Rho → Option Rho
  | .nil, [], r => some r
  | .cons t ts, x :: xs, r => match asgT S t x r with
    | some r' => asgTs S ts xs r'
    | none => none
  | _, _, _ => none
end
def wipeR (r : Rho) : List Nat → Rho
  | [] => r
  | v :: vs => (wipeR r vs).set v none
/-- a comprehension's turns -/
def compL (it : Iter) (t : Tg) (c e : Rho → Sto → Res Va) (r : Rho) : Nat → Nat → List Va → Sto → Res (List Va)
  | 0, _, _, _ => .bad
  | n + 1, i, acc, S => match nextI it i S with
    | none => .bad
    | some none => .ok acc S
    | some (some (v, S1)) => match asgT S1 t v r with
      | none => .bad
      | some r1 => match c r1 S1 with
        | .ok (.bl true) S2 => match e r1 S2 with
          | .ok y S3 => if acc.length < line then compL it t c e r n (i + 1) (acc ++ [y]) S3 else .bad
          | _ => .bad
        | .ok (.bl false) S2 => compL it t c e r n (i + 1) acc S2
        | _ => .bad
def forL (it : Iter) (t : Tg) (b : Rho → Sto → Fl) : Nat → Nat → Rho → Sto → Fl
  | 0, _, _, _ => .bad
  | n + 1, i, r, S => match nextI it i S with
    | none => .bad
    | some none => .nx r S
    | some (some (v, S1)) => match asgT S1 t v r with
      | none => .bad
      | some r1 => match b r1 S1 with
        | .nx r2 S2 => forL it t b n (i + 1) r2 S2
        | .ct r2 S2 => forL it t b n (i + 1) r2 S2
        | .bk r2 S2 => .nx r2 S2
        | f => f
def whileL (c : Rho → Sto → Res Va) (b : Rho → Sto → Fl) : Nat → Rho → Sto → Fl
  | 0, _, _ => .bad
  | n + 1, r, S => match c r S with
    | .ok (.bl true) S1 => match b r S1 with
      | .nx r2 S2 => whileL c b n r2 S2
      | .ct r2 S2 => whileL c b n r2 S2
      | .bk r2 S2 => .nx r2 S2
      | f => f
    | .ok (.bl false) S1 => .nx r S1
    | .exc c S1 => .exc c S1
    | _ => .bad

/-! ### the evaluator -/
def isNil : E → Bool
  | .nil => true
  | _ => false
/-- a part of a slice: left out, or an int -/
def prt (n : Bool) (f : Rho → Sto → Res Va) (r : Rho) (S : Sto) : Res (Option Int) := match n with
  | true => .ok none S
  | false => (f r S).bind asI
/-- isinstance(x, an own class) -/
def isCls (T : Tx) (c : Nat) (x : Va) (S : Sto) : Res Va := match x with
  | .loc l => match S[l]? with
    | some (.ins d _ _) => match T.sub d c with
      | some b => .ok (.bl b) S
      | none => .bad
    | some (.own _) => .bad
    | some _ => .ok (.bl false) S
    | none => .bad
  | .fn _ => .bad
  | _ => .ok (.bl false) S
section
variable (T : Tx) (cl : Nat → List Va → Sto → Res Va)
mutual
def evE : E → Rho → Sto → Res Va
  | .var i, r, S => match r[i]? with
    | some (some v) => if plain v then .ok v S else .bad
    | _ => .bad
  | .con v, _, S => .ok v S
  | .bin o a b, r, S => (evE a r S).bind fun x S1 => (evE b r S1).bind fun y S2 => bop o x y S2
  | .neg a, r, S => (evE a r S).bind fun x S1 => match x with
    | .int i => .ok (.int (-i)) S1
    | _ => .bad
  | .not a, r, S => (evE a r S).bind fun x S1 => match x with
    | .bl c => .ok (.bl !c) S1
    | _ => .bad
  | .and a b, r, S => (evE a r S).bind fun x S1 => match x with
    | .bl true => evE b r S1
    | .bl false => .ok (.bl false) S1
    | _ => .bad
  | .or a b, r, S => (evE a r S).bind fun x S1 => match x with
    | .bl true => .ok (.bl true) S1
    | .bl false => evE b r S1
    | _ => .bad
  | .ite c a b, r, S => (evE c r S).bind fun x S1 => match x with
    | .bl true => evE a r S1
    | .bl false => evE b r S1
    | _ => .bad
  | .cmp o a b, r, S => (evE a r S).bind fun x S1 => (evE b r S1).bind fun y S2 => cop o x y S2
  | .chain o p a b c, r, S => (evE a r S).bind fun x S1 => (evE b r S1).bind fun y S2 => (cop o x y S2).bind fun z S3 => match z with
    | .bl true => (evE c r S3).bind fun u S4 => cop p y u S4
    | .bl false => .ok (.bl false) S3
    | _ => .bad
  | .isC v n a, r, S => (evE a r S).bind fun x S1 => isC v n x S1
  | .inStrs a xs, r, S => (evE a r S).bind fun x S1 => inStrs xs x S1
  | .lst as, r, S => (evA as r S).bind fun xs S1 => if xs.length ≤ line then new (.lst xs) S1 else .bad
  | .tup as, r, S => (evA as r S).bind fun xs S1 => if xs.length ≤ line then new (.tup xs) S1 else .bad
  | .dnew, _, S => new (.dct []) S
  | .idx a b, r, S => (evE a r S).bind fun x S1 => (evE b r S1).bind fun y S2 => idx x y S2
  | .sl a lo hi, r, S => (evE a r S).bind fun x S1 => (prt (isNil lo) (evE lo) r S1).bind fun l S2 => (prt (isNil hi) (evE hi) r S2).bind fun h S3 => sl x l h S3
  | .rev a, r, S => (evE a r S).bind fun x S1 => rev x S1
  | .sls a lo st, r, S => (evE a r S).bind fun x S1 => (prt false (evE lo) r S1).bind fun l S2 => (prt false (evE st) r S2).bind fun h S3 => sls x l h S3
  | .fld a f, r, S => (evE a r S).bind fun x S1 => fld T x f S1
  | .call f as, r, S => (evA as r S).bind fun xs S1 => cl f xs S1
  | .callL g f js as, r, S => match capsOf r js with
    | some ws => (evA as r S).bind fun xs S1 => cl g (.clo f ws :: xs) S1
    | none => .bad
  | .callv i as, r, S => match r[i]? with
    | some (some (.fn f)) => if f < T.nd then (evA as r S).bind fun xs S1 => cl f xs S1 else .bad
    | _ => .bad
  | .make c as, r, S => (evA as r S).bind fun xs S1 => match T.ini c with
    | some (some f) => (cl f (.loc (S1.length + 1) :: xs) (S1 ++ [.own (S1.length + 1), .ins c S1.length []])).bind fun v S2 => match v with
      | .non => .ok (.loc (S1.length + 1)) S2
      | _ => .bad
    | some none => match xs with
      | [] => .ok (.loc (S1.length + 1)) (S1 ++ [.own (S1.length + 1), .ins c S1.length []])
      | _ => .bad
    | none => .bad
  | .meth a m as, r, S => (evE a r S).bind fun x S1 => match x with
    | .loc l => match S1[l]? with
      | some (.ins c _ fs) => match T.mth c m, lookF m fs with
        | some f, none => (evA as r S1).bind fun xs S2 => cl f (.loc l :: xs) S2
        | _, _ => .bad
      | _ => .bad
    | _ => .bad
  | .lm m a as, r, S => (evE a r S).bind fun x S1 => match getW S1 x with
    | none => .bad
    | some _ => (evA as r S1).bind fun xs S2 => lm m x xs S2
  | .bi b as, r, S => (evA as r S).bind fun xs S1 => bi b xs S1
  | .isTy t a, r, S => (evE a r S).bind fun x S1 => isTy T t x S1
  | .isCls c a, r, S => (evE a r S).bind fun x S1 => isCls T c x S1
  | .comp own t it c e, r, S => (evI it r S).bind fun J S1 => (compL J t (evE c) (evE e) (wipeR r own) (lenI J S1 + 1) 0 [] S1).bind fun xs S2 => new (.lst xs) S2
  | _, _, _ => .bad
def evA : E → Rho → Sto → Res (List Va)
  | .nil, _, S => .ok [] S
  | .cons a b, r, S => (evE a r S).bind fun x S1 => (evA b r S1).bind fun xs S2 => .ok (x :: xs) S2
  | _, _, _ => .bad
def evI : E → Rho → Sto → Res Iter
  | .seq a, r, S => (evE a r S).bind fun x S1 => match x with
    | .loc l => match getL S1 x with
      | some _ => .ok (.lst l) S1
      | none => match getT S1 x with
        | some _ => .ok (.tup l) S1
        | none => .bad
    | _ => .bad
  | .rng1 a, r, S => (evE a r S).bind fun x S1 => match x with
    | .int j => if -(2 ^ 62) ≤ j ∧ j < 2 ^ 62 then .ok (.rng 0 1 j.toNat) S1 else .bad
    | _ => .bad
  | .rng2 a b, r, S => (evE a r S).bind fun x S1 => (evE b r S1).bind fun y S2 => match x, y with
    | .int i, .int j => if -(2 ^ 62) ≤ i ∧ i < 2 ^ 62 ∧ -(2 ^ 62) ≤ j ∧ j < 2 ^ 62 then .ok (.rng i 1 (j - i).toNat) S2 else .bad
    | _, _ => .bad
  | .rng3 a b c, r, S => (evE a r S).bind fun x S1 => (evE b r S1).bind fun y S2 => (evE c r S2).bind fun z S3 => match x, y, z with
    | .int i, .int j, .int k => if 0 ≤ i ∧ i < 2 ^ 30 ∧ 0 ≤ j ∧ j < 2 ^ 30 ∧ 0 < k ∧ k < 2 ^ 30 then .ok (.rng i k ((j - i + k - 1) / k).toNat) S3 else .bad
    | _, _, _ => .bad
  | .enum a, r, S => (evE a r S).bind fun x S1 => match x with
    | .loc l => match getL S1 x with
      | some _ => .ok (.enum l) S1
      | none => .bad
    | _ => .bad
  | .zip a b, r, S => (evE a r S).bind fun x S1 => (evE b r S1).bind fun y S2 => match x, y with
    | .loc l, .loc m => match getL S2 x, getL S2 y with
      | some _, some _ => .ok (.zip l m) S2
      | _, _ => .bad
    | _, _ => .bad
  | _, _, _ => .bad
end
/-- an expression's end within a statement -/
def thenS {α : Type} (x : Res α) (k : α → Sto → Fl) : Fl := match x with
  | .ok a S => k a S
  | .exc c S => .exc c S
  | .bad => .bad
def setAll : List Nat → List Va → Rho → Option Rho
  | [], [], r => some r
  | i :: is, v :: vs, r => setAll is vs (r.set i (some v))
  | _, _, _ => none
def wfuel : Nat := 30000
def evS : Sm → Rho → Sto → Fl
  | .skip, r, S => .nx r S
  | .seq a b, r, S => match evS a r S with
    | .nx r1 S1 => evS b r1 S1
    | f => f
  | .asg t e, r, S => thenS (evE T cl e r S) fun v S1 => match asgT S1 t v r with
    | some r1 => .nx r1 S1
    | none => .bad
  | .par is as, r, S => thenS (evA T cl as r S) fun vs S1 => match setAll is vs r with
    | some r1 => .nx r1 S1
    | none => .bad
  | .ex e, r, S => thenS (evE T cl e r S) fun _ S1 => .nx r S1
  | .ret e, r, S => thenS (evE T cl e r S) fun v S1 => .rt v S1
  | .ite c a b, r, S => thenS (evE T cl c r S) fun x S1 => match x with
    | .bl true => evS a r S1
    | .bl false => evS b r S1
    | _ => .bad
  | .for_ t it b, r, S => thenS (evI T cl it r S) fun J S1 => forL J t (evS b) (lenI J S1 + 1) 0 r S1
  | .while_ c b, r, S => whileL (evE T cl c) (evS b) wfuel r S
  | .setf o f e, r, S => thenS (evE T cl e r S) fun v S1 => thenS (evE T cl o r S1) fun x S2 => match setF T x f v S2 with
    | some S3 => .nx r S3
    | none => .bad
  | .augf o f k, r, S => thenS (evE T cl o r S) fun x S1 => match fld T x f S1 with
    | .ok (.int i) _ => (match setF T x f (.int (i + k)) S1 with
      | some S3 => .nx r S3
      | none => .bad)
    | _ => .bad
  | .seti o i e, r, S => thenS (evE T cl e r S) fun v S1 => thenS (evE T cl o r S1) fun x S2 => thenS (evE T cl i r S2) fun y S3 => match setI x y v S3 with
    | some S4 => .nx r S4
    | none => .bad
  | .raise c, _, S => .exc c S
  | .tryA i as c x k w, r, S => match r[i]? with
    | some (some (.clo f ws)) => (match (evA T cl as r S).bind fun xs S1 => cl f (clist ws ++ xs) S1 with
      | .ok _ S1 => .nx r S1
      | .exc d S1 => if T.xs d d then (if T.xs d c then (match T.wh w d with
        | some n => .nx ((r.set k (some (.int n))).set x none) S1
        | none => .bad) else .exc d S1) else .bad
      | .bad => .bad)
    | _ => .bad
end
def start (n : Nat) (vs : List Va) : Rho := vs.map some ++ List.replicate (n - vs.length) none
/-- a call of the def f, d calls deep -/
def run (T : Tx) : Nat → Nat → List Va → Sto → Res Va
  | 0, _, _, _ => .bad
  | d + 1, f, as, S => match T.fn f with
    | none => .bad
    | some (np, n, b) => if as.length = np then (match evS T (run T d) b (start n as) S with
      | .nx _ S1 => .ok .non S1
      | .rt v S1 => .ok v S1
      | .exc c S1 => .exc c S1
      | _ => .bad) else .bad
end Ev
end

section
set_option linter.all false
/-! Kl: a text by its classes and bodies. -/
namespace Ev
open PySem
structure Kls where
  name : Str
  exc : Bool
  ini : Option Nat
  mth : List (Nat × Nat)
  fls : List Nat
  anc : List Nat
/-- which one alone is true; 99 for none or several -/
def whN (bs : List Bool) : Option Int := if bs.count true = 1 then (idxB bs true).map fun n => (n : Int) else some 99
/-- whs: the defs that tell which class an exception is of, with their classes -/
def txOf (irs : List (Nat × Nat × Sm)) (cls : List Kls) (whs : List (Nat × List Nat) := []) (lms : List (Nat × Nat × Sm) := []) : Tx where
  sub := fun c d => match cls[c]?, cls[d]? with
    | some k, some _ => if k.exc then none else some (k.anc.contains d)
    | _, _ => none
  mth := fun c m => match cls[c]? with
    | some k => if k.exc then none else k.mth.lookup m
    | none => none
  ini := fun c => match cls[c]? with
    | some k => if k.exc then none else some k.ini
    | none => none
  fl := fun c f => match cls[c]? with
    | some k => !k.exc && k.fls.contains f
    | none => false
  fn := fun f => if f < irs.length then irs[f]? else lms[f - irs.length]?
  nd := irs.length
  xs := fun d c => match cls[d]? with
    | some k => !whs.isEmpty && (k.exc && k.anc.contains c)
    | none => false
  wh := fun w d => (whs.lookup w).bind fun cs => whN (cs.map fun c => match cls[d]? with
    | some k => k.anc.contains c
    | none => false)
end Ev
end

section
set_option linter.all false
/-! Vl0: the evaluator by values (trees, ownership). Plain Lean. -/
namespace Vl
open PySem Ev
/-- trees: shared, never changed again -/
inductive D where
  | non | bl (b : Bool) | int (i : Int) | str (x : Str) | fn (f : Nat) | scr (ns : List Int) | lst (xs : List D) | tup (xs : List D) | dct (kvs : List (Int × D)) | ins (c : Nat) (fs : List (Nat × D))
  deriving Inhabited
/-- owned: the only way to its place; nil, cons: an instance's fields; lso: a list of owned things -/
inductive Ow where
  | sh (d : D) | lst (xs : List D) | dct (kvs : List (Int × D)) | ins (c : Nat) (fs : Ow) | nil | cons (f : Nat) (o fs : Ow) | lso (fs : Ow)
  deriving Inhabited
def frzF : Ow → List (Nat × D)
  | .cons f o fs => (f, match o with
    | .sh d => d
    | .lst xs => .lst xs
    | .dct kvs => .dct kvs
    | .ins c gs => .ins c (frzF gs)
    | .lso gs => .lst ((frzF gs).map (·.2))
    | _ => .non) :: frzF fs
  | _ => []
@[reducible] def frz : Ow → D
  | .sh d => d
  | .lst xs => .lst xs
  | .dct kvs => .dct kvs
  | .ins c fs => .ins c (frzF fs)
  | .lso fs => .lst ((frzF fs).map (·.2))
  | _ => .non
def isLso : Ow → Bool
  | .lso _ => true
  | _ => false
def isSh : Ow → Bool
  | .sh _ => true
  | _ => false
/-- a scalar -/
def sca : D → Bool
  | .non | .bl _ | .int _ | .str _ | .fn _ => true
  | _ => false
/-- no list in it -/
def nol : D → Bool
  | .tup xs => xs.all sca
  | d => sca d
/-- no list of others in it -/
def noal : Ow → Bool
  | .sh d => nol d
  | .lst xs => xs.all nol
  | .dct kvs => kvs.all fun p => nol p.2
  | .ins _ fs => noal fs
  | .nil => true
  | .cons _ o fs => noal o && noal fs
  | .lso fs => noal fs
abbrev VEnv := List (Option Ow)
inductive VRes (α : Type) where
  | ok (a : α) (s : VEnv) | exc (c : Nat) (s : VEnv) | bad
  deriving Inhabited
def VRes.bind {α β : Type} (r : VRes α) (k : α → VEnv → VRes β) : VRes β := match r with
  | .ok a s => k a s
  | .exc c s => .exc c s
  | .bad => .bad
inductive CRes where
  | ok (o : Ow) (self : Option Ow) | exc (c : Nat) (self : Option Ow) | bad
  deriving Inhabited
/-! ### fields, paths -/
def lookO (f : Nat) : Ow → Option Ow
  | .cons g o fs => if g = f then some o else lookO f fs
  | _ => none
def putO (f : Nat) (x : Ow) : Ow → Ow
  | .cons g o fs => if g = f then .cons g x fs else .cons g o (putO f x fs)
  | _ => .cons f x .nil
def lenO : Ow → Nat
  | .cons _ _ fs => lenO fs + 1
  | _ => 0
/-- steps of a path from here on are places in a list -/
def isF (n : Nat) : Bool := Nat.beq (n / 1000000) 0
def nthO : Nat → Ow → Option Ow
  | 0, .cons _ o _ => some o
  | k + 1, .cons _ _ fs => nthO k fs
  | _, _ => none
def stO (x : Ow) : Nat → Ow → Ow
  | 0, .cons f _ fs => .cons f x fs
  | k + 1, .cons f o fs => .cons f o (stO x k fs)
  | _, o => o
def getP (fl : Nat → Nat → Bool) : Ow → List Nat → Option Ow
  | o, [] => some o
  | .ins c fs, f :: p => if (isF f && fl c f) = true then (match lookO f fs with
    | some o => getP fl o p
    | none => none) else none
  | .lso fs, n :: p => if isF n = true then none else (match nthO (n % 1000000) fs with
    | some o => getP fl o p
    | none => none)
  | _, _ => none
def putP (fl : Nat → Nat → Bool) (x : Ow) : Ow → List Nat → Option Ow
  | _, [] => some x
  | .ins c fs, f :: p => if (isF f && fl c f) = true then (match lookO f fs with
    | some o => (putP fl x o p).map fun o' => .ins c (putO f o' fs)
    | none => none) else none
  | .lso fs, n :: p => if isF n = true then none else (match nthO (n % 1000000) fs with
    | some o => (putP fl x o p).map fun o' => .lso (stO o' (n % 1000000) fs)
    | none => none)
  | _, _ => none
def conN : E → Option Nat
  | .con (.int k) => if 0 ≤ k ∧ k < 1000 then some k.toNat else none
  | _ => none
def pathOf : E → Option (Nat × List Nat)
  | .var i => some (i, [])
  | .fld a f => if isF f = true then (pathOf a).map fun q => (q.1, q.2 ++ [f]) else none
  | .idx a b => (conN b).bind fun k => (pathOf a).map fun q => (q.1, q.2 ++ [1000000 + k])
  | _ => none
def slotO (s : VEnv) (i : Nat) : Option Ow := (s[i]?).bind id
/-- an owned thing at a path's root -/
def owned (a : E) (s : VEnv) : Bool := match pathOf a with
  | some (i, _) => (match slotO s i with
    | some o => !isSh o
    | none => false)
  | none => false
def quiet : E → Bool
  | .meth _ _ _ => false
  | .lm _ _ _ => false
  | .cons a b => quiet a && quiet b
  | .bin _ a b => quiet a && quiet b
  | .neg a => quiet a
  | .not a => quiet a
  | .and a b => quiet a && quiet b
  | .or a b => quiet a && quiet b
  | .ite c a b => quiet c && (quiet a && quiet b)
  | .cmp _ a b => quiet a && quiet b
  | .chain _ _ a b c => quiet a && (quiet b && quiet c)
  | .isC _ _ a => quiet a
  | .inStrs a _ => quiet a
  | .lst a => quiet a
  | .tup a => quiet a
  | .idx a b => quiet a && quiet b
  | .sl a b c => quiet a && (quiet b && quiet c)
  | .rev a => quiet a
  | .sls a b c => quiet a && (quiet b && quiet c)
  | .fld a _ => quiet a
  | .call _ as => quiet as
  | .callL _ _ _ _ => false
  | .callv _ as => quiet as
  | .make _ as => quiet as
  | .bi _ as => quiet as
  | .isTy _ a => quiet a
  | .isCls _ a => quiet a
  | .comp _ _ i c e => quiet i && (quiet c && quiet e)
  | .seq a => quiet a
  | .rng1 a => quiet a
  | .rng2 a b => quiet a && quiet b
  | .rng3 a b c => quiet a && (quiet b && quiet c)
  | .enum a => quiet a
  | .zip a b => quiet a && quiet b
  | _ => true
/-! ### operators by values -/
def allP (f : D → Option PyData) : List D → Option (List PyData)
  | [] => some []
  | v :: r => match f v, allP f r with
    | some d, some ds => some (d :: ds)
    | _, _ => none
def toPy : Nat → D → Option PyData
  | 0, d => match d with
    | .non => some .none
    | .bl b => some (.bool b)
    | .int i => some (.int i)
    | .str x => some (.str x)
    | _ => none
  | n + 1, d => match d with
    | .non => some .none
    | .bl b => some (.bool b)
    | .int i => some (.int i)
    | .str x => some (.str x)
    | .scr ns => some (.list (ns.map .int))
    | .lst xs => (allP (toPy n) xs).map .list
    | .tup xs => (allP (toPy n) xs).map .tuple
    | _ => none
def deq (x y : D) : Option Bool := match toPy 12 x, toPy 12 y with
  | some d, some e => if d.canLay0 && e.canLay0 then some (PyData.eqv d e) else none
  | _, _ => none
def dL : D → Option (List D)
  | .lst xs => some xs
  | .scr ns => some (ns.map .int)
  | _ => none
def dT : D → Option (List D)
  | .tup xs => some xs
  | _ => none
def dLT (d : D) : Option (List D) := (dL d).or (dT d)
def dInts : List D → Option (List Int)
  | [] => some []
  | .int i :: r => (dInts r).map (i :: ·)
  | _ => none
def dBls : List D → Option (List Bool)
  | [] => some []
  | .bl i :: r => (dBls r).map (i :: ·)
  | _ => none
def dFlat : D → Bool
  | .non | .bl _ | .int _ | .str _ => true
  | _ => false
def dEqF : D → D → Bool
  | .non, .non => true
  | .bl a, .bl b => a == b
  | .bl a, .int b => (if a then 1 else 0) == b
  | .int a, .bl b => a == (if b then 1 else 0)
  | .int a, .int b => a == b
  | .str a, .str b => a == b
  | _, _ => false
def vbop (o : Bop) (x y : D) : Option Ow := match o, x, y with
  | .add, .int i, .int j => some (.sh (.int (i + j)))
  | .sub, .int i, .int j => some (.sh (.int (i - j)))
  | .mul, .int i, .int j => if mulFits i j then some (.sh (.int (i * j))) else none
  | .fdiv, .int i, .int j => if 0 < j ∧ j < 1073741824 then some (.sh (.int (i / j))) else none
  | .mod, .int i, .int j => if 0 < j then some (.sh (.int (i % j))) else none
  | .pow, .int i, .int j => if 0 ≤ j ∧ j ≤ 1000 ∧ i.natAbs < 2 ^ 64 then some (.sh (.int (i ^ j.toNat))) else none
  | .add, .lst xs, .lst ys => if xs.length + ys.length ≤ line then some (.lst (xs ++ ys)) else none
  | .mul, .lst xs, .int k => if -(2 ^ 63) ≤ k ∧ k < 2 ^ 63 ∧ xs.length * k.toNat ≤ line then some (.lst (List.replicate k.toNat xs).flatten) else none
  | _, _, _ => none
def vcop (o : Cop) (x y : D) : Option Bool := match o with
  | .lt => match x, y with | .int i, .int j => some (decide (i < j)) | _, _ => none
  | .le => match x, y with | .int i, .int j => some (decide (i ≤ j)) | _, _ => none
  | .gt => match x, y with | .int i, .int j => some (decide (j < i)) | _, _ => none
  | .ge => match x, y with | .int i, .int j => some (decide (j ≤ i)) | _, _ => none
  | .eq => deq x y
  | .ne => (deq x y).map (!·)
  | .isin => match dLT y with | some ys => if dFlat x && ys.all dFlat then some (ys.any fun z => dEqF z x) else none | none => none
  | .notin => match dLT y with | some ys => if dFlat x && ys.all dFlat then some (!(ys.any fun z => dEqF z x)) else none | none => none
def visC (v : Va) (neg : Bool) (x : D) : Option Bool := match v with
  | .non => some (neg != (match x with | .non => true | _ => false))
  | .bl b => match x with
    | .bl c => some (neg != decide (c = b))
    | _ => none
  | _ => none
def dlook (k : Int) : List (Int × D) → Option D
  | [] => none
  | (j, v) :: r => if j = k then some v else dlook k r
def dput (k : Int) (v : D) (kvs : List (Int × D)) : List (Int × D) :=
  if (kvs.any fun kv => decide (kv.1 = k)) = true then kvs.map (fun kv => if kv.1 = k then (kv.1, v) else kv) else kvs ++ [(k, v)]
def vidx (x y : D) : Option D := match y with
  | .int i => (match dLT x with
    | some xs => atI xs i
    | none => (match x with
      | .dct kvs => dlook i kvs
      | _ => none))
  | _ => none
def dfld (f : Nat) : List (Nat × D) → Option D
  | [] => none
  | (j, v) :: r => if j = f then some v else dfld f r
def vlm (m : Lm) (xs as : List D) : Option (D × List D) := match m, as with
  | .append, [v] => if xs.length < line then some (.non, xs ++ [v]) else none
  | .extend, [.lst ys] => if xs.length + ys.length ≤ line then some (.non, xs ++ ys) else none
  | .remove, [.int k] => (match dInts xs with
    | some ns => if ns.contains k then some (.non, (ns.erase k).map .int) else none
    | none => none)
  | .reverse, [] => some (.non, xs.reverse)
  | .clear, [] => some (.non, [])
  | .pop, [] => (match xs[xs.length - 1]? with
    | some v => some (v, xs.dropLast)
    | none => none)
  | .index, [.bl b] => (match dBls xs with
    | some bs => (match idxB bs b with
      | some n => some (.int (n : Nat), xs)
      | none => none)
    | none => none)
  | .count, [.bl b] => (match dBls xs with
    | some bs => some (.int (bs.count b : Nat), xs)
    | none => none)
  | _, _ => none
def ranI (lo st : Int) (n : Nat) : List D := (List.range n).map fun i => .int (lo + (i : Nat) * st)
def d1L (as : List D) : Option (List D) := match as with
  | [x] => dL x
  | _ => none
def d1LT (as : List D) : Option (List D) := match as with
  | [x] => dLT x
  | _ => none
def vmin2 (x y : D) : Option Ow := match x, y with
  | .int i, .int j => some (.sh (.int (if j < i then j else i)))
  | .tup xs, .tup ys => (match dInts xs, dInts ys with
    | some is, some js => some (.sh (if lexLt js is then .tup ys else .tup xs))
    | _, _ => none)
  | _, _ => none
def vbi (b : Bi) (as : List D) : Option Ow := match b with
  | .len => (d1LT as).map fun xs => .sh (.int xs.length)
  | .sum => ((d1L as).bind dInts).map fun ns => .sh (.int ns.sum)
  | .abs => match as with | [.int i] => some (.sh (.int (if i < 0 then -i else i))) | _ => none
  | .min => match as with
    | [x, y] => vmin2 x y
    | as => (match (d1L as).bind dInts with | some (n :: ns) => some (.sh (.int (minI n ns))) | _ => none)
  | .max => match as with | [.int i, .int j] => some (.sh (.int (if j > i then j else i))) | _ => none
  | .sorted => ((d1L as).bind dInts).map fun ns => .lst ((srt ns).map .int)
  | .sortedSet => match (d1L as).bind dInts with | some ns => if ns.length ≤ 4000 then some (.lst ((srt (uniq ns)).map .int)) else none | none => none
  | .list => (d1LT as).map fun xs => .lst xs
  | .tuple => (d1L as).map fun xs => .sh (.tup xs)
  | .any => ((d1L as).bind dBls).map fun bs => .sh (.bl (bs.any id))
  | .all => ((d1L as).bind dBls).map fun bs => .sh (.bl (bs.all id))
  | .int => match as with | [.bl b] => some (.sh (.int (if b then 1 else 0))) | _ => none
  | .min2 => match as with
    | [x, y] => vmin2 x y
    | _ => none
  | .rng1 => match as with | [.int j] => if -(2 ^ 62) ≤ j ∧ j < line then some (.lst (ranI 0 1 j.toNat)) else none | _ => none
  | .rng2 => match as with | [.int i, .int j] => if -(2 ^ 62) ≤ i ∧ i < 2 ^ 62 ∧ -(2 ^ 62) ≤ j ∧ j < 2 ^ 62 ∧ j - i < line then some (.lst (ranI i 1 (j - i).toNat)) else none | _ => none
def dTy : D → Option Ty
  | .bl _ => some .bool
  | .int _ => some .int
  | .str _ => some .str
  | .scr _ => some .list
  | .lst _ => some .list
  | .tup _ => some .tuple
  | .dct _ => some .dict
  | _ => none
def visTy (T : Tx) (t : Ty) (x : D) : Option Bool := match x with
  | .non => some false
  | .ins c _ => if (T.sub c c).isSome then some false else none
  | x => match dTy x with
    | some u => some (decide (u = t) || (decide (u = .bool) && decide (t = .int)))
    | none => none
def visCls (T : Tx) (c : Nat) (x : D) : Option Bool := match x with
  | .ins d _ => T.sub d c
  | .fn _ => none
  | _ => some false
def vaD : Va → Option D
  | .non => some .non
  | .bl b => some (.bl b)
  | .int i => some (.int i)
  | .str x => some (.str x)
  | .fn f => some (.fn f)
  | _ => none
def oksO (o : Option Ow) (s : VEnv) : VRes Ow := match o with
  | some x => .ok x s
  | none => .bad
def oksB (o : Option Bool) (s : VEnv) : VRes Ow := match o with
  | some x => .ok (.sh (.bl x)) s
  | none => .bad
/-! ### targets -/
mutual
def asgV : Tg → D → VEnv → Option VEnv
  | .nm i, v, r => some (r.set i (some (.sh v)))
  | .tup ts, v, r => match dT v with
    | some xs => asgVs ts xs r
    | none => none
  | .nil, _, _ => none
  | .cons _ _, _, _ => none
def asgVs : Tg → List D → VEnv → Option VEnv
  | .nil, [], r => some r
  | .cons t ts, x :: xs, r => match asgV t x r with
    | some r' => asgVs ts xs r'
    | none => none
  | _, _, _ => none
end
def asgO (t : Tg) (o : Ow) (r : VEnv) : Option VEnv := match t with
  | .nm i => some (r.set i (some o))
  | t => asgV t (frz o) r
def wipeV (r : VEnv) : List Nat → VEnv
  | [] => r
  | v :: vs => (wipeV r vs).set v none
/-- the slots of own as they were -/
def backV (r0 : VEnv) (r : VEnv) : List Nat → VEnv
  | [] => r
  | v :: vs => (backV r0 r vs).set v (slotO r0 v)
def frzS (s : VEnv) : List Nat → VEnv
  | [] => s
  | i :: is => match slotO s i with
    | some o => (frzS s is).set i (some (.sh (frz o)))
    | none => frzS s is
/-- a walk over an owned slot -/
def srcOwned (it : E) (s : VEnv) : Bool := match it with
  | .seq a => owned a s
  | .enum a => owned a s
  | .zip a b => owned a s || owned b s
  | _ => false
def enumD (xs : List D) : List D := (List.range xs.length).zipWith (fun i x => .tup [.int (i : Nat), x]) xs
def zipD (xs ys : List D) : List D := xs.zipWith (fun x y => .tup [x, y]) ys
def compV (t : Tg) (own : List Nat) (c : VEnv → VRes Bool) (e : VEnv → VRes D) : List D → List D → VEnv → VRes (List D)
  | [], acc, s => .ok acc s
  | x :: xs, acc, s => match asgV t x (wipeV s own) with
    | none => .bad
    | some s1 => match c s1 with
      | .ok true s2 => (match e s2 with
        | .ok y s3 => if acc.length < line then compV t own c e xs (acc ++ [y]) s3 else .bad
        | _ => .bad)
      | .ok false s2 => compV t own c e xs acc s2
      | _ => .bad
inductive VFl where
  | nx (s : VEnv) | rt (o : Ow) (s : VEnv) | bk (s : VEnv) | ct (s : VEnv) | exc (c : Nat) (s : VEnv) | bad
  deriving Inhabited
def forV (t : Tg) (b : VEnv → VFl) : List D → VEnv → VFl
  | [], s => .nx s
  | x :: xs, s => match asgV t x s with
    | none => .bad
    | some s1 => match b s1 with
      | .nx s2 => forV t b xs s2
      | .ct s2 => forV t b xs s2
      | .bk s2 => .nx s2
      | f => f
def whileV (c : VEnv → VRes Bool) (b : VEnv → VFl) : Nat → VEnv → VFl
  | 0, _ => .bad
  | n + 1, s => match c s with
    | .ok true s1 => (match b s1 with
      | .nx s2 => whileV c b n s2
      | .ct s2 => whileV c b n s2
      | .bk s2 => .nx s2
      | f => f)
    | .ok false s1 => .nx s1
    | .exc c s1 => .exc c s1
    | .bad => .bad
def asB (r : VRes Ow) : VRes Bool := r.bind fun o s => match o with
  | .sh (.bl b) => .ok b s
  | _ => .bad
def asD (r : VRes Ow) : VRes D := r.bind fun o s => .ok (frz o) s
def vprt (n : Bool) (r : VEnv → VRes D) (s : VEnv) : VRes (Option Int) := match n with
  | true => .ok none s
  | false => (r s).bind fun d s1 => match d with
    | .int i => .ok (some i) s1
    | _ => .bad
end Vl
end

section
set_option linter.all false
/-! Vl1: the evaluator by values. -/
namespace Vl
open PySem Ev
section
variable (T : Tx)
/-- a target's slots are among these -/
def tgIn (own : List Nat) : Tg → Bool
  | .nm i => own.contains i
  | .nil => true
  | .cons a b => tgIn own a && tgIn own b
  | .tup t => tgIn own t
/-- the tree at a path -/
def readP (s : VEnv) (q : Nat × List Nat) : Option Ow := (slotO s q.1).bind fun o => getP T.fl o q.2
def writeP (s : VEnv) (q : Nat × List Nat) (x : Ow) : Option VEnv := (slotO s q.1).bind fun o => (putP T.fl x o q.2).map fun o' => s.set q.1 (some o')
/-- a field of a tree -/
def fldD (d : D) (f : Nat) : Option D := match d with
  | .ins c fs => if T.fl c f then dfld f fs else none
  | _ => none
/-- borrowed: read, its slot as it was (a list of owned things: frozen first) -/
def bor (a : E) (ve : VEnv → VRes Ow) (s : VEnv) : VRes D := match pathOf a with
  | some q => (match readP T s q with
    | some o => .ok (frz o) (if isLso o then frzS s [q.1] else s)
    | none => asD (ve s))
  | none => asD (ve s)
def lsoAt (a : E) (s : VEnv) : Bool := match (pathOf a).bind fun q => readP T s q with
  | some o => isLso o
  | none => false
/-- borrowed for a call: its slot as it was, in any case -/
def borN (a : E) (ve : VEnv → VRes Ow) (s : VEnv) : VRes D := match pathOf a with
  | some q => (match readP T s q with
    | some o => .ok (frz o) s
    | none => asD (ve s))
  | none => asD (ve s)
/-- borrowed to be compared: its slot as it was, in any case -/
def borQ (b : Bool) (a : E) (ve : VEnv → VRes Ow) (s : VEnv) : VRes D := if b && lsoAt T a s then (match (pathOf a).bind fun q => readP T s q with
  | some o => .ok (frz o) s
  | none => .bad) else bor T a ve s
def eqC : Cop → Bool
  | .eq | .ne => true
  | _ => false
/-- the borrowed may be stale -/
def stale (a b : E) (s : VEnv) : Bool := !quiet b && owned a s
/-- a slot that the next part may change is frozen first -/
def calm (a b : E) (s : VEnv) : VEnv := if stale a b s then (match pathOf a with | some q => frzS s [q.1] | none => s) else s
/-- the slots that a call borrows -/
def brw : E → List Nat
  | .cons a b => (match pathOf a with
    | some q => q.1 :: brw b
    | none => brw b)
  | _ => []
/-- what a method's call borrows beside its instance: scalars alone may come of that -/
def mB (as : E) (i : Nat) : List Nat := if (brw as).contains i then [] else brw as
def behind (o : Ow) (B : List Nat) (s : VEnv) : VEnv := if noal o then s else frzS s B
def insO (o : Ow) (q : Nat × List Nat) : Option ((Nat × List Nat) × Nat × Ow) := match o with
  | .ins c fs => some (q, c, fs)
  | _ => none
def lstO (o : Ow) (q : Nat × List Nat) : Option (Nat × List Nat) := match o with
  | .lst _ => some q
  | _ => none
variable (cl : Nat → List Ow → CRes)
/-- a call of shared trees alone -/
def call0 (f : Nat) (xs : List D) (B : List Nat) (s1 : VEnv) : VRes Ow := match cl f (xs.map .sh) with
  | .ok o _ => .ok o (behind o B s1)
  | .exc c _ => .exc c s1
  | .bad => .bad
/-- .. ahead of them an own instance -/
def call1 (f : Nat) (me : Ow) (xs : List D) (k : Ow → Ow → VRes Ow) (x : Nat → Ow → VRes Ow) : VRes Ow := match cl f (me :: xs.map .sh) with
  | .ok o (some me2) => k o me2
  | .exc c (some me2) => x c me2
  | _ => .bad
/-- a walk over a field of slot 0 -/
def root0 : E → Bool
  | .seq a => (match pathOf a with | some (0, _ :: _) => true | _ => false)
  | .enum a => (match pathOf a with | some (0, _ :: _) => true | _ => false)
  | .zip a b => (match pathOf a with | some (0, _ :: _) => true | _ => false) || (match pathOf b with | some (0, _ :: _) => true | _ => false)
  | _ => false
def loops0 : Sm → Bool
  | .seq a b => loops0 a || loops0 b
  | .ite _ a b => loops0 a || loops0 b
  | .for_ _ it b => root0 it || loops0 b
  | .while_ _ b => loops0 b
  | _ => false
/-- a method that walks over its own field: called with its instance borrowed -/
def viaB (f : Nat) : Bool := match T.fn f with
  | some (_, _, b) => loops0 b
  | none => false
mutual
def vE : E → VEnv → VRes Ow
  | .var i, s => (match slotO s i with
    | some (.sh d) => .ok (.sh d) s
    | some o => .ok (.sh (frz o)) (s.set i (some (.sh (frz o))))
    | none => .bad)
  | .con v, s => (match vaD v with
    | some d => .ok (.sh d) s
    | none => .bad)
  | .bin o a b, s => if stale a b (calm a b s) then .bad else (bor T a (vE a) (calm a b s)).bind fun x s1 => (bor T b (vE b) s1).bind fun y s2 => oksO (vbop o x y) s2
  | .neg a, s => (bor T a (vE a) s).bind fun x s1 => (match x with
    | .int i => .ok (.sh (.int (-i))) s1
    | _ => .bad)
  | .not a, s => (asB (vE a s)).bind fun b s1 => .ok (.sh (.bl !b)) s1
  | .and a b, s => (asB (vE a s)).bind fun x s1 => (match x with
    | true => vE b s1
    | false => .ok (.sh (.bl false)) s1)
  | .or a b, s => (asB (vE a s)).bind fun x s1 => (match x with
    | true => .ok (.sh (.bl true)) s1
    | false => vE b s1)
  | .ite c a b, s => (asB (vE c s)).bind fun x s1 => (match x with
    | true => vE a s1
    | false => vE b s1)
  | .cmp o a b, s => if stale a b s then .bad else (borQ T (eqC o) a (vE a) s).bind fun x s1 => (bor T b (vE b) s1).bind fun y s2 => oksB (vcop o x y) s2
  | .chain o p a b c, s => if stale a b s then .bad else (bor T a (vE a) s).bind fun x s1 => if stale b c s1 then .bad else (bor T b (vE b) s1).bind fun y s2 => (match vcop o x y with
    | some true => (bor T c (vE c) s2).bind fun z s3 => oksB (vcop p y z) s3
    | some false => .ok (.sh (.bl false)) s2
    | none => .bad)
  | .isC v n a, s => (bor T a (vE a) s).bind fun x s1 => oksB (visC v n x) s1
  | .inStrs a xs, s => (bor T a (vE a) s).bind fun x s1 => if dFlat x then .ok (.sh (.bl (xs.any fun z => dEqF (.str z) x))) s1 else .bad
  | .lst as, s => (vA as s).bind fun xs s1 => if xs.length ≤ line then .ok (.lst xs) s1 else .bad
  | .tup as, s => (vA as s).bind fun xs s1 => if xs.length ≤ line then .ok (.sh (.tup xs)) s1 else .bad
  | .dnew, s => .ok (.dct []) s
  | .idx a b, s => if stale a b s then .bad else (bor T a (vE a) s).bind fun x s1 => (bor T b (vE b) s1).bind fun y s2 => (match vidx x y with
    | some d => .ok (.sh d) s2
    | none => .bad)
  | .sl a lo hi, s => if stale a lo s || stale a hi s then .bad else (bor T a (vE a) s).bind fun x s1 => (vprt (isNil lo) (fun s => asD (vE lo s)) s1).bind fun l s2 => (vprt (isNil hi) (fun s => asD (vE hi s)) s2).bind fun h s3 => (match dL x with
    | some xs => .ok (.lst (cut xs l h)) s3
    | none => .bad)
  | .rev a, s => (bor T a (vE a) s).bind fun x s1 => (match dL x with
    | some xs => .ok (.lst xs.reverse) s1
    | none => .bad)
  | .sls a lo st, s => if stale a lo s || stale a st s then .bad else (bor T a (vE a) s).bind fun x s1 => (vprt false (fun s => asD (vE lo s)) s1).bind fun l s2 => (vprt false (fun s => asD (vE st s)) s2).bind fun h s3 => (match dL x, l, h with
    | some xs, some l, some k => if k ≠ 0 then .ok (.lst (pick xs l k)) s3 else .bad
    | _, _, _ => .bad)
  | .fld a f, s => (match (pathOf (.fld a f)).bind fun q => (readP T s q).map fun o => (q, o) with
    | some (q, .sh d) => .ok (.sh d) s
    | some (q, o) => (match writeP T s q (.sh (frz o)) with
        | some s1 => .ok (.sh (frz o)) s1
        | none => .bad)
    | none => (asD (vE a s)).bind fun x s1 => (match fldD T x f with
      | some d => .ok (.sh d) s1
      | none => .bad))
  | .call f as, s => (vC as s).bind fun xs s1 => call0 cl f xs (brw as) s1
  | .callv i as, s => (match slotO s i with
    | some (.sh (.fn f)) => if f < T.nd then (vC as s).bind fun xs s1 => call0 cl f xs (brw as) s1 else .bad
    | _ => .bad)
  | .make c as, s => (match T.ini c with
    | some (some f) => (vC as s).bind fun xs s1 => call1 cl f (.ins c .nil) xs (fun o me => match o with
      | .sh .non => .ok me (behind me (brw as) s1)
      | _ => .bad) fun c me => .exc c s1
    | some none => (match as with
      | .nil => .ok (.ins c .nil) s
      | _ => .bad)
    | none => .bad)
  | .meth a m as, s => (match (pathOf a).bind fun q => (readP T s q).bind fun o => insO o q with
    | some (q, c, fs) => if !quiet as then .bad else (match T.mth c m, lookO m fs with
        | some f, none => if viaB T f then (borN T a (vE a) s).bind fun r s0 => (vC as s0).bind fun xs s1 => call0 cl f (r :: xs) (brw (.cons a as)) s1 else (vC as s).bind fun xs s1 => if (brw as).contains q.1 && !xs.all sca then .bad else (match readP T s1 q with
          | some (.ins c' fs') => call1 cl f (.ins c' fs') xs (fun o me2 => match writeP T s1 q me2 with
              | some s2 => .ok o (if noal o && noal me2 then s2 else frzS s2 (mB as q.1))
              | none => .bad) fun x me2 => match writeP T s1 q me2 with
              | some s2 => .exc x (if noal me2 then s2 else frzS s2 (mB as q.1))
              | none => .bad
          | _ => .bad)
        | _, _ => .bad)
    | none => if stale a as s then .bad else (bor T a (vE a) s).bind fun r s0 => (match r with
      | .ins c fs => (match T.mth c m, dfld m fs with
        | some f, none => (vC as s0).bind fun xs s1 => call0 cl f (.ins c fs :: xs) (brw (.cons a as)) s1
        | _, _ => .bad)
      | _ => .bad))
  | .lm m a as, s => (match (pathOf a).bind fun q => (readP T s q).bind fun o => lstO o q with
    | some q => if !q.2.isEmpty && !quiet as then .bad else (vA as s).bind fun xs s1 => (match readP T s1 q with
      | some (.lst ys) => (match vlm m ys xs with
        | some (d, zs) => (match writeP T s1 q (.lst zs) with
          | some s2 => .ok (.sh d) s2
          | none => .bad)
        | none => .bad)
      | _ => .bad)
    | none => .bad)
  | .bi b as, s => (vB as s).bind fun xs s1 => oksO (vbi b xs) s1
  | .isTy t a, s => (bor T a (vE a) s).bind fun x s1 => oksB (visTy T t x) s1
  | .isCls c a, s => (bor T a (vE a) s).bind fun x s1 => oksB (visCls T c x) s1
  | .comp own t it c e, s => (vI it s).bind fun p s1 => if (p.2 && !(quiet c && quiet e)) || !tgIn own t then .bad else
    (compV t own (fun s => asB (vE c s)) (fun s => asD (vE e s)) p.1 [] s1).bind fun ys s2 => .ok (.lst ys) (backV s1 s2 own)
  | _, _ => .bad
/-- taken, frozen -/
def vA : E → VEnv → VRes (List D)
  | .nil, s => .ok [] s
  | .cons a b, s => (vE a s).bind fun x s1 => (vA b s1).bind fun xs s2 => .ok (frz x :: xs) s2
  | _, _ => .bad
/-- borrowed -/
def vC : E → VEnv → VRes (List D)
  | .nil, s => .ok [] s
  | .cons a b, s => if stale a b s then .bad else (borN T a (vE a) s).bind fun x s1 => (vC b s1).bind fun xs s2 => .ok (x :: xs) s2
  | _, _ => .bad
/-- .. for a builtin -/
def vB : E → VEnv → VRes (List D)
  | .nil, s => .ok [] s
  | .cons a b, s => if stale a b s then .bad else (bor T a (vE a) s).bind fun x s1 => (vB b s1).bind fun xs s2 => .ok (x :: xs) s2
  | _, _ => .bad
/-- what is walked, borrowed; whether its place may be owned -/
def vI : E → VEnv → VRes (List D × Bool)
  | .seq a, s => (bor T a (vE a) s).bind fun x s1 => (match x with
    | .lst xs => .ok (xs, owned a s) s1
    | .tup xs => .ok (xs, false) s1
    | _ => .bad)
  | .rng1 a, s => (asD (vE a s)).bind fun x s1 => (match x with
    | .int j => if -(2 ^ 62) ≤ j ∧ j < 2 ^ 62 then .ok (ranI 0 1 j.toNat, false) s1 else .bad
    | _ => .bad)
  | .rng2 a b, s => (asD (vE a s)).bind fun x s1 => (asD (vE b s1)).bind fun y s2 => (match x, y with
    | .int i, .int j => if -(2 ^ 62) ≤ i ∧ i < 2 ^ 62 ∧ -(2 ^ 62) ≤ j ∧ j < 2 ^ 62 then .ok (ranI i 1 (j - i).toNat, false) s2 else .bad
    | _, _ => .bad)
  | .rng3 a b c, s => (asD (vE a s)).bind fun x s1 => (asD (vE b s1)).bind fun y s2 => (asD (vE c s2)).bind fun z s3 => (match x, y, z with
    | .int i, .int j, .int k => if 0 ≤ i ∧ i < 2 ^ 30 ∧ 0 ≤ j ∧ j < 2 ^ 30 ∧ 0 < k ∧ k < 2 ^ 30 then .ok (ranI i k ((j - i + k - 1) / k).toNat, false) s3 else .bad
    | _, _, _ => .bad)
  | .enum a, s => (bor T a (vE a) s).bind fun x s1 => (match x with
    | .lst xs => .ok (enumD xs, owned a s) s1
    | _ => .bad)
  | .zip a b, s => if stale a b s then .bad else (bor T a (vE a) s).bind fun x s1 => (bor T b (vE b) s1).bind fun y s2 => (match x, y with
    | .lst xs, .lst ys => .ok (zipD xs ys, owned a s || owned b s1) s2
    | _, _ => .bad)
  | _, _ => .bad
end
end
end Vl
end

section
set_option linter.all false
/-! Vl2: statements and calls by values. -/
namespace Vl
open PySem Ev
section
variable (T : Tx) (cl : Nat → List Ow → CRes)
def vth {α : Type} (x : VRes α) (k : α → VEnv → VFl) : VFl := match x with
  | .ok a s => k a s
  | .exc c s => .exc c s
  | .bad => .bad
/-- a list's parts, one of which makes a list or an instance -/
def dpl : E → Bool
  | .cons a b => (match a with
    | .comp _ _ _ _ _ => true
    | .bi .list _ => true
    | .make _ _ => true
    | _ => false) || dpl b
  | _ => false
def dplE : E → Bool
  | .lst es => dpl es
  | _ => false
def chO : List Ow → Ow
  | [] => .nil
  | o :: r => .cons 0 o (chO r)
def lsoR (x : VRes (List Ow)) : VRes Ow := x.bind fun os s1 => if os.length ≤ line then .ok (.lso (chO os)) s1 else .bad
/-- several, each as it is -/
def vO : E → VEnv → VRes (List Ow)
  | .nil, s => .ok [] s
  | .cons (.lst es) b, s => (if dpl es then lsoR (vO es s) else vE T cl (.lst es) s).bind fun x s1 => (vO b s1).bind fun xs s2 => .ok (x :: xs) s2
  | .cons a b, s => (vE T cl a s).bind fun x s1 => (vO b s1).bind fun xs s2 => .ok (x :: xs) s2
  | _, _ => .bad
/-- an expression of a store -/
def vX (e : E) (s : VEnv) : VRes Ow := match e with
  | .lst es => if dpl es then lsoR (vO T cl es s) else vE T cl (.lst es) s
  | e => vE T cl e s
def setV : List Nat → List Ow → VEnv → Option VEnv
  | [], [], s => some s
  | i :: is, v :: vs, s => setV is vs (s.set i (some v))
  | _, _, _ => none
def onx (o : Option VEnv) : VFl := match o with
  | some s => .nx s
  | none => .bad
/-- the walked slots are frozen (a for's body may change them) -/
def frzI (it : E) (s : VEnv) : VEnv := match it with
  | .seq a => (match pathOf a with | some q => frzS s [q.1] | none => s)
  | .enum a => (match pathOf a with | some q => frzS s [q.1] | none => s)
  | .zip a b => (match pathOf a, pathOf b with | some q, some r => frzS s [q.1, r.1] | some q, none => frzS s [q.1] | none, some q => frzS s [q.1] | none, none => s)
  | _ => s
def nmsT : Tg → Option (List Nat)
  | .nil => some []
  | .cons (.nm i) ts => (nmsT ts).map (i :: ·)
  | _ => none
/-- names, several parts: each as it is -/
def upk (t : Tg) (e : E) : Option (List Nat × E) := match t, e with
  | .tup ts, .tup es => (nmsT ts).map fun is => (is, es)
  | _, _ => none
def unch : Ow → List Ow
  | .cons _ o fs => o :: unch fs
  | _ => []
/-- each thing is lent to slot j; e may change it -/
def lendV (j : Nat) (ve : VEnv → VRes Ow) : List Ow → List Ow → VEnv → Option (List Ow × VEnv)
  | [], done, s => some (done, s)
  | o :: os, done, s => match ve (s.set j (some o)) with
    | .ok _ s1 => (match slotO s1 j with
      | some o' => lendV j ve os (done ++ [o']) (s1.set j none)
      | none => none)
    | _ => none
/-- the pattern of such a walk -/
def lendP (t : Tg) (it : E) (b : Sm) (s : VEnv) : Option (Nat × Nat × E × Ow) := match t, it, b with
  | .nm j, .seq (.var i), .seq (.ex e) .skip => if i = j then none else (match slotO s i with
    | some (.lso fs) => some (i, j, e, fs)
    | _ => none)
  | _, _, _ => none
def lendS (i j : Nat) (ve : VEnv → VRes Ow) (fs : Ow) (s : VEnv) : VFl := if j < s.length then (match lendV j ve (unch fs) [] ((s.set i none).set j none) with
  | some (done, s1) => .nx (s1.set i (some (.lso (chO done))))
  | none => .bad) else .bad
/-- rows of scalars -/
def rowsOf : List D → Option (List (List D))
  | [] => some []
  | .lst xs :: r => if xs.all sca then (rowsOf r).map (xs :: ·) else none
  | _ => none
def seqD : D → Option (List D)
  | .lst xs => some xs
  | .tup xs => some xs
  | _ => none
/-- x = [list(row) for row in rows] -/
def freshP (t : Tg) (e : E) : Option (Nat × Nat × E) := match t, e with
  | .nm i, .comp [j] (.nm j') (.seq a) (.con (.bl true)) (.bi .list (.cons (.var k) .nil)) => if j = j' ∧ j = k then some (i, j, a) else none
  | _, _ => none
/-- .. of shared rows of scalars: a list of owned lists -/
def freshV (t : Tg) (e : E) (s : VEnv) : Option (Nat × List (List D)) := match freshP t e with
  | some p => if p.2.1 < s.length then (match (pathOf p.2.2).bind fun q => readP T s q with
    | some (.sh d) => (match (seqD d).bind rowsOf with
      | some xss => if xss.length ≤ line then some (p.1, xss) else none
      | none => none)
    | _ => none) else none
  | none => none
def vS : Sm → VEnv → VFl
  | .skip, s => .nx s
  | .seq a b, s => (match vS a s with
    | .nx s1 => vS b s1
    | f => f)
  | .asg t e, s => (match upk t e with
    | some p => vth (vO T cl p.2 s) fun os s1 => if os.length ≤ line then onx (setV p.1 os s1) else .bad
    | none => (match freshV T t e s with
      | some p => .nx (s.set p.1 (some (.lso (chO (p.2.map .lst)))))
      | none => vth (vX T cl e s) fun o s1 => onx (asgO t o s1)))
  | .par is as, s => vth (vO T cl as s) fun vs s1 => onx (setV is vs s1)
  | .ex e, s => vth (vE T cl e s) fun _ s1 => .nx s1
  | .ret e, s => (match e with
    | .var i => (match slotO s i with
      | some (.sh d) => .rt (.sh d) s
      | some o => .rt o (s.set i none)
      | none => .bad)
    | e => vth (vE T cl e s) fun v s1 => .rt v s1)
  | .ite c a b, s => vth (asB (vE T cl c s)) fun x s1 => (match x with
    | true => vS a s1
    | false => vS b s1)
  | .for_ t it b, s => (match lendP t it b s with
    | some p => lendS p.1 p.2.1 (vE T cl p.2.2.1) p.2.2.2 s
    | none => vth (vI T cl it (frzI it s)) fun p s1 => if p.2 then .bad else forV t (vS b) p.1 s1)
  | .while_ c b, s => whileV (fun s => asB (vE T cl c s)) (vS b) wfuel s
  | .setf o f e, s => vth (vE T cl e s) fun v s1 => (match pathOf o with
    | some q => (match readP T s1 q with
      | some (.ins c fs) => if T.fl c f ∧ lenO fs < 900 then onx (writeP T s1 q (.ins c (putO f v fs))) else .bad
      | _ => .bad)
    | none => .bad)
  | .augf o f k, s => (match pathOf o with
    | some q => (match readP T s q with
      | some (.ins c fs) => (match lookO f fs with
        | some (.sh (.int i)) => if T.fl c f ∧ lenO fs < 900 then onx (writeP T s q (.ins c (putO f (.sh (.int (i + k))) fs))) else .bad
        | _ => .bad)
      | _ => .bad)
    | none => .bad)
  | .seti o i e, s => if !quiet i then .bad else vth (vE T cl e s) fun v s1 => (match (pathOf o).bind fun q => (readP T s1 q).map fun _ => q with
    | some q => vth (bor T i (vE T cl i) s1) fun y s2 => (match y, readP T s2 q with
      | .int k, some (.lst xs) => (match ixN xs.length k with
        | some j => onx (writeP T s2 q (.lst (xs.set j (frz v))))
        | none => .bad)
      | .int k, some (.dct kvs) => if kvs.length < line then onx (writeP T s2 q (.dct (dput k (frz v) kvs))) else .bad
      | _, _ => .bad)
    | none => .bad)
  | .raise c, s => .exc c s
  | .tryA _ _ _ _ _ _, _ => .bad
end
def vstart (n : Nat) (vs : List Ow) : VEnv := vs.map some ++ List.replicate (n - vs.length) none
/-- slot 0 is never stored -/
def tgK : Tg → Bool
  | .nm i => decide (i ≠ 0)
  | .nil => true
  | .cons a b => tgK a && tgK b
  | .tup t => tgK t
def keeps0 : Sm → Bool
  | .seq a b => keeps0 a && keeps0 b
  | .asg t _ => tgK t
  | .par is _ => is.all fun i => decide (i ≠ 0)
  | .ite _ a b => keeps0 a && keeps0 b
  | .for_ t _ b => tgK t && keeps0 b
  | .while_ _ b => keeps0 b
  | .tryA _ _ _ x k _ => decide (x ≠ 0) && decide (k ≠ 0)
  | _ => true
def selfOf (b : Sm) (s : VEnv) : Option Ow := if keeps0 b then slotO s 0 else none
def vrun (T : Tx) (ov : Nat → Nat → Option (List Ow → CRes)) : Nat → Nat → List Ow → CRes
  | 0, _, _ => .bad
  | d + 1, f, as => match ov d f with
    | some g => g as
    | none => (match T.fn f with
      | none => .bad
      | some (np, n, b) => if as.length = np then (match vS T (vrun T ov d) b (vstart n as) with
        | .nx s => .ok (.sh .non) (selfOf b s)
        | .rt o s => .ok o (selfOf b s)
        | .exc c s => .exc c (selfOf b s)
        | _ => .bad) else .bad)
end Vl
end

section
set_option linter.all false
/-! Vr0: trees and owned things in a store. -/
namespace Vl
open PySem Ev
abbrev Set' := Nat → Prop
mutual
inductive Sh (S : Sto) (U : Set') : Va → D → Prop where
  | non : Sh S U .non .non
  | bl {b : Bool} : Sh S U (.bl b) (.bl b)
  | int {i : Int} : Sh S U (.int i) (.int i)
  | str {x : Str} : Sh S U (.str x) (.str x)
  | fn {f : Nat} : Sh S U (.fn f) (.fn f)
  | scr {ns : List Int} : Sh S U (.scr ns) (.scr ns)
  | lst {l : Nat} {ys : List Va} {xs : List D} : S[l]? = some (.lst ys) → ¬ U l → ShL S U ys xs → Sh S U (.loc l) (.lst xs)
  | tup {l : Nat} {ys : List Va} {xs : List D} : S[l]? = some (.tup ys) → ¬ U l → ShL S U ys xs → Sh S U (.loc l) (.tup xs)
  | dct {l : Nat} {ys : List (Int × Va)} {xs : List (Int × D)} : S[l]? = some (.dct ys) → ¬ U l → ShK S U ys xs → Sh S U (.loc l) (.dct xs)
  | ins {l c dx : Nat} {ys : List (Nat × Va)} {xs : List (Nat × D)} : S[l]? = some (.ins c dx ys) → ¬ U l → ShF S U ys xs → Sh S U (.loc l) (.ins c xs)
inductive ShL (S : Sto) (U : Set') : List Va → List D → Prop where
  | nil : ShL S U [] []
  | cons {v : Va} {d : D} {vs : List Va} {ds : List D} : Sh S U v d → ShL S U vs ds → ShL S U (v :: vs) (d :: ds)
inductive ShK (S : Sto) (U : Set') : List (Int × Va) → List (Int × D) → Prop where
  | nil : ShK S U [] []
  | cons {k : Int} {v : Va} {d : D} {vs : List (Int × Va)} {ds : List (Int × D)} : Sh S U v d → ShK S U vs ds → ShK S U ((k, v) :: vs) ((k, d) :: ds)
inductive ShF (S : Sto) (U : Set') : List (Nat × Va) → List (Nat × D) → Prop where
  | nil : ShF S U [] []
  | cons {k : Nat} {v : Va} {d : D} {vs : List (Nat × Va)} {ds : List (Nat × D)} : Sh S U v d → ShF S U vs ds → ShF S U ((k, v) :: vs) ((k, d) :: ds)
end
mutual
/-- an owned thing and its places -/
inductive RepO (S : Sto) (U : Set') : Va → Ow → List Nat → Prop where
  | sh {v : Va} {d : D} : Sh S U v d → RepO S U v (.sh d) []
  | lst {l : Nat} {ys : List Va} {xs : List D} : S[l]? = some (.lst ys) → ShL S U ys xs → RepO S U (.loc l) (.lst xs) [l]
  | dct {l : Nat} {ys : List (Int × Va)} {xs : List (Int × D)} : S[l]? = some (.dct ys) → ShK S U ys xs → RepO S U (.loc l) (.dct xs) [l]
  | ins {l c dx : Nat} {ys : List (Nat × Va)} {fs : Ow} {F : List Nat} : S[l]? = some (.ins c dx ys) → RepG S U ys fs F → RepO S U (.loc l) (.ins c fs) (l :: F)
  | lso {l : Nat} {ys : List Va} {fs : Ow} {F : List Nat} : S[l]? = some (.lst ys) → RepG S U (ys.map fun v => (0, v)) fs F → RepO S U (.loc l) (.lso fs) (l :: F)
inductive RepG (S : Sto) (U : Set') : List (Nat × Va) → Ow → List Nat → Prop where
  | nil : RepG S U [] .nil []
  | cons {f : Nat} {v : Va} {o fs : Ow} {vs : List (Nat × Va)} {F1 F2 : List Nat} : RepO S U v o F1 → RepG S U vs fs F2 → RepG S U ((f, v) :: vs) (.cons f o fs) (F1 ++ F2)
end
theorem Sh.plain {S : Sto} {U : Set'} {v : Va} {d : D} (h : Sh S U v d) : Ev.plain v = true := by cases h <;> rfl
theorem RepO.plain {S : Sto} {U : Set'} {v : Va} {o : Ow} {F : List Nat} (h : RepO S U v o F) : Ev.plain v = true := by
  cases h with
  | sh h => exact h.plain
  | _ => rfl
/-- old places but W stand -/
structure Fr (S S' : Sto) (W : Set') : Prop where
  len : S.length ≤ S'.length
  keep : ∀ l, l < S.length → ¬ W l → S'[l]? = S[l]?
theorem Fr.refl {S : Sto} {W : Set'} : Fr S S W := ⟨Nat.le_refl _, fun _ _ _ => rfl⟩
theorem Fr.trans {S S1 S2 : Sto} {W W1 : Set'} (a : Fr S S1 W) (b : Fr S1 S2 W1) (h : ∀ l, l < S.length → W1 l → W l) : Fr S S2 W :=
  ⟨Nat.le_trans a.len b.len, fun l hl hw => by
    rw [b.keep l (Nat.lt_of_lt_of_le hl a.len) (fun q => hw (h l hl q))]
    exact a.keep l hl hw⟩
theorem Fr.mono {S S1 : Sto} {W W1 : Set'} (a : Fr S S1 W) (h : ∀ l, l < S.length → W l → W1 l) : Fr S S1 W1 := ⟨a.len, fun l hl hw => a.keep l hl fun q => hw (h l hl q)⟩
theorem Fr.new {S : Sto} {T : List Ob} {W : Set'} : Fr S (S ++ T) W := ⟨by simp, fun l hl _ => List.getElem?_append_left hl⟩
theorem Fr.set {S : Sto} {m : Nat} {o : Ob} {W : Set'} (h : W m) : Fr S (S.set m o) W := ⟨by simp, fun l hl hw => by
    by_cases e : m = l
    · subst e; exact absurd h hw
    · exact List.getElem?_set_ne e⟩
theorem lt_of_get {S : Sto} {l : Nat} {o : Ob} (h : S[l]? = some o) : l < S.length := (List.getElem?_eq_some_iff.mp h).1
section
variable {S S' : Sto} {U U' : Set'} {W : Set'}
mutual
theorem Sh.move (f : Fr S S' W) (hW : ∀ l, W l → U l) (hU : ∀ l, l < S.length → U' l → U l) : ∀ {v : Va} {d : D}, Sh S U v d → Sh S' U' v d
  | _, _, .non => .non
  | _, _, .bl => .bl
  | _, _, .int => .int
  | _, _, .str => .str
  | _, _, .fn => .fn
  | _, _, .scr => .scr
  | _, _, .lst e n h => .lst ((f.keep _ (lt_of_get e) fun q => n (hW _ q)).trans e) (fun q => n (hU _ (lt_of_get e) q)) (ShL.move f hW hU h)
  | _, _, .tup e n h => .tup ((f.keep _ (lt_of_get e) fun q => n (hW _ q)).trans e) (fun q => n (hU _ (lt_of_get e) q)) (ShL.move f hW hU h)
  | _, _, .dct e n h => .dct ((f.keep _ (lt_of_get e) fun q => n (hW _ q)).trans e) (fun q => n (hU _ (lt_of_get e) q)) (ShK.move f hW hU h)
  | _, _, .ins e n h => .ins ((f.keep _ (lt_of_get e) fun q => n (hW _ q)).trans e) (fun q => n (hU _ (lt_of_get e) q)) (ShF.move f hW hU h)
theorem ShL.move (f : Fr S S' W) (hW : ∀ l, W l → U l) (hU : ∀ l, l < S.length → U' l → U l) : ∀ {v : List Va} {d : List D}, ShL S U v d → ShL S' U' v d
  | _, _, .nil => .nil
  | _, _, .cons h t => .cons (Sh.move f hW hU h) (ShL.move f hW hU t)
theorem ShK.move (f : Fr S S' W) (hW : ∀ l, W l → U l) (hU : ∀ l, l < S.length → U' l → U l) : ∀ {v : List (Int × Va)} {d : List (Int × D)}, ShK S U v d → ShK S' U' v d
  | _, _, .nil => .nil
  | _, _, .cons h t => .cons (Sh.move f hW hU h) (ShK.move f hW hU t)
theorem ShF.move (f : Fr S S' W) (hW : ∀ l, W l → U l) (hU : ∀ l, l < S.length → U' l → U l) : ∀ {v : List (Nat × Va)} {d : List (Nat × D)}, ShF S U v d → ShF S' U' v d
  | _, _, .nil => .nil
  | _, _, .cons h t => .cons (Sh.move f hW hU h) (ShF.move f hW hU t)
end
mutual
theorem RepO.move (f : Fr S S' W) (hW : ∀ l, W l → U l) (hU : ∀ l, l < S.length → U' l → U l) : ∀ {v : Va} {o : Ow} {F : List Nat}, RepO S U v o F → (∀ l ∈ F, ¬ W l) → RepO S' U' v o F
  | _, _, _, .sh h, _ => .sh (Sh.move f hW hU h)
  | _, _, _, .lst e h, n => .lst ((f.keep _ (lt_of_get e) (n _ (by simp))).trans e) (ShL.move f hW hU h)
  | _, _, _, .dct e h, n => .dct ((f.keep _ (lt_of_get e) (n _ (by simp))).trans e) (ShK.move f hW hU h)
  | _, _, _, .ins e h, n => .ins ((f.keep _ (lt_of_get e) (n _ (by simp))).trans e) (RepG.move f hW hU h fun l q => n l (by simp [q]))
  | _, _, _, .lso e h, n => .lso ((f.keep _ (lt_of_get e) (n _ (by simp))).trans e) (RepG.move f hW hU h fun l q => n l (by simp [q]))
theorem RepG.move (f : Fr S S' W) (hW : ∀ l, W l → U l) (hU : ∀ l, l < S.length → U' l → U l) : ∀ {v : List (Nat × Va)} {o : Ow} {F : List Nat}, RepG S U v o F → (∀ l ∈ F, ¬ W l) → RepG S' U' v o F
  | _, _, _, .nil, _ => .nil
  | _, _, _, .cons h t, n => .cons (RepO.move f hW hU h fun l q => n l (by simp [q])) (RepG.move f hW hU t fun l q => n l (by simp [q]))
end
mutual
theorem RepO.lt : ∀ {v : Va} {o : Ow} {F : List Nat}, RepO S U v o F → ∀ l ∈ F, l < S.length
  | _, _, _, .sh h, l, q => by simp at q
  | _, _, _, .lst e h, l, q => by rw [List.mem_singleton.mp q]; exact lt_of_get e
  | _, _, _, .dct e h, l, q => by rw [List.mem_singleton.mp q]; exact lt_of_get e
  | _, _, _, .ins e h, l, q => by
    rcases List.mem_cons.mp q with z | z
    · rw [z]; exact lt_of_get e
    · exact RepG.lt h l z
  | _, _, _, .lso e h, l, q => by
    rcases List.mem_cons.mp q with z | z
    · rw [z]; exact lt_of_get e
    · exact RepG.lt h l z
theorem RepG.lt : ∀ {v : List (Nat × Va)} {o : Ow} {F : List Nat}, RepG S U v o F → ∀ l ∈ F, l < S.length
  | _, _, _, .nil, l, q => by simp at q
  | _, _, _, .cons h t, l, q => by
    rcases List.mem_append.mp q with z | z
    · exact RepO.lt h l z
    · exact RepG.lt t l z
end
theorem frzF_cons (f : Nat) (o fs : Ow) : frzF (.cons f o fs) = (f, frz o) :: frzF fs := by cases o <;> rfl
theorem ShF.vals : ∀ {ys : List Va} {zs : List (Nat × D)}, ShF S U (ys.map fun v => (0, v)) zs → ShL S U ys (zs.map (·.2))
  | [], _, .nil => .nil
  | _ :: _, _, .cons h t => .cons h (ShF.vals t)
mutual
theorem RepO.frz (hU : ∀ l, U' l → U l) : ∀ {v : Va} {o : Ow} {F : List Nat}, RepO S U v o F → (∀ l ∈ F, ¬ U' l) → Sh S U' v (Vl.frz o)
  | _, _, _, .sh h, _ => Sh.move (W := fun _ => False) Fr.refl (fun _ q => q.elim) (fun l _ q => hU l q) h
  | _, _, _, .lst e h, n => .lst e (n _ (by simp)) (ShL.move (W := fun _ => False) Fr.refl (fun _ q => q.elim) (fun l _ q => hU l q) h)
  | _, _, _, .dct e h, n => .dct e (n _ (by simp)) (ShK.move (W := fun _ => False) Fr.refl (fun _ q => q.elim) (fun l _ q => hU l q) h)
  | _, _, _, .ins e h, n => .ins e (n _ (by simp)) (RepG.frz hU h fun l q => n l (by simp [q]))
  | _, _, _, .lso e h, n => .lst e (n _ (by simp)) (ShF.vals (RepG.frz hU h fun l q => n l (by simp [q])))
theorem RepG.frz (hU : ∀ l, U' l → U l) : ∀ {v : List (Nat × Va)} {o : Ow} {F : List Nat}, RepG S U v o F → (∀ l ∈ F, ¬ U' l) → ShF S U' v (frzF o)
  | _, _, _, .nil, _ => .nil
  | _, _, _, .cons (f := f) (o := o) (fs := fs) h t, n => by
    rw [frzF_cons]
    exact .cons (RepO.frz hU h fun l q => n l (by simp [q])) (RepG.frz hU t fun l q => n l (by simp [q]))
end
/-! ### the slots -/
def Own (s : VEnv) (Fs : Nat → List Nat) : Set' := fun l => ∃ i o, slotO s i = some o ∧ l ∈ Fs i
structure Inv (S : Sto) (A : Set') (r : Rho) (s : VEnv) (Fs : Nat → List Nat) : Prop where
  len : r.length = s.length
  rep : ∀ i o, slotO s i = some o → ∃ v, r[i]? = some (some v) ∧ RepO S (fun l => A l ∨ Own s Fs l) v o (Fs i)
  nd : ∀ i o, slotO s i = some o → (Fs i).Nodup
  dj : ∀ i j o o', i ≠ j → slotO s i = some o → slotO s j = some o' → ∀ l ∈ Fs i, l ∉ Fs j
  av : ∀ l, Own s Fs l → ¬ A l
  old : ∀ l, A l → l < S.length
theorem Inv.lt {A : Set'} {r : Rho} {s : VEnv} {Fs : Nat → List Nat} (I : Inv S A r s Fs) {l : Nat} (h : Own s Fs l) : l < S.length := by
  obtain ⟨i, o, e, q⟩ := h
  obtain ⟨v, _, R⟩ := I.rep i o e
  exact R.lt l q
theorem slot_set {s : VEnv} {i j : Nat} {x : Option Ow} : slotO (s.set i x) j = if i = j ∧ i < s.length then x else slotO s j := by
  unfold slotO
  by_cases e : i = j
  · subst e
    by_cases h : i < s.length
    · rw [if_pos ⟨rfl, h⟩, List.getElem?_set_self h]; rfl
    · rw [if_neg (fun z => h z.2), List.getElem?_eq_none (by simp; omega), List.getElem?_eq_none (by omega)]
  · rw [if_neg (fun z => e z.1), List.getElem?_set_ne e]
theorem slot_lt {s : VEnv} {i : Nat} {o : Ow} (h : slotO s i = some o) : i < s.length := by
  unfold slotO at h
  cases e : s[i]? with
  | none => rw [e] at h; cases h
  | some x => exact (List.getElem?_eq_some_iff.mp e).1
/-- the whole moves on: only what stands apart from the slots changed -/
theorem Inv.move {A A' W : Set'} {r : Rho} {s : VEnv} {Fs : Nat → List Nat} (I : Inv S A r s Fs) (f : Fr S S' W) (hW : ∀ l, W l → A l) (hA : ∀ l, l < S.length → A' l → A l) (hO : ∀ l, A' l → l < S'.length) : Inv S' A' r s Fs := by
  refine ⟨I.len, fun i o e => ?_, I.nd, I.dj, fun l h q => I.av l h (hA l (I.lt h) q), hO⟩
  obtain ⟨v, e1, R⟩ := I.rep i o e
  refine ⟨v, e1, R.move f (fun l q => .inl (hW l q)) (fun l hl q => ?_) fun l q z => I.av l ⟨i, o, e, q⟩ (hW l z)⟩
  rcases q with q | q
  · exact .inl (hA l hl q)
  · exact .inr q
end
end Vl
end

section
set_option linter.all false
/-! Vr1: slots stored, paths. -/
namespace Vl
open PySem Ev
section
variable {S S' : Sto} {A A' W : Set'} {r : Rho} {s : VEnv} {Fs : Nat → List Nat}
def upF (Fs : Nat → List Nat) (i : Nat) (F : List Nat) : Nat → List Nat := fun j => if j = i then F else Fs j
theorem upF_same {Fs : Nat → List Nat} {i : Nat} {F : List Nat} : upF Fs i F i = F := if_pos rfl
theorem upF_ne {Fs : Nat → List Nat} {i j : Nat} {F : List Nat} (h : j ≠ i) : upF Fs i F j = Fs j := if_neg h
def HasF (s : VEnv) (Fs : Nat → List Nat) (i : Nat) : Set' := fun l => (slotO s i).isSome = true ∧ l ∈ Fs i
/-- a slot is stored -/
theorem Inv.put {i : Nat} {v : Va} {o : Ow} {F : List Nat} (I : Inv S A r s Fs) (hi : i < s.length) (f : Fr S S' W) (hW : ∀ l, W l → A l ∨ HasF s Fs i l) (hA : ∀ l, l < S.length → A' l → A l ∨ HasF s Fs i l)
    (hF : ∀ l ∈ F, l < S.length → A l ∨ HasF s Fs i l) (R : RepO S' (fun l => A' l ∨ Own (s.set i (some o)) (upF Fs i F) l) v o F) (nd : F.Nodup) (hav : ∀ l ∈ F, ¬ A' l) (hO : ∀ l, A' l → l < S'.length) : Inv S' A' (r.set i (some v)) (s.set i (some o)) (upF Fs i F) := by
  have hr : i < r.length := by rw [I.len]; exact hi
  have ot : ∀ j o', j ≠ i → slotO s j = some o' → ∀ l ∈ Fs j, ¬ A l ∧ ¬ HasF s Fs i l := fun j o' ne e l q => by
    refine ⟨I.av l ⟨j, o', e, q⟩, fun z => ?_⟩
    obtain ⟨z1, z2⟩ := z
    cases e0 : slotO s i with
    | none => rw [e0] at z1; cases z1
    | some o0 => exact I.dj j i o' o0 ne e e0 l q z2
  have sl : ∀ j o', slotO (s.set i (some o)) j = some o' → (j = i ∧ o' = o) ∨ (j ≠ i ∧ slotO s j = some o') := fun j o' e => by
    rw [slot_set] at e
    by_cases q : i = j
    · rw [if_pos ⟨q, hi⟩] at e
      exact .inl ⟨q.symm, (Option.some.inj e).symm⟩
    · rw [if_neg (fun z => q z.1)] at e
      exact .inr ⟨fun z => q z.symm, e⟩
  have wU : ∀ l, W l → A l ∨ Own s Fs l := fun l q => by
    rcases hW l q with z | ⟨z1, z2⟩
    · exact .inl z
    · obtain ⟨o0, e0⟩ := Option.isSome_iff_exists.mp z1
      exact .inr ⟨i, o0, e0, z2⟩
  have toU : ∀ l, A l ∨ HasF s Fs i l → A l ∨ Own s Fs l := fun l q => by
    rcases q with z | ⟨z1, z2⟩
    · exact .inl z
    · obtain ⟨o0, e0⟩ := Option.isSome_iff_exists.mp z1
      exact .inr ⟨i, o0, e0, z2⟩
  refine ⟨by simp [I.len], fun j o' e => ?_, fun j o' e => ?_, fun j k o1 o2 ne e1 e2 l q => ?_, fun l h q => ?_, hO⟩
  · rcases sl j o' e with ⟨rfl, rfl⟩ | ⟨ne, e⟩
    · exact ⟨v, List.getElem?_set_self hr, by rw [upF_same]; exact R⟩
    · obtain ⟨u, e1, R1⟩ := I.rep j o' e
      refine ⟨u, by rw [List.getElem?_set_ne (Ne.symm ne)]; exact e1, ?_⟩
      rw [upF_ne ne]
      refine R1.move f wU (fun l hl q => ?_) fun l q z => ?_
      · rcases q with q | ⟨k, o2, e2, q⟩
        · exact toU l (hA l hl q)
        · rcases sl k o2 e2 with ⟨rfl, rfl⟩ | ⟨nk, e2⟩
          · rw [upF_same] at q
            exact toU l (hF l q hl)
          · rw [upF_ne nk] at q
            exact .inr ⟨k, o2, e2, q⟩
      · rcases hW l z with z | z
        · exact (ot j o' ne e l q).1 z
        · exact (ot j o' ne e l q).2 z
  · rcases sl j o' e with ⟨rfl, rfl⟩ | ⟨ne, e⟩
    · rw [upF_same]; exact nd
    · rw [upF_ne ne]; exact I.nd j o' e
  · have key : ∀ j o' l, j ≠ i → slotO s j = some o' → l ∈ Fs j → l ∈ F → False := fun j o' l ne e q z => by
      have hl : l < S.length := I.lt ⟨j, o', e, q⟩
      rcases hF l z hl with w | w
      · exact (ot j o' ne e l q).1 w
      · exact (ot j o' ne e l q).2 w
    rcases sl j o1 e1 with ⟨rfl, rfl⟩ | ⟨nj, f1⟩
    · rw [upF_same] at q
      rcases sl k o2 e2 with ⟨rfl, rfl⟩ | ⟨nk, f2⟩
      · exact absurd rfl ne
      · rw [upF_ne nk]
        exact fun z => key k o2 l nk f2 z q
    · rw [upF_ne nj] at q
      rcases sl k o2 e2 with ⟨rfl, rfl⟩ | ⟨nk, f2⟩
      · rw [upF_same]
        exact fun z => key j o1 l nj f1 q z
      · rw [upF_ne nk]
        exact I.dj j k o1 o2 ne f1 f2 l q
  · obtain ⟨j, o', e, z⟩ := h
    rcases sl j o' e with ⟨rfl, rfl⟩ | ⟨ne, e⟩
    · rw [upF_same] at z
      exact hav l z q
    · rw [upF_ne ne] at z
      have hl : l < S.length := I.lt ⟨j, o', e, z⟩
      rcases hA l hl q with w | w
      · exact (ot j o' ne e l z).1 w
      · exact (ot j o' ne e l z).2 w
end
end Vl
end

section
set_option linter.all false
/-! Vr2: paths. -/
namespace Vl
open PySem Ev
section
variable {S S' : Sto} {U U' W : Set'}
/-- a field of an owned instance: its value, the rest, what stands there later -/
theorem RepG.at {f : Nat} : ∀ {ys : List (Nat × Va)} {fs o : Ow} {F : List Nat}, RepG S U ys fs F → lookO f fs = some o → ∃ v F1 G, lookF f ys = some v ∧ RepO S U v o F1 ∧ F.Perm (F1 ++ G) ∧
    ∀ (S' : Sto) (U' W : Set') (o' : Ow) (F1' : List Nat), Fr S S' W → (∀ l, W l → U l) → (∀ l, l < S.length → U' l → U l) → (∀ l ∈ G, ¬ W l) → RepO S' U' v o' F1' → ∃ F', F'.Perm (F1' ++ G) ∧ RepG S' U' ys (putO f o' fs) F'
  | _, _, _, _, .nil, e => by cases e
  | _, _, _, _, .cons (f := g) (v := v) (o := o0) (fs := fs) (F1 := F1) (F2 := F2) h t, e => by
    unfold lookO at e
    by_cases q : g = f
    · rw [if_pos q] at e
      cases e
      refine ⟨v, F1, F2, by unfold lookF; rw [if_pos q], h, List.Perm.refl _, fun S' U' W o' F1' fr hW hU hG R => ⟨F1' ++ F2, List.Perm.refl _, ?_⟩⟩
      unfold putO
      rw [if_pos q]
      exact .cons R (t.move fr hW hU hG)
    · rw [if_neg q] at e
      obtain ⟨v1, F1', G, k1, k2, k3, k4⟩ := RepG.at t e
      refine ⟨v1, F1', F1 ++ G, by unfold lookF; rw [if_neg q]; exact k1, k2, ?_, fun S' U' W o' F2' fr hW hU hG R => ?_⟩
      · refine ((List.Perm.append_left F1 k3).trans ?_)
        rw [← List.append_assoc, ← List.append_assoc]
        exact List.Perm.append_right G List.perm_append_comm
      · obtain ⟨F', p, R2⟩ := k4 S' U' W o' F2' fr hW hU (fun l z => hG l (by simp [z])) R
        refine ⟨F1 ++ F', ?_, ?_⟩
        · refine (List.Perm.append_left F1 p).trans ?_
          rw [← List.append_assoc, ← List.append_assoc]
          exact List.Perm.append_right G List.perm_append_comm
        · unfold putO
          rw [if_neg q]
          exact .cons (h.move fr hW hU fun l z => hG l (by simp [z])) R2
theorem getP_nil {fl : Nat → Nat → Bool} {o : Ow} : getP fl o [] = some o := by cases o <;> rfl
theorem putP_nil {fl : Nat → Nat → Bool} {x o : Ow} : putP fl x o [] = some x := by cases o <;> rfl
theorem getP_ins {fl : Nat → Nat → Bool} {c f : Nat} {fs : Ow} {p : List Nat} : getP fl (.ins c fs) (f :: p) = if (isF f && fl c f) = true then (match lookO f fs with | some o => getP fl o p | none => none) else none := rfl
theorem putP_ins {fl : Nat → Nat → Bool} {c f : Nat} {fs x : Ow} {p : List Nat} : putP fl x (.ins c fs) (f :: p) = if (isF f && fl c f) = true then (match lookO f fs with | some o => (putP fl x o p).map fun o' => .ins c (putO f o' fs) | none => none) else none := rfl
theorem getP_lso {fl : Nat → Nat → Bool} {n : Nat} {fs : Ow} {p : List Nat} : getP fl (.lso fs) (n :: p) = if isF n = true then none else (match nthO (n % 1000000) fs with | some o => getP fl o p | none => none) := rfl
theorem putP_lso {fl : Nat → Nat → Bool} {n : Nat} {fs x : Ow} {p : List Nat} : putP fl x (.lso fs) (n :: p) = if isF n = true then none else (match nthO (n % 1000000) fs with | some o => (putP fl x o p).map fun o' => .lso (stO o' (n % 1000000) fs) | none => none) := rfl
/-- an element of an owned list: its value, the rest, what stands there later -/
theorem RepG.nth : ∀ {k : Nat} {ys : List (Nat × Va)} {fs o : Ow} {F : List Nat}, RepG S U ys fs F → nthO k fs = some o → ∃ v F1 G, (ys[k]?).map (·.2) = some v ∧ RepO S U v o F1 ∧ F.Perm (F1 ++ G) ∧
    ∀ (S' : Sto) (U' W : Set') (o' : Ow) (F1' : List Nat), Fr S S' W → (∀ l, W l → U l) → (∀ l, l < S.length → U' l → U l) → (∀ l ∈ G, ¬ W l) → RepO S' U' v o' F1' → ∃ F', F'.Perm (F1' ++ G) ∧ RepG S' U' ys (stO o' k fs) F'
  | 0, _, _, _, _, .nil, e => by cases e
  | _ + 1, _, _, _, _, .nil, e => by cases e
  | 0, _, _, _, _, .cons (f := g) (v := v) (o := o0) (fs := fs) (F1 := F1) (F2 := F2) h t, e => by
    have e : some o0 = some _ := e
    cases e
    exact ⟨v, F1, F2, rfl, h, List.Perm.refl _, fun S' U' W o' F1' fr hW hU hG R => ⟨F1' ++ F2, List.Perm.refl _, .cons R (t.move fr hW hU hG)⟩⟩
  | k + 1, _, _, _, _, .cons (f := g) (v := v) (o := o0) (fs := fs) (F1 := F1) (F2 := F2) h t, e => by
    have e : nthO k fs = some _ := e
    obtain ⟨v1, F1', G, k1, k2, k3, k4⟩ := RepG.nth t e
    refine ⟨v1, F1', F1 ++ G, by simpa using k1, k2, ?_, fun S' U' W o' F2' fr hW hU hG R => ?_⟩
    · refine ((List.Perm.append_left F1 k3).trans ?_)
      rw [← List.append_assoc, ← List.append_assoc]
      exact List.Perm.append_right G List.perm_append_comm
    · obtain ⟨F', p, R2⟩ := k4 S' U' W o' F2' fr hW hU (fun l z => hG l (by simp [z])) R
      refine ⟨F1 ++ F', ?_, .cons (h.move fr hW hU fun l z => hG l (by simp [z])) R2⟩
      refine (List.Perm.append_left F1 p).trans ?_
      rw [← List.append_assoc, ← List.append_assoc]
      exact List.Perm.append_right G List.perm_append_comm
theorem getP_app {fl : Nat → Nat → Bool} {f : Nat} : ∀ {p : List Nat} {o : Ow}, getP fl o (p ++ [f]) = (getP fl o p).bind fun o1 => getP fl o1 [f]
  | [], o => by rw [getP_nil]; rfl
  | g :: p, o => by
    rw [List.cons_append]
    cases o <;> try rfl
    · rename_i c fs
      rw [getP_ins, getP_ins]
      split
      · cases e : lookO g fs with
        | none => rfl
        | some o1 => exact getP_app
      · rfl
    · rename_i fs
      rw [getP_lso, getP_lso]
      split
      · rfl
      · cases e : nthO (g % 1000000) fs with
        | none => rfl
        | some o1 => exact getP_app
theorem putP_app {fl : Nat → Nat → Bool} {f c : Nat} {fs x o2 : Ow} (hs : isF f = true) (hf : fl c f = true) (h2 : lookO f fs = some o2) : ∀ {p : List Nat} {o : Ow}, getP fl o p = some (.ins c fs) → putP fl x o (p ++ [f]) = putP fl (.ins c (putO f x fs)) o p
  | [], o, e => by
    rw [getP_nil] at e
    cases e
    rw [List.nil_append, putP_nil, putP_ins, if_pos (by rw [hs, hf]; rfl), h2]
    dsimp only
    rw [putP_nil]
    try rfl
  | g :: p, o, e => by
    rw [List.cons_append]
    cases o <;> try (exact absurd e (by intro z; cases z))
    · rename_i c1 fs1
      rw [getP_ins] at e
      rw [putP_ins, putP_ins]
      split at e
      · rename_i hg
        rw [if_pos hg, if_pos hg]
        cases e3 : lookO g fs1 with
        | none => simp [e3] at e
        | some o1 =>
          rw [e3] at e
          dsimp only at e ⊢
          rw [putP_app hs hf h2 e]
      · cases e
    · rename_i fs1
      rw [getP_lso] at e
      rw [putP_lso, putP_lso]
      split at e
      · cases e
      · rename_i hg
        rw [if_neg hg, if_neg hg]
        cases e3 : nthO (g % 1000000) fs1 with
        | none => simp [e3] at e
        | some o1 =>
          rw [e3] at e
          dsimp only at e ⊢
          rw [putP_app hs hf h2 e]
theorem isF_ix {k : Nat} (hk : k < 1000) : isF (1000000 + k) = false := by
  unfold isF
  rw [show (1000000 + k) / 1000000 = 1 by omega]
  rfl
theorem putP_appL {fl : Nat → Nat → Bool} {k : Nat} {fs x o2 : Ow} (hk : k < 1000) (h2 : nthO k fs = some o2) : ∀ {p : List Nat} {o : Ow}, getP fl o p = some (.lso fs) → putP fl x o (p ++ [1000000 + k]) = putP fl (.lso (stO x k fs)) o p
  | [], o, e => by
    rw [getP_nil] at e
    cases e
    rw [List.nil_append, putP_nil, putP_lso, if_neg (by rw [isF_ix hk]; simp), show (1000000 + k) % 1000000 = k by omega, h2]
    dsimp only
    rw [putP_nil]
    try rfl
  | g :: p, o, e => by
    rw [List.cons_append]
    cases o <;> try (exact absurd e (by intro z; cases z))
    · rename_i c1 fs1
      rw [getP_ins] at e
      rw [putP_ins, putP_ins]
      split at e
      · rename_i hg
        rw [if_pos hg, if_pos hg]
        cases e3 : lookO g fs1 with
        | none => simp [e3] at e
        | some o1 =>
          rw [e3] at e
          dsimp only at e ⊢
          rw [putP_appL hk h2 e]
      · cases e
    · rename_i fs1
      rw [getP_lso] at e
      rw [putP_lso, putP_lso]
      split at e
      · cases e
      · rename_i hg
        rw [if_neg hg, if_neg hg]
        cases e3 : nthO (g % 1000000) fs1 with
        | none => simp [e3] at e
        | some o1 =>
          rw [e3] at e
          dsimp only at e ⊢
          rw [putP_appL hk h2 e]
/-- what a path reads, in the store -/
theorem path_ev {T : Tx} {cl : Nat → List Va → Sto → Res Va} {A : Set'} {r : Rho} {s : VEnv} {Fs : Nat → List Nat} (I : Inv S A r s Fs) : ∀ {a : E} {q : Nat × List Nat} {o : Ow}, pathOf a = some q → readP T s q = some o →
    ∃ v F1 G, evE T cl a r S = .ok v S ∧ RepO S (fun l => A l ∨ Own s Fs l) v o F1 ∧ (Fs q.1).Perm (F1 ++ G) ∧ (slotO s q.1).isSome = true ∧
      ∀ (S' : Sto) (U' W : Set') (o' : Ow) (F1' : List Nat), Fr S S' W → (∀ l, W l → A l ∨ Own s Fs l) → (∀ l, l < S.length → U' l → A l ∨ Own s Fs l) → (∀ l ∈ G, ¬ W l) → RepO S' U' v o' F1' →
        ∃ v0 o0 o0' F', r[q.1]? = some (some v0) ∧ slotO s q.1 = some o0 ∧ putP T.fl o' o0 q.2 = some o0' ∧ F'.Perm (F1' ++ G) ∧ RepO S' U' v0 o0' F'
  | .var i, q, o, e, h => by
    cases (show some (i, []) = some q from e)
    unfold readP at h
    cases e0 : slotO s i with
    | none => rw [e0] at h; cases h
    | some o0 =>
      rw [e0] at h
      have h : getP T.fl o0 [] = some o := h
      rw [getP_nil] at h
      have h : o0 = o := Option.some.inj h
      subst h
      obtain ⟨v, e1, R⟩ := I.rep i o0 e0
      exact ⟨v, Fs i, [], by simp only [evE, e1, R.plain, if_true], R, by simp, rfl, fun S' U' W o' F1' _ _ _ _ R' => ⟨v, o0, o', F1', e1, rfl, putP_nil, by simp, R'⟩⟩
  | .fld a f, q, o, e, h => by
    have e : (if isF f = true then (pathOf a).map (fun q => (q.1, q.2 ++ [f])) else none) = some q := e
    by_cases hst : isF f = true
    case neg => rw [if_neg hst] at e; cases e
    rw [if_pos hst] at e
    cases ea : pathOf a with
    | none => rw [ea] at e; cases e
    | some q1 =>
      rw [ea] at e
      cases (show some (q1.1, q1.2 ++ [f]) = some q from e)
      unfold readP at h
      cases e0 : slotO s q1.1 with
      | none => rw [e0] at h; cases h
      | some o0 =>
        rw [e0] at h
        have h : getP T.fl o0 (q1.2 ++ [f]) = some o := h
        rw [getP_app] at h
        cases e1 : getP T.fl o0 q1.2 with
        | none => rw [e1] at h; cases h
        | some o1 =>
          rw [e1] at h
          have h : getP T.fl o1 [f] = some o := h
          have hr : readP T s q1 = some o1 := by unfold readP; rw [e0]; exact e1
          obtain ⟨v, F1, G, k1, k2, k3, k4, k5⟩ := path_ev (cl := cl) I ea hr
          cases o1 <;> try (exact absurd h (by intro z; cases z))
          rotate_left
          · rename_i fs h0
            rw [getP_lso, if_pos hst] at h
            cases h
          rename_i c fs h0
          rw [getP_ins] at h
          split at h
          · rename_i hfl
            have hfl := (Bool.and_eq_true _ _ ▸ hfl : isF f = true ∧ T.fl c f = true).2
            cases e2 : lookO f fs with
            | none => rw [e2] at h; cases h
            | some o2 =>
              rw [e2] at h
              dsimp only at h
              rw [getP_nil] at h
              have h : o2 = o := Option.some.inj h
              subst h
              cases k2 with
              | ins es hg =>
                rename_i l dx ys F2
                obtain ⟨u, F3, G3, m1, m2, m3, m4⟩ := RepG.at hg e2
                refine ⟨u, F3, l :: (G3 ++ G), ?_, m2, ?_, rfl, fun S' U' W o' F1' fr hW hU hG R' => ?_⟩
                · simp only [evE, k1, Res.bind_ok, fld, es, hfl, if_true, m1]
                · refine k3.trans ?_
                  refine (List.Perm.append_right G (List.Perm.cons l m3)).trans ?_
                  rw [List.cons_append, List.append_assoc]
                  exact List.perm_middle.symm
                · obtain ⟨F', p1, R2⟩ := m4 S' U' W o' F1' fr hW hU (fun l z => hG l (by simp [z])) R'
                  have es' : S'[l]? = some (.ins c dx ys) := (fr.keep l (lt_of_get es) (hG l (by simp))).trans es
                  obtain ⟨v0, o00, o0', F0, n1, n2, n3, n4, n5⟩ := k5 S' U' W (.ins c (putO f o' fs)) (l :: F') fr hW hU (fun l z => hG l (by simp [z])) (.ins es' R2)
                  rw [e0] at n2
                  cases n2
                  refine ⟨v0, o0, o0', F0, n1, rfl, ?_, ?_, n5⟩
                  · show putP T.fl o' o0 (q1.2 ++ [f]) = some o0'
                    rw [← n3]
                    exact putP_app hst hfl e2 e1
                  · refine n4.trans ?_
                    refine (List.Perm.append_right G (List.Perm.cons l p1)).trans ?_
                    rw [List.cons_append, List.append_assoc]
                    exact List.perm_middle.symm
          · cases h
  | .idx a b, q, o, e, h => by
    have e : ((conN b).bind fun k => (pathOf a).map fun q => (q.1, q.2 ++ [1000000 + k])) = some q := e
    cases eb : conN b with
    | none => rw [eb] at e; cases e
    | some k =>
    have hk : k < 1000 := by
      unfold conN at eb
      split at eb
      · split at eb
        · cases eb; omega
        · cases eb
      · cases eb
    rw [eb] at e
    have e : (pathOf a).map (fun q => (q.1, q.2 ++ [1000000 + k])) = some q := e
    cases ea : pathOf a with
    | none => rw [ea] at e; cases e
    | some q1 =>
      rw [ea] at e
      cases (show some (q1.1, q1.2 ++ [1000000 + k]) = some q from e)
      unfold readP at h
      cases e0 : slotO s q1.1 with
      | none => rw [e0] at h; cases h
      | some o0 =>
        rw [e0] at h
        have h : getP T.fl o0 (q1.2 ++ [1000000 + k]) = some o := h
        rw [getP_app] at h
        cases e1 : getP T.fl o0 q1.2 with
        | none => rw [e1] at h; cases h
        | some o1 =>
          rw [e1] at h
          have h : getP T.fl o1 [1000000 + k] = some o := h
          have hr : readP T s q1 = some o1 := by unfold readP; rw [e0]; exact e1
          obtain ⟨v, F1, G, k1, k2, k3, k4, k5⟩ := path_ev (cl := cl) I ea hr
          cases o1 <;> try (exact absurd h (by intro z; cases z))
          · rename_i c fs h0
            rw [getP_ins, if_neg (by rw [isF_ix hk]; simp)] at h
            cases h
          rename_i fs h0
          rw [getP_lso, if_neg (by rw [isF_ix hk]; simp), show (1000000 + k) % 1000000 = k by omega] at h
          cases e2 : nthO k fs with
          | none => rw [e2] at h; cases h
          | some o2 =>
            rw [e2] at h
            dsimp only at h
            rw [getP_nil] at h
            have h : o2 = o := Option.some.inj h
            subst h
            cases k2 with
            | lso es hg =>
              rename_i l ys F2
              obtain ⟨u, F3, G3, m1, m2, m3, m4⟩ := RepG.nth hg e2
              have m1 : ys[k]? = some u := by
                rw [List.getElem?_map, Option.map_map] at m1
                cases e3 : ys[k]? with
                | none => rw [e3] at m1; cases m1
                | some w => rw [e3] at m1; exact congrArg some (Option.some.inj m1)
              have hb : ∀ S', evE T cl b r S' = .ok (.int (k : Nat)) S' := fun S' => by
                unfold conN at eb
                split at eb
                · rename_i z
                  split at eb
                  · rename_i hz
                    have hz2 : (k : Int) = z := by cases eb; omega
                    rw [hz2]
                    simp only [evE]
                  · cases eb
                · cases eb
              refine ⟨u, F3, l :: (G3 ++ G), ?_, m2, ?_, rfl, fun S' U' W o' F1' fr hW hU hG R' => ?_⟩
              · simp only [evE, k1, Res.bind_ok, hb]
                have hat : atI ys ((k : Nat) : Int) = some u := by
                  unfold atI ixN
                  have hk := (List.getElem?_eq_some_iff.mp m1).1
                  rw [if_pos (by omega), if_pos (by omega)]
                  exact m1
                simp only [idx, Ev.getL, es, hat]
              · refine k3.trans ?_
                refine (List.Perm.append_right G (List.Perm.cons l m3)).trans ?_
                rw [List.cons_append, List.append_assoc]
                exact List.perm_middle.symm
              · obtain ⟨F', p1, R2⟩ := m4 S' U' W o' F1' fr hW hU (fun l z => hG l (by simp [z])) R'
                have es' : S'[l]? = some (.lst ys) := (fr.keep l (lt_of_get es) (hG l (by simp))).trans es
                obtain ⟨v0, o00, o0', F0, n1, n2, n3, n4, n5⟩ := k5 S' U' W (.lso (stO o' k fs)) (l :: F') fr hW hU (fun l z => hG l (by simp [z])) (.lso es' R2)
                rw [e0] at n2
                cases n2
                refine ⟨v0, o0, o0', F0, n1, rfl, ?_, ?_, n5⟩
                · show putP T.fl o' o0 (q1.2 ++ [1000000 + k]) = some o0'
                  rw [← n3]
                  exact putP_appL hk e2 e1
                · refine n4.trans ?_
                  refine (List.Perm.append_right G (List.Perm.cons l p1)).trans ?_
                  rw [List.cons_append, List.append_assoc]
                  exact List.perm_middle.symm
end
end Vl
end

section
set_option linter.all false
/-! Vr3: operators by values. -/
namespace Vl
open PySem Ev
section
variable {S : Sto} {U : Set'}
theorem allD_eq {f : Va → Option PyData} {g : D → Option PyData} (h : ∀ v d, Sh S U v d → f v = g d) : ∀ {vs : List Va} {ds : List D}, ShL S U vs ds → allD f vs = allP g ds
  | _, _, .nil => rfl
  | _, _, .cons a t => by
    unfold allD allP
    rw [h _ _ a, allD_eq h t]
    try rfl
theorem toD_eq : ∀ (n : Nat) {v : Va} {d : D}, Sh S U v d → toD S n v = toPy n d
  | 0, _, _, h => by cases h <;> rfl
  | n + 1, _, _, h => by
    cases h with
    | lst e _ t => simp only [toD, toPy, e]; rw [allD_eq (fun v d h => toD_eq n h) t]
    | tup e _ t => simp only [toD, toPy, e]; rw [allD_eq (fun v d h => toD_eq n h) t]
    | dct e _ t => simp only [toD, toPy, e]
    | ins e _ t => simp only [toD, toPy, e]
    | _ => rfl
theorem eqS_eq {v u : Va} {x y : D} (h : Sh S U v x) (k : Sh S U u y) : eqS S v u = deq x y := by
  unfold eqS deq
  rw [toD_eq 12 h, toD_eq 12 k]
  try rfl
theorem ShL.ints {ns : List Int} : ShL S U (ns.map .int) (ns.map .int) := by
  induction ns with
  | nil => exact .nil
  | cons n r ih => exact .cons .int ih
theorem ShL.len : ∀ {vs : List Va} {ds : List D}, ShL S U vs ds → vs.length = ds.length
  | _, _, .nil => rfl
  | _, _, .cons _ t => by rw [List.length_cons, List.length_cons, ShL.len t]
theorem ShL.get : ∀ {vs : List Va} {ds : List D} {i : Nat} {d : D}, ShL S U vs ds → ds[i]? = some d → ∃ v, vs[i]? = some v ∧ Sh S U v d
  | _, _, i, _, .nil, e => by simp at e
  | _, _, 0, _, .cons a _, e => by simp at e; subst e; exact ⟨_, rfl, a⟩
  | _, _, i + 1, d, .cons _ t, e => by
    obtain ⟨v, h1, h2⟩ := ShL.get (i := i) (d := d) t (by simpa using e)
    exact ⟨v, by simpa using h1, h2⟩
theorem ShL.app : ∀ {vs us : List Va} {ds es : List D}, ShL S U vs ds → ShL S U us es → ShL S U (vs ++ us) (ds ++ es)
  | _, _, _, _, .nil, h => h
  | _, _, _, _, .cons a t, h => .cons a (ShL.app t h)
theorem ShL.drop : ∀ {vs : List Va} {ds : List D} (n : Nat), ShL S U vs ds → ShL S U (vs.drop n) (ds.drop n)
  | _, _, 0, h => h
  | _, _, _ + 1, .nil => .nil
  | _, _, n + 1, .cons _ t => ShL.drop n t
theorem ShL.take : ∀ {vs : List Va} {ds : List D} (n : Nat), ShL S U vs ds → ShL S U (vs.take n) (ds.take n)
  | _, _, 0, _ => .nil
  | _, _, _ + 1, .nil => .nil
  | _, _, n + 1, .cons a t => .cons a (ShL.take n t)
theorem ShL.rev : ∀ {vs : List Va} {ds : List D}, ShL S U vs ds → ShL S U vs.reverse ds.reverse
  | _, _, .nil => .nil
  | _, _, .cons a t => by
    rw [List.reverse_cons, List.reverse_cons]
    exact ShL.app (ShL.rev t) (.cons a .nil)
theorem ShL.set {v : Va} {d : D} (a : Sh S U v d) : ∀ {vs : List Va} {ds : List D} (i : Nat), ShL S U vs ds → ShL S U (vs.set i v) (ds.set i d)
  | _, _, _, .nil => .nil
  | _, _, 0, .cons _ t => .cons a t
  | _, _, i + 1, .cons b t => .cons b (ShL.set a i t)
theorem ShL.rep {vs : List Va} {ds : List D} (h : ShL S U vs ds) : ∀ n : Nat, ShL S U (List.replicate n vs).flatten (List.replicate n ds).flatten
  | 0 => .nil
  | n + 1 => by
    rw [List.replicate_succ, List.replicate_succ, List.flatten_cons, List.flatten_cons]
    exact ShL.app h (ShL.rep h n)
theorem ShL.cut {vs : List Va} {ds : List D} (h : ShL S U vs ds) (lo hi : Option Int) : ShL S U (Ev.cut vs lo hi) (Ev.cut ds lo hi) := by
  unfold Ev.cut
  rw [h.len]
  exact ShL.take _ (ShL.drop _ h)
theorem ShL.ints_eq : ∀ {vs : List Va} {ds : List D}, ShL S U vs ds → intsOf vs = dInts ds
  | _, _, .nil => rfl
  | _, _, .cons a t => by
    cases a <;> try rfl
    simp only [intsOf, dInts]
    rw [ShL.ints_eq t]
theorem ShL.bls_eq : ∀ {vs : List Va} {ds : List D}, ShL S U vs ds → blsOf vs = dBls ds
  | _, _, .nil => rfl
  | _, _, .cons a t => by
    cases a <;> try rfl
    simp only [blsOf, dBls]
    rw [ShL.bls_eq t]
theorem Sh.flat_eq {v : Va} {d : D} (h : Sh S U v d) : flat v = dFlat d := by cases h <;> rfl
end
end Vl
end

section
set_option linter.all false
/-! Vr4: what a borrowed tree is in the store. -/
namespace Vl
open PySem Ev
/-- v is the tree d; its own places may be owned, what hangs below is shared -/
def Bo (S : Sto) (U : Set') (v : Va) (d : D) : Prop := ∃ o F, RepO S U v o F ∧ d = frz o ∧ isLso o = false
section
variable {S : Sto} {U : Set'}
theorem Bo.sh {v : Va} {d : D} (h : Bo S U v d) : ∃ U', Sh S U' v d := by
  obtain ⟨o, F, R, rfl, _⟩ := h
  exact ⟨fun l => U l ∧ l ∉ F, R.frz (fun l q => q.1) fun l q z => z.2 q⟩
theorem Bo.of {v : Va} {d : D} (h : Sh S U v d) : Bo S U v d := ⟨.sh d, [], .sh h, rfl, rfl⟩
theorem Bo.getL {v : Va} {d : D} {xs : List D} (h : Bo S U v d) (e : dL d = some xs) : ∃ ys, Ev.getL S v = some ys ∧ ShL S U ys xs := by
  obtain ⟨o, F, R, rfl, hl⟩ := h
  cases R with
  | sh k =>
    cases k with
    | scr =>
      rename_i ns
      cases (show some (ns.map D.int) = some xs from e)
      exact ⟨_, rfl, ShL.ints⟩
    | lst e1 n1 t =>
      rename_i l ys zs
      cases (show some zs = some xs from e)
      exact ⟨ys, by simp only [Ev.getL, e1], t⟩
    | _ => cases e
  | lst e1 t =>
    rename_i l ys zs
    cases (show some zs = some xs from e)
    exact ⟨ys, by simp only [Ev.getL, e1], t⟩
  | dct e1 t => cases e
  | ins e1 t => cases e
  | lso e1 t => cases hl
theorem Bo.getT {v : Va} {d : D} {xs : List D} (h : Bo S U v d) (e : dT d = some xs) : ∃ ys, Ev.getT S v = some ys ∧ ShL S U ys xs := by
  obtain ⟨o, F, R, rfl, hl⟩ := h
  cases R with
  | sh k =>
    cases k with
    | tup e1 n1 t =>
      rename_i l ys zs
      cases (show some zs = some xs from e)
      exact ⟨ys, by simp only [Ev.getT, e1], t⟩
    | _ => cases e
  | lst e1 t => cases e
  | dct e1 t => cases e
  | ins e1 t => cases e
  | lso e1 t => cases hl
theorem Bo.noL {v : Va} {d : D} (h : Bo S U v d) (e : dL d = none) : Ev.getL S v = none := by
  obtain ⟨U', k⟩ := h.sh
  cases k <;> first | rfl | (cases e; done) | skip
  all_goals (rename_i e1 _ _; simp only [Ev.getL, e1])
theorem Bo.noT {v : Va} {d : D} (h : Bo S U v d) (e : dT d = none) : Ev.getT S v = none := by
  obtain ⟨U', k⟩ := h.sh
  cases k <;> first | rfl | (cases e; done) | skip
  all_goals (rename_i e1 _ _; simp only [Ev.getT, e1])
theorem Bo.getLT {v : Va} {d : D} {xs : List D} (h : Bo S U v d) (e : dLT d = some xs) : ∃ ys, (Ev.getL S v).or (Ev.getT S v) = some ys ∧ ShL S U ys xs := by
  unfold dLT at e
  cases e1 : dL d with
  | some zs =>
    rw [e1] at e
    cases e
    obtain ⟨ys, k1, k2⟩ := h.getL e1
    exact ⟨ys, by rw [k1]; rfl, k2⟩
  | none =>
    rw [e1] at e
    obtain ⟨ys, k1, k2⟩ := h.getT (show dT d = some xs from e)
    exact ⟨ys, by rw [h.noL e1, k1]; rfl, k2⟩
theorem eqF_eq {v u : Va} {x y : D} (h : Sh S U v x) (k : Sh S U u y) (f : dFlat x = true) (g : dFlat y = true) : eqF v u = dEqF x y := by
  cases h <;> first | (cases f; done) | skip
  all_goals (cases k <;> first | (cases g; done) | rfl)
end
end Vl
end

section
set_option linter.all false
/-! Vr5: steps. -/
namespace Vl
open PySem Ev
structure Out (q : Bool) (S : Sto) (A : Set') (r : Rho) (s : VEnv) (Fs : Nat → List Nat) (S' : Sto) (s' : VEnv) (Fs' : Nat → List Nat) (Fo : List Nat) : Prop where
  fr : Fr S S' (fun l => q = false ∧ Own s Fs l)
  inv : Inv S' (fun l => A l ∨ l ∈ Fo) r s' Fs'
  nd : Fo.Nodup
  av : ∀ l ∈ Fo, ¬ A l
  n1 : ∀ l ∈ Fo, Own s Fs l ∨ S.length ≤ l
  n2 : ∀ i l, HasF s' Fs' i l → HasF s Fs i l ∨ S.length ≤ l
theorem own_has {s : VEnv} {Fs : Nat → List Nat} {l : Nat} : Own s Fs l ↔ ∃ i, HasF s Fs i l := by
  constructor
  · rintro ⟨i, o, e, h⟩
    exact ⟨i, by rw [e]; rfl, h⟩
  · rintro ⟨i, e, h⟩
    obtain ⟨o, e⟩ := Option.isSome_iff_exists.mp e
    exact ⟨i, o, e, h⟩
theorem Out.m2 {q : Bool} {S : Sto} {A : Set'} {r : Rho} {s : VEnv} {Fs : Nat → List Nat} {S' : Sto} {s' : VEnv} {Fs' : Nat → List Nat} {Fo : List Nat} (o : Out q S A r s Fs S' s' Fs' Fo) (l : Nat) (h : Own s' Fs' l) : Own s Fs l ∨ S.length ≤ l := by
  obtain ⟨i, h⟩ := own_has.mp h
  rcases o.n2 i l h with z | z
  · exact .inl (own_has.mpr ⟨i, z⟩)
  · exact .inr z
/-- what a shared tree avoids -/
def US (A : Set') (s : VEnv) (Fs : Nat → List Nat) (Fo : List Nat) : Set' := fun l => (A l ∨ l ∈ Fo) ∨ Own s Fs l
abbrev RT (α β : Type) := Sto → Set' → VEnv → (Nat → List Nat) → β → α → List Nat → Prop
def Sim {α β : Type} (R : RT α β) (q : Bool) (S : Sto) (A : Set') (r : Rho) (s : VEnv) (Fs : Nat → List Nat) (x : VRes α) (y : Res β) : Prop := match x with
  | .ok a s' => ∃ b S' Fs' Fo, y = .ok b S' ∧ Out q S A r s Fs S' s' Fs' Fo ∧ R S' (US A s' Fs' Fo) s' Fs' b a Fo
  | .exc c s' => ∃ S' Fs', y = .exc c S' ∧ Out q S A r s Fs S' s' Fs' []
  | .bad => True
section
variable {α β γ δ : Type} {q q1 q2 : Bool} {S S1 S2 : Sto} {A : Set'} {r : Rho} {s s1 s2 : VEnv} {Fs Fs1 Fs2 : Nat → List Nat} {F1 F2 : List Nat}
theorem Out.refl (I : Inv S A r s Fs) : Out q S A r s Fs S s Fs [] :=
  ⟨Fr.refl, I.move (W := fun _ => False) Fr.refl (fun _ z => z.elim) (fun l _ z => by simpa using z) (fun l z => I.old l (by simpa using z)), .nil, by simp, by simp, fun i l h => .inl h⟩
theorem Out.invA (o : Out q S A r s Fs S1 s1 Fs1 F1) : Inv S1 A r s1 Fs1 :=
  o.inv.move (W := fun _ => False) Fr.refl (fun _ z => z.elim) (fun l _ z => .inl z) (fun l z => o.inv.old l (.inl z))
/-- the earlier temps are dropped -/
theorem Out.drop (a : Out q1 S A r s Fs S1 s1 Fs1 F1) (b : Out q2 S1 (fun l => A l ∨ l ∈ F1) r s1 Fs1 S2 s2 Fs2 F2) : Out (q1 && q2) S A r s Fs S2 s2 Fs2 F2 where
  fr := by
    refine (a.fr.mono (fun l _ h => ⟨by simp [h.1], h.2⟩)).trans b.fr fun l hl h => ⟨by simp [h.1], ?_⟩
    rcases a.m2 l h.2 with z | z
    · exact z
    · omega
  inv := b.inv.move (W := fun _ => False) Fr.refl (fun _ z => z.elim) (fun l _ z => by
    rcases z with z | z
    · exact .inl (.inl z)
    · exact .inr z) (fun l z => b.inv.old l (by
    rcases z with z | z
    · exact .inl (.inl z)
    · exact .inr z))
  nd := b.nd
  av := fun l h z => b.av l h (.inl z)
  n1 := fun l h => by
    rcases b.n1 l h with z | z
    · exact a.m2 l z
    · exact .inr (Nat.le_trans a.fr.len z)
  n2 := fun i l h => by
    rcases b.n2 i l h with z | z
    · exact a.n2 i l z
    · exact .inr (Nat.le_trans a.fr.len z)
/-- both temps are kept -/
theorem Out.both (a : Out q1 S A r s Fs S1 s1 Fs1 F1) (b : Out q2 S1 (fun l => A l ∨ l ∈ F1) r s1 Fs1 S2 s2 Fs2 F2) : Out (q1 && q2) S A r s Fs S2 s2 Fs2 (F1 ++ F2) where
  fr := (a.drop b).fr
  inv := b.inv.move (W := fun _ => False) Fr.refl (fun _ z => z.elim) (fun l _ z => by
    rcases z with z | z
    · exact .inl (.inl z)
    · rcases List.mem_append.mp z with z | z
      · exact .inl (.inr z)
      · exact .inr z) (fun l z => b.inv.old l (by
    rcases z with z | z
    · exact .inl (.inl z)
    · rcases List.mem_append.mp z with z | z
      · exact .inl (.inr z)
      · exact .inr z))
  nd := List.nodup_append.mpr ⟨a.nd, b.nd, fun l h m h' e => b.av m h' (.inr (e ▸ h))⟩
  av := fun l h z => by
    rcases List.mem_append.mp h with h | h
    · exact a.av l h z
    · exact b.av l h (.inl z)
  n1 := fun l h => by
    rcases List.mem_append.mp h with h | h
    · exact a.n1 l h
    · exact (a.drop b).n1 l h
  n2 := (a.drop b).n2
def Mono {α β : Type} (R : RT α β) : Prop := ∀ {S : Sto} {U U' : Set'} {s : VEnv} {Fs : Nat → List Nat} {b : β} {a : α} {F : List Nat}, R S U s Fs b a F → (∀ l, U' l → U l) → R S U' s Fs b a F
theorem Sim.bind {R1 : RT α β} {R2 : RT γ δ} {x : VRes α} {y : Res β} {k : α → VEnv → VRes γ} {kr : β → Sto → Res δ} (m : Mono R2) (h : Sim R1 q1 S A r s Fs x y)
    (hk : ∀ a s1 b S1 Fs1 F1, x = .ok a s1 → Out q1 S A r s Fs S1 s1 Fs1 F1 → R1 S1 (US A s1 Fs1 F1) s1 Fs1 b a F1 → Sim R2 q2 S1 (fun l => A l ∨ l ∈ F1) r s1 Fs1 (k a s1) (kr b S1)) : Sim R2 (q1 && q2) S A r s Fs (x.bind k) (y.bind kr) := by
  cases x with
  | bad => exact trivial
  | exc c s' =>
    obtain ⟨S', Fs', rfl, o⟩ := h
    exact ⟨S', Fs', rfl, ⟨o.fr.mono fun l _ z => ⟨by simp [z.1], z.2⟩, o.inv, o.nd, o.av, o.n1, o.n2⟩⟩
  | ok a s1 =>
    obtain ⟨b, S1, Fs1, F1, rfl, o, R⟩ := h
    have g := hk a s1 b S1 Fs1 F1 rfl o R
    show Sim R2 _ S A r s Fs (k a s1) (kr b S1)
    cases e : k a s1 with
    | bad => exact trivial
    | exc c s' =>
      rw [e] at g
      obtain ⟨S', Fs', e2, o2⟩ := g
      exact ⟨S', Fs', e2, o.drop o2⟩
    | ok a2 s2 =>
      rw [e] at g
      obtain ⟨b2, S2, Fs2, F2, e2, o2, R2'⟩ := g
      refine ⟨b2, S2, Fs2, F2, e2, o.drop o2, m R2' fun l z => ?_⟩
      rcases z with (z | z) | z
      · exact .inl (.inl (.inl z))
      · exact .inl (.inr z)
      · exact .inr z
end
end Vl
end

section
set_option linter.all false
/-! Vr6: what a step hands on; calls. -/
namespace Vl
open PySem Ev
def RO : RT Ow Va := fun S U _ _ v o F => RepO S U v o F
/-- borrowed; qb: what comes behind is quiet -/
def RB (qb : Bool) : RT D Va := fun S U _ _ v d F => ∃ o F1, RepO S U v o F1 ∧ d = frz o ∧ isLso o = false ∧ (qb = false → ∀ l ∈ F1, l ∈ F)
def RA : RT (List D) (List Va) := fun S U _ _ vs ds _ => ShL S U vs ds
section
variable {S S' : Sto} {U U' W : Set'}
theorem RepO.weak {v : Va} {o : Ow} {F : List Nat} (h : RepO S U v o F) (hU : ∀ l, U' l → U l) : RepO S U' v o F := RepO.move (W := fun _ => False) Fr.refl (fun _ z => z.elim) (fun l _ z => hU l z) h fun _ _ z => z
theorem mono_RO : Mono RO := fun h hU => RepO.move (W := fun _ => False) Fr.refl (fun _ z => z.elim) (fun l _ z => hU l z) h fun _ _ z => z
theorem mono_RB {qb : Bool} : Mono (RB qb) := fun ⟨o, F1, h, e, w, k⟩ hU => ⟨o, F1, h.weak hU, e, w, k⟩
theorem mono_RA : Mono RA := fun h hU => ShL.move (W := fun _ => False) Fr.refl (fun _ z => z.elim) (fun l _ z => hU l z) h
theorem RB.bo {qb : Bool} {v : Va} {d : D} {F : List Nat} {s : VEnv} {Fs : Nat → List Nat} (h : RB qb S U s Fs v d F) : Bo S U v d := by
  obtain ⟨o, F1, h, e, w, _⟩ := h
  exact ⟨o, F1, h, e, w⟩
end
section
variable {α β : Type} {q : Bool} {S S1 : Sto} {A : Set'} {r : Rho} {s s1 : VEnv} {Fs Fs1 : Nat → List Nat} {F1 F2 : List Nat}
/-- a borrowed tree over a later step -/
theorem RB.over {q2 : Bool} {v : Va} {d : D} {S2 : Sto} {s2 : VEnv} {Fs2 : Nat → List Nat} (I1 : Inv S1 (fun l => A l ∨ l ∈ F1) r s1 Fs1) (h : RB q2 S1 (US A s1 Fs1 F1) s1 Fs1 v d F1) (o : Out q2 S1 (fun l => A l ∨ l ∈ F1) r s1 Fs1 S2 s2 Fs2 F2) : Bo S2 (US (fun l => A l ∨ l ∈ F1) s2 Fs2 F2) v d := by
  obtain ⟨w, F0, R, e, hw, k⟩ := h
  refine ⟨w, F0, R.move o.fr (fun l z => .inr z.2) (fun l hl z => ?_) (fun l hl z => ?_), e, hw⟩
  · rcases z with (z | z) | z
    · exact .inl z
    · rcases o.n1 l z with y | y
      · exact .inr y
      · omega
    · rcases o.m2 l z with y | y
      · exact .inr y
      · omega
  · exact I1.av l z.2 (.inr (k z.1 l hl))
theorem Sim.pure {R : RT α β} {a : α} {b : β} (I : Inv S A r s Fs) (h : R S (US A s Fs []) s Fs b a []) : Sim R q S A r s Fs (.ok a s) (.ok b S) := ⟨b, S, Fs, [], rfl, Out.refl I, h⟩
theorem Sim.weak {R R' : RT α β} {x : VRes α} {y : Res β} (h : Sim R q S A r s Fs x y) (f : ∀ S U s Fs b a F, R S U s Fs b a F → R' S U s Fs b a F) : Sim R' q S A r s Fs x y := by
  cases x with
  | bad => exact trivial
  | exc c s' => exact h
  | ok a s' =>
    obtain ⟨b, S', Fs', Fo, e, o, R⟩ := h
    exact ⟨b, S', Fs', Fo, e, o, f _ _ _ _ _ _ _ R⟩
theorem Sim.loud {R : RT α β} {x : VRes α} {y : Res β} (h : Sim R q S A r s Fs x y) {q' : Bool} (hq : q' = true → q = true) : Sim R q' S A r s Fs x y := by
  have m : ∀ {S' s' Fs' Fo}, Out q S A r s Fs S' s' Fs' Fo → Out q' S A r s Fs S' s' Fs' Fo := fun o => ⟨o.fr.mono fun l _ z => ⟨by
    cases q' with
    | false => rfl
    | true => rw [hq rfl] at z; exact absurd z.1 (by simp), z.2⟩, o.inv, o.nd, o.av, o.n1, o.n2⟩
  cases x with
  | bad => exact trivial
  | exc c s' =>
    obtain ⟨S', Fs', e, o⟩ := h
    exact ⟨S', Fs', e, m o⟩
  | ok a s' =>
    obtain ⟨b, S', Fs', Fo, e, o, R⟩ := h
    exact ⟨b, S', Fs', Fo, e, m o, R⟩
/-- the temps are let go -/
theorem Out.letgo (o : Out q S A r s Fs S1 s1 Fs1 F1) : Out q S A r s Fs S1 s1 Fs1 [] :=
  ⟨o.fr, o.inv.move (W := fun _ => False) Fr.refl (fun _ z => z.elim) (fun l _ z => by
    rcases z with z | z
    · exact .inl z
    · simp at z) (fun l z => o.inv.old l (by
    rcases z with z | z
    · exact .inl z
    · simp at z)), .nil, by simp, by simp, o.n2⟩
/-- a new object, owned -/
theorem Out.alloc {o : Ob} (I : Inv S A r s Fs) : Out q S A r s Fs (S ++ [o]) s Fs [S.length] where
  fr := Fr.new
  inv := I.move (W := fun _ => False) Fr.new (fun _ z => z.elim) (fun l hl z => by
    rcases z with z | z
    · exact z
    · rw [List.mem_singleton.mp z] at hl; omega) (fun l z => by
    rcases z with z | z
    · have := I.old l z; simp; omega
    · rw [List.mem_singleton.mp z]; simp)
  nd := by simp
  av := fun l h z => by
    rw [List.mem_singleton.mp h] at z
    have := I.old _ z
    omega
  n1 := fun l h => .inr (by rw [List.mem_singleton.mp h]; exact Nat.le_refl _)
  n2 := fun i l h => .inl h
/-- .. shared -/
theorem Out.alloc0 {o : Ob} (I : Inv S A r s Fs) : Out q S A r s Fs (S ++ [o]) s Fs [] where
  fr := Fr.new
  inv := I.move (W := fun _ => False) Fr.new (fun _ z => z.elim) (fun l hl z => by
    rcases z with z | z
    · exact z
    · simp at z) (fun l z => by
    rcases z with z | z
    · have := I.old l z; simp; omega
    · simp at z)
  nd := .nil
  av := by simp
  n1 := by simp
  n2 := fun i l h => .inl h
end
end Vl
end

section
set_option linter.all false
/-! Vr6b: freezing. -/
namespace Vl
open PySem Ev
abbrev UA (A : Set') (s : VEnv) (Fs : Nat → List Nat) : Set' := fun l => A l ∨ Own s Fs l
section
variable {T : Tx} {S S1 S2 : Sto} {A : Set'} {r : Rho} {s : VEnv} {Fs : Nat → List Nat} {B : List Nat}
/-- what a callee's trees avoid: the slots but B -/
def UB (A : Set') (B : List Nat) (s : VEnv) (Fs : Nat → List Nat) : Set' := fun l => A l ∨ ∃ j, j ∉ B ∧ HasF s Fs j l
theorem UB_sub {l : Nat} (h : UB A B s Fs l) : UA A s Fs l := by
  rcases h with h | ⟨j, _, h⟩
  · exact .inl h
  · exact .inr (own_has.mpr ⟨j, h⟩)
theorem UB_nil {l : Nat} (h : UA A s Fs l) : UB A [] s Fs l := by
  rcases h with h | h
  · exact .inl h
  · obtain ⟨j, h⟩ := own_has.mp h
    exact .inr ⟨j, by simp, h⟩
/-! ### frozen slots -/
theorem frzS_len : ∀ B : List Nat, (frzS s B).length = s.length
  | [] => rfl
  | i :: is => by
    unfold frzS
    cases slotO s i with
    | none => exact frzS_len is
    | some o => rw [List.length_set]; exact frzS_len is
theorem frzS_slot {j : Nat} : ∀ B : List Nat, slotO (frzS s B) j = if j ∈ B then (slotO s j).map (fun o => .sh (frz o)) else slotO s j
  | [] => by simp [frzS]
  | i :: is => by
    unfold frzS
    cases e : slotO s i with
    | none =>
      dsimp only
      rw [frzS_slot is]
      by_cases q : j = i
      · subst q
        rw [e]
        simp
      · simp [q]
    | some o =>
      dsimp only
      rw [slot_set, frzS_len, frzS_slot is]
      by_cases q : i = j
      · subst q
        rw [if_pos ⟨rfl, slot_lt e⟩, e]
        simp
      · rw [if_neg fun z => q z.1]
        have : (j ∈ i :: is) ↔ j ∈ is := by simp [Ne.symm q]
        simp only [this]
def minusF (Fs : Nat → List Nat) (B : List Nat) : Nat → List Nat := fun i => if i ∈ B then [] else Fs i
theorem HasF_frz {i l : Nat} (h : HasF (frzS s B) (minusF Fs B) i l) : i ∉ B ∧ HasF s Fs i l := by
  obtain ⟨h1, h2⟩ := h
  rw [frzS_slot] at h1
  unfold minusF at h2
  by_cases q : i ∈ B
  · rw [if_pos q] at h2; simp at h2
  · rw [if_neg q] at h1 h2
    exact ⟨q, h1, h2⟩
theorem Inv.frz (I : Inv S A r s Fs) (B : List Nat) : Inv S A r (frzS s B) (minusF Fs B) := by
  have hU : ∀ l, UA A (frzS s B) (minusF Fs B) l → UB A B s Fs l := fun l z => by
    rcases z with z | z
    · exact .inl z
    · obtain ⟨i, z⟩ := own_has.mp z
      exact .inr ⟨i, HasF_frz z⟩
  refine ⟨by rw [frzS_len]; exact I.len, fun i o e => ?_, fun i o e => ?_, fun i j o o' ne e1 e2 l q => ?_, fun l h q => ?_, I.old⟩
  · rw [frzS_slot] at e
    by_cases q : i ∈ B
    · rw [if_pos q] at e
      cases e0 : slotO s i with
      | none => rw [e0] at e; cases e
      | some o0 =>
        rw [e0] at e
        cases e
        obtain ⟨v, e1, R⟩ := I.rep i o0 e0
        refine ⟨v, e1, ?_⟩
        have : minusF Fs B i = [] := if_pos q
        rw [this]
        refine .sh (R.frz (fun l z => UB_sub (hU l z)) fun l hl z => ?_)
        rcases hU l z with z | ⟨j, nj, z⟩
        · exact I.av l ⟨i, o0, e0, hl⟩ z
        · obtain ⟨o1, eo⟩ := Option.isSome_iff_exists.mp z.1
          exact I.dj i j o0 o1 (fun w => nj (w ▸ q)) e0 eo l hl z.2
    · rw [if_neg q] at e
      obtain ⟨v, e1, R⟩ := I.rep i o e
      refine ⟨v, e1, ?_⟩
      have : minusF Fs B i = Fs i := if_neg q
      rw [this]
      exact R.weak fun l z => UB_sub (hU l z)
  · unfold minusF
    rw [frzS_slot] at e
    by_cases q : i ∈ B
    · rw [if_pos q]; exact .nil
    · rw [if_neg q] at e ⊢; exact I.nd i o e
  · have hi := HasF_frz (s := s) (Fs := Fs) (B := B) (i := i) (l := l) ⟨by rw [e1]; rfl, q⟩
    intro q2
    have hj := HasF_frz (s := s) (Fs := Fs) (B := B) (i := j) (l := l) ⟨by rw [e2]; rfl, q2⟩
    obtain ⟨o1, f1⟩ := Option.isSome_iff_exists.mp hi.2.1
    obtain ⟨o2, f2⟩ := Option.isSome_iff_exists.mp hj.2.1
    exact I.dj i j o1 o2 ne f1 f2 l hi.2.2 hj.2.2
  · obtain ⟨i, z⟩ := own_has.mp h
    exact I.av l (own_has.mpr ⟨i, (HasF_frz z).2⟩) q
end
section
variable {α β : Type} {q : Bool} {S : Sto} {A : Set'} {r : Rho} {s : VEnv} {Fs : Nat → List Nat} {B : List Nat}
/-- from slots that are frozen first -/
theorem Sim.frz0 {R : RT α β} {x : VRes α} {y : Res β} (h : Sim R q S A r (frzS s B) (minusF Fs B) x y) : Sim R q S A r s Fs x y := by
  have ow : ∀ l, Own (frzS s B) (minusF Fs B) l → Own s Fs l := fun l z => by
    obtain ⟨i, z⟩ := own_has.mp z
    exact own_has.mpr ⟨i, (HasF_frz z).2⟩
  have ot : ∀ {S' : Sto} {s' : VEnv} {Fs' : Nat → List Nat} {Fo : List Nat}, Out q S A r (frzS s B) (minusF Fs B) S' s' Fs' Fo → Out q S A r s Fs S' s' Fs' Fo := fun o =>
    ⟨o.fr.mono fun l _ z => ⟨z.1, ow l z.2⟩, o.inv, o.nd, o.av, fun l z => (o.n1 l z).imp (ow l) id, fun i l z => (o.n2 i l z).imp (fun w => (HasF_frz w).2) id⟩
  cases x with
  | ok a s' =>
    obtain ⟨b, S', Fs', Fo, e, o, k⟩ := h
    exact ⟨b, S', Fs', Fo, e, ot o, k⟩
  | exc c s' =>
    obtain ⟨S', Fs', e, o⟩ := h
    exact ⟨S', Fs', e, ot o⟩
  | bad => exact trivial
end
end Vl
end

section
set_option linter.all false
/-! Vr7: borrowing. -/
namespace Vl
open PySem Ev
section
variable {T : Tx} {clv : Nat → List Ow → CRes} {clh : Nat → List Va → Sto → Res Va} {S : Sto} {A : Set'} {r : Rho} {s : VEnv} {Fs : Nat → List Nat}
theorem RepO.sh_nil {U : Set'} {v : Va} {d : D} {F : List Nat} (h : RepO S U v (.sh d) F) : F = [] ∧ Sh S U v d := by
  cases h with
  | sh k => exact ⟨rfl, k⟩
theorem asD_ok {q : Bool} {qb : Bool} {x : VRes Ow} {y : Res Va} (h : Sim RO q S A r s Fs x y) : Sim (RB qb) q S A r s Fs (asD x) y := by
  cases x with
  | bad => exact trivial
  | exc c s' => exact h
  | ok o s' =>
    obtain ⟨b, S', Fs', Fo, e, w, R⟩ := h
    cases hl : isLso o with
    | false => exact ⟨b, S', Fs', Fo, e, w, o, Fo, R, rfl, hl, fun _ l z => z⟩
    | true =>
      refine ⟨b, S', Fs', [], e, w.letgo, .sh (frz o), [], .sh (R.frz (fun l z => ?_) (fun l z y => ?_)), rfl, rfl, fun _ l z => by simp at z⟩
      · rcases z with (z | z) | z
        · exact .inl (.inl z)
        · simp at z
        · exact .inr z
      · rcases y with (y | y) | y
        · exact w.av l z y
        · simp at y
        · exact w.inv.av l y (.inr z)
theorem bor_ok {a : E} {qb : Bool} (I : Inv S A r s Fs) (ih : Sim RO (quiet a) S A r s Fs (vE T clv a s) (evE T clh a r S)) (hq : qb = true ∨ owned a s = false) : Sim (RB qb) (quiet a) S A r s Fs (bor T a (vE T clv a) s) (evE T clh a r S) := by
  unfold bor
  cases ep : pathOf a with
  | none => exact asD_ok ih
  | some q =>
    dsimp only
    cases er : readP T s q with
    | none => exact asD_ok ih
    | some o =>
      obtain ⟨v, F1, G, k1, k2, k3, k4, _⟩ := path_ev (cl := clh) I ep er
      cases hls : isLso o with
      | true =>
        dsimp only
        rw [hls, if_pos rfl]
        have hF1 : ∀ l ∈ F1, HasF s Fs q.1 l := fun l z => ⟨k4, k3.symm.subset (List.mem_append_left _ z)⟩
        refine Sim.frz0 (B := [q.1]) ⟨v, S, minusF Fs [q.1], [], k1, Out.refl (I.frz [q.1]), .sh (frz o), [], .sh (k2.frz (fun l z => ?_) (fun l z y => ?_)), rfl, rfl, fun _ l z => by simp at z⟩
        · rcases z with (z | z) | z
          · exact .inl z
          · simp at z
          · obtain ⟨i, z⟩ := own_has.mp z
            exact .inr (own_has.mpr ⟨i, (HasF_frz z).2⟩)
        · rcases y with (y | y) | y
          · exact I.av l (own_has.mpr ⟨q.1, hF1 l z⟩) y
          · simp at y
          · obtain ⟨i, y⟩ := own_has.mp y
            have y2 := HasF_frz y
            have hne : i ≠ q.1 := fun e => y2.1 (by rw [e]; simp)
            have h1 := hF1 l z
            obtain ⟨o1, e1⟩ := Option.isSome_iff_exists.mp h1.1
            obtain ⟨o2, e2⟩ := Option.isSome_iff_exists.mp y2.2.1
            exact I.dj i q.1 o2 o1 hne e2 e1 l y2.2.2 h1.2
      | false =>
      dsimp only
      rw [hls, if_neg (by simp)]
      refine ⟨v, S, Fs, [], k1, Out.refl I, o, F1, k2.weak fun l z => ?_, rfl, hls, fun hb l hl => ?_⟩
      · rcases z with (z | z) | z
        · exact .inl z
        · simp at z
        · exact .inr z
      · rcases hq with hq | hq
        · rw [hq] at hb; cases hb
        · exfalso
          unfold owned at hq
          rw [ep] at hq
          obtain ⟨i, p⟩ := q
          dsimp only at hq k4
          unfold readP at er
          dsimp only at er
          cases e0 : slotO s i with
          | none => rw [e0] at k4; cases k4
          | some o0 =>
            rw [e0] at hq er
            have er : getP T.fl o0 p = some o := er
            cases o0 with
            | sh d =>
              cases p with
              | nil =>
                rw [getP_nil] at er
                cases er
                rw [(RepO.sh_nil k2).1] at hl
                simp at hl
              | cons f p => cases er
            | _ => simp [isSh] at hq
theorem not_stale {a b : E} (h : ¬ (stale a b s = true)) : quiet b = true ∨ owned a s = false := by
  unfold stale at h
  cases e1 : quiet b with
  | true => exact .inl rfl
  | false =>
    cases e2 : owned a s with
    | false => exact .inr rfl
    | true => rw [e1, e2] at h; simp at h
end
end Vl
end

section
set_option linter.all false
/-! Vr8: operators. -/
namespace Vl
open PySem Ev
section
variable {T : Tx} {clv : Nat → List Ow → CRes} {clh : Nat → List Va → Sto → Res Va} {S : Sto} {A : Set'} {r : Rho} {s : VEnv} {Fs : Nat → List Nat} {a b c : E}
/-- the promise of the recursion -/
def IHE (T : Tx) (clv : Nat → List Ow → CRes) (clh : Nat → List Va → Sto → Res Va) (a : E) : Prop := ∀ {S : Sto} {A : Set'} {r : Rho} {s : VEnv} {Fs : Nat → List Nat}, Inv S A r s Fs → Sim RO (quiet a) S A r s Fs (vE T clv a s) (evE T clh a r S)
theorem one_ok {α β : Type} {R : RT α β} {k : D → VEnv → VRes α} {kr : Va → Sto → Res β} (m : Mono R) (I : Inv S A r s Fs) (iha : IHE T clv clh a)
    (hk : ∀ {S2 : Sto} {A2 : Set'} {s2 : VEnv} {Fs2 : Nat → List Nat} {v : Va} {x : D}, Inv S2 A2 r s2 Fs2 → Bo S2 (UA A2 s2 Fs2) v x → Sim R true S2 A2 r s2 Fs2 (k x s2) (kr v S2)) :
    Sim R (quiet a) S A r s Fs ((bor T a (vE T clv a) s).bind k) ((evE T clh a r S).bind kr) := by
  have h := Sim.bind (R2 := R) (q2 := true) (k := k) (kr := kr) m (bor_ok (qb := true) I (iha I) (.inl rfl)) fun x s1 v S1 Fs1 F1 _ o R1 => hk o.inv R1.bo
  exact h.loud fun z => by rw [z]; rfl
theorem two_ok {α β : Type} {R : RT α β} {k : D → D → VEnv → VRes α} {kr : Va → Va → Sto → Res β} (m : Mono R) (I : Inv S A r s Fs) (iha : IHE T clv clh a) (ihb : IHE T clv clh b) (hst : ¬ (stale a b s = true))
    (hk : ∀ {S2 : Sto} {A2 : Set'} {s2 : VEnv} {Fs2 : Nat → List Nat} {v u : Va} {x y : D}, Inv S2 A2 r s2 Fs2 → Bo S2 (UA A2 s2 Fs2) v x → Bo S2 (UA A2 s2 Fs2) u y → Sim R true S2 A2 r s2 Fs2 (k x y s2) (kr v u S2)) :
    Sim R (quiet a && quiet b) S A r s Fs ((bor T a (vE T clv a) s).bind fun x s1 => (bor T b (vE T clv b) s1).bind fun y s2 => k x y s2) ((evE T clh a r S).bind fun v S1 => (evE T clh b r S1).bind fun u S2 => kr v u S2) := by
  refine Sim.bind (q2 := quiet b) m (bor_ok (qb := quiet b) I (iha I) (not_stale hst)) fun x s1 v S1 Fs1 F1 _ o R1 => ?_
  have h := Sim.bind (R2 := R) (q2 := true) (k := fun y s2 => k x y s2) (kr := fun u S2 => kr v u S2) m (bor_ok (qb := true) o.inv (ihb o.inv) (.inl rfl)) fun y s2 u S2 Fs2 F2 _ o2 R2 => hk o2.inv (R1.over o.inv o2) R2.bo
  exact h.loud fun z => by rw [z]; rfl
theorem sim_sca {v : Va} {d : D} (I : Inv S A r s Fs) (h : Sh S (UA A s Fs) v d) : Sim RO true S A r s Fs (.ok (.sh d) s) (.ok v S) := Sim.pure I (.sh (Sh.move (W := fun _ => False) Fr.refl (fun _ z => z.elim) (fun l _ z => by
  rcases z with (z | z) | z
  · exact .inl z
  · simp at z
  · exact .inr z) h))
theorem sim_new {xs : List D} {ys : List Va} (I : Inv S A r s Fs) (h : ShL S (UA A s Fs) ys xs) : Sim RO true S A r s Fs (.ok (.lst xs) s) (new (.lst ys) S) :=
  ⟨_, _, Fs, [S.length], rfl, Out.alloc I, .lst (by simp) (ShL.move (W := fun _ => False) Fr.new (fun _ z => z.elim) (fun l hl z => by
    rcases z with (z | z) | z
    · exact .inl z
    · rw [List.mem_singleton.mp z] at hl; omega
    · exact .inr z) h)⟩
theorem sim_newT {xs : List D} {ys : List Va} (I : Inv S A r s Fs) (h : ShL S (UA A s Fs) ys xs) : Sim RO true S A r s Fs (.ok (.sh (.tup xs)) s) (new (.tup ys) S) :=
  ⟨_, _, Fs, [], rfl, Out.alloc0 I, .sh (.tup (by simp) (fun z => by
    rcases z with (z | z) | z
    · have := I.old _ z; omega
    · simp at z
    · have := I.lt z; omega) (ShL.move (W := fun _ => False) Fr.new (fun _ z => z.elim) (fun l hl z => by
    rcases z with (z | z) | z
    · exact .inl z
    · simp at z
    · exact .inr z) h))⟩
theorem Bo.lst {U : Set'} {v : Va} {xs : List D} (h : Bo S U v (.lst xs)) : ∃ l ys, v = .loc l ∧ S[l]? = some (.lst ys) ∧ ShL S U ys xs := by
  obtain ⟨o, F, R, e, hl⟩ := h
  cases R with
  | sh k =>
    cases (show D.lst xs = _ from e)
    cases k with
    | lst e1 n1 t => exact ⟨_, _, rfl, e1, t⟩
  | lst e1 t =>
    cases (show D.lst xs = .lst _ from e)
    exact ⟨_, _, rfl, e1, t⟩
  | dct e1 t => cases (show D.lst xs = .dct _ from e)
  | ins e1 t => cases (show D.lst xs = .ins _ _ from e)
  | lso e1 t => cases hl
theorem Bo.tup {U : Set'} {v : Va} {xs : List D} (h : Bo S U v (.tup xs)) : ∃ l ys, v = .loc l ∧ S[l]? = some (.tup ys) ∧ ShL S U ys xs ∧ Sh S U v (.tup xs) := by
  obtain ⟨o, F, R, e, hl⟩ := h
  cases R with
  | sh k =>
    cases (show D.tup xs = _ from e)
    cases k with
    | tup e1 n1 t => exact ⟨_, _, rfl, e1, t, .tup e1 n1 t⟩
  | lst e1 t => cases (show D.tup xs = .lst _ from e)
  | dct e1 t => cases (show D.tup xs = .dct _ from e)
  | ins e1 t => cases (show D.tup xs = .ins _ _ from e)
  | lso e1 t => cases hl
theorem Bo.dct {U : Set'} {v : Va} {xs : List (Int × D)} (h : Bo S U v (.dct xs)) : ∃ l ys, v = .loc l ∧ S[l]? = some (.dct ys) ∧ ShK S U ys xs := by
  obtain ⟨o, F, R, e, hl⟩ := h
  cases R with
  | sh k =>
    cases (show D.dct xs = _ from e)
    cases k with
    | dct e1 n1 t => exact ⟨_, _, rfl, e1, t⟩
  | lst e1 t => cases (show D.dct xs = .lst _ from e)
  | dct e1 t =>
    cases (show D.dct xs = .dct _ from e)
    exact ⟨_, _, rfl, e1, t⟩
  | ins e1 t => cases (show D.dct xs = .ins _ _ from e)
  | lso e1 t => cases hl
theorem RepG.frzU {U : Set'} : ∀ {ys : List (Nat × Va)} {fs : Ow} {F : List Nat}, RepG S U ys fs F → ∃ U', ShF S U' ys (frzF fs) := fun {ys fs F} h => ⟨fun l => U l ∧ l ∉ F, h.frz (fun l q => q.1) fun l q z => z.2 q⟩
theorem Bo.ins {U : Set'} {v : Va} {c : Nat} {xs : List (Nat × D)} (h : Bo S U v (.ins c xs)) : ∃ l dx ys U', v = .loc l ∧ S[l]? = some (.ins c dx ys) ∧ ShF S U' ys xs := by
  obtain ⟨U', k⟩ := h.sh
  cases k with
  | ins e1 n1 t => exact ⟨_, _, _, _, rfl, e1, t⟩
theorem ShK.look {U : Set'} {k : Int} : ∀ {ys : List (Int × Va)} {xs : List (Int × D)} {d : D}, ShK S U ys xs → dlook k xs = some d → ∃ v, look k ys = some v ∧ Sh S U v d
  | _, _, _, .nil, e => by cases e
  | _, _, d, .cons (k := j) h t, e => by
    unfold dlook at e
    unfold Ev.look
    by_cases q : j = k
    · rw [if_pos q] at e ⊢
      cases e
      exact ⟨_, rfl, h⟩
    · rw [if_neg q] at e ⊢
      exact ShK.look t e
theorem ShF.look {U : Set'} {k : Nat} : ∀ {ys : List (Nat × Va)} {xs : List (Nat × D)} {d : D}, ShF S U ys xs → dfld k xs = some d → ∃ v, lookF k ys = some v ∧ Sh S U v d
  | _, _, _, .nil, e => by cases e
  | _, _, d, .cons (k := j) h t, e => by
    unfold dfld at e
    unfold Ev.lookF
    by_cases q : j = k
    · rw [if_pos q] at e ⊢
      cases e
      exact ⟨_, rfl, h⟩
    · rw [if_neg q] at e ⊢
      exact ShF.look t e
theorem ShF.nolook {U : Set'} {k : Nat} : ∀ {ys : List (Nat × Va)} {xs : List (Nat × D)}, ShF S U ys xs → dfld k xs = none → lookF k ys = none
  | _, _, .nil, e => rfl
  | _, _, .cons (k := j) h t, e => by
    unfold dfld at e
    unfold Ev.lookF
    by_cases q : j = k
    · rw [if_pos q] at e; cases e
    · rw [if_neg q] at e ⊢
      exact ShF.nolook t e
theorem ShL.nget {U : Set'} {vs : List Va} {ds : List D} {i : Nat} (h : ShL S U vs ds) (e : ds[i]? = none) : vs[i]? = none := by
  rw [List.getElem?_eq_none_iff] at e ⊢
  rw [h.len]; exact e
theorem ShL.fm {U : Set'} {vs : List Va} {ds : List D} (h : ShL S U vs ds) : ∀ is : List Nat, ShL S U (is.filterMap fun i => vs[i]?) (is.filterMap fun i => ds[i]?)
  | [] => .nil
  | i :: is => by
    cases e : ds[i]? with
    | none =>
      rw [List.filterMap_cons_none (h.nget e), List.filterMap_cons_none e]
      exact ShL.fm h is
    | some d =>
      obtain ⟨v, e1, k⟩ := h.get e
      rw [List.filterMap_cons_some e1, List.filterMap_cons_some e]
      exact .cons k (ShL.fm h is)
theorem ShL.pick {U : Set'} {vs : List Va} {ds : List D} (h : ShL S U vs ds) (lo st : Int) : ShL S U (Ev.pick vs lo st) (Ev.pick ds lo st) := by
  unfold Ev.pick
  rw [h.len]
  exact h.fm _
theorem ShL.atI {U : Set'} {vs : List Va} {ds : List D} {i : Int} {d : D} (h : ShL S U vs ds) (e : Ev.atI ds i = some d) : ∃ v, Ev.atI vs i = some v ∧ Sh S U v d := by
  unfold Ev.atI at e ⊢
  rw [h.len]
  cases q : ixN ds.length i with
  | none => rw [q] at e; cases e
  | some j =>
    rw [q] at e
    exact h.get e
theorem ShL.allFlat {U : Set'} : ∀ {vs : List Va} {ds : List D}, ShL S U vs ds → vs.all flat = ds.all dFlat
  | _, _, .nil => rfl
  | _, _, .cons a t => by rw [List.all_cons, List.all_cons, a.flat_eq, ShL.allFlat t]
theorem ShL.anyEq {U U' : Set'} {v : Va} {x : D} (k : Sh S U' v x) (g : dFlat x = true) : ∀ {vs : List Va} {ds : List D}, ShL S U vs ds → ds.all dFlat = true → (vs.any fun z => eqF z v) = (ds.any fun z => dEqF z x)
  | _, _, .nil, _ => rfl
  | _, _, .cons a t, f => by
    rw [List.all_cons, Bool.and_eq_true] at f
    rw [List.any_cons, List.any_cons, ShL.anyEq k g t f.2]
    congr 1
    have f1 := f.1
    cases a <;> first | (cases f1; done) | skip
    all_goals (cases k <;> first | (cases g; done) | rfl)
theorem bop_ok {o : Bop} {v u : Va} {x y : D} (I : Inv S A r s Fs) (h1 : Bo S (UA A s Fs) v x) (h2 : Bo S (UA A s Fs) u y) : Sim RO true S A r s Fs (oksO (vbop o x y) s) (bop o v u S) := by
  cases e : vbop o x y with
  | none => exact trivial
  | some w =>
    show Sim RO true S A r s Fs (.ok w s) _
    unfold vbop at e
    split at e
    all_goals first
      | (cases e; done)
      | skip
    · obtain ⟨_, k1⟩ := h1.sh; obtain ⟨_, k2⟩ := h2.sh
      cases k1; cases k2; cases e; exact sim_sca I .int
    · obtain ⟨_, k1⟩ := h1.sh; obtain ⟨_, k2⟩ := h2.sh
      cases k1; cases k2; cases e; exact sim_sca I .int
    · obtain ⟨_, k1⟩ := h1.sh; obtain ⟨_, k2⟩ := h2.sh
      cases k1; cases k2
      split at e
      · rename_i hc; cases e; simp only [bop, hc, if_true]; exact sim_sca I .int
      · cases e
    · obtain ⟨_, k1⟩ := h1.sh; obtain ⟨_, k2⟩ := h2.sh
      cases k1; cases k2
      split at e
      · rename_i hc; cases e; simp only [bop]; rw [if_pos hc]; exact sim_sca I .int
      · cases e
    · obtain ⟨_, k1⟩ := h1.sh; obtain ⟨_, k2⟩ := h2.sh
      cases k1; cases k2
      split at e
      · rename_i hc; cases e; simp only [bop]; rw [if_pos hc]; exact sim_sca I .int
      · cases e
    · obtain ⟨_, k1⟩ := h1.sh; obtain ⟨_, k2⟩ := h2.sh
      cases k1; cases k2
      split at e
      · rename_i hc; cases e; simp only [bop]; rw [if_pos hc]; exact sim_sca I .int
      · cases e
    · obtain ⟨l, ys, rfl, e1, t1⟩ := h1.lst
      obtain ⟨m, zs, rfl, e2, t2⟩ := h2.lst
      split at e
      · rename_i hc; cases e
        simp only [bop, getW, e1, e2]
        rw [t1.len, t2.len, if_pos hc]
        exact sim_new I (t1.app t2)
      · cases e
    · obtain ⟨l, ys, rfl, e1, t1⟩ := h1.lst
      obtain ⟨_, k2⟩ := h2.sh
      cases k2
      split at e
      · rename_i hc; cases e
        simp only [bop, getW, e1]
        rw [t1.len, if_pos hc]
        exact sim_new I (t1.rep _)
      · cases e
theorem sim_bl {b : Bool} (I : Inv S A r s Fs) : Sim RO true S A r s Fs (.ok (.sh (.bl b)) s) (.ok (.bl b) S) := sim_sca I .bl
theorem sim_int {b : Int} (I : Inv S A r s Fs) : Sim RO true S A r s Fs (.ok (.sh (.int b)) s) (.ok (.int b) S) := sim_sca I .int
theorem cop_eq {U : Set'} {o : Cop} {v u : Va} {x y : D} {b : Bool} (h1 : Bo S U v x) (h2 : Bo S U u y) (e : vcop o x y = some b) : cop o v u S = .ok (.bl b) S := by
  cases o
  case eq | ne =>
    obtain ⟨U1, k1⟩ := h1.sh; obtain ⟨U2, k2⟩ := h2.sh
    have q : eqS S v u = deq x y := by
      unfold eqS deq
      rw [toD_eq 12 k1, toD_eq 12 k2]
      try rfl
    unfold vcop at e
    simp only [cop, q]
    cases e2 : deq x y with
    | none => rw [e2] at e; cases e
    | some c => rw [e2] at e; cases e; rfl
  case isin | notin =>
    unfold vcop at e
    dsimp only at e
    cases e2 : dLT y with
    | none => rw [e2] at e; cases e
    | some ys =>
      rw [e2] at e
      dsimp only at e
      obtain ⟨zs, e3, t⟩ := h2.getLT e2
      obtain ⟨U1, k1⟩ := h1.sh
      split at e
      · rename_i hc
        cases e
        rw [Bool.and_eq_true] at hc
        simp only [cop, e3]
        rw [k1.flat_eq, t.allFlat, hc.1, hc.2, ShL.anyEq k1 hc.1 t hc.2]
        rfl
      · cases e
  all_goals
    unfold vcop at e
    obtain ⟨_, k1⟩ := h1.sh; obtain ⟨_, k2⟩ := h2.sh
    cases k1 <;> first | (cases e; done) | skip
    cases k2 <;> first | (cases e; done) | skip
    cases e
    rfl
theorem cop_ok {o : Cop} {v u : Va} {x y : D} (I : Inv S A r s Fs) (h1 : Bo S (UA A s Fs) v x) (h2 : Bo S (UA A s Fs) u y) : Sim RO true S A r s Fs (oksB (vcop o x y) s) (cop o v u S) := by
  cases e : vcop o x y with
  | none => exact trivial
  | some b =>
    rw [cop_eq h1 h2 e]
    exact sim_bl I
theorem isC_ok {w : Va} {n : Bool} {v : Va} {x : D} (I : Inv S A r s Fs) (h1 : Bo S (UA A s Fs) v x) : Sim RO true S A r s Fs (oksB (visC w n x) s) (isC w n v S) := by
  obtain ⟨_, k1⟩ := h1.sh
  cases w <;> first | exact trivial | skip
  · cases k1 <;> exact sim_bl I
  · cases k1 <;> first | exact trivial | exact sim_bl I
theorem inStrs_ok {xs : List Str} {v : Va} {x : D} (I : Inv S A r s Fs) (h1 : Bo S (UA A s Fs) v x) : Sim RO true S A r s Fs (if dFlat x then .ok (.sh (.bl (xs.any fun z => dEqF (.str z) x))) s else .bad) (inStrs xs v S) := by
  obtain ⟨_, k1⟩ := h1.sh
  unfold inStrs
  rw [k1.flat_eq]
  cases k1 <;> first | exact trivial | exact sim_bl I
theorem idx_ok {v u : Va} {x y : D} (I : Inv S A r s Fs) (h1 : Bo S (UA A s Fs) v x) (h2 : Bo S (UA A s Fs) u y) : Sim RO true S A r s Fs (match vidx x y with | some d => .ok (.sh d) s | none => .bad) (idx v u S) := by
  cases e : vidx x y with
  | none => exact trivial
  | some d =>
    dsimp only
    obtain ⟨_, k2⟩ := h2.sh
    unfold vidx at e
    cases k2 <;> first | (cases e; done) | skip
    dsimp only at e
    unfold idx
    dsimp only
    cases e2 : dLT x with
    | some xs =>
      rw [e2] at e
      dsimp only at e
      unfold dLT at e2
      cases e3 : dL x with
      | some zs =>
        rw [e3] at e2
        cases e2
        obtain ⟨ys, g1, t⟩ := h1.getL e3
        obtain ⟨w, e5, k⟩ := t.atI e
        rw [g1]
        simp only [e5]
        exact sim_sca I k
      | none =>
        rw [e3] at e2
        obtain ⟨ys, g1, t⟩ := h1.getT (show dT x = some xs from e2)
        obtain ⟨w, e5, k⟩ := t.atI e
        rw [h1.noL e3, g1]
        simp only [e5]
        exact sim_sca I k
    | none =>
      rw [e2] at e
      cases x <;> first | (cases e; done) | skip
      obtain ⟨l, ys, rfl, e1, t⟩ := h1.dct
      obtain ⟨w, e5, k⟩ := t.look e
      simp only [getL, getT, e1, e5]
      exact sim_sca I k
theorem sl_ok {v : Va} {x : D} {lo hi : Option Int} (I : Inv S A r s Fs) (h1 : Bo S (UA A s Fs) v x) : Sim RO true S A r s Fs (match dL x with | some xs => .ok (.lst (cut xs lo hi)) s | none => .bad) (sl v lo hi S) := by
  cases e : dL x with
  | none => exact trivial
  | some xs =>
    obtain ⟨ys, g1, t⟩ := h1.getL e
    unfold Ev.sl
    rw [g1]
    exact sim_new I (t.cut lo hi)
theorem rev_ok {v : Va} {x : D} (I : Inv S A r s Fs) (h1 : Bo S (UA A s Fs) v x) : Sim RO true S A r s Fs (match dL x with | some xs => .ok (.lst xs.reverse) s | none => .bad) (rev v S) := by
  cases e : dL x with
  | none => exact trivial
  | some xs =>
    obtain ⟨ys, g1, t⟩ := h1.getL e
    unfold Ev.rev
    rw [g1]
    exact sim_new I t.rev
theorem sls_ok {v : Va} {x : D} {lo st : Option Int} (I : Inv S A r s Fs) (h1 : Bo S (UA A s Fs) v x) : Sim RO true S A r s Fs (match dL x, lo, st with | some xs, some l, some k => if k ≠ 0 then .ok (.lst (pick xs l k)) s else .bad | _, _, _ => .bad) (sls v lo st S) := by
  cases e : dL x with
  | none => exact trivial
  | some xs =>
    obtain ⟨ys, g1, t⟩ := h1.getL e
    unfold Ev.sls
    rw [g1]
    cases lo <;> first | exact trivial | skip
    cases st <;> first | exact trivial | skip
    rename_i l k
    dsimp only
    by_cases q : k ≠ 0
    · rw [if_pos q, if_pos q]
      exact sim_new I (t.pick l k)
    · rw [if_neg q, if_neg q]
      exact trivial
theorem fld_ok {v : Va} {x : D} {f : Nat} (I : Inv S A r s Fs) (h1 : Sh S (UA A s Fs) v x) : Sim RO true S A r s Fs (match fldD T x f with | some d => .ok (.sh d) s | none => .bad) (fld T v f S) := by
  cases e : fldD T x f with
  | none => exact trivial
  | some d =>
    unfold fldD at e
    cases h1 <;> first | (cases e; done) | skip
    rename_i e1 _ t
    dsimp only at e
    split at e
    · rename_i hc
      obtain ⟨w, e5, k⟩ := t.look e
      simp only [fld, e1, hc, e5, if_true]
      exact sim_sca I k
    · cases e
theorem isTy_ok {v : Va} {x : D} {t : Ty} (I : Inv S A r s Fs) (h1 : Bo S (UA A s Fs) v x) : Sim RO true S A r s Fs (oksB (visTy T t x) s) (isTy T t v S) := by
  obtain ⟨_, k1⟩ := h1.sh
  cases k1 <;> try (first | exact trivial | exact sim_bl I)
  · rename_i e1 _ _
    simp only [isTy, tyOf, e1]
    have q : ∀ xs, visTy T t (.lst xs) = some (decide (Ty.list = t)) := fun xs => by simp [visTy, dTy]
    rw [q]; exact sim_bl I
  · rename_i e1 _ _
    simp only [isTy, tyOf, e1]
    have q : ∀ xs, visTy T t (.tup xs) = some (decide (Ty.tuple = t)) := fun xs => by simp [visTy, dTy]
    rw [q]; exact sim_bl I
  · rename_i e1 _ _
    simp only [isTy, tyOf, e1]
    have q : ∀ xs, visTy T t (.dct xs) = some (decide (Ty.dict = t)) := fun xs => by simp [visTy, dTy]
    rw [q]; exact sim_bl I
  · rename_i c dx ys xs e1 _ _
    simp only [isTy, tyOf, e1]
    by_cases q : (T.sub c c).isSome = true
    · have q2 : visTy T t (.ins c xs) = some false := by simp [visTy, q]
      rw [q2, if_pos q]; exact sim_bl I
    · have q2 : visTy T t (.ins c xs) = none := by simp only [visTy, if_neg q]
      rw [q2]; exact trivial
theorem isCls_ok {v : Va} {x : D} {c : Nat} (I : Inv S A r s Fs) (h1 : Bo S (UA A s Fs) v x) : Sim RO true S A r s Fs (oksB (visCls T c x) s) (isCls T c v S) := by
  obtain ⟨_, k1⟩ := h1.sh
  cases k1 <;> try (first | exact trivial | exact sim_bl I)
  · rename_i e1 _ _
    simp only [isCls, e1]; exact sim_bl I
  · rename_i e1 _ _
    simp only [isCls, e1]; exact sim_bl I
  · rename_i e1 _ _
    simp only [isCls, e1]; exact sim_bl I
  · rename_i c dx ys xs e1 _ _
    simp only [isCls, e1, visCls]
    cases T.sub c _ with
    | none => exact trivial
    | some b => exact sim_bl I
end
end Vl
end

section
set_option linter.all false
/-! Vr9: builtins, list methods. -/
namespace Vl
open PySem Ev
inductive BoL (S : Sto) (U : Set') : List Va → List D → Prop where
  | nil : BoL S U [] []
  | cons {v : Va} {d : D} {vs : List Va} {ds : List D} : Bo S U v d → BoL S U vs ds → BoL S U (v :: vs) (d :: ds)
section
variable {T : Tx} {S : Sto} {A : Set'} {r : Rho} {s : VEnv} {Fs : Nat → List Nat}
theorem bi1L {U : Set'} {vs : List Va} {xs zs : List D} (h : BoL S U vs xs) (e : d1L xs = some zs) : ∃ v ys, vs = [v] ∧ getL S v = some ys ∧ ShL S U ys zs := by
  unfold d1L at e
  split at e
  · cases h with
    | cons a t =>
      cases t
      obtain ⟨ys, g, k⟩ := a.getL e
      exact ⟨_, ys, rfl, g, k⟩
  · cases e
theorem bi1LT {U : Set'} {vs : List Va} {xs zs : List D} (h : BoL S U vs xs) (e : d1LT xs = some zs) : ∃ v ys, vs = [v] ∧ (getL S v).or (getT S v) = some ys ∧ ShL S U ys zs := by
  unfold d1LT at e
  split at e
  · cases h with
    | cons a t =>
      cases t
      obtain ⟨ys, g, k⟩ := a.getLT e
      exact ⟨_, ys, rfl, g, k⟩
  · cases e
theorem bi1I {U : Set'} {vs : List Va} {xs : List D} {ns : List Int} (h : BoL S U vs xs) (e : (d1L xs).bind dInts = some ns) : ∃ v, vs = [v] ∧ (getL S v).bind intsOf = some ns := by
  cases e1 : d1L xs with
  | none => rw [e1] at e; cases e
  | some zs =>
    rw [e1] at e
    obtain ⟨v, ys, rfl, g, k⟩ := bi1L h e1
    exact ⟨v, rfl, by rw [g]; exact k.ints_eq.trans e⟩
theorem bi1B {U : Set'} {vs : List Va} {xs : List D} {ns : List Bool} (h : BoL S U vs xs) (e : (d1L xs).bind dBls = some ns) : ∃ v, vs = [v] ∧ (getL S v).bind blsOf = some ns := by
  cases e1 : d1L xs with
  | none => rw [e1] at e; cases e
  | some zs =>
    rw [e1] at e
    obtain ⟨v, ys, rfl, g, k⟩ := bi1L h e1
    exact ⟨v, rfl, by rw [g]; exact k.bls_eq.trans e⟩
theorem ran_eq (i : Int) (n : Nat) : ranged i n = ((List.range n).map fun k => i + (k : Nat) * 1).map Va.int := by
  unfold ranged
  rw [List.map_map]
  apply List.map_congr_left
  intro k _
  simp
theorem ranI_eq (i st : Int) (n : Nat) : ranI i st n = ((List.range n).map fun k => i + (k : Nat) * st).map D.int := by
  unfold ranI
  rw [List.map_map]
  rfl
theorem min2_ok {v u : Va} {x y : D} (I : Inv S A r s Fs) (a : Bo S (UA A s Fs) v x) (a2 : Bo S (UA A s Fs) u y) : Sim RO true S A r s Fs (oksO (vmin2 x y) s) (biMin2 [v, u] S) := by
  unfold vmin2
  split
  · obtain ⟨_, k⟩ := a.sh
    obtain ⟨_, k2⟩ := a2.sh
    cases k
    cases k2
    exact sim_int I
  · rename_i xs ys
    obtain ⟨l, us, rfl, e1, k1, h1⟩ := a.tup
    obtain ⟨m, ws, rfl, e2, k2, h2⟩ := a2.tup
    cases e3 : dInts xs with
    | none => exact trivial
    | some is =>
      cases e4 : dInts ys with
      | none => exact trivial
      | some js =>
        have q1 : intsOf us = some is := k1.ints_eq.trans e3
        have q2 : intsOf ws = some js := k2.ints_eq.trans e4
        simp only [biMin2, getT, e1, e2, Option.bind, q1, q2]
        by_cases hc : lexLt js is = true
        · simp only [hc, if_true]
          exact sim_sca I h2
        · simp only [hc]
          exact sim_sca I h1
  · exact trivial
theorem bi_ok {b : Bi} {vs : List Va} {xs : List D} (I : Inv S A r s Fs) (h : BoL S (UA A s Fs) vs xs) : Sim RO true S A r s Fs (oksO (vbi b xs) s) (bi b vs S) := by
  cases b
  case len =>
    simp only [vbi, bi]
    cases e : d1LT xs with
    | none => exact trivial
    | some zs =>
      obtain ⟨v, ys, rfl, g, k⟩ := bi1LT h e
      simp only [biLT, g, k.len]
      exact sim_int I
  case sum =>
    simp only [vbi, bi]
    cases e : (d1L xs).bind dInts with
    | none => exact trivial
    | some zs =>
      obtain ⟨v, rfl, g⟩ := bi1I h e
      simp only [biI, g]
      exact sim_int I
  case abs =>
    simp only [vbi, bi]
    split
    · cases h with
      | cons a t =>
        cases t
        obtain ⟨_, k⟩ := a.sh
        cases k
        exact sim_int I
    · exact trivial
  case min =>
    simp only [vbi, bi, biMin]
    split
    · cases h with
      | cons a t =>
        cases t with
        | cons a2 t2 =>
          cases t2
          exact min2_ok I a a2
    · rename_i hne
      cases e : (d1L xs).bind dInts with
      | none => exact trivial
      | some zs =>
        obtain ⟨v, rfl, g⟩ := bi1I h e
        cases zs with
        | nil => exact trivial
        | cons n ns =>
          simp only [g]
          exact sim_int I
  case min2 =>
    simp only [vbi, bi]
    split
    · cases h with
      | cons a t =>
        cases t with
        | cons a2 t2 =>
          cases t2
          exact min2_ok I a a2
    · exact trivial
  case max =>
    simp only [vbi, bi]
    split
    · cases h with
      | cons a t =>
        cases t with
        | cons a2 t2 =>
          cases t2
          obtain ⟨_, k⟩ := a.sh
          obtain ⟨_, k2⟩ := a2.sh
          cases k
          cases k2
          exact sim_int I
    · exact trivial
  case sorted =>
    simp only [vbi, bi]
    cases e : (d1L xs).bind dInts with
    | none => exact trivial
    | some zs =>
      obtain ⟨v, rfl, g⟩ := bi1I h e
      simp only [biI, g]
      exact sim_new I ShL.ints
  case sortedSet =>
    simp only [vbi, bi]
    cases e : (d1L xs).bind dInts with
    | none => exact trivial
    | some zs =>
      obtain ⟨v, rfl, g⟩ := bi1I h e
      simp only [biI, g]
      split
      · exact sim_new I ShL.ints
      · exact trivial
  case list =>
    simp only [vbi, bi]
    cases e : d1LT xs with
    | none => exact trivial
    | some zs =>
      obtain ⟨v, ys, rfl, g, k⟩ := bi1LT h e
      simp only [biLT, g]
      exact sim_new I k
  case tuple =>
    simp only [vbi, bi]
    cases e : d1L xs with
    | none => exact trivial
    | some zs =>
      obtain ⟨v, ys, rfl, g, k⟩ := bi1L h e
      simp only [biL, g]
      exact sim_newT I k
  case any =>
    simp only [vbi, bi]
    cases e : (d1L xs).bind dBls with
    | none => exact trivial
    | some zs =>
      obtain ⟨v, rfl, g⟩ := bi1B h e
      simp only [biB, g]
      exact sim_bl I
  case all =>
    simp only [vbi, bi]
    cases e : (d1L xs).bind dBls with
    | none => exact trivial
    | some zs =>
      obtain ⟨v, rfl, g⟩ := bi1B h e
      simp only [biB, g]
      exact sim_bl I
  case int =>
    simp only [vbi, bi]
    split
    · cases h with
      | cons a t =>
        cases t
        obtain ⟨_, k⟩ := a.sh
        cases k
        exact sim_int I
    · exact trivial
  case rng1 =>
    simp only [vbi, bi]
    split
    · cases h with
      | cons a t =>
        cases t
        obtain ⟨_, k⟩ := a.sh
        cases k
        simp only [biRng1]
        split
        · show Sim RO true S A r s Fs (.ok (.lst _) s) _
          rw [ran_eq, ranI_eq]
          exact sim_new I ShL.ints
        · exact trivial
    · exact trivial
  case rng2 =>
    simp only [vbi, bi]
    split
    · cases h with
      | cons a t =>
        cases t with
        | cons a2 t2 =>
          cases t2
          obtain ⟨_, k⟩ := a.sh
          obtain ⟨_, k2⟩ := a2.sh
          cases k
          cases k2
          simp only [biRng2]
          split
          · show Sim RO true S A r s Fs (.ok (.lst _) s) _
            rw [ran_eq, ranI_eq]
            exact sim_new I ShL.ints
          · exact trivial
    · exact trivial
/-- a list method: what it does to the list at l -/
theorem lm_eq {U : Set'} {m : Lm} {l : Nat} {ys as : List Va} {xs bs zs : List D} {d : D} (hl : S[l]? = some (.lst ys)) (t : ShL S U ys xs) (ta : ShL S U as bs) (e : vlm m xs bs = some (d, zs)) :
    ∃ v ws, (lm m (.loc l) as S = .ok v (S.set l (.lst ws)) ∨ (lm m (.loc l) as S = .ok v S ∧ ws = ys)) ∧ Sh S U v d ∧ ShL S U ws zs := by
  have g : getW S (.loc l) = some (l, ys) := by simp only [getW, hl]
  unfold vlm at e
  split at e
  · rename_i w
    cases ta with
    | cons a ta =>
      cases ta
      split at e
      · rename_i hc
        cases e
        refine ⟨_, _, .inl (by simp only [lm, g, lmAppend]; rw [t.len, if_pos hc]), .non, t.app (.cons a .nil)⟩
      · cases e
  · cases ta with
    | cons a ta =>
      cases ta
      split at e
      · rename_i hc
        cases e
        obtain ⟨l2, us, rfl, e2, t2⟩ := (Bo.of a).lst
        refine ⟨_, _, .inl (by simp only [lm, lmExtend, getW, hl, e2]; rw [t.len, t2.len, if_pos hc]), .non, t.app t2⟩
      · cases e
  · cases ta with
    | cons a ta =>
      cases ta
      cases a
      split at e
      · rename_i ns hn
        split at e
        · rename_i hc
          cases e
          refine ⟨_, _, .inl (by simp only [lm, g, lmRemove, t.ints_eq.trans hn]; rw [if_pos hc]), .non, ShL.ints⟩
        · cases e
      · cases e
  · cases ta
    cases e
    exact ⟨_, _, .inl (by simp only [lm, g, lm0]), .non, t.rev⟩
  · cases ta
    cases e
    exact ⟨_, _, .inl (by simp only [lm, g, lm0]), .non, .nil⟩
  · cases ta
    split at e
    · rename_i w hw
      cases e
      obtain ⟨v, e1, k⟩ := t.get hw
      refine ⟨v, ys.dropLast, .inl (by simp only [lm, g, lmPop]; rw [t.len, e1]), k, ?_⟩
      rw [List.dropLast_eq_take, List.dropLast_eq_take, t.len]
      exact t.take _
    · cases e
  · cases ta with
    | cons a ta =>
      cases ta
      cases a
      split at e
      · rename_i ns hn
        split at e
        · rename_i n hc
          cases e
          exact ⟨_, ys, .inr ⟨by simp only [lm, g, lmB, t.bls_eq.trans hn, hc], rfl⟩, .int, t⟩
        · cases e
      · cases e
  · cases ta with
    | cons a ta =>
      cases ta
      cases a
      split at e
      · rename_i ns hn
        cases e
        exact ⟨_, ys, .inr ⟨by simp only [lm, g, lmB, t.bls_eq.trans hn], rfl⟩, .int, t⟩
      · cases e
  · cases e
end
end Vl
end

section
set_option linter.all false
/-! Vr10: freezing, paths written, calls. -/
namespace Vl
open PySem Ev
section
variable {T : Tx} {S S1 S2 : Sto} {A : Set'} {r : Rho} {s : VEnv} {Fs : Nat → List Nat} {B : List Nat}
/-! ### results without lists -/
def isTupO : Ob → Bool
  | .tup _ => true
  | _ => false
mutual
theorem RepO.kind {U : Set'} : ∀ {v : Va} {o : Ow} {F : List Nat}, RepO S U v o F → ∀ l ∈ F, ∃ b, S[l]? = some b ∧ isTupO b = false
  | _, _, _, .sh h, l, q => by simp at q
  | _, _, _, .lst e h, l, q => by rw [List.mem_singleton.mp q]; exact ⟨_, e, rfl⟩
  | _, _, _, .dct e h, l, q => by rw [List.mem_singleton.mp q]; exact ⟨_, e, rfl⟩
  | _, _, _, .ins e h, l, q => by
    rcases List.mem_cons.mp q with z | z
    · rw [z]; exact ⟨_, e, rfl⟩
    · exact RepG.kind h l z
  | _, _, _, .lso e h, l, q => by
    rcases List.mem_cons.mp q with z | z
    · rw [z]; exact ⟨_, e, rfl⟩
    · exact RepG.kind h l z
theorem RepG.kind {U : Set'} : ∀ {v : List (Nat × Va)} {o : Ow} {F : List Nat}, RepG S U v o F → ∀ l ∈ F, ∃ b, S[l]? = some b ∧ isTupO b = false
  | _, _, _, .nil, l, q => by simp at q
  | _, _, _, .cons h t, l, q => by
    rcases List.mem_append.mp q with z | z
    · exact RepO.kind h l z
    · exact RepG.kind t l z
end
section
variable {U U' : Set'} (hU : ∀ l, U' l → U l ∨ ∃ b, S[l]? = some b ∧ isTupO b = false)
include hU
theorem Sh.sca_up : ∀ {v : Va} {d : D}, Sh S U v d → sca d = true → Sh S U' v d := fun h e => by
  cases h <;> first | (cases e; done) | constructor
theorem ShL.sca_up : ∀ {v : List Va} {d : List D}, ShL S U v d → d.all sca = true → ShL S U' v d
  | _, _, .nil, _ => .nil
  | _, _, .cons h t, e => by
    rw [List.all_cons, Bool.and_eq_true] at e
    exact .cons (h.sca_up hU e.1) (t.sca_up e.2)
theorem Sh.nol_up {v : Va} {d : D} (h : Sh S U v d) (e : nol d = true) : Sh S U' v d := by
  cases h with
  | tup e1 n1 t =>
    refine .tup e1 (fun z => ?_) (t.sca_up hU e)
    rcases hU _ z with z | ⟨b, z1, z2⟩
    · exact n1 z
    · rw [e1] at z1; cases z1; cases z2
  | lst _ _ _ => cases e
  | dct _ _ _ => cases e
  | ins _ _ _ => cases e
  | scr => cases e
  | _ => constructor
theorem ShL.nol_up : ∀ {v : List Va} {d : List D}, ShL S U v d → d.all nol = true → ShL S U' v d
  | _, _, .nil, _ => .nil
  | _, _, .cons h t, e => by
    rw [List.all_cons, Bool.and_eq_true] at e
    exact .cons (h.nol_up hU e.1) (t.nol_up e.2)
theorem ShK.nol_up : ∀ {v : List (Int × Va)} {d : List (Int × D)}, ShK S U v d → (d.all fun p => nol p.2) = true → ShK S U' v d
  | _, _, .nil, _ => .nil
  | _, _, .cons h t, e => by
    rw [List.all_cons, Bool.and_eq_true] at e
    exact .cons (h.nol_up hU e.1) (t.nol_up e.2)
end
mutual
theorem RepO.noal_up {U U' : Set'} (hU : ∀ l, U' l → U l ∨ ∃ b, S[l]? = some b ∧ isTupO b = false) : ∀ {v : Va} {o : Ow} {F : List Nat}, RepO S U v o F → noal o = true → RepO S U' v o F
  | _, _, _, .sh h, e => .sh (h.nol_up hU e)
  | _, _, _, .lst e1 h, e => .lst e1 (h.nol_up hU e)
  | _, _, _, .dct e1 h, e => .dct e1 (h.nol_up hU e)
  | _, _, _, .ins e1 h, e => .ins e1 (RepG.noal_up hU h e)
  | _, _, _, .lso e1 h, e => .lso e1 (RepG.noal_up hU h e)
theorem RepG.noal_up {U U' : Set'} (hU : ∀ l, U' l → U l ∨ ∃ b, S[l]? = some b ∧ isTupO b = false) : ∀ {v : List (Nat × Va)} {o : Ow} {F : List Nat}, RepG S U v o F → noal o = true → RepG S U' v o F
  | _, _, _, .nil, _ => .nil
  | _, _, _, .cons (o := o) (fs := fs) h t, e => by
    have e : (noal o && noal fs) = true := e
    rw [Bool.and_eq_true] at e
    exact .cons (RepO.noal_up hU h e.1) (RepG.noal_up hU t e.2)
end
theorem Inv.kind (I : Inv S A r s Fs) {l : Nat} (h : Own s Fs l) : ∃ b, S[l]? = some b ∧ isTupO b = false := by
  obtain ⟨i, o, e, q⟩ := h
  obtain ⟨v, _, R⟩ := I.rep i o e
  exact R.kind l q
/-- a call's end: the slots of B stay owned, or are frozen -/
theorem end_ok {U : Set'} {Fo : List Nat} {v : Va} {o : Ow} (I : Inv S A r s Fs) (fr : Fr S S2 (fun _ => False)) (nd : Fo.Nodup) (nw : ∀ l ∈ Fo, S.length ≤ l) (R : RepO S2 U v o Fo) (hU : ∀ l, UB A B s Fs l ∨ l ∈ Fo → U l) :
    Sim RO true S A r s Fs (.ok o (behind o B s)) (.ok v S2) := by
  have inv : ∀ {s' : VEnv} {Fs' : Nat → List Nat}, Inv S A r s' Fs' → Inv S2 (fun l => A l ∨ l ∈ Fo) r s' Fs' := fun J => J.move fr (fun _ z => z.elim) (fun l hl z => by
    rcases z with z | z
    · exact z
    · have := nw l z; omega) (fun l z => by
    rcases z with z | z
    · have := J.old l z; have := fr.len; omega
    · exact R.lt l z)
  have av : ∀ l ∈ Fo, ¬ A l := fun l h z => by have := nw l h; have := I.old l z; omega
  unfold behind
  by_cases e : noal o = true
  · rw [if_pos e]
    refine ⟨v, S2, Fs, Fo, rfl, ⟨fr.mono fun _ _ z => z.elim, inv I, nd, av, fun l h => .inr (nw l h), fun i l h => .inl h⟩, R.noal_up (fun l z => ?_) e⟩
    rcases z with (z | z) | z
    · exact .inl (hU l (.inl (.inl z)))
    · exact .inl (hU l (.inr z))
    · obtain ⟨b, e1, e2⟩ := I.kind z
      exact .inr ⟨b, (fr.keep l (I.lt z) (fun w => w)).trans e1, e2⟩
  · rw [if_neg e]
    refine ⟨v, S2, minusF Fs B, Fo, rfl, ⟨fr.mono fun _ _ z => z.elim, inv (I.frz B), nd, av, fun l h => .inr (nw l h), fun i l h => .inl (HasF_frz h).2⟩, R.weak fun l z => hU l ?_⟩
    rcases z with (z | z) | z
    · exact .inl (.inl z)
    · exact .inr z
    · obtain ⟨i, z⟩ := own_has.mp z
      exact .inl (.inr ⟨i, HasF_frz z⟩)
/-! ### a path written -/
theorem set_same {r : Rho} {i : Nat} {v : Va} (h : r[i]? = some (some v)) : r.set i (some v) = r := by
  apply List.ext_getElem?
  intro j
  by_cases q : i = j
  · subst q
    rw [List.getElem?_set_self (List.getElem?_eq_some_iff.mp h).1, h]
  · rw [List.getElem?_set_ne q]
def UP (A : Set') (s : VEnv) (Fs : Nat → List Nat) (F1 Fo Fm : List Nat) : Set' := fun l => (A l ∨ (Own s Fs l ∧ l ∉ F1)) ∨ l ∈ Fo ∨ l ∈ Fm
/-- what a path's place holds -/
structure PathAt (T : Tx) (S : Sto) (A : Set') (r : Rho) (s : VEnv) (Fs : Nat → List Nat) (q : Nat × List Nat) (v : Va) (F1 G : List Nat) : Prop where
  perm : (Fs q.1).Perm (F1 ++ G)
  has : (slotO s q.1).isSome = true
  put : ∀ (S' : Sto) (U' W : Set') (o' : Ow) (F1' : List Nat), Fr S S' W → (∀ l, W l → A l ∨ Own s Fs l) → (∀ l, l < S.length → U' l → A l ∨ Own s Fs l) → (∀ l ∈ G, ¬ W l) → RepO S' U' v o' F1' →
        ∃ v0 o0 o0' F', r[q.1]? = some (some v0) ∧ slotO s q.1 = some o0 ∧ putP T.fl o' o0 q.2 = some o0' ∧ F'.Perm (F1' ++ G) ∧ RepO S' U' v0 o0' F'
theorem path_at {cl : Nat → List Va → Sto → Res Va} (I : Inv S A r s Fs) {a : E} {q : Nat × List Nat} {o : Ow} (e : pathOf a = some q) (h : readP T s q = some o) :
    ∃ v F1 G, evE T cl a r S = .ok v S ∧ RepO S (UA A s Fs) v o F1 ∧ PathAt T S A r s Fs q v F1 G := by
  obtain ⟨v, F1, G, k1, k2, k3, k4, k5⟩ := path_ev (cl := cl) I e h
  exact ⟨v, F1, G, k1, k2, k3, k4, k5⟩
theorem PathAt.nd {q : Nat × List Nat} {v : Va} {F1 G : List Nat} (P : PathAt T S A r s Fs q v F1 G) (I : Inv S A r s Fs) : (F1 ++ G).Nodup := by
  obtain ⟨o, e⟩ := Option.isSome_iff_exists.mp P.has
  exact P.perm.nodup_iff.mp (I.nd q.1 o e)
theorem PathAt.own {q : Nat × List Nat} {v : Va} {F1 G : List Nat} (P : PathAt T S A r s Fs q v F1 G) {l : Nat} (h : l ∈ F1 ++ G) : HasF s Fs q.1 l := ⟨P.has, P.perm.mem_iff.mpr h⟩
theorem put_ok {Q : Bool} {q : Nat × List Nat} {v : Va} {me2 : Ow} {F1 G Fo Fm : List Nat} (I : Inv S A r s Fs) (P : PathAt T S A r s Fs q v F1 G) (fr : Fr S S2 (fun l => Q = false ∧ l ∈ F1)) (nd : (Fo ++ Fm).Nodup)
    (n1 : ∀ l ∈ Fo ++ Fm, l ∈ F1 ∨ S.length ≤ l) (lt : ∀ l ∈ Fo, l < S2.length) (R : RepO S2 (UP A s Fs F1 Fo Fm) v me2 Fm) :
    ∃ s2 Fs2, writeP T s q me2 = some s2 ∧ Out Q S A r s Fs S2 s2 Fs2 Fo ∧ ∀ l, US A s2 Fs2 Fo l → UP A s Fs F1 Fo Fm l := by
  have hnd := P.nd I
  have fA : ∀ l ∈ F1, ¬ A l := fun l h z => I.av l (own_has.mpr ⟨q.1, P.own (List.mem_append_left _ h)⟩) z
  obtain ⟨v0, o0, o0', F', h1, h2, h3, h4, h5⟩ := P.put S2 (UP A s Fs F1 Fo Fm) (fun l => Q = false ∧ l ∈ F1) me2 Fm fr (fun l z => .inr (own_has.mpr ⟨q.1, P.own (List.mem_append_left _ z.2)⟩)) (fun l hl z => by
      rcases z with (z | z) | z | z
      · exact .inl z
      · exact .inr z.1
      · rcases n1 l (List.mem_append_left _ z) with w | w
        · exact .inr (own_has.mpr ⟨q.1, P.own (List.mem_append_left _ w)⟩)
        · omega
      · rcases n1 l (List.mem_append_right _ z) with w | w
        · exact .inr (own_has.mpr ⟨q.1, P.own (List.mem_append_left _ w)⟩)
        · omega) (fun l hl z => (List.nodup_append.mp hnd).2.2 l z.2 l hl rfl) R
  have hw : writeP T s q me2 = some (s.set q.1 (some o0')) := by
    unfold writeP
    rw [h2]
    show (putP T.fl me2 o0 q.2).map _ = _
    rw [h3]
    rfl
  have hF' : ∀ l ∈ F', l ∈ Fm ∨ l ∈ G := fun l z => List.mem_append.mp (h4.mem_iff.mp z)
  have hG : ∀ l ∈ G, HasF s Fs q.1 l ∧ l ∉ F1 := fun l h => ⟨P.own (List.mem_append_right _ h), fun z => (List.nodup_append.mp hnd).2.2 l z l h rfl⟩
  have hS : ∀ l, US A (s.set q.1 (some o0')) (upF Fs q.1 F') Fo l → UP A s Fs F1 Fo Fm l := fun l z => by
    rcases z with (z | z) | z
    · exact .inl (.inl z)
    · exact .inr (.inl z)
    · obtain ⟨j, z1, z2⟩ := own_has.mp z
      by_cases ej : j = q.1
      · subst ej
        rw [upF_same] at z2
        rcases hF' l z2 with w | w
        · exact .inr (.inr w)
        · exact .inl (.inr ⟨own_has.mpr ⟨q.1, (hG l w).1⟩, (hG l w).2⟩)
      · rw [upF_ne ej] at z2
        rw [slot_set, if_neg (fun w => ej w.1.symm)] at z1
        refine .inl (.inr ⟨own_has.mpr ⟨j, z1, z2⟩, fun w => ?_⟩)
        obtain ⟨o1, e1⟩ := Option.isSome_iff_exists.mp z1
        exact I.dj q.1 j o0 o1 (Ne.symm ej) h2 e1 l (P.own (List.mem_append_left _ w)).2 z2
  have foA : ∀ l ∈ Fo, ¬ A l := fun l h z => by
    rcases n1 l (List.mem_append_left _ h) with w | w
    · exact fA l w z
    · have := I.old l z; omega
  refine ⟨_, upF Fs q.1 F', hw, ⟨fr.mono fun l hl z => ⟨z.1, own_has.mpr ⟨q.1, P.own (List.mem_append_left _ z.2)⟩⟩, ?_, (List.nodup_append.mp nd).1, foA, fun l h => ?_, fun i l h => ?_⟩, hS⟩
  · have hput := Inv.put (A' := fun l => A l ∨ l ∈ Fo) (v := v0) (o := o0') (F := F') I (slot_lt h2) fr (fun l z => .inr (P.own (List.mem_append_left _ z.2))) (fun l hl z => by
        rcases z with z | z
        · exact .inl z
        · rcases n1 l (List.mem_append_left _ z) with w | w
          · exact .inr (P.own (List.mem_append_left _ w))
          · omega) (fun l z hl => by
        rcases hF' l z with w | w
        · rcases n1 l (List.mem_append_right _ w) with w | w
          · exact .inr (P.own (List.mem_append_left _ w))
          · omega
        · exact .inr (hG l w).1) (h5.weak fun l z => hS l z) ?_ ?_ ?_
    · rw [set_same h1] at hput
      exact hput
    · refine h4.nodup_iff.mpr (List.nodup_append.mpr ⟨(List.nodup_append.mp nd).2.1, (List.nodup_append.mp hnd).2.1, fun a ha b hb e => ?_⟩)
      subst e
      rcases n1 a (List.mem_append_right _ ha) with w | w
      · exact (hG a hb).2 w
      · have := I.lt (own_has.mpr ⟨q.1, (hG a hb).1⟩); omega
    · intro l z w
      rcases hF' l z with y | y
      · rcases w with w | w
        · rcases n1 l (List.mem_append_right _ y) with x | x
          · exact fA l x w
          · have := I.old l w; omega
        · exact (List.nodup_append.mp nd).2.2 l w l y rfl
      · rcases w with w | w
        · exact I.av l (own_has.mpr ⟨q.1, (hG l y).1⟩) w
        · rcases n1 l (List.mem_append_left _ w) with x | x
          · exact (hG l y).2 x
          · have := I.lt (own_has.mpr ⟨q.1, (hG l y).1⟩); omega
    · intro l z
      rcases z with z | z
      · have := I.old l z; have := fr.len; omega
      · exact lt l z
  · rcases n1 l (List.mem_append_left _ h) with w | w
    · exact .inl (own_has.mpr ⟨q.1, P.own (List.mem_append_left _ w)⟩)
    · exact .inr w
  · obtain ⟨z1, z2⟩ := h
    by_cases ej : i = q.1
    · subst ej
      rw [upF_same] at z2
      rcases hF' l z2 with w | w
      · rcases n1 l (List.mem_append_right _ w) with w | w
        · exact .inl (P.own (List.mem_append_left _ w))
        · exact .inr w
      · exact .inl (hG l w).1
    · rw [upF_ne ej] at z2
      rw [slot_set, if_neg (fun w => ej w.1.symm)] at z1
      exact .inl ⟨z1, z2⟩
end
end Vl
end

section
set_option linter.all false
/-! Vr11: calls. -/
namespace Vl
open PySem Ev
inductive RepA (S : Sto) (U : Set') : List Va → List Ow → List Nat → Prop where
  | nil : RepA S U [] [] []
  | cons {v : Va} {o : Ow} {F1 F2 : List Nat} {vs : List Va} {os : List Ow} : RepO S U v o F1 → RepA S U vs os F2 → RepA S U (v :: vs) (o :: os) (F1 ++ F2)
def SelfOk (S : Sto) (U : Set') (vs : List Va) (self : Option Ow) (Fm : List Nat) : Prop := match self with
  | none => Fm = []
  | some me => ∃ v0 ws, vs = v0 :: ws ∧ RepO S U v0 me Fm
structure CIn (S : Sto) (A : Set') (vs : List Va) (os : List Ow) (F : List Nat) : Prop where
  rep : RepA S (fun l => A l ∨ l ∈ F) vs os F
  nd : F.Nodup
  av : ∀ l ∈ F, ¬ A l
  old : ∀ l, A l → l < S.length
structure COut (S : Sto) (A : Set') (F : List Nat) (S' : Sto) (Fo Fm : List Nat) : Prop where
  fr : Fr S S' (fun l => l ∈ F)
  nd : (Fo ++ Fm).Nodup
  n1 : ∀ l ∈ Fo ++ Fm, l ∈ F ∨ S.length ≤ l
def UC (A : Set') (Fo Fm : List Nat) : Set' := fun l => A l ∨ l ∈ Fo ∨ l ∈ Fm
def COk (S : Sto) (A : Set') (vs : List Va) (F : List Nat) (x : CRes) (y : Res Va) : Prop := match x with
  | .ok o self => ∃ v S' Fo Fm, y = .ok v S' ∧ COut S A F S' Fo Fm ∧ RepO S' (UC A Fo Fm) v o Fo ∧ SelfOk S' (UC A Fo Fm) vs self Fm
  | .exc c self => ∃ S' Fm, y = .exc c S' ∧ COut S A F S' [] Fm ∧ SelfOk S' (UC A [] Fm) vs self Fm
  | .bad => True
def CallOk (g : List Ow → CRes) (h : List Va → Sto → Res Va) : Prop := ∀ {os : List Ow} {vs : List Va} {S : Sto} {A : Set'} {F : List Nat}, CIn S A vs os F → COk S A vs F (g os) (h vs S)
section
variable {T : Tx} {clv : Nat → List Ow → CRes} {clh : Nat → List Va → Sto → Res Va} {S S1 S2 : Sto} {A : Set'} {r : Rho} {s : VEnv} {Fs : Nat → List Nat} {B : List Nat}
theorem RepA.shs {U : Set'} : ∀ {vs : List Va} {xs : List D}, ShL S U vs xs → RepA S U vs (xs.map .sh) []
  | _, _, .nil => .nil
  | _, _, .cons a t => by
    have := RepA.cons (.sh a) (RepA.shs t)
    exact this
theorem ShL.weak {U U' : Set'} {vs : List Va} {xs : List D} (h : ShL S U vs xs) (hU : ∀ l, U' l → U l) : ShL S U' vs xs := ShL.move (W := fun _ => False) Fr.refl (fun _ z => z.elim) (fun l _ z => hU l z) h
theorem Sh.weak {U U' : Set'} {v : Va} {x : D} (h : Sh S U v x) (hU : ∀ l, U' l → U l) : Sh S U' v x := Sh.move (W := fun _ => False) Fr.refl (fun _ z => z.elim) (fun l _ z => hU l z) h
theorem Inv.UBlt (I : Inv S A r s Fs) {l : Nat} (h : UB A B s Fs l) : l < S.length := by
  rcases UB_sub h with h | h
  · exact I.old l h
  · exact I.lt h
theorem call0_ok {f : Nat} {vs : List Va} {xs : List D} (hc : CallOk (clv f) (clh f)) (I : Inv S A r s Fs) (h : ShL S (UB A B s Fs) vs xs) : Sim RO true S A r s Fs (call0 clv f xs B s) (clh f vs S) := by
  have ci : CIn S (UB A B s Fs) vs (xs.map .sh) [] := ⟨RepA.shs (h.weak fun l z => by simpa using z), .nil, by simp, fun l z => I.UBlt z⟩
  have k := hc ci
  unfold call0
  cases e : clv f (xs.map .sh) with
  | bad => exact trivial
  | exc c self =>
    rw [e] at k
    obtain ⟨S', Fm, e1, co, _⟩ := k
    have fr : Fr S S' (fun _ => False) := co.fr.mono fun l _ z => by simp at z
    refine ⟨S', Fs, e1, fr.mono fun _ _ z => z.elim, I.move fr (fun _ z => z.elim) (fun l _ z => by simpa using z) (fun l z => ?_), .nil, by simp, by simp, fun i l z => .inl z⟩
    have := I.old l (by simpa using z)
    have := fr.len
    omega
  | ok o self =>
    rw [e] at k
    obtain ⟨v, S', Fo, Fm, e1, co, R, _⟩ := k
    have fr : Fr S S' (fun _ => False) := co.fr.mono fun l _ z => by simp at z
    rw [e1]
    refine end_ok (U := UC (UB A B s Fs) Fo Fm) I fr (List.nodup_append.mp co.nd).1 (fun l z => ?_) R fun l z => ?_
    · rcases co.n1 l (List.mem_append_left _ z) with w | w
      · simp at w
      · exact w
    · rcases z with z | z
      · exact .inl z
      · exact .inr (.inl z)
/-- a new instance -/
theorem make_ok {f c : Nat} {vs : List Va} {xs : List D} (hc : CallOk (clv f) (clh f)) (I : Inv S A r s Fs) (h : ShL S (UB A B s Fs) vs xs) :
    Sim RO true S A r s Fs (call1 clv f (.ins c .nil) xs (fun o me => match o with
      | .sh .non => .ok me (behind me B s)
      | _ => .bad) fun c me => .exc c s)
    ((clh f (.loc (S.length + 1) :: vs) (S ++ [.own (S.length + 1), .ins c S.length []])).bind fun v S2 => match v with
      | .non => .ok (.loc (S.length + 1)) S2
      | _ => .bad) := by
  have hn : (S ++ [Ob.own (S.length + 1), Ob.ins c S.length []])[S.length + 1]? = some (.ins c S.length []) := by
    rw [List.getElem?_append_right (by omega)]; simp
  have ci : CIn (S ++ [.own (S.length + 1), .ins c S.length []]) (UB A B s Fs) (.loc (S.length + 1) :: vs) (.ins c .nil :: xs.map .sh) [S.length + 1] := by
    refine ⟨.cons (F1 := [S.length + 1]) (F2 := []) (.ins hn .nil) (RepA.shs (ShL.move (W := fun _ => False) Fr.new (fun _ z => z.elim) (fun l hl z => ?_) h)), by simp, fun l hl z => ?_, fun l z => ?_⟩
    · rcases z with z | z
      · exact z
      · rw [List.mem_singleton.mp z] at hl; omega
    · rw [List.mem_singleton.mp hl] at z
      have := I.UBlt z; omega
    · have := I.UBlt z; simp; omega
  have k := hc ci
  unfold call1
  cases e : clv f (.ins c .nil :: xs.map .sh) with
  | bad => exact trivial
  | exc x self =>
    rw [e] at k
    obtain ⟨S', Fm, e1, co, _⟩ := k
    cases self with
    | none => exact trivial
    | some me =>
      have fr : Fr S S' (fun _ => False) := Fr.trans (W1 := fun l => l ∈ [S.length + 1]) Fr.new co.fr fun l hl z => by
        rw [List.mem_singleton.mp z] at hl; omega
      rw [e1]
      refine ⟨S', Fs, rfl, fr.mono fun _ _ z => z.elim, I.move fr (fun _ z => z.elim) (fun l _ z => by simpa using z) (fun l z => ?_), .nil, by simp, by simp, fun i l z => .inl z⟩
      have := I.old l (by simpa using z)
      have := fr.len
      omega
  | ok o self =>
    rw [e] at k
    obtain ⟨v, S', Fo, Fm, e1, co, R, M⟩ := k
    cases self with
    | none => exact trivial
    | some me =>
      have fr : Fr S S' (fun _ => False) := Fr.trans (W1 := fun l => l ∈ [S.length + 1]) Fr.new co.fr fun l hl z => by
        rw [List.mem_singleton.mp z] at hl; omega
      rw [e1]
      dsimp only
      split
      · obtain ⟨_, k⟩ := RepO.sh_nil R
        cases k
        obtain ⟨v0, ws, e2, M⟩ := M
        cases e2
        dsimp only [Res.bind]
        refine end_ok (U := UC (UB A B s Fs) Fo Fm) I fr (List.nodup_append.mp co.nd).2.1 (fun l z => ?_) M fun l z => ?_
        · rcases co.n1 l (List.mem_append_right _ z) with w | w
          · rw [List.mem_singleton.mp w]; omega
          · simp at w; omega
        · rcases z with z | z
          · exact .inl z
          · exact .inr (.inr z)
      · exact trivial
theorem make0_ok {c : Nat} (I : Inv S A r s Fs) : Sim RO true S A r s Fs (.ok (.ins c .nil) s) (.ok (.loc (S.length + 1)) (S ++ [.own (S.length + 1), .ins c S.length []])) := by
  have hn : (S ++ [Ob.own (S.length + 1), Ob.ins c S.length []])[S.length + 1]? = some (.ins c S.length []) := by
    rw [List.getElem?_append_right (by omega)]; simp
  have h := end_ok (B := []) (U := fun _ => True) (v := .loc (S.length + 1)) (o := .ins c .nil) (Fo := [S.length + 1]) I (S2 := S ++ [.own (S.length + 1), .ins c S.length []]) Fr.new (by simp) (fun l z => by rw [List.mem_singleton.mp z]; omega) (.ins hn .nil) (fun _ _ => trivial)
  exact h
/-- a method of an own instance at a path -/
theorem meth_ok {f c : Nat} {q : Nat × List Nat} {fs : Ow} {v : Va} {F1 G : List Nat} {vs : List Va} {xs : List D} (hc : CallOk (clv f) (clh f)) (I : Inv S A r s Fs) (P : PathAt T S A r s Fs q v F1 G) (R : RepO S (UA A s Fs) v (.ins c fs) F1) (hB : q.1 ∉ B) (h : ShL S (UB A B s Fs) vs xs) :
    Sim RO false S A r s Fs (call1 clv f (.ins c fs) xs (fun o me2 => match writeP T s q me2 with
              | some s2 => .ok o (if noal o && noal me2 then s2 else frzS s2 B)
              | none => .bad) fun x me2 => match writeP T s q me2 with
              | some s2 => .exc x (if noal me2 then s2 else frzS s2 B)
              | none => .bad) (clh f (v :: vs) S) := by
  have hF1 : ∀ l ∈ F1, HasF s Fs q.1 l := fun l z => P.own (List.mem_append_left _ z)
  have ci : CIn S (fun l => UB A B s Fs l ∧ l ∉ F1) (v :: vs) (.ins c fs :: xs.map .sh) F1 := by
    have hu : ∀ l, (UB A B s Fs l ∧ l ∉ F1) ∨ l ∈ F1 → UB A B s Fs l := fun l z => by
      rcases z with z | z
      · exact z.1
      · exact .inr ⟨q.1, hB, hF1 l z⟩
    refine ⟨?_, (List.nodup_append.mp (P.nd I)).1, fun l z w => w.2 z, fun l z => I.UBlt z.1⟩
    have := RepA.cons (R.weak fun l z => UB_sub (hu l z)) (RepA.shs (h.weak hu))
    rw [List.append_nil] at this
    exact this
  have k := hc ci
  /- the end, over the slots as they are (all results without lists) or frozen -/
  have fin : ∀ {S' : Sto} {me : Ow} {Fo Fm : List Nat}, COut S (fun l => UB A B s Fs l ∧ l ∉ F1) F1 S' Fo Fm → (∀ l ∈ Fo, l < S'.length) → RepO S' (UC (fun l => UB A B s Fs l ∧ l ∉ F1) Fo Fm) v me Fm →
      (∃ s2 Fs2, writeP T s q me = some s2 ∧ Out false S A r s Fs S' (frzS s2 B) Fs2 Fo ∧ ∀ l, US A (frzS s2 B) Fs2 Fo l → UC (fun l => UB A B s Fs l ∧ l ∉ F1) Fo Fm l) ∧
      (noal me = true → ∃ s2 Fs2, writeP T s q me = some s2 ∧ Out false S A r s Fs S' s2 Fs2 Fo ∧ ∀ l, US A s2 Fs2 Fo l → UP A s Fs F1 Fo Fm l) := fun {S' me Fo Fm} co lt R2 => by
    have fr : Fr S S' (fun l => false = false ∧ l ∈ F1) := co.fr.mono fun l _ z => ⟨rfl, z⟩
    constructor
    · /- freeze, then write -/
      have I' := I.frz B
      have sl : slotO (frzS s B) q.1 = slotO s q.1 := by rw [frzS_slot, if_neg hB]
      have own' : ∀ l, Own (frzS s B) (minusF Fs B) l → ∃ j, j ∉ B ∧ HasF s Fs j l := fun l z => by
        obtain ⟨j, z⟩ := own_has.mp z
        exact ⟨j, HasF_frz z⟩
      have own2 : ∀ l, HasF s Fs q.1 l → Own (frzS s B) (minusF Fs B) l := fun l z => own_has.mpr ⟨q.1, by rw [sl]; exact z.1, by unfold minusF; rw [if_neg hB]; exact z.2⟩
      have P' : PathAt T S A r (frzS s B) (minusF Fs B) q v F1 G := by
        refine ⟨by unfold minusF; rw [if_neg hB]; exact P.perm, by rw [sl]; exact P.has, fun S2 U' W o' F1' f1 hW hU hG R3 => ?_⟩
        rw [sl]
        refine P.put S2 U' W o' F1' f1 (fun l z => ?_) (fun l hl z => ?_) hG R3
        · rcases hW l z with w | w
          · exact .inl w
          · obtain ⟨j, _, w⟩ := own' l w
            exact .inr (own_has.mpr ⟨j, w⟩)
        · rcases hU l hl z with w | w
          · exact .inl w
          · obtain ⟨j, _, w⟩ := own' l w
            exact .inr (own_has.mpr ⟨j, w⟩)
      obtain ⟨s2, Fs2, e1, o1, o2⟩ := put_ok (Q := false) I' P' fr co.nd co.n1 lt (R2.weak fun l z => by
        rcases z with (z | z) | z
        · refine .inl ⟨.inl z, fun w => ?_⟩
          exact I.av l (own_has.mpr ⟨q.1, hF1 l w⟩) z
        · obtain ⟨j, w⟩ := own' l z.1
          exact .inl ⟨.inr ⟨j, w⟩, z.2⟩
        · exact .inr z)
      /- the two orders of freezing and writing -/
      have e0 : ∃ s3, writeP T s q me = some s3 ∧ s2 = frzS s3 B := by
        unfold writeP at e1 ⊢
        rw [sl] at e1
        cases e2 : slotO s q.1 with
        | none => rw [e2] at e1; cases e1
        | some o0 =>
          rw [e2] at e1
          dsimp only [Option.bind] at e1 ⊢
          cases e3 : putP T.fl me o0 q.2 with
          | none => rw [e3] at e1; cases e1
          | some o0' =>
            rw [e3] at e1
            dsimp only [Option.map] at e1 ⊢
            cases e1
            refine ⟨_, rfl, ?_⟩
            have hlt := slot_lt e2
            apply List.ext_getElem?
            intro j
            have L1 : ((frzS s B).set q.1 (some o0')).length = s.length := by rw [List.length_set, frzS_len]
            have L2 : (frzS (s.set q.1 (some o0')) B).length = s.length := by rw [frzS_len, List.length_set]
            by_cases hj : j < s.length
            · have g : ∀ t : VEnv, t.length = s.length → t[j]? = some (slotO t j) := fun t ht => by
                unfold slotO
                rw [List.getElem?_eq_getElem (by omega)]
                rfl
              rw [g _ L1, g _ L2, slot_set, frzS_len, frzS_slot, frzS_slot, slot_set]
              by_cases w : q.1 = j
              · subst w
                rw [if_pos ⟨rfl, hlt⟩, if_neg hB, if_pos ⟨rfl, hlt⟩]
              · have w2 : ¬ (q.1 = j ∧ q.1 < s.length) := fun z => w z.1
                simp only [if_neg w2]
            · rw [List.getElem?_eq_none (by omega), List.getElem?_eq_none (by omega)]
      obtain ⟨s3, e3, rfl⟩ := e0
      refine ⟨s3, Fs2, e3, ⟨o1.fr.mono fun l _ z => ⟨rfl, ?_⟩, o1.inv, o1.nd, o1.av, fun l z => ?_, fun i l z => ?_⟩, fun l z => ?_⟩
      · obtain ⟨j, _, w⟩ := own' l z.2
        exact own_has.mpr ⟨j, w⟩
      · rcases o1.n1 l z with w | w
        · obtain ⟨j, _, w⟩ := own' l w
          exact .inl (own_has.mpr ⟨j, w⟩)
        · exact .inr w
      · rcases o1.n2 i l z with w | w
        · exact .inl (HasF_frz w).2
        · exact .inr w
      · rcases o2 l z with (w | w) | w
        · refine .inl ⟨.inl w, fun y => I.av l (own_has.mpr ⟨q.1, hF1 l y⟩) w⟩
        · exact .inl ⟨.inr (own' l w.1), w.2⟩
        · exact .inr w
    · intro hn
      refine put_ok (Q := false) I P fr co.nd co.n1 lt (R2.noal_up (fun l z => ?_) hn)
      rcases z with (z | z) | z
      · exact .inl (.inl ⟨.inl z, fun w => I.av l (own_has.mpr ⟨q.1, hF1 l w⟩) z⟩)
      · obtain ⟨b, e1, e2⟩ := I.kind z.1
        exact .inr ⟨b, (co.fr.keep l (I.lt z.1) z.2).trans e1, e2⟩
      · exact .inl (.inr z)
  unfold call1
  cases e : clv f (.ins c fs :: xs.map .sh) with
  | bad => exact trivial
  | exc x self =>
    rw [e] at k
    obtain ⟨S', Fm, e1, co, M⟩ := k
    cases self with
    | none => exact trivial
    | some me =>
      obtain ⟨v0, ws, e2, M⟩ := M
      cases e2
      obtain ⟨k1, k2⟩ := fin co (by simp) M
      rw [e1]
      dsimp only
      by_cases hn : noal me = true
      · obtain ⟨s2, Fs2, g1, g2, _⟩ := k2 hn
        rw [g1]
        dsimp only
        rw [if_pos hn]
        exact ⟨S', Fs2, rfl, g2⟩
      · obtain ⟨s2, Fs2, g1, g2, _⟩ := k1
        rw [g1]
        dsimp only
        rw [if_neg hn]
        exact ⟨S', Fs2, rfl, g2⟩
  | ok o self =>
    rw [e] at k
    obtain ⟨w, S', Fo, Fm, e1, co, R2, M⟩ := k
    cases self with
    | none => exact trivial
    | some me =>
      obtain ⟨v0, ws, e2, M⟩ := M
      cases e2
      obtain ⟨k1, k2⟩ := fin co (fun l z => R2.lt l z) M
      rw [e1]
      dsimp only
      by_cases hn : (noal o && noal me) = true
      · have hn2 := hn
        rw [Bool.and_eq_true] at hn2
        obtain ⟨s2, Fs2, g1, g2, g3⟩ := k2 hn2.2
        rw [g1]
        dsimp only
        rw [if_pos hn]
        refine ⟨w, S', Fs2, Fo, rfl, g2, R2.noal_up (fun l z => ?_) hn2.1⟩
        rcases g3 l z with (z | z) | z
        · exact .inl (.inl ⟨.inl z, fun w => I.av l (own_has.mpr ⟨q.1, hF1 l w⟩) z⟩)
        · obtain ⟨b, e1, e2⟩ := I.kind z.1
          exact .inr ⟨b, (co.fr.keep l (I.lt z.1) z.2).trans e1, e2⟩
        · exact .inl (.inr z)
      · obtain ⟨s2, Fs2, g1, g2, g3⟩ := k1
        rw [g1]
        dsimp only
        rw [if_neg hn]
        exact ⟨w, S', Fs2, Fo, rfl, g2, R2.weak g3⟩
end
end Vl
end

section
set_option linter.all false
/-! Vr12: arguments. -/
namespace Vl
open PySem Ev
section
variable {α β γ δ : Type} {q q1 q2 : Bool} {S S1 S2 : Sto} {A : Set'} {r : Rho} {s s1 s2 : VEnv} {Fs Fs1 Fs2 : Nat → List Nat} {F1 F2 : List Nat} {B : List Nat}
theorem calm_is (a b : E) (s : VEnv) : ∃ B, calm a b s = frzS s B := by
  unfold calm
  split
  · split
    · exact ⟨_, rfl⟩
    · exact ⟨[], rfl⟩
  · exact ⟨[], rfl⟩
/-- the earlier temps are let go -/
theorem Out.dropD (a : Out q1 S A r s Fs S1 s1 Fs1 F1) (b : Out q2 S1 A r s1 Fs1 S2 s2 Fs2 F2) : Out (q1 && q2) S A r s Fs S2 s2 Fs2 F2 where
  fr := by
    refine (a.fr.mono (fun l _ h => ⟨by simp [h.1], h.2⟩)).trans b.fr fun l hl h => ⟨by simp [h.1], ?_⟩
    rcases a.m2 l h.2 with z | z
    · exact z
    · omega
  inv := b.inv
  nd := b.nd
  av := b.av
  n1 := fun l h => by
    rcases b.n1 l h with z | z
    · exact a.m2 l z
    · exact .inr (Nat.le_trans a.fr.len z)
  n2 := fun i l h => by
    rcases b.n2 i l h with z | z
    · exact a.n2 i l z
    · exact .inr (Nat.le_trans a.fr.len z)
theorem Sim.bindD {R1 : RT α β} {R2 : RT γ δ} {x : VRes α} {y : Res β} {k : α → VEnv → VRes γ} {kr : β → Sto → Res δ} (h : Sim R1 q1 S A r s Fs x y)
    (hk : ∀ a s1 b S1 Fs1 F1, x = .ok a s1 → Out q1 S A r s Fs S1 s1 Fs1 F1 → R1 S1 (US A s1 Fs1 F1) s1 Fs1 b a F1 → Sim R2 q2 S1 A r s1 Fs1 (k a s1) (kr b S1)) : Sim R2 (q1 && q2) S A r s Fs (x.bind k) (y.bind kr) := by
  cases x with
  | bad => exact trivial
  | exc c s' =>
    obtain ⟨S', Fs', rfl, o⟩ := h
    exact ⟨S', Fs', rfl, ⟨o.fr.mono fun l _ z => ⟨by simp [z.1], z.2⟩, o.inv, o.nd, o.av, o.n1, o.n2⟩⟩
  | ok a s1 =>
    obtain ⟨b, S1, Fs1, F1, rfl, o, R⟩ := h
    have g := hk a s1 b S1 Fs1 F1 rfl o R
    show Sim R2 _ S A r s Fs (k a s1) (kr b S1)
    cases e : k a s1 with
    | bad => exact trivial
    | exc c s' =>
      rw [e] at g
      obtain ⟨S', Fs', e2, o2⟩ := g
      exact ⟨S', Fs', e2, o.dropD o2⟩
    | ok a2 s2 =>
      rw [e] at g
      obtain ⟨b2, S2, Fs2, F2, e2, o2, R2'⟩ := g
      exact ⟨b2, S2, Fs2, F2, e2, o.dropD o2, R2'⟩
/-- trees for a callee -/
def RC1 (A : Set') (B : List Nat) (qb : Bool) : RT D Va := fun S _ s Fs v d _ => Sh S (UB A B s Fs) v d ∧ (qb = false → Sh S (UA A s Fs) v d)
def RCL (A : Set') (B : List Nat) : RT (List D) (List Va) := fun S _ s Fs vs ds _ => ShL S (UB A B s Fs) vs ds
theorem mono_RCL : Mono (RCL A B) := fun h _ => h
theorem Out.frz (o : Out q S A r s Fs S1 s1 Fs1 F1) {v : Va} {w : Ow} (R : RepO S1 (US A s1 Fs1 F1) v w F1) : Sh S1 (UA A s1 Fs1) v (frz w) := R.frz (fun l z => by
    rcases z with z | z
    · exact .inl (.inl z)
    · exact .inr z) fun l h z => by
    rcases z with z | z
    · exact o.av l h z
    · exact o.inv.av l z (.inr h)
theorem asD_c {x : VRes Ow} {y : Res Va} {qb : Bool} (h : Sim RO q S A r s Fs x y) : Sim (RC1 A B qb) q S A r s Fs (asD x) y := by
  cases x with
  | bad => exact trivial
  | exc c s' => exact h
  | ok o s' =>
    obtain ⟨b, S', Fs', Fo, e, w, R⟩ := h
    have k := w.frz R
    exact ⟨b, S', Fs', Fo, e, w, k.weak fun l z => UB_sub z, fun _ => k⟩
variable {T : Tx} {clv : Nat → List Ow → CRes} {clh : Nat → List Va → Sto → Res Va}
theorem owned_false {a : E} {q : Nat × List Nat} {o : Ow} {v : Va} {U : Set'} {F : List Nat} (ep : pathOf a = some q) (er : readP T s q = some o) (R : RepO S U v o F) (h : owned a s = false) : F = [] := by
  unfold owned at h
  rw [ep] at h
  obtain ⟨i, p⟩ := q
  dsimp only at h
  unfold readP at er
  dsimp only at er
  cases e0 : slotO s i with
  | none => rw [e0] at er; cases er
  | some o0 =>
    rw [e0] at h er
    have er : getP T.fl o0 p = some o := er
    cases o0 with
    | sh d =>
      cases p with
      | nil =>
        rw [getP_nil] at er
        cases er
        exact (RepO.sh_nil R).1
      | cons f p => cases er
    | _ => simp [isSh] at h
theorem bor_n {a : E} {qb : Bool} (I : Inv S A r s Fs) (ih : Sim RO (quiet a) S A r s Fs (vE T clv a s) (evE T clh a r S)) (hB : ∀ q, pathOf a = some q → q.1 ∈ B) (hq : qb = true ∨ owned a s = false) :
    Sim (RC1 A B qb) (quiet a) S A r s Fs (borN T a (vE T clv a) s) (evE T clh a r S) := by
  unfold borN
  cases ep : pathOf a with
  | none => exact asD_c ih
  | some q =>
    dsimp only
    cases er : readP T s q with
    | none => exact asD_c ih
    | some o =>
      obtain ⟨v, F1, G, k1, k2, P⟩ := path_at (cl := clh) I ep er
      refine ⟨v, S, Fs, [], k1, Out.refl I, k2.frz (fun l z => UB_sub z) (fun l hl z => ?_), fun hb => ?_⟩
      · have hs := P.own (List.mem_append_left _ hl)
        rcases z with z | ⟨j, nj, z⟩
        · exact I.av l (own_has.mpr ⟨q.1, hs⟩) z
        · obtain ⟨o1, e1⟩ := Option.isSome_iff_exists.mp hs.1
          obtain ⟨o2, e2⟩ := Option.isSome_iff_exists.mp z.1
          exact I.dj q.1 j o1 o2 (fun w => nj (w ▸ hB q ep)) e1 e2 l hs.2 z.2
      · rcases hq with hq | hq
        · rw [hq] at hb; cases hb
        · have := owned_false ep er k2 hq
          subst this
          exact k2.frz (fun l z => z) (by simp)
theorem bor_c {a : E} {qb : Bool} (I : Inv S A r s Fs) (ih : Sim RO (quiet a) S A r s Fs (vE T clv a s) (evE T clh a r S)) (hB : ∀ q, pathOf a = some q → q.1 ∈ B) (hq : qb = true ∨ owned a s = false) :
    Sim (RC1 A B qb) (quiet a) S A r s Fs (bor T a (vE T clv a) s) (evE T clh a r S) := by
  have hn := bor_n (qb := qb) I ih hB hq
  unfold borN at hn
  unfold bor
  cases ep : pathOf a with
  | none => exact asD_c ih
  | some q =>
    dsimp only
    cases er : readP T s q with
    | none => exact asD_c ih
    | some o =>
      cases hls : isLso o with
      | false =>
        dsimp only
        rw [hls, if_neg (by simp)]
        rw [ep] at hn
        dsimp only at hn
        rw [er] at hn
        exact hn
      | true =>
        dsimp only
        rw [hls, if_pos rfl]
        obtain ⟨v, F1, G, k1, k2, P⟩ := path_at (cl := clh) I ep er
        have key : Sh S (UA A (frzS s [q.1]) (minusF Fs [q.1])) v (Vl.frz o) := k2.frz (fun l z => by
          rcases z with z | z
          · exact .inl z
          · obtain ⟨i, z⟩ := own_has.mp z
            exact .inr (own_has.mpr ⟨i, (HasF_frz z).2⟩)) (fun l hl z => by
          have hs := P.own (List.mem_append_left _ hl)
          rcases z with z | z
          · exact I.av l (own_has.mpr ⟨q.1, hs⟩) z
          · obtain ⟨i, z⟩ := own_has.mp z
            have z2 := HasF_frz z
            obtain ⟨o1, e1⟩ := Option.isSome_iff_exists.mp hs.1
            obtain ⟨o2, e2⟩ := Option.isSome_iff_exists.mp z2.2.1
            exact I.dj i q.1 o2 o1 (fun w => z2.1 (by rw [w]; simp)) e2 e1 l z2.2.2 hs.2)
        exact Sim.frz0 (B := [q.1]) ⟨v, S, minusF Fs [q.1], [], k1, Out.refl (I.frz _), key.weak fun l z => UB_sub z, fun _ => key⟩
/-- a callee's tree over a later step -/
theorem RC1.over {v : Va} {d : D} {U : Set'} {F F2 : List Nat} {A1 : Set'} (h : RC1 A B q S1 U s1 Fs1 v d F) (o : Out q S1 A1 r s1 Fs1 S2 s2 Fs2 F2) : Sh S2 (UB A B s2 Fs2) v d := by
  cases q with
  | true =>
    refine Sh.move (W := fun _ => False) (o.fr.mono fun l _ z => by simp at z) (fun _ z => z.elim) (fun l hl z => ?_) h.1
    rcases z with z | ⟨j, nj, z⟩
    · exact .inl z
    · rcases o.n2 j l z with w | w
      · exact .inr ⟨j, nj, w⟩
      · omega
  | false =>
    refine Sh.move o.fr (fun l z => .inr z.2) (fun l hl z => ?_) (h.2 rfl)
    rcases z with z | ⟨j, nj, z⟩
    · exact .inl z
    · rcases o.n2 j l z with w | w
      · exact .inr (own_has.mpr ⟨j, w⟩)
      · omega
def IHA (T : Tx) (clv : Nat → List Ow → CRes) (clh : Nat → List Va → Sto → Res Va) (a : E) : Prop := ∀ {S : Sto} {A : Set'} {r : Rho} {s : VEnv} {Fs : Nat → List Nat}, Inv S A r s Fs → Sim (RCL A []) (quiet a) S A r s Fs (vA T clv a s) (evA T clh a r S)
def IHC (T : Tx) (clv : Nat → List Ow → CRes) (clh : Nat → List Va → Sto → Res Va) (a : E) : Prop := ∀ {S : Sto} {A : Set'} {r : Rho} {s : VEnv} {Fs : Nat → List Nat} (B : List Nat), (∀ i ∈ brw a, i ∈ B) → Inv S A r s Fs → Sim (RCL A B) (quiet a) S A r s Fs (vC T clv a s) (evA T clh a r S)
theorem vC_nil : IHC T clv clh .nil := fun B hB I => by
  simp only [vC, evA]
  exact (Sim.pure I .nil : Sim (RCL _ B) true _ _ _ _ _ (.ok [] _) (.ok [] _))
theorem vA_nil : IHA T clv clh .nil := fun I => by
  simp only [vA, evA]
  exact (Sim.pure I .nil : Sim (RCL _ []) true _ _ _ _ _ (.ok [] _) (.ok [] _))
/-- the rest behind a first one -/
theorem cons_ok {v : Va} {x : D} {U : Set'} {F : List Nat} {b : E} {k : VEnv → VRes (List D)} (I : Inv S1 (fun l => A l ∨ l ∈ F1) r s1 Fs1) (R1 : RC1 A B (quiet b) S1 U s1 Fs1 v x F) (h : Sim (RCL (fun l => A l ∨ l ∈ F1) B) (quiet b) S1 (fun l => A l ∨ l ∈ F1) r s1 Fs1 (k s1) (evA T clh b r S1)) :
    Sim (RCL A B) (quiet b) S1 (fun l => A l ∨ l ∈ F1) r s1 Fs1 ((k s1).bind fun xs s2 => .ok (x :: xs) s2) ((evA T clh b r S1).bind fun xs S2 => .ok (v :: xs) S2) := by
  cases e : k s1 with
  | bad => exact trivial
  | exc c s' =>
    rw [e] at h
    obtain ⟨S', Fs', e2, o⟩ := h
    exact ⟨S', Fs', by rw [e2]; rfl, o⟩
  | ok xs s2 =>
    rw [e] at h
    obtain ⟨vs, S2, Fs2, F2, e2, o, R⟩ := h
    refine ⟨v :: vs, S2, Fs2, F2, by rw [e2]; rfl, o, .cons (R1.over o) (ShL.weak R fun l z => ?_)⟩
    rcases z with z | z
    · exact .inl (.inl z)
    · exact .inr z
theorem vC_cons {a b : E} (iha : IHE T clv clh a) (ihb : IHC T clv clh b) : IHC T clv clh (.cons a b) := fun {S A r s Fs} B hB I => by
  simp only [vC, evA]
  by_cases hst : stale a b s = true
  · rw [if_pos hst]; exact trivial
  · rw [if_neg hst]
    have hBa : ∀ q, pathOf a = some q → q.1 ∈ B := fun q e => hB _ (by unfold brw; rw [e]; simp)
    have hBb : ∀ i ∈ brw b, i ∈ B := fun i h => hB i (by
      unfold brw
      cases pathOf a with
      | none => exact h
      | some q => exact List.mem_cons_of_mem _ h)
    exact Sim.bind (q2 := quiet b) mono_RCL (bor_n (qb := quiet b) I (iha I) hBa (not_stale hst)) fun x s1 v S1 Fs1 F1 _ o R1 => cons_ok o.inv R1 (ihb B hBb o.inv)
theorem vA_cons {a b : E} (iha : IHE T clv clh a) (ihb : IHA T clv clh b) : IHA T clv clh (.cons a b) := fun {S A r s Fs} I => by
  have h := iha I
  simp only [vA, evA]
  have h2 : Sim (RC1 A [] (quiet b)) (quiet a) S A r s Fs (asD (vE T clv a s)) (evE T clh a r S) := asD_c h
  have h3 := Sim.bind (R2 := RCL A []) (q2 := quiet b) (k := fun x s1 => (vA T clv b s1).bind fun xs s2 => .ok (x :: xs) s2) (kr := fun x S1 => (evA T clh b r S1).bind fun xs S2 => .ok (x :: xs) S2) mono_RCL h2 fun x s1 v S1 Fs1 F1 _ o R1 => cons_ok o.inv R1 (ihb o.inv)
  have e : (asD (vE T clv a s)).bind (fun x s1 => (vA T clv b s1).bind fun xs s2 => .ok (x :: xs) s2) = (vE T clv a s).bind fun x s1 => (vA T clv b s1).bind fun xs s2 => .ok (frz x :: xs) s2 := by
    cases vE T clv a s <;> rfl
  rw [e] at h3
  exact h3
end
end Vl
end

section
set_option linter.all false
/-! Vr13: what is walked, targets. -/
namespace Vl
open PySem Ev
section
variable {q : Bool} {S S1 S2 S' : Sto} {A : Set'} {r : Rho} {s s1 s2 : VEnv} {Fs Fs1 Fs2 : Nat → List Nat} {F1 F2 : List Nat} {B : List Nat} {U U' W : Set'}
def srcs : Iter → List Nat
  | .lst l => [l]
  | .tup l => [l]
  | .rng _ _ _ => []
  | .enum l => [l]
  | .zip l m => [l, m]
inductive SrcI (S : Sto) (U : Set') : Iter → List D → Prop where
  | lst {l : Nat} {ys : List Va} {xs : List D} : S[l]? = some (.lst ys) → ShL S U ys xs → SrcI S U (.lst l) xs
  | tup {l : Nat} {ys : List Va} {xs : List D} : S[l]? = some (.tup ys) → ShL S U ys xs → SrcI S U (.tup l) xs
  | rng {lo st : Int} {n : Nat} : SrcI S U (.rng lo st n) (ranI lo st n)
  | enum {l : Nat} {ys : List Va} {xs : List D} : S[l]? = some (.lst ys) → ShL S U ys xs → SrcI S U (.enum l) (enumD xs)
  | zip {l m : Nat} {ys us : List Va} {xs zs : List D} : S[l]? = some (.lst ys) → S[m]? = some (.lst us) → ShL S U ys xs → ShL S U us zs → SrcI S U (.zip l m) (zipD xs zs)
theorem SrcI.move {J : Iter} {xs : List D} (h : SrcI S U J xs) (f : Fr S S' W) (hW : ∀ l, W l → U l) (hU : ∀ l, l < S.length → U' l → U l) (hs : ∀ l ∈ srcs J, ¬ W l) : SrcI S' U' J xs := by
  cases h with
  | lst e t => exact .lst ((f.keep _ (lt_of_get e) (hs _ (by simp [srcs]))).trans e) (t.move f hW hU)
  | tup e t => exact .tup ((f.keep _ (lt_of_get e) (hs _ (by simp [srcs]))).trans e) (t.move f hW hU)
  | rng => exact .rng
  | enum e t => exact .enum ((f.keep _ (lt_of_get e) (hs _ (by simp [srcs]))).trans e) (t.move f hW hU)
  | zip e e2 t t2 => exact .zip ((f.keep _ (lt_of_get e) (hs _ (by simp [srcs]))).trans e) ((f.keep _ (lt_of_get e2) (hs _ (by simp [srcs]))).trans e2) (t.move f hW hU) (t2.move f hW hU)
theorem SrcI.lt {J : Iter} {xs : List D} (h : SrcI S U J xs) : ∀ l ∈ srcs J, l < S.length := by
  cases h with
  | lst e t => intro l z; rw [List.mem_singleton.mp z]; exact lt_of_get e
  | tup e t => intro l z; rw [List.mem_singleton.mp z]; exact lt_of_get e
  | rng => intro l z; simp [srcs] at z
  | enum e t => intro l z; rw [List.mem_singleton.mp z]; exact lt_of_get e
  | zip e e2 t t2 =>
    intro l z
    rcases List.mem_cons.mp z with z | z
    · rw [z]; exact lt_of_get e
    · rw [List.mem_singleton.mp z]; exact lt_of_get e2
theorem SrcI.len {J : Iter} {xs : List D} (h : SrcI S U J xs) : xs.length ≤ lenI J S := by
  cases h with
  | lst e t => simp [lenI, getL, e, t.len]
  | tup e t => simp [lenI, getT, e, t.len]
  | rng => simp [lenI, ranI]
  | enum e t => simp [lenI, getL, e, t.len, enumD]
  | zip e e2 t t2 => simp [lenI, getL, e, t.len, zipD]; omega
theorem SrcI.next {J : Iter} {xs : List D} {i : Nat} {x : D} (hO : ∀ l, U l → l < S.length) (h : SrcI S U J xs) (e : xs[i]? = some x) : ∃ v X, nextI J i S = some (some (v, S ++ X)) ∧ Sh (S ++ X) U v x := by
  have nw : ∀ {X : List Ob} {ys : List Va} {zs : List D}, ShL S U ys zs → ShL (S ++ X) U ys zs := fun t => t.move (W := fun _ => False) Fr.new (fun _ z => z.elim) (fun l _ z => z)
  have nx : ∀ {X : List Ob} {ys : Va} {zs : D}, Sh S U ys zs → Sh (S ++ X) U ys zs := fun t => t.move (W := fun _ => False) Fr.new (fun _ z => z.elim) (fun l _ z => z)
  cases h with
  | lst e1 t =>
    obtain ⟨v, e2, k⟩ := t.get e
    exact ⟨v, [], by simp [nextI, getL, e1, e2], by simpa using k⟩
  | tup e1 t =>
    obtain ⟨v, e2, k⟩ := t.get e
    exact ⟨v, [], by simp [nextI, getT, e1, e2], by simpa using k⟩
  | rng =>
    rename_i lo st n
    unfold ranI at e
    rw [List.getElem?_map] at e
    by_cases hi : i < n
    · rw [List.getElem?_range hi] at e
      cases e
      exact ⟨.int (lo + i * st), [], by simp [nextI, hi], .int⟩
    · rw [List.getElem?_eq_none (by simpa using hi)] at e
      cases e
  | enum e1 t =>
    rename_i l ys zs
    unfold enumD at e
    rw [List.getElem?_zipWith] at e
    cases e3 : zs[i]? with
    | none =>
      rw [e3] at e
      cases e4 : (List.range zs.length)[i]? <;> rw [e4] at e <;> cases e
    | some z =>
      have hi : i < zs.length := (List.getElem?_eq_some_iff.mp e3).1
      rw [e3, List.getElem?_range hi] at e
      cases e
      obtain ⟨v, e2, k⟩ := t.get e3
      refine ⟨.loc S.length, [.tup [.int i, v]], by simp [nextI, getL, e1, e2], .tup (by simp) (fun z => ?_) (.cons .int (.cons (nx k) .nil))⟩
      have := hO _ z; omega
  | zip e1 e2 t t2 =>
    rename_i l m ys us zs ws
    unfold zipD at e
    rw [List.getElem?_zipWith] at e
    cases e3 : zs[i]? with
    | none => rw [e3] at e; cases e
    | some z =>
      cases e4 : ws[i]? with
      | none => rw [e3, e4] at e; cases e
      | some w =>
        rw [e3, e4] at e
        cases e
        obtain ⟨v, e5, k⟩ := t.get e3
        obtain ⟨u, e6, k2⟩ := t2.get e4
        refine ⟨.loc S.length, [.tup [v, u]], by simp [nextI, getL, e1, e2, e5, e6], .tup (by simp) (fun z => ?_) (.cons (nx k) (.cons (nx k2) .nil))⟩
        have := hO _ z; omega
theorem SrcI.stop {J : Iter} {xs : List D} {i : Nat} (h : SrcI S U J xs) (e : xs[i]? = none) : nextI J i S = some none := by
  cases h with
  | lst e1 t => simp [nextI, getL, e1, t.nget e]
  | tup e1 t => simp [nextI, getT, e1, t.nget e]
  | rng =>
    rename_i lo st n
    have : n ≤ i := by
      rw [List.getElem?_eq_none_iff] at e
      simpa [ranI] using e
    simp [nextI, Nat.not_lt.mpr this]
  | enum e1 t =>
    rename_i l ys zs
    have : zs[i]? = none := by
      rw [List.getElem?_eq_none_iff] at e ⊢
      simpa [enumD] using e
    simp [nextI, getL, e1, t.nget this]
  | zip e1 e2 t t2 =>
    rename_i l m ys us zs ws
    unfold zipD at e
    rw [List.getElem?_zipWith] at e
    cases e3 : zs[i]? with
    | none =>
      simp only [nextI, getL, e1, e2, t.nget e3]
    | some z =>
      cases e4 : ws[i]? with
      | none =>
        obtain ⟨v, e5, k⟩ := t.get e3
        simp only [nextI, getL, e1, e2, e5, t2.nget e4]
      | some w => rw [e3, e4] at e; cases e
/-! ### targets -/
structure Les (s1 : VEnv) (Fs1 : Nat → List Nat) (s : VEnv) (Fs : Nat → List Nat) : Prop where
  has : ∀ i l, HasF s1 Fs1 i l → HasF s Fs i l
theorem Les.own {l : Nat} (h : Les s1 Fs1 s Fs) (z : Own s1 Fs1 l) : Own s Fs l := by
  obtain ⟨i, z⟩ := own_has.mp z
  exact own_has.mpr ⟨i, h.has i l z⟩
theorem Les.ua {l : Nat} (h : Les s1 Fs1 s Fs) (z : UA A s1 Fs1 l) : UA A s Fs l := by
  rcases z with z | z
  · exact .inl z
  · exact .inr (h.own z)
/-- a shared tree is stored -/
theorem put_sh {i : Nat} {v : Va} {d : D} (I : Inv S A r s Fs) (hi : i < s.length) (h : Sh S (UA A s Fs) v d) : Inv S A (r.set i (some v)) (s.set i (some (.sh d))) (upF Fs i []) ∧ Les (s.set i (some (.sh d))) (upF Fs i []) s Fs := by
  have L : Les (s.set i (some (.sh d))) (upF Fs i []) s Fs := ⟨fun j l z => by
    obtain ⟨z1, z2⟩ := z
    by_cases e : j = i
    · subst e; rw [upF_same] at z2; simp at z2
    · rw [upF_ne e] at z2
      rw [slot_set, if_neg fun w => e w.1.symm] at z1
      exact ⟨z1, z2⟩⟩
  exact ⟨I.put (W := fun _ => False) hi Fr.refl (fun _ z => z.elim) (fun l _ z => .inl z) (by simp) (.sh (h.weak fun l z => L.ua z)) .nil (by simp) I.old, L⟩
/-- slots out of reach -/
theorem put_far {i : Nat} {v : Va} {d : D} (I : Inv S A r s Fs) (hi : ¬ i < s.length) : r.set i (some v) = r ∧ s.set i (some (Ow.sh d)) = s := by
  have h : ¬ i < r.length := by rw [I.len]; exact hi
  exact ⟨List.set_eq_of_length_le (by omega), List.set_eq_of_length_le (by omega)⟩
def Keep0 (k : Bool) (r1 r : Rho) : Prop := k = true → r1[0]? = r[0]?
/-- slots outside of own stand -/
def KeepN (own : List Nat) (t : Bool) (r1 r : Rho) : Prop := t = true → ∀ i, i ∉ own → r1[i]? = r[i]?
theorem asg1 {i : Nat} {v : Va} {d : D} (I : Inv S A r s Fs) (h : Sh S (UA A s Fs) v d) : ∃ Fs1, Inv S A (r.set i (some v)) (s.set i (some (.sh d))) Fs1 ∧ Les (s.set i (some (.sh d))) Fs1 s Fs := by
  by_cases hi : i < s.length
  · exact ⟨_, put_sh I hi h⟩
  · obtain ⟨e1, e2⟩ := put_far (v := v) (d := d) I hi
    rw [e1, e2]
    exact ⟨Fs, I, ⟨fun _ _ z => z⟩⟩
mutual
theorem asgV_ok {own : List Nat} : ∀ (t : Tg) {v : Va} {d : D} {r : Rho} {s s1 : VEnv} {Fs : Nat → List Nat}, Inv S A r s Fs → Sh S (UA A s Fs) v d → asgV t d s = some s1 → ∃ r1 Fs1, asgT S t v r = some r1 ∧ Inv S A r1 s1 Fs1 ∧ Les s1 Fs1 s Fs ∧ Keep0 (tgK t) r1 r ∧ KeepN own (tgIn own t) r1 r
  | .nm i, v, d, r, s, s1, Fs, I, h, e => by
    simp only [asgV] at e
    cases e
    obtain ⟨Fs1, k1, k2⟩ := asg1 (i := i) I h
    refine ⟨_, Fs1, by simp only [asgT], k1, k2, fun z => ?_, fun z j hj => ?_⟩
    · have z : i ≠ 0 := by simpa [tgK] using z
      exact List.getElem?_set_ne z
    · have z : i ∈ own := by simpa [tgIn] using z
      exact List.getElem?_set_ne fun (w : i = j) => hj (w ▸ z)
  | .tup ts, v, d, r, s, s1, Fs, I, h, e => by
    simp only [asgV] at e
    cases e0 : dT d with
    | none => rw [e0] at e; cases e
    | some xs =>
      rw [e0] at e
      obtain ⟨ys, g, t⟩ := (Bo.of h).getT e0
      obtain ⟨r1, Fs1, k1, k2⟩ := asgVs_ok (own := own) ts I t e
      exact ⟨r1, Fs1, by simp only [asgT, g]; exact k1, k2⟩
  | .nil, v, d, r, s, s1, Fs, I, h, e => by simp only [asgV] at e; cases e
  | .cons _ _, v, d, r, s, s1, Fs, I, h, e => by simp only [asgV] at e; cases e
theorem asgVs_ok {own : List Nat} : ∀ (t : Tg) {vs : List Va} {ds : List D} {r : Rho} {s s1 : VEnv} {Fs : Nat → List Nat}, Inv S A r s Fs → ShL S (UA A s Fs) vs ds → asgVs t ds s = some s1 → ∃ r1 Fs1, asgTs S t vs r = some r1 ∧ Inv S A r1 s1 Fs1 ∧ Les s1 Fs1 s Fs ∧ Keep0 (tgK t) r1 r ∧ KeepN own (tgIn own t) r1 r
  | .nil, _, _, r, s, s1, Fs, I, .nil, e => by
    simp only [asgVs] at e
    cases e
    exact ⟨r, Fs, by simp only [asgTs], I, ⟨fun _ _ z => z⟩, fun _ => rfl, fun _ _ _ => rfl⟩
  | .nil, _, _, r, s, s1, Fs, I, .cons _ _, e => by simp only [asgVs] at e; cases e
  | .cons t ts, _, _, r, s, s1, Fs, I, .nil, e => by simp only [asgVs] at e; cases e
  | .cons t ts, _, _, r, s, s1, Fs, I, .cons (v := v) (d := d) (vs := vs) (ds := ds) a b, e => by
    simp only [asgVs] at e
    cases e0 : asgV t d s with
    | none => rw [e0] at e; cases e
    | some s0 =>
      rw [e0] at e
      obtain ⟨r0, Fs0, k1, k2, k3, k4, k5⟩ := asgV_ok (own := own) t I a e0
      obtain ⟨r1, Fs1, m1, m2, m3, m4, m5⟩ := asgVs_ok (own := own) ts k2 (b.weak fun l z => k3.ua z) e
      refine ⟨r1, Fs1, by simp only [asgTs, k1]; exact m1, m2, ⟨fun i l z => k3.has i l (m3.has i l z)⟩, fun z => ?_, fun z j hj => ?_⟩
      · have z : (tgK t && tgK ts) = true := z
        rw [Bool.and_eq_true] at z
        rw [m4 z.2, k4 z.1]
      · have z : (tgIn own t && tgIn own ts) = true := z
        rw [Bool.and_eq_true] at z
        rw [m5 z.2 j hj, k5 z.1 j hj]
  | .nm i, _, _, r, s, s1, Fs, I, h, e => by cases h <;> (simp only [asgVs] at e; cases e)
  | .tup i, _, _, r, s, s1, Fs, I, h, e => by cases h <;> (simp only [asgVs] at e; cases e)
end
/-! ### slots wiped -/
theorem wipeV_len : ∀ own : List Nat, (wipeV s own).length = s.length
  | [] => rfl
  | i :: is => by unfold wipeV; rw [List.length_set]; exact wipeV_len is
theorem wipeR_len : ∀ own : List Nat, (wipeR r own).length = r.length
  | [] => rfl
  | i :: is => by unfold wipeR; rw [List.length_set]; exact wipeR_len is
theorem wipeV_slot {j : Nat} : ∀ own : List Nat, slotO (wipeV s own) j = if j ∈ own then none else slotO s j
  | [] => by simp [wipeV]
  | i :: is => by
    unfold wipeV
    rw [slot_set, wipeV_len, wipeV_slot is]
    by_cases e : i = j
    · subst e
      by_cases h : i < s.length
      · simp [h]
      · have : slotO s i = none := by
          unfold slotO
          rw [List.getElem?_eq_none (by omega)]; rfl
        simp [h, this]
    · have : (j ∈ i :: is) ↔ j ∈ is := by simp [Ne.symm e]
      simp only [this, if_neg (fun z : i = j ∧ _ => e z.1)]
theorem wipeR_get {j : Nat} : ∀ own : List Nat, j ∉ own → (wipeR r own)[j]? = r[j]?
  | [], _ => rfl
  | i :: is, h => by
    unfold wipeR
    rw [List.getElem?_set_ne (fun e => h (by simp [e])), wipeR_get is fun z => h (by simp [z])]
theorem HasF_wipe {own : List Nat} {i l : Nat} (h : HasF (wipeV s own) Fs i l) : i ∉ own ∧ HasF s Fs i l := by
  obtain ⟨h1, h2⟩ := h
  rw [wipeV_slot] at h1
  by_cases e : i ∈ own
  · rw [if_pos e] at h1; cases h1
  · rw [if_neg e] at h1
    exact ⟨e, h1, h2⟩
/-- slots wiped; their places may be kept apart -/
theorem Inv.wipe {own : List Nat} {r1 : Rho} {A' : Set'} (I : Inv S A r1 s Fs) (hl : r.length = r1.length) (hr : ∀ i, i ∉ own → r[i]? = r1[i]?) (hA : ∀ l, A' l → A l ∨ ∃ i ∈ own, HasF s Fs i l) : Inv S A' r (wipeV s own) Fs := by
  have hU : ∀ l, UA A' (wipeV s own) Fs l → UA A s Fs l := fun l z => by
    rcases z with z | z
    · rcases hA l z with w | ⟨i, _, w⟩
      · exact .inl w
      · exact .inr (own_has.mpr ⟨i, w⟩)
    · obtain ⟨i, z⟩ := own_has.mp z
      exact .inr (own_has.mpr ⟨i, (HasF_wipe z).2⟩)
  have sl : ∀ i o, slotO (wipeV s own) i = some o → i ∉ own ∧ slotO s i = some o := fun i o e => by
    rw [wipeV_slot] at e
    by_cases h : i ∈ own
    · rw [if_pos h] at e; cases e
    · rw [if_neg h] at e; exact ⟨h, e⟩
  refine ⟨by rw [wipeV_len, hl]; exact I.len, fun i o e => ?_, fun i o e => I.nd i o (sl i o e).2, fun i j o o' ne e1 e2 => I.dj i j o o' ne (sl i o e1).2 (sl j o' e2).2, fun l h z => ?_, fun l z => ?_⟩
  · obtain ⟨h1, h2⟩ := sl i o e
    obtain ⟨v, e1, R⟩ := I.rep i o h2
    exact ⟨v, by rw [hr i h1]; exact e1, R.weak hU⟩
  · obtain ⟨i, h⟩ := own_has.mp h
    obtain ⟨h1, h2⟩ := HasF_wipe h
    rcases hA l z with w | ⟨j, hj, w⟩
    · exact I.av l (own_has.mpr ⟨i, h2⟩) w
    · obtain ⟨o1, e1⟩ := Option.isSome_iff_exists.mp h2.1
      obtain ⟨o2, e2⟩ := Option.isSome_iff_exists.mp w.1
      exact I.dj i j o1 o2 (fun y => h1 (y ▸ hj)) e1 e2 l h2.2 w.2
  · rcases hA l z with w | ⟨j, hj, w⟩
    · exact I.old l w
    · exact I.lt (own_has.mpr ⟨j, w⟩)
end
end Vl
end

section
set_option linter.all false
/-! Vr14: comprehensions. -/
namespace Vl
open PySem Ev
section
variable {T : Tx} {clv : Nat → List Ow → CRes} {clh : Nat → List Va → Sto → Res Va} {S S1 S2 : Sto} {A : Set'} {r : Rho} {s s1 s2 : VEnv} {Fs Fs1 Fs2 : Nat → List Nat}
theorem Out.alloc1 {q : Bool} {X : List Ob} (I : Inv S A r s Fs) : Inv (S ++ X) A r s Fs := I.move (W := fun _ => False) Fr.new (fun _ z => z.elim) (fun l _ z => z) (fun l z => by have := I.old l z; simp; omega)
/-- a step and the wiped slots behind it -/
structure OutC (q : Bool) (own : List Nat) (S : Sto) (A : Set') (r : Rho) (s : VEnv) (Fs : Nat → List Nat) (S' : Sto) (s' : VEnv) (Fs' : Nat → List Nat) : Prop where
  fr : Fr S S' (fun l => q = false ∧ Own (wipeV s own) Fs l)
  inv : Inv S' A r (wipeV s' own) Fs'
  n2 : ∀ i l, HasF (wipeV s' own) Fs' i l → HasF (wipeV s own) Fs i l ∨ S.length ≤ l
theorem OutC.m2 {q : Bool} {own : List Nat} {S' : Sto} {s' : VEnv} {Fs' : Nat → List Nat} (o : OutC q own S A r s Fs S' s' Fs') {l : Nat} (h : Own (wipeV s' own) Fs' l) : Own (wipeV s own) Fs l ∨ S.length ≤ l := by
  obtain ⟨i, h⟩ := own_has.mp h
  rcases o.n2 i l h with z | z
  · exact .inl (own_has.mpr ⟨i, z⟩)
  · exact .inr z
theorem OutC.trans {q : Bool} {own : List Nat} (a : OutC q own S A r s Fs S1 s1 Fs1) (b : OutC q own S1 A r s1 Fs1 S2 s2 Fs2) : OutC q own S A r s Fs S2 s2 Fs2 where
  fr := a.fr.trans b.fr fun l hl h => ⟨h.1, by
    rcases a.m2 h.2 with z | z
    · exact z
    · omega⟩
  inv := b.inv
  n2 := fun i l h => by
    rcases b.n2 i l h with z | z
    · exact a.n2 i l z
    · exact .inr (Nat.le_trans a.fr.len z)
theorem OutC.ua {q : Bool} {own : List Nat} {S' : Sto} {s' : VEnv} {Fs' : Nat → List Nat} (o : OutC q own S A r s Fs S' s' Fs') {l : Nat} (hl : l < S.length) (h : UA A (wipeV s' own) Fs' l) : UA A (wipeV s own) Fs l := by
  rcases h with h | h
  · exact .inl h
  · rcases o.m2 h with z | z
    · exact .inr z
    · omega
theorem asB_ok {q : Bool} {x : VRes Ow} {y : Res Va} (h : Sim RO q S A r s Fs x y) : Sim (fun _ _ _ _ v b _ => v = .bl b : RT Bool Va) q S A r s Fs (asB x) y := by
  cases x with
  | bad => exact trivial
  | exc c s' => exact h
  | ok o s' =>
    obtain ⟨b, S', Fs', Fo, e, w, R⟩ := h
    unfold asB
    dsimp only [VRes.bind]
    split
    · obtain ⟨_, k⟩ := RepO.sh_nil R
      cases k
      exact ⟨_, S', Fs', Fo, e, w, rfl⟩
    · exact trivial
theorem asgV_len2 (t : Tg) : (∀ d s s1, asgV t d s = some s1 → s1.length = s.length) ∧ (∀ ds s s1, asgVs t ds s = some s1 → s1.length = s.length) := by
  induction t with
  | nm i =>
    refine ⟨fun d s s1 h => ?_, fun ds s s1 h => ?_⟩
    · simp only [asgV] at h; cases h; simp
    · cases ds <;> (simp only [asgVs] at h; cases h)
  | nil =>
    refine ⟨fun d s s1 h => ?_, fun ds s s1 h => ?_⟩
    · simp only [asgV] at h; cases h
    · cases ds <;> (simp only [asgVs] at h; cases h)
      rfl
  | cons a b iha ihb =>
    refine ⟨fun d s s1 h => ?_, fun ds s s1 h => ?_⟩
    · simp only [asgV] at h; cases h
    · cases ds with
      | nil => simp only [asgVs] at h; cases h
      | cons x xs =>
        simp only [asgVs] at h
        cases e : asgV a x s with
        | none => rw [e] at h; cases h
        | some s0 =>
          rw [e] at h
          rw [ihb.2 _ _ _ h, iha.1 _ _ _ e]
  | tup t ih =>
    refine ⟨fun d s s1 h => ?_, fun ds s s1 h => ?_⟩
    · simp only [asgV] at h
      cases e : dT d with
      | none => rw [e] at h; cases h
      | some xs =>
        rw [e] at h
        exact ih.2 _ _ _ h
    · cases ds <;> (simp only [asgVs] at h; cases h)
theorem asgV_len (t : Tg) {d : D} {s s1 : VEnv} (h : asgV t d s = some s1) : s1.length = s.length := (asgV_len2 t).1 _ _ _ h
/-- a comprehension's turns -/
theorem comp_ok {own : List Nat} {t : Tg} {c e : E} {J : Iter} {xs : List D} (ihc : IHE T clv clh c) (ihe : IHE T clv clh e) (ht : tgIn own t = true) :
    ∀ (n i : Nat) {S : Sto} {s : VEnv} {Fs : Nat → List Nat} {acc : List D} {acv : List Va}, xs.length - i < n → Inv S A r (wipeV s own) Fs → SrcI S (UA A (wipeV s own) Fs) J xs → ((quiet c && quiet e) = false → ∀ l ∈ srcs J, ¬ Own (wipeV s own) Fs l) → ShL S (UA A (wipeV s own) Fs) acv acc →
    match compV t own (fun s => asB (vE T clv c s)) (fun s => asD (vE T clv e s)) (xs.drop i) acc s with
    | .ok ds s' => ∃ vs S' Fs', compL J t (evE T clh c) (evE T clh e) r n i acv S = .ok vs S' ∧ OutC (quiet c && quiet e) own S A r s Fs S' s' Fs' ∧ ShL S' (UA A (wipeV s' own) Fs') vs ds
    | .exc _ _ => False
    | .bad => True := by
  intro n
  induction n with
  | zero => intro i S s Fs acc acv h; omega
  | succ n ih =>
    intro i S s Fs acc acv hn I K hq L
    have hO : ∀ l, UA A (wipeV s own) Fs l → l < S.length := fun l z => by
      rcases z with z | z
      · exact I.old l z
      · exact I.lt z
    cases ex : xs[i]? with
    | none =>
      have hd : xs.drop i = [] := by
        rw [List.getElem?_eq_none_iff] at ex
        exact List.drop_eq_nil_of_le ex
      rw [hd]
      simp only [compV]
      exact ⟨acv, S, Fs, by simp only [compL, K.stop ex], ⟨Fr.refl, I, fun i l z => .inl z⟩, L⟩
    | some x =>
      have hi : i < xs.length := (List.getElem?_eq_some_iff.mp ex).1
      have hd : xs.drop i = x :: xs.drop (i + 1) := by
        rw [List.drop_eq_getElem_cons hi]
        rw [List.getElem?_eq_getElem hi] at ex
        rw [Option.some.inj ex]
      rw [hd]
      simp only [compV]
      obtain ⟨v, X, e1, k1⟩ := K.next hO ex
      cases ea : asgV t x (wipeV s own) with
      | none => exact trivial
      | some s1 =>
        dsimp only
        have I0 : Inv (S ++ X) A r (wipeV s own) Fs := Out.alloc1 (q := true) I
        obtain ⟨r1, Fs1, g1, g2, g3, _, g5⟩ := asgV_ok (own := own) t I0 k1 ea
        have hlen : r.length = r1.length := by
          have a := I0.len
          have b := g2.len
          have c := wipeV_len (s := s) own
          have := asgV_len t ea
          omega
        have hr : ∀ i, i ∉ own → r[i]? = r1[i]? := fun i hi => (g5 ht i hi).symm
        have hc := asB_ok (ihc g2)
        cases ec : asB (vE T clv c s1) with
        | bad => exact trivial
        | exc x y => exact trivial
        | ok b s2 =>
          rw [ec] at hc
          obtain ⟨w, S2, Fs2, F2, c1, c2, rfl⟩ := hc
          have I2 : Inv S2 A r1 s2 Fs2 := c2.invA
          have wk : ∀ {S3 : Sto} {s3 : VEnv} {Fs3 : Nat → List Nat}, Inv S3 A r1 s3 Fs3 → Inv S3 A r (wipeV s3 own) Fs3 := fun J3 => J3.wipe hlen hr fun l z => .inl z
          have oc1 : ∀ {S3 : Sto} {s3 : VEnv} {Fs3 : Nat → List Nat} {F3 : List Nat} {q' : Bool}, Out q' (S ++ X) A r1 s1 Fs1 S3 s3 Fs3 F3 → (q' = false → (quiet c && quiet e) = false) → OutC (quiet c && quiet e) own S A r s Fs S3 s3 Fs3 := fun {S3 s3 Fs3 F3 q'} o hq' => by
            refine ⟨Fr.trans (W1 := fun l => q' = false ∧ Own s1 Fs1 l) Fr.new o.fr fun l hl z => ⟨hq' z.1, g3.own z.2⟩, wk o.invA, fun i l z => ?_⟩
            rcases o.n2 i l (HasF_wipe z).2 with y | y
            · exact .inl (g3.has i l y)
            · exact .inr (by simp at y; omega)
          have mv : ∀ {S3 : Sto} {s3 : VEnv} {Fs3 : Nat → List Nat}, OutC (quiet c && quiet e) own S A r s Fs S3 s3 Fs3 → SrcI S3 (UA A (wipeV s3 own) Fs3) J xs ∧ ((quiet c && quiet e) = false → ∀ l ∈ srcs J, ¬ Own (wipeV s3 own) Fs3 l) ∧ ShL S3 (UA A (wipeV s3 own) Fs3) acv acc := fun {S3 s3 Fs3} o =>
            ⟨K.move o.fr (fun l z => .inr z.2) (fun l hl z => o.ua hl z) (fun l hl z => hq z.1 l hl z.2), fun h l hl z => by
              rcases o.m2 z with y | y
              · exact hq h l hl y
              · have := K.lt l hl; omega, L.move o.fr (fun l z => .inr z.2) (fun l hl z => o.ua hl z)⟩
          cases b with
          | false =>
            have oc := oc1 c2 (fun h => by simp [h])
            obtain ⟨m1, m2, m3⟩ := mv oc
            have h2 := ih (i + 1) (S := S2) (s := s2) (Fs := Fs2) (acc := acc) (acv := acv) (by omega) oc.inv m1 m2 m3
            dsimp only
            revert h2
            cases compV t own (fun s => asB (vE T clv c s)) (fun s => asD (vE T clv e s)) (xs.drop (i + 1)) acc s2 with
            | bad => exact fun _ => trivial
            | exc x y => exact fun h => h
            | ok ds s' =>
              rintro ⟨vs, S', Fs', f1, f2, f3⟩
              exact ⟨vs, S', Fs', by simp only [compL, e1, g1, c1]; exact f1, oc.trans f2, f3⟩
          | true =>
            have he : Sim (RC1 A [] false) (quiet e) S2 A r1 s2 Fs2 (asD (vE T clv e s2)) (evE T clh e r1 S2) := asD_c (ihe I2)
            dsimp only
            cases ee : asD (vE T clv e s2) with
            | bad => exact trivial
            | exc x y => exact trivial
            | ok y s3 =>
              rw [ee] at he
              obtain ⟨u, S3, Fs3, F3, d1, d2, d3⟩ := he
              dsimp only
              by_cases hacc : acc.length < line
              · rw [if_pos hacc]
                have oc := oc1 (q' := quiet c && quiet e) (c2.dropD d2) (fun h => h)
                obtain ⟨m1, m2, m3⟩ := mv oc
                have hy : Sh S3 (UA A (wipeV s3 own) Fs3) u y := (d3.2 rfl).weak fun l z => by
                  rcases z with z | z
                  · exact .inl z
                  · obtain ⟨j, z⟩ := own_has.mp z
                    exact .inr (own_has.mpr ⟨j, (HasF_wipe z).2⟩)
                have h2 := ih (i + 1) (S := S3) (s := s3) (Fs := Fs3) (acc := acc ++ [y]) (acv := acv ++ [u]) (by omega) oc.inv m1 m2 (m3.app (.cons hy .nil))
                revert h2
                cases compV t own (fun s => asB (vE T clv c s)) (fun s => asD (vE T clv e s)) (xs.drop (i + 1)) (acc ++ [y]) s3 with
                | bad => exact fun _ => trivial
                | exc x y => exact fun h => h
                | ok ds s' =>
                  rintro ⟨vs, S', Fs', f1, f2, f3⟩
                  refine ⟨vs, S', Fs', ?_, oc.trans f2, f3⟩
                  simp only [compL, e1, g1, c1, d1]
                  rw [L.len, if_pos hacc]
                  exact f1
              · rw [if_neg hacc]; exact trivial
end
end Vl
end

section
set_option linter.all false
/-! Vr15: the cases of an expression. -/
namespace Vl
open PySem Ev
section
variable {T : Tx} {clv : Nat → List Ow → CRes} {clh : Nat → List Va → Sto → Res Va} {S S1 S2 : Sto} {A : Set'} {r : Rho} {s s1 s2 : VEnv} {Fs Fs1 Fs2 : Nat → List Nat}
def RI : RT (List D × Bool) Iter := fun S U s Fs J p _ => SrcI S U J p.1 ∧ (p.2 = false → ∀ l ∈ srcs J, ¬ Own s Fs l)
def IHI (T : Tx) (clv : Nat → List Ow → CRes) (clh : Nat → List Va → Sto → Res Va) (a : E) : Prop := ∀ {S : Sto} {A : Set'} {r : Rho} {s : VEnv} {Fs : Nat → List Nat}, Inv S A r s Fs → Sim RI (quiet a) S A r s Fs (vI T clv a s) (evI T clh a r S)
theorem mono_RI : Mono RI := fun k hU => ⟨k.1.move (W := fun _ => False) Fr.refl (fun _ z => z.elim) (fun l _ z => hU l z) (fun _ _ z => z), k.2⟩
theorem sim_src {h : Bool} {J : Iter} {xs : List D} (I : Inv S A r s Fs) (k : SrcI S (UA A s Fs) J xs) (hn : h = false → ∀ l ∈ srcs J, ¬ Own s Fs l) : Sim RI true S A r s Fs (.ok (xs, h) s) (.ok J S) :=
  Sim.pure I ⟨k.move (W := fun _ => False) Fr.refl (fun _ z => z.elim) (fun l _ z => by
    rcases z with (z | z) | z
    · exact .inl z
    · simp at z
    · exact .inr z) (fun _ _ z => z), hn⟩
/-- a borrowed list's place -/
theorem RB.lst {qb : Bool} {v : Va} {xs : List D} {F : List Nat} (I : Inv S (fun l => A l ∨ l ∈ F) r s Fs) (h : RB qb S (US A s Fs F) s Fs v (.lst xs) F) : ∃ l ys, v = .loc l ∧ S[l]? = some (.lst ys) ∧ ShL S (US A s Fs F) ys xs ∧ (qb = false → ¬ Own s Fs l) := by
  obtain ⟨o, F1, R, e, hl, k⟩ := h
  cases R with
  | sh K =>
    cases (show D.lst xs = _ from e)
    cases K with
    | lst e1 n1 t => exact ⟨_, _, rfl, e1, t, fun _ z => n1 (.inr z)⟩
  | lst e1 t =>
    cases (show D.lst xs = .lst _ from e)
    exact ⟨_, _, rfl, e1, t, fun hq z => I.av _ z (.inr (k hq _ (by simp)))⟩
  | dct e1 t => cases (show D.lst xs = .dct _ from e)
  | ins e1 t => cases (show D.lst xs = .ins _ _ from e)
  | lso e1 t => cases hl
theorem RB.tup {qb : Bool} {v : Va} {xs : List D} {F : List Nat} (h : RB qb S (US A s Fs F) s Fs v (.tup xs) F) : ∃ l ys, v = .loc l ∧ S[l]? = some (.tup ys) ∧ ShL S (US A s Fs F) ys xs ∧ ¬ Own s Fs l := by
  obtain ⟨o, F1, R, e, hl, k⟩ := h
  cases R with
  | sh K =>
    cases (show D.tup xs = _ from e)
    cases K with
    | tup e1 n1 t => exact ⟨_, _, rfl, e1, t, fun z => n1 (.inr z)⟩
  | lst e1 t => cases (show D.tup xs = .lst _ from e)
  | dct e1 t => cases (show D.tup xs = .dct _ from e)
  | ins e1 t => cases (show D.tup xs = .ins _ _ from e)
  | lso e1 t => cases hl
theorem owned_or (a : E) (s : VEnv) : owned a s = true ∨ owned a s = false := by cases owned a s <;> simp
theorem vI_seq {a : E} (iha : IHE T clv clh a) : IHI T clv clh (.seq a) := fun {S A r s Fs} I => by
  simp only [vI, evI]
  have h := Sim.bind (R2 := RI) (q2 := true) (k := fun x s1 => (match x with
    | .lst xs => .ok (xs, owned a s) s1
    | .tup xs => .ok (xs, false) s1
    | _ => .bad : VRes (List D × Bool))) (kr := fun x S1 => (match x with
    | .loc l => match getL S1 x with
      | some _ => .ok (.lst l) S1
      | none => match getT S1 x with
        | some _ => .ok (.tup l) S1
        | none => .bad
    | _ => .bad : Res Iter)) mono_RI (bor_ok (qb := owned a s) I (iha I) (owned_or a s)) fun x s1 v S1 Fs1 F1 _ o R1 => by
      cases x <;> first | exact trivial | skip
      · obtain ⟨l, ys, rfl, e1, t, nw⟩ := R1.lst o.inv
        simp only [getL, e1]
        exact sim_src o.inv (.lst e1 t) (fun h l' z => by rw [List.mem_singleton.mp z]; exact nw h)
      · obtain ⟨l, ys, rfl, e1, t, nw⟩ := R1.tup
        simp only [getL, getT, e1]
        exact sim_src o.inv (.tup e1 t) (fun h l' z => by rw [List.mem_singleton.mp z]; exact nw)
  exact h.loud fun (z : quiet a = true) => by simpa using z
theorem vI_enum {a : E} (iha : IHE T clv clh a) : IHI T clv clh (.enum a) := fun {S A r s Fs} I => by
  simp only [vI, evI]
  have h := Sim.bind (R2 := RI) (q2 := true) (k := fun x s1 => (match x with
    | .lst xs => .ok (enumD xs, owned a s) s1
    | _ => .bad : VRes (List D × Bool))) (kr := fun x S1 => (match x with
    | .loc l => match getL S1 x with
      | some _ => .ok (.enum l) S1
      | none => .bad
    | _ => .bad : Res Iter)) mono_RI (bor_ok (qb := owned a s) I (iha I) (owned_or a s)) fun x s1 v S1 Fs1 F1 _ o R1 => by
      cases x <;> first | exact trivial | skip
      obtain ⟨l, ys, rfl, e1, t, nw⟩ := R1.lst o.inv
      simp only [getL, e1]
      exact sim_src o.inv (.enum e1 t) (fun h l' z => by rw [List.mem_singleton.mp z]; exact nw h)
  exact h.loud fun (z : quiet a = true) => by simpa using z
theorem RB.conv {qb q2 : Bool} {v : Va} {d : D} {U : Set'} {F : List Nat} (h : RB qb S U s Fs v d F) (hq : q2 = false → qb = false) : RB q2 S U s Fs v d F := by
  obtain ⟨o, F1, R, e, hl, k⟩ := h
  exact ⟨o, F1, R, e, hl, fun z => k (hq z)⟩
theorem vI_zip {a b : E} (iha : IHE T clv clh a) (ihb : IHE T clv clh b) : IHI T clv clh (.zip a b) := fun {S A r s Fs} I => by
  simp only [vI, evI]
  by_cases hst : stale a b s = true
  · rw [if_pos hst]; exact trivial
  · rw [if_neg hst]
    refine Sim.bind (R2 := RI) (q2 := quiet b) mono_RI (bor_ok (qb := owned a s) I (iha I) (owned_or a s)) fun x s1 v S1 Fs1 F1 _ o R1 => ?_
    have hq2 : quiet b = false → owned a s = false := fun z => by
      rcases not_stale hst with w | w
      · rw [w] at z; cases z
      · exact w
    have h := Sim.bind (R2 := RI) (q2 := true) (k := fun y s2 => (match (generalizing := false) x, y with
      | .lst xs, .lst ys => .ok (zipD xs ys, owned a s || owned b s1) s2
      | _, _ => .bad : VRes (List D × Bool))) (kr := fun y S2 => (match (generalizing := false) v, y with
      | .loc l, .loc m => match getL S2 v, getL S2 y with
        | some _, some _ => .ok (.zip l m) S2
        | _, _ => .bad
      | _, _ => .bad : Res Iter)) mono_RI (bor_ok (qb := owned b s1) o.inv (ihb o.inv) (owned_or b s1)) fun y s2 u S2 Fs2 F2 _ o2 R2 => by
        cases x <;> first | exact trivial | skip
        cases y <;> first | exact trivial | skip
        obtain ⟨l, ys, rfl, e1, t, nw⟩ := R1.lst o.inv
        obtain ⟨l1, zs, eq1, e3, t3⟩ := (RB.over o.inv (R1.conv hq2) o2).lst
        cases eq1
        obtain ⟨m, us, rfl, e2, t2, nw2⟩ := R2.lst o2.inv
        simp only [getL, e2, e3]
        refine sim_src o2.inv (.zip e3 e2 (t3.weak fun l z => z) t2) (fun h l' z => ?_)
        have h : (owned a s || owned b s1) = false := h
        rw [Bool.or_eq_false_iff] at h
        rcases List.mem_cons.mp z with z | z
        · rw [z]
          intro w
          rcases o2.m2 _ w with y | y
          · exact nw h.1 y
          · have := lt_of_get e1; omega
        · rw [List.mem_singleton.mp z]
          exact nw2 h.2
    exact h.loud fun z => by simpa using z
end
end Vl
end

section
set_option linter.all false
/-! Vr16: comprehensions, fields, list methods, methods as cases. -/
namespace Vl
open PySem Ev
section
variable {T : Tx} {clv : Nat → List Ow → CRes} {clh : Nat → List Va → Sto → Res Va} {S S1 S2 : Sto} {A : Set'} {r : Rho} {s s1 s2 : VEnv} {Fs Fs1 Fs2 : Nat → List Nat} {B : List Nat}
theorem backV_len : ∀ own : List Nat, (backV s1 s own).length = s.length
  | [] => rfl
  | i :: is => by unfold backV; rw [List.length_set]; exact backV_len is
theorem backV_slot {j : Nat} (hl : s.length = s1.length) : ∀ own : List Nat, slotO (backV s1 s own) j = if j ∈ own then slotO s1 j else slotO s j
  | [] => by simp [backV]
  | i :: is => by
    unfold backV
    rw [slot_set, backV_len, backV_slot hl is]
    by_cases e : i = j
    · subst e
      by_cases h : i < s.length
      · simp [h]
      · have h1 : slotO s i = none := by
          unfold slotO
          rw [List.getElem?_eq_none (by omega)]; rfl
        have h2 : slotO s1 i = none := by
          unfold slotO
          rw [List.getElem?_eq_none (by omega)]; rfl
        simp [h, h1, h2]
    · have : (j ∈ i :: is) ↔ j ∈ is := by simp [Ne.symm e]
      simp only [this, if_neg (fun z : i = j ∧ _ => e z.1)]
def mixF (own : List Nat) (Fs1 Fs2 : Nat → List Nat) : Nat → List Nat := fun i => if i ∈ own then Fs1 i else Fs2 i
theorem comp_case {own : List Nat} {t : Tg} {it c e : E} (ihi : IHI T clv clh it) (ihc : IHE T clv clh c) (ihe : IHE T clv clh e) : IHE T clv clh (.comp own t it c e) := fun {S A r s Fs} I => by
  simp only [vE, evE]
  refine Sim.bind (R2 := RO) (q2 := quiet c && quiet e) mono_RO (ihi I) fun p s1 J S1 Fs1 F1 _ o R => ?_
  by_cases hb : ((p.2 && !(quiet c && quiet e)) || !tgIn own t) = true
  · rw [if_pos hb]; exact trivial
  · rw [if_neg hb]
    have ht : tgIn own t = true := by
      cases h : tgIn own t with
      | true => rfl
      | false => exfalso; apply hb; simp [h]
    have hq0 : (quiet c && quiet e) = false → p.2 = false := fun h => by
      cases hp : p.2 with
      | false => rfl
      | true => exfalso; apply hb; rw [hp, h]; rfl
    have I1 := o.inv
    have hA : ∀ l, ((fun l => (A l ∨ l ∈ F1) ∨ ∃ i ∈ own, HasF s1 Fs1 i l) l) → (A l ∨ l ∈ F1) ∨ ∃ i ∈ own, HasF s1 Fs1 i l := fun l z => z
    have I2 : Inv S1 (fun l => (A l ∨ l ∈ F1) ∨ ∃ i ∈ own, HasF s1 Fs1 i l) (wipeR r own) (wipeV s1 own) Fs1 := I1.wipe (by rw [wipeR_len]) (fun i hi => wipeR_get own hi) hA
    have hU : ∀ l, UA (fun l => (A l ∨ l ∈ F1) ∨ ∃ i ∈ own, HasF s1 Fs1 i l) (wipeV s1 own) Fs1 l → US A s1 Fs1 F1 l := fun l z => by
      rcases z with (z | ⟨i, _, z⟩) | z
      · exact .inl z
      · exact .inr (own_has.mpr ⟨i, z⟩)
      · obtain ⟨i, z⟩ := own_has.mp z
        exact .inr (own_has.mpr ⟨i, (HasF_wipe z).2⟩)
    have hc := comp_ok (T := T) (clv := clv) (clh := clh) (A := fun l => (A l ∨ l ∈ F1) ∨ ∃ i ∈ own, HasF s1 Fs1 i l) (r := wipeR r own) (own := own) (t := t) (c := c) (e := e) (J := J) (xs := p.1) ihc ihe ht (lenI J S1 + 1) 0 (S := S1) (s := s1) (Fs := Fs1) (acc := []) (acv := []) (by have := R.1.len; omega) I2
      (R.1.move (W := fun _ => False) Fr.refl (fun _ z => z.elim) (fun l _ z => hU l z) (fun _ _ z => z)) (fun h l hl z => by
        obtain ⟨i, z⟩ := own_has.mp z
        exact R.2 (hq0 h) l hl (own_has.mpr ⟨i, (HasF_wipe z).2⟩)) .nil
    rw [List.drop_zero] at hc
    revert hc
    cases compV t own (fun s => asB (vE T clv c s)) (fun s => asD (vE T clv e s)) p.1 [] s1 with
    | bad => exact fun _ => trivial
    | exc x y => exact fun h => h.elim
    | ok ds s2 =>
      rintro ⟨vs, S2, Fs2, f1, f2, f3⟩
      rw [f1]
      dsimp only [VRes.bind, Res.bind]
      have hl : s2.length = s1.length := by
        have a := f2.inv.len
        have b := I1.len
        rw [wipeV_len, wipeR_len] at a
        omega
      have sl : ∀ j, slotO (backV s1 s2 own) j = if j ∈ own then slotO s1 j else slotO s2 j := fun j => backV_slot hl own
      have hback : ∀ i l, HasF (backV s1 s2 own) (mixF own Fs1 Fs2) i l → (i ∈ own ∧ HasF s1 Fs1 i l) ∨ (i ∉ own ∧ HasF (wipeV s2 own) Fs2 i l) := fun i l z => by
        obtain ⟨z1, z2⟩ := z
        rw [sl] at z1
        unfold mixF at z2
        by_cases h : i ∈ own
        · rw [if_pos h] at z1 z2
          exact .inl ⟨h, z1, z2⟩
        · rw [if_neg h] at z1 z2
          refine .inr ⟨h, ?_, z2⟩
          rw [wipeV_slot, if_neg h]; exact z1
      have hn : ∀ i l, HasF (backV s1 s2 own) (mixF own Fs1 Fs2) i l → HasF s1 Fs1 i l ∨ S1.length ≤ l := fun i l z => by
        rcases hback i l z with ⟨_, w⟩ | ⟨_, w⟩
        · exact .inl w
        · rcases f2.n2 i l w with y | y
          · exact .inl (HasF_wipe y).2
          · exact .inr y
      have fr : Fr S1 S2 (fun l => (quiet c && quiet e) = false ∧ Own s1 Fs1 l) := f2.fr.mono fun l _ z => ⟨z.1, by
        obtain ⟨i, z⟩ := own_has.mp z.2
        exact own_has.mpr ⟨i, (HasF_wipe z).2⟩⟩
      have hUA : ∀ l, UA (fun l => A l ∨ l ∈ F1) (backV s1 s2 own) (mixF own Fs1 Fs2) l → UA (fun l => (A l ∨ l ∈ F1) ∨ ∃ i ∈ own, HasF s1 Fs1 i l) (wipeV s2 own) Fs2 l := fun l z => by
        rcases z with z | z
        · exact .inl (.inl z)
        · obtain ⟨i, z⟩ := own_has.mp z
          rcases hback i l z with ⟨h, w⟩ | ⟨h, w⟩
          · exact .inl (.inr ⟨i, h, w⟩)
          · exact .inr (own_has.mpr ⟨i, w⟩)
      have I3 : Inv S2 (fun l => A l ∨ l ∈ F1) r (backV s1 s2 own) (mixF own Fs1 Fs2) := by
        refine ⟨by rw [backV_len, hl]; exact I1.len, fun i ob e1 => ?_, fun i ob e1 => ?_, fun i j o1 o2 ne e1 e2 l z => ?_, fun l z w => ?_, fun l z => ?_⟩
        · rw [sl] at e1
          by_cases h : i ∈ own
          · rw [if_pos h] at e1
            obtain ⟨v, g1, R1⟩ := I1.rep i ob e1
            have : mixF own Fs1 Fs2 i = Fs1 i := if_pos h
            rw [this]
            refine ⟨v, g1, R1.move f2.fr (fun l z => ?_) (fun l hl z => ?_) (fun l z w => ?_)⟩
            · obtain ⟨j, z⟩ := own_has.mp z.2
              exact .inr (own_has.mpr ⟨j, (HasF_wipe z).2⟩)
            · rcases z with z | z
              · exact .inl z
              · obtain ⟨j, z⟩ := own_has.mp z
                rcases hn j l z with y | y
                · exact .inr (own_has.mpr ⟨j, y⟩)
                · omega
            · obtain ⟨j, w⟩ := own_has.mp w.2
              obtain ⟨w1, w2⟩ := HasF_wipe w
              obtain ⟨oj, ej⟩ := Option.isSome_iff_exists.mp w2.1
              exact I1.dj i j ob oj (fun y => w1 (y ▸ h)) e1 ej l z w2.2
          · rw [if_neg h] at e1
            have e2 : slotO (wipeV s2 own) i = some ob := by rw [wipeV_slot, if_neg h]; exact e1
            obtain ⟨v, g1, R1⟩ := f2.inv.rep i ob e2
            have : mixF own Fs1 Fs2 i = Fs2 i := if_neg h
            rw [this]
            rw [wipeR_get own h] at g1
            exact ⟨v, g1, R1.weak hUA⟩
        · rw [sl] at e1
          unfold mixF
          by_cases h : i ∈ own
          · rw [if_pos h] at e1 ⊢; exact I1.nd i ob e1
          · rw [if_neg h] at e1 ⊢
            exact f2.inv.nd i ob (by rw [wipeV_slot, if_neg h]; exact e1)
        · intro w
          have h1 := hback i l ⟨by rw [e1]; rfl, z⟩
          have h2 := hback j l ⟨by rw [e2]; rfl, w⟩
          have key : ∀ i j, i ∈ own → HasF s1 Fs1 i l → HasF (wipeV s2 own) Fs2 j l → False := fun i j hi hf hg => f2.inv.av l (own_has.mpr ⟨j, hg⟩) (.inr ⟨i, hi, hf⟩)
          rcases h1 with ⟨a1, b1⟩ | ⟨a1, b1⟩
          · rcases h2 with ⟨a2, b2⟩ | ⟨a2, b2⟩
            · obtain ⟨oi, ei⟩ := Option.isSome_iff_exists.mp b1.1
              obtain ⟨oj, ej⟩ := Option.isSome_iff_exists.mp b2.1
              exact I1.dj i j oi oj ne ei ej l b1.2 b2.2
            · exact key i j a1 b1 b2
          · rcases h2 with ⟨a2, b2⟩ | ⟨a2, b2⟩
            · exact key j i a2 b2 b1
            · obtain ⟨oi, ei⟩ := Option.isSome_iff_exists.mp b1.1
              obtain ⟨oj, ej⟩ := Option.isSome_iff_exists.mp b2.1
              exact f2.inv.dj i j oi oj ne ei ej l b1.2 b2.2
        · obtain ⟨i, z⟩ := own_has.mp z
          rcases hback i l z with ⟨a1, b1⟩ | ⟨a1, b1⟩
          · exact I1.av l (own_has.mpr ⟨i, b1⟩) w
          · exact f2.inv.av l (own_has.mpr ⟨i, b1⟩) (.inl w)
        · exact f2.inv.old l (.inl z)
      have oB : Out (quiet c && quiet e) S1 (fun l => A l ∨ l ∈ F1) r s1 Fs1 S2 (backV s1 s2 own) (mixF own Fs1 Fs2) [] :=
        ⟨fr, I3.move (W := fun _ => False) Fr.refl (fun _ z => z.elim) (fun l _ z => by simpa using z) (fun l z => I3.old l (by simpa using z)), .nil, by simp, by simp, hn⟩
      have fin := sim_new (ys := vs) (xs := ds) I3 (f3.weak hUA)
      obtain ⟨b2, S3, Fs3, F3, g1, g2, g3⟩ := fin
      have g4 := oB.dropD g2
      rw [Bool.and_true] at g4
      exact ⟨b2, S3, Fs3, F3, g1, g4, g3⟩
/-- an owned thing at a path is frozen there -/
theorem freeze_ok {a : E} {q : Nat × List Nat} {o : Ow} (I : Inv S A r s Fs) (ep : pathOf a = some q) (er : readP T s q = some o) : ∃ s1, writeP T s q (.sh (frz o)) = some s1 ∧ Sim RO true S A r s Fs (.ok (.sh (frz o)) s1) (evE T clh a r S) := by
  obtain ⟨v, F1, G, k1, k2, P⟩ := path_at (cl := clh) I ep er
  have hs : Sh S (UP A s Fs F1 [] []) v (frz o) := k2.frz (fun l z => by
      rcases z with (z | z) | z | z
      · exact .inl z
      · exact .inr z.1
      · simp at z
      · simp at z) fun l hl z => by
      rcases z with (z | z) | z | z
      · exact I.av l (own_has.mpr ⟨q.1, P.own (List.mem_append_left _ hl)⟩) z
      · exact z.2 hl
      · simp at z
      · simp at z
  obtain ⟨s1, Fs1, e1, o1, o2⟩ := put_ok (Q := true) (Fo := []) (Fm := []) I P Fr.refl .nil (by simp) (by simp) (.sh hs)
  exact ⟨s1, e1, v, S, Fs1, [], k1, o1, .sh (hs.weak o2)⟩
theorem var_case {i : Nat} : IHE T clv clh (.var i) := fun {S A r s Fs} I => by
  simp only [vE]
  cases e : slotO s i with
  | none => exact trivial
  | some o =>
    have er : readP T s (i, []) = some o := by
      unfold readP
      dsimp only
      rw [e]
      exact getP_nil (fl := T.fl)
    obtain ⟨s1, e1, h⟩ := freeze_ok (T := T) (clh := clh) (a := .var i) I rfl er
    have e2 : s1 = s.set i (some (.sh (frz o))) := by
      unfold writeP at e1
      dsimp only at e1
      rw [e] at e1
      dsimp only [Option.bind] at e1
      rw [putP_nil (fl := T.fl)] at e1
      exact (Option.some.inj e1).symm
    cases o with
    | sh d =>
      dsimp only
      rw [e2] at h
      have : s.set i (some (Ow.sh (frz (.sh d)))) = s := by
        apply List.ext_getElem?
        intro j
        by_cases q : i = j
        · subst q
          rw [List.getElem?_set_self (slot_lt e)]
          unfold slotO at e
          cases e3 : s[i]? with
          | none => rw [e3] at e; cases e
          | some x => rw [e3] at e; exact congrArg some e.symm
        · rw [List.getElem?_set_ne q]
      rw [this] at h
      exact h
    | _ => rw [e2] at h; exact h
theorem idx_same {u v : Va} {k : Int} {S' : Sto} (hS : ∀ l, l < S.length → S1[l]? = S[l]?) (h : idx u (.int k) S = .ok v S') : S' = S ∧ idx u (.int k) S1 = .ok v S1 := by
  cases u with
  | loc l =>
    cases e2 : S[l]? with
    | none => simp only [idx, getL, getT, e2] at h; cases h
    | some ob =>
      have e3 : S1[l]? = some ob := (hS l (lt_of_get e2)).trans e2
      cases ob with
      | lst xs =>
        simp only [idx, getL, e2] at h
        simp only [idx, getL, e3]
        cases e4 : atI xs k with
        | none => rw [e4] at h; cases h
        | some w => rw [e4] at h; cases h; exact ⟨rfl, rfl⟩
      | tup xs =>
        simp only [idx, getL, getT, e2] at h
        simp only [idx, getL, getT, e3]
        cases e4 : atI xs k with
        | none => rw [e4] at h; cases h
        | some w => rw [e4] at h; cases h; exact ⟨rfl, rfl⟩
      | dct kvs =>
        simp only [idx, getL, getT, e2] at h
        simp only [idx, getL, getT, e3]
        cases e4 : look k kvs with
        | none => rw [e4] at h; cases h
        | some w => rw [e4] at h; cases h; exact ⟨rfl, rfl⟩
      | _ => simp only [idx, getL, getT, e2] at h; cases h
  | scr ns =>
    simp only [idx, getL] at h ⊢
    cases e4 : atI (ns.map Va.int) k with
    | none => rw [e4] at h; cases h
    | some w => rw [e4] at h; cases h; exact ⟨rfl, rfl⟩
  | _ => simp only [idx, getL, getT] at h; cases h
theorem conN_ev {b : E} {k : Nat} (eb : conN b = some k) : ∀ S, evE T clh b r S = .ok (.int (k : Nat)) S := fun S => by
  unfold conN at eb
  split at eb
  · rename_i z
    split at eb
    · rename_i hz
      have hz2 : (k : Int) = z := by cases eb; omega
      rw [hz2]
      simp only [evE]
    · cases eb
  · cases eb
theorem path_same : ∀ {a : E} {q : Nat × List Nat} {v : Va} {S' : Sto}, pathOf a = some q → (∀ l, l < S.length → S1[l]? = S[l]?) → evE T clh a r S = .ok v S' → S' = S ∧ evE T clh a r S1 = .ok v S1
  | .var i, q, v, S', e, hS, h => by
    simp only [evE] at h ⊢
    cases e1 : r[i]? with
    | none => rw [e1] at h; cases h
    | some x =>
      rw [e1] at h
      cases x with
      | none => cases h
      | some u =>
        dsimp only at h ⊢
        by_cases hp : plain u = true
        · rw [if_pos hp] at h ⊢
          cases h
          exact ⟨rfl, rfl⟩
        · rw [if_neg hp] at h
          cases h
  | .idx a b, q, v, S', e, hS, h => by
    have e : ((conN b).bind fun k => (pathOf a).map fun q => (q.1, q.2 ++ [1000000 + k])) = some q := e
    cases eb : conN b with
    | none => rw [eb] at e; cases e
    | some k =>
    rw [eb] at e
    have e : (pathOf a).map (fun q => (q.1, q.2 ++ [1000000 + k])) = some q := e
    cases ea : pathOf a with
    | none => rw [ea] at e; cases e
    | some q1 =>
      simp only [evE] at h ⊢
      cases e1 : evE T clh a r S with
      | bad => rw [e1] at h; cases h
      | exc c x => rw [e1] at h; cases h
      | ok u S0 =>
        obtain ⟨rfl, h2⟩ := path_same ea hS e1
        rw [e1] at h
        rw [h2]
        dsimp only [Res.bind] at h ⊢
        rw [conN_ev eb] at h ⊢
        exact idx_same hS h
  | .fld a f, q, v, S', e, hS, h => by
    have e : (if isF f = true then (pathOf a).map (fun q => (q.1, q.2 ++ [f])) else none) = some q := e
    by_cases hst : isF f = true
    case neg => rw [if_neg hst] at e; cases e
    rw [if_pos hst] at e
    cases ea : pathOf a with
    | none => rw [ea] at e; cases e
    | some q1 =>
      simp only [evE] at h ⊢
      cases e1 : evE T clh a r S with
      | bad => rw [e1] at h; cases h
      | exc c x => rw [e1] at h; cases h
      | ok u S0 =>
        obtain ⟨rfl, h2⟩ := path_same ea hS e1
        rw [e1] at h
        rw [h2]
        dsimp only [Res.bind] at h ⊢
        unfold fld at h ⊢
        cases u <;> first | (cases h; done) | skip
        rename_i l
        dsimp only at h ⊢
        cases e2 : S0[l]? with
        | none => rw [e2] at h; cases h
        | some ob =>
          rw [hS l (lt_of_get e2), e2]
          rw [e2] at h
          cases ob <;> first | (cases h; done) | skip
          rename_i c dx fs
          dsimp only at h ⊢
          split at h
          · rename_i hf
            rw [if_pos hf]
            cases e3 : lookF f fs with
            | none => rw [e3] at h; cases h
            | some w => rw [e3] at h; cases h; exact ⟨rfl, rfl⟩
          · cases h
theorem fld_case {a : E} {f : Nat} (iha : IHE T clv clh a) : IHE T clv clh (.fld a f) := fun {S A r s Fs} I => by
  simp only [vE]
  cases e : (pathOf (.fld a f)).bind fun q => (readP T s q).map fun o => (q, o) with
  | none =>
    dsimp only
    simp only [evE]
    have h0 : Sim (RC1 A [] false) (quiet a) S A r s Fs (asD (vE T clv a s)) (evE T clh a r S) := asD_c (iha I)
    have h := Sim.bindD (R2 := RO) (q2 := true) (k := fun x s1 => (match fldD T x f with
        | some d => .ok (.sh d) s1
        | none => .bad)) (kr := fun x S1 => fld T x f S1) h0 fun x s1 v S1 Fs1 F1 hx o R1 => fld_ok o.invA (R1.2 rfl)
    exact h.loud fun (z : quiet a = true) => by simpa using z
  | some p =>
    obtain ⟨q, o⟩ := p
    cases ep : pathOf (.fld a f) with
    | none => rw [ep] at e; cases e
    | some q1 =>
      rw [ep] at e
      dsimp only [Option.bind] at e
      cases er : readP T s q1 with
      | none => rw [er] at e; cases e
      | some o1 =>
        rw [er] at e
        cases e
        obtain ⟨s1, e1, h⟩ := freeze_ok (T := T) (clh := clh) I ep er
        have hl : ∀ {x}, Sim RO true S A r s Fs x (evE T clh (.fld a f) r S) → Sim RO (quiet (.fld a f)) S A r s Fs x (evE T clh (.fld a f) r S) := fun k => k.loud fun _ => rfl
        cases o with
        | sh d =>
          dsimp only
          obtain ⟨v, F1, G, k1, k2, P⟩ := path_at (cl := clh) I ep er
          rw [k1]
          obtain ⟨_, k⟩ := RepO.sh_nil k2
          exact (sim_sca I k).loud fun _ => rfl
        | _ => dsimp only; rw [e1]; exact hl h
theorem RepG.nolook {U : Set'} {k : Nat} : ∀ {ys : List (Nat × Va)} {fs : Ow} {F : List Nat}, RepG S U ys fs F → lookO k fs = none → lookF k ys = none
  | _, _, _, .nil, e => rfl
  | _, _, _, .cons (f := j) h t, e => by
    unfold lookO at e
    unfold Ev.lookF
    by_cases q : j = k
    · rw [if_pos q] at e; cases e
    · rw [if_neg q] at e ⊢
      exact RepG.nolook t e
theorem ShL.sca_any {S : Sto} {U U' : Set'} : ∀ {v : List Va} {d : List D}, ShL S U v d → d.all sca = true → ShL S U' v d
  | _, _, .nil, _ => .nil
  | _, _, .cons h t, e => by
    rw [List.all_cons, Bool.and_eq_true] at e
    refine .cons ?_ (ShL.sca_any t e.2)
    have e := e.1
    cases h <;> first | exact .non | exact .bl | exact .int | exact .str | exact .fn | cases e
theorem lookO_frz {m : Nat} : ∀ {fs : Ow}, lookO m fs = none → dfld m (frzF fs) = none
  | .cons f o fs, e => by
    unfold lookO at e
    rw [frzF_cons]
    unfold dfld
    by_cases q : f = m
    · rw [if_pos q] at e; cases e
    · rw [if_neg q] at e
      rw [if_neg q]
      exact lookO_frz e
  | .sh _, _ => rfl
  | .lst _, _ => rfl
  | .dct _, _ => rfl
  | .ins _ _, _ => rfl
  | .nil, _ => rfl
  | .lso _, _ => rfl
theorem meth_case {a as : E} {m : Nat} (hc : ∀ f, CallOk (clv f) (clh f)) (iha : IHE T clv clh a) (ihs : IHC T clv clh as) : IHE T clv clh (.meth a m as) := fun {S A r s Fs} I => by
  simp only [vE]
  cases e : (pathOf a).bind fun q => (readP T s q).bind fun o => insO o q with
  | none =>
    dsimp only
    simp only [evE]
    by_cases hst : stale a as s = true
    · rw [if_pos hst]; exact trivial
    · rw [if_neg hst]
      have hBa : ∀ q, pathOf a = some q → q.1 ∈ brw (.cons a as) := fun q e => by unfold brw; rw [e]; simp
      have hBb : ∀ i ∈ brw as, i ∈ brw (.cons a as) := fun i h => by
        unfold brw
        cases pathOf a with
        | none => exact h
        | some q => exact List.mem_cons_of_mem _ h
      refine (Sim.bindD (R2 := RO) (q2 := quiet as) (bor_c (qb := quiet as) I (iha I) hBa (not_stale hst)) fun x s1 v S1 Fs1 F1 hx o R1 => ?_).loud fun z => by cases z
      cases x <;> first | exact trivial | skip
      rename_i c fs
      dsimp only
      obtain ⟨l, dx, ys, U', rfl, e1, t⟩ := (Bo.of R1.1).ins
      dsimp only
      rw [e1]
      dsimp only
      cases e2 : T.mth c m with
      | none => exact trivial
      | some f =>
        cases e3 : dfld m fs with
        | some d => exact trivial
        | none =>
          rw [t.nolook e3]
          dsimp only
          have h := Sim.bindD (R2 := RO) (q2 := true) (k := fun xs s2 => call0 clv f (.ins c fs :: xs) (brw (.cons a as)) s2) (kr := fun xs S2 => clh f (.loc l :: xs) S2) (ihs (brw (.cons a as)) hBb o.invA) fun xs s2 vs S2 Fs2 F2 hx o2 R2 => call0_ok (hc f) o2.invA (.cons (R1.over o2) R2)
          exact h.loud fun z => by simpa using z
  | some p =>
    obtain ⟨q, c, fs⟩ := p
    cases ep : pathOf a with
    | none => rw [ep] at e; cases e
    | some q1 =>
      rw [ep] at e
      dsimp only [Option.bind] at e
      cases er : readP T s q1 with
      | none => rw [er] at e; cases e
      | some o1 =>
        rw [er] at e
        dsimp only at e
        unfold insO at e
        cases o1 <;> first | (cases e; done) | skip
        cases e
        dsimp only
        by_cases hb : (!quiet as) = true
        · rw [if_pos hb]; exact trivial
        · rw [if_neg hb]
          have hqu : quiet as = true := by
            cases h : quiet as with
            | true => rfl
            | false => exfalso; apply hb; rw [h]; rfl
          cases e2 : T.mth c m with
          | none => exact trivial
          | some f =>
            cases e3 : lookO m fs with
            | some d => exact trivial
            | none =>
              dsimp only
              obtain ⟨v, F1, G, k1, k2, P⟩ := path_at (cl := clh) I ep er
              by_cases hvb : viaB T f = true
              · rw [if_pos hvb]
                have hBa : ∀ q, pathOf a = some q → q.1 ∈ brw (.cons a as) := fun q e => by unfold brw; rw [e]; simp
                have hBb : ∀ i ∈ brw as, i ∈ brw (.cons a as) := fun i h => by
                  unfold brw
                  rw [ep]
                  exact List.mem_cons_of_mem _ h
                simp only [evE]
                refine (Sim.bindD (R2 := RO) (q2 := quiet as) (bor_n (qb := quiet as) I (iha I) hBa (.inl hqu)) fun x s1 u S1 Fs1 F3 hx o R1 => ?_).loud fun z => by cases z
                have hx1 : x = .ins c (frzF fs) := by
                  unfold borN at hx
                  rw [ep] at hx
                  dsimp only at hx
                  rw [er] at hx
                  cases hx
                  rfl
                subst hx1
                obtain ⟨l, dx, ys, U', rfl, e1, t⟩ := (Bo.of R1.1).ins
                dsimp only
                rw [e1]
                dsimp only
                have e3' : dfld m (frzF fs) = none := lookO_frz e3
                rw [e2, t.nolook e3']
                dsimp only
                have h := Sim.bindD (R2 := RO) (q2 := true) (k := fun xs s2 => call0 clv f (.ins c (frzF fs) :: xs) (brw (.cons a as)) s2) (kr := fun xs S2 => clh f (.loc l :: xs) S2) (ihs (brw (.cons a as)) hBb o.invA) fun xs s2 vs S2 Fs2 F2 hx o2 R2 => call0_ok (hc f) o2.invA (.cons (R1.over o2) R2)
                exact h.loud fun z => by simpa using z
              rw [if_neg hvb]
              simp only [evE]
              rw [k1]
              dsimp only [Res.bind]
              cases k2 with
              | ins e4 t4 =>
                rename_i l dx ys F
                dsimp only
                rw [e4]
                dsimp only
                rw [e2, t4.nolook e3]
                dsimp only
                have h := Sim.bindD (R2 := RO) (q2 := false) (k := fun xs s1 => if (brw as).contains q.1 && !xs.all sca then .bad else (match readP T s1 q with
          | some (.ins c' fs') => call1 clv f (.ins c' fs') xs (fun o me2 => match writeP T s1 q me2 with
              | some s2 => .ok o (if noal o && noal me2 then s2 else frzS s2 (mB as q.1))
              | none => .bad) fun x me2 => match writeP T s1 q me2 with
              | some s2 => .exc x (if noal me2 then s2 else frzS s2 (mB as q.1))
              | none => .bad
          | _ => .bad)) (kr := fun xs S2 => clh f (.loc l :: xs) S2) (ihs (brw as) (fun i z => z) I) fun xs s1 vs S1 Fs1 F2 hx o2 R2 => by
                  by_cases hw : ((brw as).contains q.1 && !xs.all sca) = true
                  · rw [if_pos hw]; exact trivial
                  · rw [if_neg hw]
                    have hB : q.1 ∉ mB as q.1 := by
                      unfold mB
                      split
                      · simp
                      · rename_i z; intro w; exact z (by simpa using w)
                    have R3 : ShL S1 (UB A (mB as q.1) s1 Fs1) vs xs := by
                      unfold mB
                      split
                      · rename_i z
                        refine ShL.sca_any R2 ?_
                        cases h : xs.all sca with
                        | true => rfl
                        | false => exfalso; apply hw; rw [z, h]; rfl
                      · exact R2
                    cases er1 : readP T s1 q with
                    | none => exact trivial
                    | some o3 =>
                      cases o3 <;> first | exact trivial | skip
                      rename_i c' fs'
                      dsimp only
                      obtain ⟨v1, F3, G3, m1, m2, P1⟩ := path_at (cl := clh) o2.invA ep er1
                      have hfr := o2.fr
                      obtain ⟨_, m3⟩ := path_same (S1 := S1) ep (fun l hl => hfr.keep l hl fun z => by rw [hqu] at z; cases z.1) k1
                      rw [m3] at m1
                      cases m1
                      exact meth_ok (hc f) o2.invA P1 m2 hB R3
                exact h.loud fun z => by cases z
theorem lm_case {a as : E} {m : Lm} (ihs : IHA T clv clh as) : IHE T clv clh (.lm m a as) := fun {S A r s Fs} I => by
  simp only [vE]
  cases e : (pathOf a).bind fun q => (readP T s q).bind fun o => lstO o q with
  | none => exact trivial
  | some q =>
    cases ep : pathOf a with
    | none => rw [ep] at e; cases e
    | some q1 =>
      rw [ep] at e
      dsimp only [Option.bind] at e
      cases er : readP T s q1 with
      | none => rw [er] at e; cases e
      | some o1 =>
        rw [er] at e
        dsimp only at e
        unfold lstO at e
        cases o1 <;> first | (cases e; done) | skip
        cases e
        dsimp only
        by_cases hb : (!q.2.isEmpty && !quiet as) = true
        · rw [if_pos hb]; exact trivial
        · rw [if_neg hb]
          obtain ⟨v, F1, G, k1, k2, P⟩ := path_at (cl := clh) I ep er
          simp only [evE]
          rw [k1]
          dsimp only [Res.bind]
          cases k2 with
          | lst e4 t4 =>
            rename_i l ys
            simp only [getW, e4]
            have h := Sim.bindD (R2 := RO) (q2 := false) (k := fun xs s1 => (match readP T s1 q with
      | some (.lst ys) => (match vlm m ys xs with
        | some (d, zs) => (match writeP T s1 q (.lst zs) with
          | some s2 => .ok (.sh d) s2
          | none => .bad)
        | none => .bad)
      | _ => .bad)) (kr := fun xs S2 => lm m (.loc l) xs S2) (ihs I) fun xs s1 vs S1 Fs1 F2 hx o2 R2 => by
              cases er1 : readP T s1 q with
              | none => exact trivial
              | some o3 =>
                cases o3 <;> first | exact trivial | skip
                rename_i ys1
                dsimp only
                cases ev : vlm m ys1 xs with
                | none => exact trivial
                | some p =>
                  obtain ⟨d, zs⟩ := p
                  dsimp only
                  have I1 := o2.invA
                  obtain ⟨v1, F3, G3, m1, m2, P1⟩ := path_at (cl := clh) I1 ep er1
                  have m3 : evE T clh a r S1 = .ok (.loc l) S1 := by
                    by_cases hq : quiet as = true
                    · have hfr := o2.fr
                      exact (path_same (S1 := S1) ep (fun l hl => hfr.keep l hl fun z => by rw [hq] at z; cases z.1) k1).2
                    · have hp : q.2 = [] := by
                        cases h2 : q.2 with
                        | nil => rfl
                        | cons x y => exfalso; apply hb; rw [h2]; simp [hq]
                      clear m1
                      cases a <;> first | (cases ep; done) | skip
                      · simp only [evE] at k1 ⊢
                        rename_i i
                        cases e7 : r[i]? with
                        | none => rw [e7] at k1; cases k1
                        | some x =>
                          rw [e7] at k1
                          cases x with
                          | none => cases k1
                          | some u =>
                            dsimp only at k1 ⊢
                            by_cases hp : plain u = true
                            · rw [if_pos hp] at k1 ⊢
                              cases k1
                              rfl
                            · rw [if_neg hp] at k1
                              cases k1
                      · rename_i a0 b0
                        have ep : ((conN b0).bind fun k => (pathOf a0).map fun q => (q.1, q.2 ++ [1000000 + k])) = some q := ep
                        cases eb : conN b0 with
                        | none => rw [eb] at ep; cases ep
                        | some k0 =>
                          rw [eb] at ep
                          have ep : (pathOf a0).map (fun q => (q.1, q.2 ++ [1000000 + k0])) = some q := ep
                          cases e8 : pathOf a0 with
                          | none => rw [e8] at ep; cases ep
                          | some q0 =>
                            rw [e8] at ep
                            cases (show some (q0.1, q0.2 ++ [1000000 + k0]) = some q from ep)
                            simp at hp
                      · rename_i a0 f0
                        have ep : (if isF f0 = true then (pathOf a0).map (fun q => (q.1, q.2 ++ [f0])) else none) = some q := ep
                        by_cases hst : isF f0 = true
                        case neg => rw [if_neg hst] at ep; cases ep
                        rw [if_pos hst] at ep
                        cases e8 : pathOf a0 with
                        | none => rw [e8] at ep; cases ep
                        | some q0 =>
                          rw [e8] at ep
                          cases (show some (q0.1, q0.2 ++ [f0]) = some q from ep)
                          simp at hp
                  rw [m3] at m1
                  cases m1
                  cases m2 with
                  | lst e5 t5 =>
                    rename_i us
                    obtain ⟨w, ws, h1, h2, h3⟩ := lm_eq e5 t5 (ShL.weak R2 fun l z => UB_nil z) ev
                    have hset : lm m (.loc l) vs S1 = .ok w (S1.set l (.lst ws)) := by
                      rcases h1 with h1 | ⟨h1, rfl⟩
                      · exact h1
                      · rw [h1]
                        congr 1
                        apply List.ext_getElem?
                        intro j
                        by_cases q : l = j
                        · subst q; rw [List.getElem?_set_self (lt_of_get e5), e5]
                        · rw [List.getElem?_set_ne q]
                    have hown : Own s1 Fs1 l := own_has.mpr ⟨q.1, P1.own (List.mem_append_left _ (by simp))⟩
                    have hup : ∀ l', UP A s1 Fs1 [l] [] [l] l' → UA A s1 Fs1 l' := fun l' z => by
                      rcases z with (z | z) | z | z
                      · exact .inl z
                      · exact .inr z.1
                      · simp at z
                      · rw [List.mem_singleton.mp z]; exact .inr hown
                    have frS : Fr S1 (S1.set l (.lst ws)) (fun l' => false = false ∧ l' ∈ [l]) := Fr.set ⟨rfl, by simp⟩
                    have hW : ∀ l', (false = false ∧ l' ∈ [l]) → UA A s1 Fs1 l' := fun l' z => by rw [List.mem_singleton.mp z.2]; exact .inr hown
                    obtain ⟨s2, Fs2, g1, g2, g3⟩ := put_ok (T := T) (Q := false) (Fo := []) (Fm := [l]) (me2 := .lst zs) I1 P1 frS (by simp) (fun l' z => .inl z) (by simp) (.lst (List.getElem?_set_self (lt_of_get e5)) (h3.move frS hW (fun l' _ z => hup l' z)))
                    rw [g1, hset]
                    exact ⟨w, _, Fs2, [], rfl, g2, .sh (h2.move frS hW (fun l' _ z => hup l' (g3 l' z)))⟩
            exact h.loud fun z => by cases z
end
end Vl
end

section
set_option linter.all false
/-! Vr17: the induction over expressions. -/
namespace Vl
open PySem Ev
section
variable {T : Tx} {clv : Nat → List Ow → CRes} {clh : Nat → List Va → Sto → Res Va} {S S1 S2 : Sto} {A : Set'} {r : Rho} {s s1 s2 : VEnv} {Fs Fs1 Fs2 : Nat → List Nat} {B : List Nat}
theorem asD_int {q : Bool} {x : VRes Ow} {y : Res Va} (h : Sim RO q S A r s Fs x y) : Sim (fun S _ _ _ v d _ => ∃ U, Sh S U v d : RT D Va) q S A r s Fs (asD x) y := by
  have h2 : Sim (RC1 A [] false) q S A r s Fs (asD x) y := asD_c h
  exact h2.weak fun S U s Fs b a F k => ⟨_, k.1⟩
theorem vI_rng1 {a : E} (iha : IHE T clv clh a) : IHI T clv clh (.rng1 a) := fun {S A r s Fs} I => by
  simp only [vI, evI]
  have h := Sim.bind (R2 := RI) (q2 := true) (k := fun x s1 => (match x with
    | .int j => if -(2 ^ 62) ≤ j ∧ j < 2 ^ 62 then .ok (ranI 0 1 j.toNat, false) s1 else .bad
    | _ => .bad : VRes (List D × Bool))) (kr := fun x S1 => (match x with
    | .int j => if -(2 ^ 62) ≤ j ∧ j < 2 ^ 62 then .ok (.rng 0 1 j.toNat) S1 else .bad
    | _ => .bad : Res Iter)) mono_RI (asD_int (iha I)) fun x s1 v S1 Fs1 F1 _ o R1 => by
      obtain ⟨_, k⟩ := R1
      cases k <;> first | exact trivial | skip
      dsimp only
      split
      · exact sim_src o.inv .rng (fun _ l z => by simp [srcs] at z)
      · exact trivial
  exact h.loud fun (z : quiet a = true) => by simpa using z
theorem vI_rng2 {a b : E} (iha : IHE T clv clh a) (ihb : IHE T clv clh b) : IHI T clv clh (.rng2 a b) := fun {S A r s Fs} I => by
  simp only [vI, evI]
  refine Sim.bind (R2 := RI) (q2 := quiet b) mono_RI (asD_int (iha I)) fun x s1 v S1 Fs1 F1 _ o R1 => ?_
  obtain ⟨_, k⟩ := R1
  have h := Sim.bind (R2 := RI) (q2 := true) (k := fun y s2 => (match (generalizing := false) x, y with
    | .int i, .int j => if -(2 ^ 62) ≤ i ∧ i < 2 ^ 62 ∧ -(2 ^ 62) ≤ j ∧ j < 2 ^ 62 then .ok (ranI i 1 (j - i).toNat, false) s2 else .bad
    | _, _ => .bad : VRes (List D × Bool))) (kr := fun y S2 => (match (generalizing := false) v, y with
    | .int i, .int j => if -(2 ^ 62) ≤ i ∧ i < 2 ^ 62 ∧ -(2 ^ 62) ≤ j ∧ j < 2 ^ 62 then .ok (.rng i 1 (j - i).toNat) S2 else .bad
    | _, _ => .bad : Res Iter)) mono_RI (asD_int (ihb o.inv)) fun y s2 u S2 Fs2 F2 _ o2 R2 => by
      obtain ⟨_, k2⟩ := R2
      cases k <;> first | exact trivial | skip
      cases k2 <;> first | exact trivial | skip
      dsimp only
      split
      · exact sim_src o2.inv .rng (fun _ l z => by simp [srcs] at z)
      · exact trivial
  exact h.loud fun z => by simpa using z
theorem vI_rng3 {a b c : E} (iha : IHE T clv clh a) (ihb : IHE T clv clh b) (ihc : IHE T clv clh c) : IHI T clv clh (.rng3 a b c) := fun {S A r s Fs} I => by
  simp only [vI, evI]
  refine Sim.bind (R2 := RI) (q2 := quiet b && quiet c) mono_RI (asD_int (iha I)) fun x s1 v S1 Fs1 F1 _ o R1 => ?_
  obtain ⟨_, k⟩ := R1
  refine Sim.bind (R2 := RI) (q2 := quiet c) mono_RI (asD_int (ihb o.inv)) fun y s2 u S2 Fs2 F2 _ o2 R2 => ?_
  obtain ⟨_, k2⟩ := R2
  have h := Sim.bind (R2 := RI) (q2 := true) (k := fun z s3 => (match (generalizing := false) x, y, z with
    | .int i, .int j, .int k => if 0 ≤ i ∧ i < 2 ^ 30 ∧ 0 ≤ j ∧ j < 2 ^ 30 ∧ 0 < k ∧ k < 2 ^ 30 then .ok (ranI i k ((j - i + k - 1) / k).toNat, false) s3 else .bad
    | _, _, _ => .bad : VRes (List D × Bool))) (kr := fun z S3 => (match (generalizing := false) v, u, z with
    | .int i, .int j, .int k => if 0 ≤ i ∧ i < 2 ^ 30 ∧ 0 ≤ j ∧ j < 2 ^ 30 ∧ 0 < k ∧ k < 2 ^ 30 then .ok (.rng i k ((j - i + k - 1) / k).toNat) S3 else .bad
    | _, _, _ => .bad : Res Iter)) mono_RI (asD_int (ihc o2.inv)) fun z s3 w S3 Fs3 F3 _ o3 R3 => by
      obtain ⟨_, k3⟩ := R3
      cases k <;> first | exact trivial | skip
      cases k2 <;> first | exact trivial | skip
      cases k3 <;> first | exact trivial | skip
      dsimp only
      split
      · exact sim_src o3.inv .rng (fun _ l z => by simp [srcs] at z)
      · exact trivial
  exact h.loud fun z => by simpa using z
theorem BoL.of {U : Set'} : ∀ {vs : List Va} {xs : List D}, ShL S U vs xs → BoL S U vs xs
  | _, _, .nil => .nil
  | _, _, .cons a t => .cons (Bo.of a) (BoL.of t)
def RBL : RT (List D) (List Va) := fun S U _ _ vs ds _ => BoL S U vs ds
theorem Bo.weak {U U' : Set'} {v : Va} {d : D} (h : Bo S U v d) (hU : ∀ l, U' l → U l) : Bo S U' v d := by
  obtain ⟨o, F, R, e⟩ := h
  exact ⟨o, F, R.weak hU, e⟩
theorem BoL.weak {U U' : Set'} (hU : ∀ l, U' l → U l) : ∀ {vs : List Va} {xs : List D}, BoL S U vs xs → BoL S U' vs xs
  | _, _, .nil => .nil
  | _, _, .cons a t => .cons (a.weak hU) (BoL.weak hU t)
theorem mono_RBL : Mono RBL := fun h hU => BoL.weak hU h
def IHB (T : Tx) (clv : Nat → List Ow → CRes) (clh : Nat → List Va → Sto → Res Va) (a : E) : Prop := ∀ {S : Sto} {A : Set'} {r : Rho} {s : VEnv} {Fs : Nat → List Nat}, Inv S A r s Fs → Sim RBL (quiet a) S A r s Fs (vB T clv a s) (evA T clh a r S)
theorem vB_nil : IHB T clv clh .nil := fun I => by
  simp only [vB, evA]
  exact (Sim.pure I .nil : Sim RBL true _ _ _ _ _ (.ok [] _) (.ok [] _))
theorem vB_cons {a b : E} (iha : IHE T clv clh a) (ihb : IHB T clv clh b) : IHB T clv clh (.cons a b) := fun {S A r s Fs} I => by
  simp only [vB, evA]
  by_cases hst : stale a b s = true
  · rw [if_pos hst]; exact trivial
  · rw [if_neg hst]
    refine Sim.bind (R2 := RBL) (q2 := quiet b) mono_RBL (bor_ok (qb := quiet b) I (iha I) (not_stale hst)) fun x s1 v S1 Fs1 F1 _ o R1 => ?_
    have h := ihb o.inv
    revert h
    cases e : vB T clv b s1 with
    | bad => exact fun _ => trivial
    | exc c s' =>
      rintro ⟨S', Fs', e2, o2⟩
      exact ⟨S', Fs', by rw [e2]; rfl, o2⟩
    | ok xs s2 =>
      rintro ⟨vs, S2, Fs2, F2, e2, o2, R2⟩
      exact ⟨v :: vs, S2, Fs2, F2, by rw [e2]; rfl, o2, .cons (R1.over o.inv o2) R2⟩
/-- a list of owned things is compared -/
theorem cmp_lso {o : Cop} {a b : E} (I : Inv S A r s Fs) (iha : IHE T clv clh a) (ihb : IHE T clv clh b) (hst : ¬ (stale a b s = true)) (hl : (eqC o && lsoAt T a s) = true) :
    Sim RO (quiet a && quiet b) S A r s Fs ((borQ T (eqC o) a (vE T clv a) s).bind fun x s1 => (bor T b (vE T clv b) s1).bind fun y s2 => oksB (vcop o x y) s2) ((evE T clh a r S).bind fun v S1 => (evE T clh b r S1).bind fun u S2 => cop o v u S2) := by
  unfold borQ
  rw [if_pos hl]
  rw [Bool.and_eq_true] at hl
  obtain ⟨ho, hl⟩ := hl
  unfold lsoAt at hl
  cases ep : pathOf a with
  | none => rw [ep] at hl; cases hl
  | some q =>
    rw [ep] at hl
    cases er : readP T s q with
    | none => simp [er] at hl
    | some o1 =>
      have hl : isLso o1 = true := by simpa [er] using hl
      obtain ⟨v, F1, G, k1, k2, k3, k4, _⟩ := path_ev (cl := clh) I ep er
      have hqb : quiet b = true := by
        rcases not_stale hst with h | h
        · exact h
        · have := owned_false ep er k2 h
          subst this
          cases k2 <;> cases hl
      simp only [Option.bind_some, er, k1]
      dsimp only [VRes.bind, Res.bind]
      have hv : Sh S (fun _ => False) v (frz o1) := k2.frz (fun _ z => z.elim) (fun _ _ z => z)
      have h := Sim.bind (R2 := RO) (q2 := true) (k := fun y s2 => oksB (vcop o (frz o1) y) s2) (kr := fun u S2 => cop o v u S2) mono_RO (bor_ok (qb := true) I (ihb I) (.inl rfl)) fun y s2 u S2 Fs2 F2 _ o2 R2 => by
        obtain ⟨U', ku⟩ := R2.bo.sh
        have ku : Sh S2 (fun _ => False) u y := Sh.move (W := fun _ => False) Fr.refl (fun _ z => z.elim) (fun l _ z => z.elim) ku
        have hv2 : Sh S2 (fun _ => False) v (frz o1) := Sh.move (W := fun _ => False) (o2.fr.mono fun l _ z => by rw [hqb] at z; cases z.1) (fun _ z => z) (fun l _ z => z.elim) hv
        have he := eqS_eq hv2 ku
        cases o <;> first | (cases ho; done) | skip
        · show Sim RO true S2 _ r s2 Fs2 (oksB (deq (frz o1) y) s2) (match eqS S2 v u with | some b => .ok (.bl b) S2 | none => .bad)
          rw [he]
          cases deq (frz o1) y with
          | none => trivial
          | some b => exact sim_bl o2.inv
        · show Sim RO true S2 _ r s2 Fs2 (oksB ((deq (frz o1) y).map (! ·)) s2) (match eqS S2 v u with | some b => .ok (.bl !b) S2 | none => .bad)
          rw [he]
          cases deq (frz o1) y with
          | none => trivial
          | some b => exact sim_bl o2.inv
      exact h.loud fun z => by rw [hqb]; rfl
theorem chain_case {o p : Cop} {a b c : E} (iha : IHE T clv clh a) (ihb : IHE T clv clh b) (ihc : IHE T clv clh c) : IHE T clv clh (.chain o p a b c) := fun {S A r s Fs} I => by
  simp only [vE, evE]
  by_cases h1 : stale a b s = true
  · rw [if_pos h1]; exact trivial
  · rw [if_neg h1]
    refine Sim.bind (R2 := RO) (q2 := quiet b && quiet c) mono_RO (bor_ok (qb := quiet b) I (iha I) (not_stale h1)) fun x s1 v S1 Fs1 F1 _ o1 R1 => ?_
    by_cases h3 : stale b c s1 = true
    · rw [if_pos h3]; exact trivial
    · rw [if_neg h3]
      refine Sim.bind (R2 := RO) (q2 := quiet c) mono_RO (bor_ok (qb := quiet c) o1.inv (ihb o1.inv) (not_stale h3)) fun y s2 u S2 Fs2 F2 _ o2 R2 => ?_
      cases e : vcop o x y with
      | none => exact trivial
      | some w =>
        rw [cop_eq (R1.over o1.inv o2) R2.bo e]
        dsimp only [Res.bind]
        cases w with
        | false => exact (sim_bl o2.inv).loud fun _ => rfl
        | true =>
          dsimp only
          have h := Sim.bind (R2 := RO) (q2 := true) (k := fun z s3 => oksB (vcop p y z) s3) (kr := fun z S3 => cop p u z S3) mono_RO (bor_ok (qb := true) o2.inv (ihc o2.inv) (.inl rfl)) fun z s3 w S3 Fs3 F3 _ o3 R3 => cop_ok o3.inv (R2.over o2.inv o3) R3.bo
          exact h.loud fun z => by simpa using z
theorem vprt_ok {a : E} (iha : IHE T clv clh a) (n : Bool) (I : Inv S A r s Fs) : Sim (fun _ _ _ _ x y _ => x = y : RT (Option Int) (Option Int)) (quiet a) S A r s Fs (vprt n (fun s => asD (vE T clv a s)) s) (prt n (evE T clh a) r S) := by
  cases n with
  | true => exact Sim.pure I rfl
  | false =>
    have h := Sim.bind (R2 := (fun _ _ _ _ x y _ => x = y : RT (Option Int) (Option Int))) (q2 := true) (k := fun d s1 => (match d with
    | .int i => .ok (some i) s1
    | _ => .bad : VRes (Option Int))) (kr := asI) (fun h _ => h) (asD_int (iha I)) fun x s1 v S1 Fs1 F1 _ o R1 => by
      obtain ⟨_, k⟩ := R1
      cases k <;> first | exact trivial | skip
      exact Sim.pure o.inv rfl
    exact h.loud fun z => by simpa using z
theorem bind_assoc {α β γ : Type} (x : VRes α) (f : α → VEnv → VRes β) (g : β → VEnv → VRes γ) : (x.bind f).bind g = x.bind fun a s => (f a s).bind g := by cases x <;> rfl
theorem bind_assocR {α β γ : Type} (x : Res α) (f : α → Sto → Res β) (g : β → Sto → Res γ) : (x.bind f).bind g = x.bind fun a s => (f a s).bind g := by cases x <;> rfl
theorem two_prt {lo hi : E} (ihl : IHE T clv clh lo) (ihh : IHE T clv clh hi) (n m : Bool) (I : Inv S A r s Fs) : Sim (fun _ _ _ _ x y _ => x = y : RT (Option Int × Option Int) (Option Int × Option Int)) (quiet lo && quiet hi) S A r s Fs
    ((vprt n (fun s => asD (vE T clv lo s)) s).bind fun l s2 => (vprt m (fun s => asD (vE T clv hi s)) s2).bind fun h s3 => .ok (l, h) s3) ((prt n (evE T clh lo) r S).bind fun l S2 => (prt m (evE T clh hi) r S2).bind fun h S3 => .ok (l, h) S3) := by
  refine Sim.bind (R2 := (fun _ _ _ _ x y _ => x = y : RT (Option Int × Option Int) (Option Int × Option Int))) (q2 := quiet hi) (fun h _ => h) (vprt_ok ihl n I) fun l s2 l' S2 Fs2 F2 _ o e => ?_
  subst e
  have h := Sim.bind (R2 := (fun _ _ _ _ x y _ => x = y : RT (Option Int × Option Int) (Option Int × Option Int))) (q2 := true) (k := fun h s3 => .ok (l', h) s3) (kr := fun h S3 => .ok (l', h) S3) (fun h _ => h) (vprt_ok ihh m o.inv) fun h s3 h' S3 Fs3 F3 _ o3 e => by
    subst e
    exact Sim.pure o3.inv rfl
  exact h.loud fun z => by simpa using z
theorem not_stale2 {a lo hi : E} (h : ¬ ((stale a lo s || stale a hi s) = true)) : (quiet lo && quiet hi) = true ∨ owned a s = false := by
  rw [Bool.or_eq_true, not_or] at h
  rcases not_stale h.1 with w | w
  · rcases not_stale h.2 with y | y
    · exact .inl (by rw [w, y]; rfl)
    · exact .inr y
  · exact .inr w
theorem sl_case {a lo hi : E} (iha : IHE T clv clh a) (ihl : IHE T clv clh lo) (ihh : IHE T clv clh hi) : IHE T clv clh (.sl a lo hi) := fun {S A r s Fs} I => by
  simp only [vE, evE]
  by_cases hst : (stale a lo s || stale a hi s) = true
  · rw [if_pos hst]; exact trivial
  · rw [if_neg hst]
    refine Sim.bind (R2 := RO) (q2 := quiet lo && quiet hi) mono_RO (bor_ok (qb := quiet lo && quiet hi) I (iha I) (not_stale2 hst)) fun x s1 v S1 Fs1 F1 _ o R1 => ?_
    have h := Sim.bind (R2 := RO) (q2 := true) (k := fun p s3 => (match dL x with
    | some xs => .ok (.lst (cut xs p.1 p.2)) s3
    | none => .bad)) (kr := fun p S3 => sl v p.1 p.2 S3) mono_RO (two_prt ihl ihh (isNil lo) (isNil hi) o.inv) fun p s3 p' S3 Fs3 F3 _ o3 e => by
      subst e
      exact sl_ok o3.inv (R1.over o.inv o3)
    rw [bind_assoc, bind_assocR] at h
    simp only [bind_assoc, bind_assocR] at h
    exact h.loud fun z => by simpa using z
theorem sls_case {a lo hi : E} (iha : IHE T clv clh a) (ihl : IHE T clv clh lo) (ihh : IHE T clv clh hi) : IHE T clv clh (.sls a lo hi) := fun {S A r s Fs} I => by
  simp only [vE, evE]
  by_cases hst : (stale a lo s || stale a hi s) = true
  · rw [if_pos hst]; exact trivial
  · rw [if_neg hst]
    refine Sim.bind (R2 := RO) (q2 := quiet lo && quiet hi) mono_RO (bor_ok (qb := quiet lo && quiet hi) I (iha I) (not_stale2 hst)) fun x s1 v S1 Fs1 F1 _ o R1 => ?_
    have h := Sim.bind (R2 := RO) (q2 := true) (k := fun p s3 => (match dL x, p.1, p.2 with
    | some xs, some l, some k => if k ≠ 0 then .ok (.lst (pick xs l k)) s3 else .bad
    | _, _, _ => .bad)) (kr := fun p S3 => sls v p.1 p.2 S3) mono_RO (two_prt ihl ihh false false o.inv) fun p s3 p' S3 Fs3 F3 _ o3 e => by
      subst e
      exact sls_ok o3.inv (R1.over o.inv o3)
    rw [bind_assoc, bind_assocR] at h
    simp only [bind_assoc, bind_assocR] at h
    exact h.loud fun z => by simpa using z
theorem e_ok (hc : ∀ f, CallOk (clv f) (clh f)) (e : E) : IHE T clv clh e ∧ IHA T clv clh e ∧ IHC T clv clh e ∧ IHI T clv clh e ∧ IHB T clv clh e := by
  induction e with
  | var i  =>
    refine ⟨?_, fun I => by simp only [vA]; exact trivial, fun B hB I => by simp only [vC]; exact trivial, fun I => by simp only [vI]; exact trivial, fun I => by simp only [vB]; exact trivial⟩
    exact var_case
  | con v  =>
    refine ⟨?_, fun I => by simp only [vA]; exact trivial, fun B hB I => by simp only [vC]; exact trivial, fun I => by simp only [vI]; exact trivial, fun I => by simp only [vB]; exact trivial⟩
    intro S A r s Fs I
    simp only [vE, evE]
    cases v <;> first | exact trivial | skip
    · exact sim_sca I .non
    · exact sim_sca I .bl
    · exact sim_sca I .int
    · exact sim_sca I .str
    · exact sim_sca I .fn
  | nil   =>
    refine ⟨?_, vA_nil, vC_nil, fun I => by simp only [vI]; exact trivial, vB_nil⟩
    exact fun I => by simp only [vE]; exact trivial
  | cons a b iha ihb =>
    refine ⟨?_, vA_cons iha.1 ihb.2.1, vC_cons iha.1 ihb.2.2.1, fun I => by simp only [vI]; exact trivial, vB_cons iha.1 ihb.2.2.2.2⟩
    exact fun I => by simp only [vE]; exact trivial
  | bin o a b iha ihb =>
    refine ⟨?_, fun I => by simp only [vA]; exact trivial, fun B hB I => by simp only [vC]; exact trivial, fun I => by simp only [vI]; exact trivial, fun I => by simp only [vB]; exact trivial⟩
    intro S A r s Fs I
    simp only [vE, evE]
    obtain ⟨B, e⟩ := calm_is a b s
    rw [e]
    refine Sim.frz0 (B := B) ?_
    have I := I.frz B
    by_cases hst : stale a b (frzS s B) = true
    · rw [if_pos hst]; exact trivial
    · rw [if_neg hst]
      exact two_ok mono_RO I iha.1 ihb.1 hst fun I h1 h2 => bop_ok I h1 h2
  | neg a iha =>
    refine ⟨?_, fun I => by simp only [vA]; exact trivial, fun B hB I => by simp only [vC]; exact trivial, fun I => by simp only [vI]; exact trivial, fun I => by simp only [vB]; exact trivial⟩
    intro S A r s Fs I
    simp only [vE, evE]
    exact one_ok mono_RO I iha.1 fun {S2 A2 s2 Fs2 v x} I h1 => by
      obtain ⟨_, k⟩ := h1.sh
      cases k <;> first | exact trivial | exact sim_int I
  | not a iha =>
    refine ⟨?_, fun I => by simp only [vA]; exact trivial, fun B hB I => by simp only [vC]; exact trivial, fun I => by simp only [vI]; exact trivial, fun I => by simp only [vB]; exact trivial⟩
    intro S A r s Fs I
    simp only [vE, evE]
    have h := Sim.bind (R2 := RO) (q2 := true) (k := fun x s1 => .ok (.sh (.bl !x)) s1) (kr := fun x S1 => (match x with | .bl c => .ok (.bl !c) S1 | _ => .bad)) mono_RO (asB_ok (iha.1 I)) fun b' s1 v S1 Fs1 F1 _ o e => by
      subst e
      cases b' <;> dsimp only
      · exact sim_bl o.inv
      · exact sim_bl o.inv
    exact h.loud fun (z : quiet a = true) => by simpa using z
  | and a b iha ihb =>
    refine ⟨?_, fun I => by simp only [vA]; exact trivial, fun B hB I => by simp only [vC]; exact trivial, fun I => by simp only [vI]; exact trivial, fun I => by simp only [vB]; exact trivial⟩
    intro S A r s Fs I
    simp only [vE, evE]
    have h := Sim.bind (R2 := RO) (q2 := quiet b) (k := fun x s1 => (match x with | true => vE T clv b s1 | false => .ok (.sh (.bl false)) s1)) (kr := fun x S1 => (match x with | .bl true => evE T clh b r S1 | .bl false => .ok (.bl false) S1 | _ => .bad)) mono_RO (asB_ok (iha.1 I)) fun b' s1 v S1 Fs1 F1 _ o e => by
      subst e
      cases b' <;> dsimp only
      · exact (sim_bl o.inv).loud fun _ => rfl
      · exact ihb.1 o.inv
    exact h.loud fun (z : (quiet a && quiet b) = true) => by simpa using z
  | or a b iha ihb =>
    refine ⟨?_, fun I => by simp only [vA]; exact trivial, fun B hB I => by simp only [vC]; exact trivial, fun I => by simp only [vI]; exact trivial, fun I => by simp only [vB]; exact trivial⟩
    intro S A r s Fs I
    simp only [vE, evE]
    have h := Sim.bind (R2 := RO) (q2 := quiet b) (k := fun x s1 => (match x with | true => .ok (.sh (.bl true)) s1 | false => vE T clv b s1)) (kr := fun x S1 => (match x with | .bl true => .ok (.bl true) S1 | .bl false => evE T clh b r S1 | _ => .bad)) mono_RO (asB_ok (iha.1 I)) fun b' s1 v S1 Fs1 F1 _ o e => by
      subst e
      cases b' <;> dsimp only
      · exact ihb.1 o.inv
      · exact (sim_bl o.inv).loud fun _ => rfl
    exact h.loud fun (z : (quiet a && quiet b) = true) => by simpa using z
  | ite a b c iha ihb ihc =>
    refine ⟨?_, fun I => by simp only [vA]; exact trivial, fun B hB I => by simp only [vC]; exact trivial, fun I => by simp only [vI]; exact trivial, fun I => by simp only [vB]; exact trivial⟩
    intro S A r s Fs I
    simp only [vE, evE]
    have h := Sim.bind (R2 := RO) (q2 := (quiet b && quiet c)) (k := fun x s1 => (match x with | true => vE T clv b s1 | false => vE T clv c s1)) (kr := fun x S1 => (match x with | .bl true => evE T clh b r S1 | .bl false => evE T clh c r S1 | _ => .bad)) mono_RO (asB_ok (iha.1 I)) fun b' s1 v S1 Fs1 F1 _ o e => by
      subst e
      cases b' <;> dsimp only
      · exact (ihc.1 o.inv).loud fun z => by rw [Bool.and_eq_true] at z; exact z.2
      · exact (ihb.1 o.inv).loud fun z => by rw [Bool.and_eq_true] at z; exact z.1
    exact h.loud fun (z : (quiet a && (quiet b && quiet c)) = true) => by simpa using z
  | cmp o a b iha ihb =>
    refine ⟨?_, fun I => by simp only [vA]; exact trivial, fun B hB I => by simp only [vC]; exact trivial, fun I => by simp only [vI]; exact trivial, fun I => by simp only [vB]; exact trivial⟩
    intro S A r s Fs I
    simp only [vE, evE]
    by_cases hst : stale a b s = true
    · rw [if_pos hst]; exact trivial
    · rw [if_neg hst]
      by_cases hl : (eqC o && lsoAt T a s) = true
      · exact cmp_lso I iha.1 ihb.1 hst hl
      · unfold borQ
        rw [if_neg hl]
        exact two_ok mono_RO I iha.1 ihb.1 hst fun I h1 h2 => cop_ok I h1 h2
  | chain o p a b c iha ihb ihc =>
    refine ⟨?_, fun I => by simp only [vA]; exact trivial, fun B hB I => by simp only [vC]; exact trivial, fun I => by simp only [vI]; exact trivial, fun I => by simp only [vB]; exact trivial⟩
    exact chain_case iha.1 ihb.1 ihc.1
  | isC v n a iha =>
    refine ⟨?_, fun I => by simp only [vA]; exact trivial, fun B hB I => by simp only [vC]; exact trivial, fun I => by simp only [vI]; exact trivial, fun I => by simp only [vB]; exact trivial⟩
    intro S A r s Fs I
    simp only [vE, evE]
    exact one_ok mono_RO I iha.1 fun I h1 => isC_ok I h1
  | inStrs a xs iha =>
    refine ⟨?_, fun I => by simp only [vA]; exact trivial, fun B hB I => by simp only [vC]; exact trivial, fun I => by simp only [vI]; exact trivial, fun I => by simp only [vB]; exact trivial⟩
    intro S A r s Fs I
    simp only [vE, evE]
    exact one_ok mono_RO I iha.1 fun I h1 => inStrs_ok I h1
  | lst a iha =>
    refine ⟨?_, fun I => by simp only [vA]; exact trivial, fun B hB I => by simp only [vC]; exact trivial, fun I => by simp only [vI]; exact trivial, fun I => by simp only [vB]; exact trivial⟩
    intro S A r s Fs I
    simp only [vE, evE]
    have h := Sim.bindD (R2 := RO) (q2 := true) (k := fun xs s1 => if xs.length ≤ line then .ok (.lst xs) s1 else .bad) (kr := fun xs S1 => if xs.length ≤ line then new (.lst xs) S1 else .bad) (iha.2.1 I) fun xs s1 vs S1 Fs1 F1 _ o R => by
      have R' : ShL S1 (UA A s1 Fs1) vs xs := ShL.weak R fun l z => UB_nil z
      rw [R'.len]
      split
      · exact sim_new o.invA R'
      · exact trivial
    exact h.loud fun (z : quiet a = true) => by simpa using z
  | tup a iha =>
    refine ⟨?_, fun I => by simp only [vA]; exact trivial, fun B hB I => by simp only [vC]; exact trivial, fun I => by simp only [vI]; exact trivial, fun I => by simp only [vB]; exact trivial⟩
    intro S A r s Fs I
    simp only [vE, evE]
    have h := Sim.bindD (R2 := RO) (q2 := true) (k := fun xs s1 => if xs.length ≤ line then .ok (.sh (.tup xs)) s1 else .bad) (kr := fun xs S1 => if xs.length ≤ line then new (.tup xs) S1 else .bad) (iha.2.1 I) fun xs s1 vs S1 Fs1 F1 _ o R => by
      have R' : ShL S1 (UA A s1 Fs1) vs xs := ShL.weak R fun l z => UB_nil z
      rw [R'.len]
      split
      · exact sim_newT o.invA R'
      · exact trivial
    exact h.loud fun (z : quiet a = true) => by simpa using z
  | dnew   =>
    refine ⟨?_, fun I => by simp only [vA]; exact trivial, fun B hB I => by simp only [vC]; exact trivial, fun I => by simp only [vI]; exact trivial, fun I => by simp only [vB]; exact trivial⟩
    intro S A r s Fs I
    simp only [vE, evE]
    exact ⟨_, _, Fs, [S.length], rfl, Out.alloc I, .dct (by simp) .nil⟩
  | idx a b iha ihb =>
    refine ⟨?_, fun I => by simp only [vA]; exact trivial, fun B hB I => by simp only [vC]; exact trivial, fun I => by simp only [vI]; exact trivial, fun I => by simp only [vB]; exact trivial⟩
    intro S A r s Fs I
    simp only [vE, evE]
    by_cases hst : stale a b s = true
    · rw [if_pos hst]; exact trivial
    · rw [if_neg hst]
      exact two_ok mono_RO I iha.1 ihb.1 hst fun I h1 h2 => idx_ok I h1 h2
  | sl a lo hi iha ihb ihc =>
    refine ⟨?_, fun I => by simp only [vA]; exact trivial, fun B hB I => by simp only [vC]; exact trivial, fun I => by simp only [vI]; exact trivial, fun I => by simp only [vB]; exact trivial⟩
    exact sl_case iha.1 ihb.1 ihc.1
  | rev a iha =>
    refine ⟨?_, fun I => by simp only [vA]; exact trivial, fun B hB I => by simp only [vC]; exact trivial, fun I => by simp only [vI]; exact trivial, fun I => by simp only [vB]; exact trivial⟩
    intro S A r s Fs I
    simp only [vE, evE]
    exact one_ok mono_RO I iha.1 fun I h1 => rev_ok I h1
  | sls a lo st iha ihb ihc =>
    refine ⟨?_, fun I => by simp only [vA]; exact trivial, fun B hB I => by simp only [vC]; exact trivial, fun I => by simp only [vI]; exact trivial, fun I => by simp only [vB]; exact trivial⟩
    exact sls_case iha.1 ihb.1 ihc.1
  | fld a f iha =>
    refine ⟨?_, fun I => by simp only [vA]; exact trivial, fun B hB I => by simp only [vC]; exact trivial, fun I => by simp only [vI]; exact trivial, fun I => by simp only [vB]; exact trivial⟩
    exact fld_case iha.1
  | call f a iha =>
    refine ⟨?_, fun I => by simp only [vA]; exact trivial, fun B hB I => by simp only [vC]; exact trivial, fun I => by simp only [vI]; exact trivial, fun I => by simp only [vB]; exact trivial⟩
    intro S A r s Fs I
    simp only [vE, evE]
    have h := Sim.bindD (R2 := RO) (q2 := true) (k := fun xs s1 => call0 clv f xs (brw a) s1) (kr := fun xs S1 => clh f xs S1) (iha.2.2.1 (brw a) (fun i z => z) I) fun xs s1 vs S1 Fs1 F1 _ o R => call0_ok (hc f) o.invA R
    exact h.loud fun (z : quiet a = true) => by simpa using z
  | callL g f js a iha =>
    exact ⟨fun I => by simp only [vE]; exact trivial, fun I => by simp only [vA]; exact trivial, fun B hB I => by simp only [vC]; exact trivial, fun I => by simp only [vI]; exact trivial, fun I => by simp only [vB]; exact trivial⟩
  | callv i a iha =>
    refine ⟨?_, fun I => by simp only [vA]; exact trivial, fun B hB I => by simp only [vC]; exact trivial, fun I => by simp only [vI]; exact trivial, fun I => by simp only [vB]; exact trivial⟩
    intro S A r s Fs I
    simp only [vE, evE]
    cases hs : slotO s i with
    | none => exact trivial
    | some o =>
      cases o with
      | sh dd =>
        cases dd with
        | fn f =>
          obtain ⟨v, e1, R⟩ := I.rep i _ hs
          obtain ⟨_, R1⟩ := RepO.sh_nil R
          cases R1
          simp only [e1]
          by_cases hf : f < T.nd
          · rw [if_pos hf, if_pos hf]
            have h := Sim.bindD (R2 := RO) (q2 := true) (k := fun xs s1 => call0 clv f xs (brw a) s1) (kr := fun xs S1 => clh f xs S1) (iha.2.2.1 (brw a) (fun i z => z) I) fun xs s1 vs S1 Fs1 F1 _ o R => call0_ok (hc f) o.invA R
            exact h.loud fun (z : quiet a = true) => by simpa using z
          · rw [if_neg hf]; exact trivial
        | _ => exact trivial
      | _ => exact trivial
  | make c a iha =>
    refine ⟨?_, fun I => by simp only [vA]; exact trivial, fun B hB I => by simp only [vC]; exact trivial, fun I => by simp only [vI]; exact trivial, fun I => by simp only [vB]; exact trivial⟩
    intro S A r s Fs I
    simp only [vE, evE]
    cases e : T.ini c with
    | none => exact trivial
    | some w =>
      cases w with
      | some f =>
        dsimp only
        have h := Sim.bindD (R2 := RO) (q2 := true) (k := fun xs s1 => call1 clv f (.ins c .nil) xs (fun o me => match o with
      | .sh .non => .ok me (behind me (brw a) s1)
      | _ => .bad) fun c me => .exc c s1) (kr := fun xs S1 => (clh f (.loc (S1.length + 1) :: xs) (S1 ++ [.own (S1.length + 1), .ins c S1.length []])).bind fun v S2 => match v with
      | .non => .ok (.loc (S1.length + 1)) S2
      | _ => .bad) (iha.2.2.1 (brw a) (fun i z => z) I) fun xs s1 vs S1 Fs1 F1 _ o R => make_ok (hc f) o.invA R
        exact h.loud fun (z : quiet a = true) => by simpa using z
      | none =>
        dsimp only
        cases a <;> first | exact trivial | skip
        simp only [evA, Res.bind]
        exact (make0_ok I).loud fun _ => rfl
  | meth a m b iha ihb =>
    refine ⟨?_, fun I => by simp only [vA]; exact trivial, fun B hB I => by simp only [vC]; exact trivial, fun I => by simp only [vI]; exact trivial, fun I => by simp only [vB]; exact trivial⟩
    exact meth_case hc iha.1 ihb.2.2.1
  | lm m a b iha ihb =>
    refine ⟨?_, fun I => by simp only [vA]; exact trivial, fun B hB I => by simp only [vC]; exact trivial, fun I => by simp only [vI]; exact trivial, fun I => by simp only [vB]; exact trivial⟩
    exact lm_case ihb.2.1
  | bi b a iha =>
    refine ⟨?_, fun I => by simp only [vA]; exact trivial, fun B hB I => by simp only [vC]; exact trivial, fun I => by simp only [vI]; exact trivial, fun I => by simp only [vB]; exact trivial⟩
    intro S A r s Fs I
    simp only [vE, evE]
    have h := Sim.bind (R2 := RO) (q2 := true) (k := fun xs s1 => oksO (vbi b xs) s1) (kr := fun xs S1 => bi b xs S1) mono_RO (iha.2.2.2.2 I) fun xs s1 vs S1 Fs1 F1 _ o R => bi_ok o.inv R
    exact h.loud fun (z : quiet a = true) => by simpa using z
  | isTy t a iha =>
    refine ⟨?_, fun I => by simp only [vA]; exact trivial, fun B hB I => by simp only [vC]; exact trivial, fun I => by simp only [vI]; exact trivial, fun I => by simp only [vB]; exact trivial⟩
    intro S A r s Fs I
    simp only [vE, evE]
    exact one_ok mono_RO I iha.1 fun I h1 => isTy_ok I h1
  | isCls c a iha =>
    refine ⟨?_, fun I => by simp only [vA]; exact trivial, fun B hB I => by simp only [vC]; exact trivial, fun I => by simp only [vI]; exact trivial, fun I => by simp only [vB]; exact trivial⟩
    intro S A r s Fs I
    simp only [vE, evE]
    exact one_ok mono_RO I iha.1 fun I h1 => isCls_ok I h1
  | comp own t it c e ihi ihc ihe =>
    refine ⟨?_, fun I => by simp only [vA]; exact trivial, fun B hB I => by simp only [vC]; exact trivial, fun I => by simp only [vI]; exact trivial, fun I => by simp only [vB]; exact trivial⟩
    exact comp_case ihi.2.2.2.1 ihc.1 ihe.1
  | seq a iha =>
    refine ⟨?_, fun I => by simp only [vA]; exact trivial, fun B hB I => by simp only [vC]; exact trivial, vI_seq iha.1, fun I => by simp only [vB]; exact trivial⟩
    exact fun I => by simp only [vE]; exact trivial
  | rng1 a iha =>
    refine ⟨?_, fun I => by simp only [vA]; exact trivial, fun B hB I => by simp only [vC]; exact trivial, vI_rng1 iha.1, fun I => by simp only [vB]; exact trivial⟩
    exact fun I => by simp only [vE]; exact trivial
  | rng2 a b iha ihb =>
    refine ⟨?_, fun I => by simp only [vA]; exact trivial, fun B hB I => by simp only [vC]; exact trivial, vI_rng2 iha.1 ihb.1, fun I => by simp only [vB]; exact trivial⟩
    exact fun I => by simp only [vE]; exact trivial
  | rng3 a b c iha ihb ihc =>
    refine ⟨?_, fun I => by simp only [vA]; exact trivial, fun B hB I => by simp only [vC]; exact trivial, vI_rng3 iha.1 ihb.1 ihc.1, fun I => by simp only [vB]; exact trivial⟩
    exact fun I => by simp only [vE]; exact trivial
  | enum a iha =>
    refine ⟨?_, fun I => by simp only [vA]; exact trivial, fun B hB I => by simp only [vC]; exact trivial, vI_enum iha.1, fun I => by simp only [vB]; exact trivial⟩
    exact fun I => by simp only [vE]; exact trivial
  | zip a b iha ihb =>
    refine ⟨?_, fun I => by simp only [vA]; exact trivial, fun B hB I => by simp only [vC]; exact trivial, vI_zip iha.1 ihb.1, fun I => by simp only [vB]; exact trivial⟩
    exact fun I => by simp only [vE]; exact trivial
end
end Vl
end

section
set_option linter.all false
/-! Vr18: statements. -/
namespace Vl
open PySem Ev
section
variable {T : Tx} {clv : Nat → List Ow → CRes} {clh : Nat → List Va → Sto → Res Va} {S S0 S1 S2 S' : Sto} {A A0 : Set'} {r r0 r1 r2 : Rho} {s s0 s1 s2 : VEnv} {Fs Fs0 Fs1 Fs2 : Nat → List Nat} {B : List Nat} {k0 : Bool}
/-- a path written; temps of A0 that are not of A may be stored -/
theorem put_gen {Q : Bool} {q : Nat × List Nat} {v : Va} {me2 : Ow} {F1 G Fm : List Nat} (I : Inv S A0 r s Fs) (P : PathAt T S A0 r s Fs q v F1 G) (fr : Fr S S2 (fun l => Q = false ∧ l ∈ F1)) (hA : ∀ l, A l → A0 l) (nd : Fm.Nodup)
    (n1 : ∀ l ∈ Fm, l ∈ F1 ∨ (A0 l ∧ ¬ A l) ∨ S.length ≤ l) (R : RepO S2 (UP A s Fs F1 [] Fm) v me2 Fm) :
    ∃ s2 Fs2, writeP T s q me2 = some s2 ∧ Inv S2 A r s2 Fs2 ∧ (∀ i l, HasF s2 Fs2 i l → HasF s Fs i l ∨ (A0 l ∧ ¬ A l) ∨ S.length ≤ l) := by
  have hnd := P.nd I
  have fA : ∀ l ∈ F1, ¬ A0 l := fun l h z => I.av l (own_has.mpr ⟨q.1, P.own (List.mem_append_left _ h)⟩) z
  obtain ⟨v0, o0, o0', F', h1, h2, h3, h4, h5⟩ := P.put S2 (UP A s Fs F1 [] Fm) (fun l => Q = false ∧ l ∈ F1) me2 Fm fr (fun l z => .inr (own_has.mpr ⟨q.1, P.own (List.mem_append_left _ z.2)⟩)) (fun l hl z => by
      rcases z with (z | z) | z | z
      · exact .inl (hA l z)
      · exact .inr z.1
      · simp at z
      · rcases n1 l z with w | w | w
        · exact .inr (own_has.mpr ⟨q.1, P.own (List.mem_append_left _ w)⟩)
        · exact .inl w.1
        · omega) (fun l hl z => (List.nodup_append.mp hnd).2.2 l z.2 l hl rfl) R
  have hw : writeP T s q me2 = some (s.set q.1 (some o0')) := by
    unfold writeP
    rw [h2]
    show (putP T.fl me2 o0 q.2).map _ = _
    rw [h3]
    rfl
  have hF' : ∀ l ∈ F', l ∈ Fm ∨ l ∈ G := fun l z => List.mem_append.mp (h4.mem_iff.mp z)
  have hG : ∀ l ∈ G, HasF s Fs q.1 l ∧ l ∉ F1 := fun l h => ⟨P.own (List.mem_append_right _ h), fun z => (List.nodup_append.mp hnd).2.2 l z l h rfl⟩
  have gA : ∀ l ∈ G, ¬ A0 l := fun l h z => I.av l (own_has.mpr ⟨q.1, (hG l h).1⟩) z
  have hS : ∀ l, UA A (s.set q.1 (some o0')) (upF Fs q.1 F') l → UP A s Fs F1 [] Fm l := fun l z => by
    rcases z with z | z
    · exact .inl (.inl z)
    · obtain ⟨j, z1, z2⟩ := own_has.mp z
      by_cases ej : j = q.1
      · subst ej
        rw [upF_same] at z2
        rcases hF' l z2 with w | w
        · exact .inr (.inr w)
        · exact .inl (.inr ⟨own_has.mpr ⟨q.1, (hG l w).1⟩, (hG l w).2⟩)
      · rw [upF_ne ej] at z2
        rw [slot_set, if_neg (fun w => ej w.1.symm)] at z1
        refine .inl (.inr ⟨own_has.mpr ⟨j, z1, z2⟩, fun w => ?_⟩)
        obtain ⟨o1, e1⟩ := Option.isSome_iff_exists.mp z1
        exact I.dj q.1 j o0 o1 (Ne.symm ej) h2 e1 l (P.own (List.mem_append_left _ w)).2 z2
  refine ⟨_, upF Fs q.1 F', hw, ?_, fun i l h => ?_⟩
  · have hput := Inv.put (A' := A) (v := v0) (o := o0') (F := F') I (slot_lt h2) fr (fun l z => .inr (P.own (List.mem_append_left _ z.2))) (fun l hl z => .inl (hA l z)) (fun l z hl => by
        rcases hF' l z with w | w
        · rcases n1 l w with w | w | w
          · exact .inr (P.own (List.mem_append_left _ w))
          · exact .inl w.1
          · omega
        · exact .inr (hG l w).1) (h5.weak fun l z => hS l z) ?_ ?_ ?_
    · rw [set_same h1] at hput
      exact hput
    · refine h4.nodup_iff.mpr (List.nodup_append.mpr ⟨nd, (List.nodup_append.mp hnd).2.1, fun a ha b hb e => ?_⟩)
      subst e
      rcases n1 a ha with w | w | w
      · exact (hG a hb).2 w
      · exact gA a hb w.1
      · have := I.lt (own_has.mpr ⟨q.1, (hG a hb).1⟩); omega
    · intro l z w
      rcases hF' l z with y | y
      · rcases n1 l y with x | x | x
        · exact fA l x (hA l w)
        · exact x.2 w
        · have := I.old l (hA l w); omega
      · exact gA l y (hA l w)
    · intro l z
      have := I.old l (hA l z); have := fr.len; omega
  · obtain ⟨z1, z2⟩ := h
    by_cases ej : i = q.1
    · subst ej
      rw [upF_same] at z2
      rcases hF' l z2 with w | w
      · rcases n1 l w with w | w
        · exact .inl (P.own (List.mem_append_left _ w))
        · exact .inr w
      · exact .inl (hG l w).1
    · rw [upF_ne ej] at z2
      rw [slot_set, if_neg (fun w => ej w.1.symm)] at z1
      exact .inl ⟨z1, z2⟩
structure OutS (k0 : Bool) (S : Sto) (A : Set') (r : Rho) (s : VEnv) (Fs : Nat → List Nat) (S' : Sto) (r' : Rho) (s' : VEnv) (Fs' : Nat → List Nat) : Prop where
  fr : Fr S S' (Own s Fs)
  inv : Inv S' A r' s' Fs'
  n2 : ∀ l, Own s' Fs' l → Own s Fs l ∨ S.length ≤ l
  kp : k0 = true → r'[0]? = r[0]?
structure OutR (k0 : Bool) (S : Sto) (A : Set') (r : Rho) (s : VEnv) (Fs : Nat → List Nat) (S' : Sto) (r' : Rho) (s' : VEnv) (Fs' : Nat → List Nat) (Fo : List Nat) : Prop where
  fr : Fr S S' (Own s Fs)
  inv : Inv S' (fun l => A l ∨ l ∈ Fo) r' s' Fs'
  n2 : ∀ l, Own s' Fs' l → Own s Fs l ∨ S.length ≤ l
  kp : k0 = true → r'[0]? = r[0]?
  nd : Fo.Nodup
  av : ∀ l ∈ Fo, ¬ A l
  n1 : ∀ l ∈ Fo, Own s Fs l ∨ S.length ≤ l
def SimS (k0 : Bool) (S : Sto) (A : Set') (r : Rho) (s : VEnv) (Fs : Nat → List Nat) (x : VFl) (y : Fl) : Prop := match x with
  | .nx s' => ∃ r' S' Fs', y = .nx r' S' ∧ OutS k0 S A r s Fs S' r' s' Fs'
  | .bk s' => ∃ r' S' Fs', y = .bk r' S' ∧ OutS k0 S A r s Fs S' r' s' Fs'
  | .ct s' => ∃ r' S' Fs', y = .ct r' S' ∧ OutS k0 S A r s Fs S' r' s' Fs'
  | .exc c s' => ∃ r' S' Fs', y = .exc c S' ∧ OutS k0 S A r s Fs S' r' s' Fs'
  | .rt o s' => ∃ v r' S' Fs' Fo, y = .rt v S' ∧ OutR k0 S A r s Fs S' r' s' Fs' Fo ∧ RepO S' (US A s' Fs' Fo) v o Fo
  | .bad => True
theorem OutS.refl (I : Inv S A r s Fs) : OutS k0 S A r s Fs S r s Fs := ⟨Fr.refl, I, fun l z => .inl z, fun _ => rfl⟩
theorem OutS.trans (a : OutS k0 S A r s Fs S1 r1 s1 Fs1) (b : OutS k0 S1 A r1 s1 Fs1 S2 r2 s2 Fs2) : OutS k0 S A r s Fs S2 r2 s2 Fs2 where
  fr := a.fr.trans b.fr fun l hl z => by
    rcases a.n2 l z with w | w
    · exact w
    · omega
  inv := b.inv
  n2 := fun l z => by
    rcases b.n2 l z with w | w
    · exact a.n2 l w
    · exact .inr (Nat.le_trans a.fr.len w)
  kp := fun h => (b.kp h).trans (a.kp h)
theorem OutS.transR {Fo : List Nat} (a : OutS k0 S A r s Fs S1 r1 s1 Fs1) (b : OutR k0 S1 A r1 s1 Fs1 S2 r2 s2 Fs2 Fo) : OutR k0 S A r s Fs S2 r2 s2 Fs2 Fo where
  fr := a.fr.trans b.fr fun l hl z => by
    rcases a.n2 l z with w | w
    · exact w
    · omega
  inv := b.inv
  n2 := fun l z => by
    rcases b.n2 l z with w | w
    · exact a.n2 l w
    · exact .inr (Nat.le_trans a.fr.len w)
  kp := fun h => (b.kp h).trans (a.kp h)
  nd := b.nd
  av := b.av
  n1 := fun l z => by
    rcases b.n1 l z with w | w
    · exact a.n2 l w
    · exact .inr (Nat.le_trans a.fr.len w)
theorem SimS.after {x : VFl} {y : Fl} (a : OutS k0 S A r s Fs S1 r1 s1 Fs1) (h : SimS k0 S1 A r1 s1 Fs1 x y) : SimS k0 S A r s Fs x y := by
  cases x with
  | nx s' => obtain ⟨r', S', Fs', e, o⟩ := h; exact ⟨r', S', Fs', e, a.trans o⟩
  | bk s' => obtain ⟨r', S', Fs', e, o⟩ := h; exact ⟨r', S', Fs', e, a.trans o⟩
  | ct s' => obtain ⟨r', S', Fs', e, o⟩ := h; exact ⟨r', S', Fs', e, a.trans o⟩
  | exc c s' => obtain ⟨r', S', Fs', e, o⟩ := h; exact ⟨r', S', Fs', e, a.trans o⟩
  | rt o s' => obtain ⟨v, r', S', Fs', Fo, e, o, R⟩ := h; exact ⟨v, r', S', Fs', Fo, e, a.transR o, R⟩
  | bad => trivial
theorem Out.toS {q : Bool} {F1 : List Nat} (o : Out q S A r s Fs S1 s1 Fs1 F1) : OutS k0 S A r s Fs S1 r s1 Fs1 := ⟨o.fr.mono fun l _ z => z.2, o.invA, fun l z => o.m2 l z, fun _ => rfl⟩
theorem th_ok {α β : Type} {R : RT α β} {q : Bool} {x : VRes α} {y : Res β} {k : α → VEnv → VFl} {kr : β → Sto → Fl} (h : Sim R q S A r s Fs x y)
    (hk : ∀ a s1 b S1 Fs1 F1, Out q S A r s Fs S1 s1 Fs1 F1 → R S1 (US A s1 Fs1 F1) s1 Fs1 b a F1 → SimS k0 S A r s Fs (k a s1) (kr b S1)) : SimS k0 S A r s Fs (vth x k) (thenS y kr) := by
  cases x with
  | bad => trivial
  | exc c s' =>
    obtain ⟨S', Fs', rfl, o⟩ := h
    exact ⟨r, S', Fs', rfl, o.toS⟩
  | ok a s1 =>
    obtain ⟨b, S1, Fs1, F1, rfl, o, R⟩ := h
    exact hk a s1 b S1 Fs1 F1 o R
/-- an owned result is stored in a slot -/
theorem put_own {i : Nat} {v : Va} {o : Ow} {F1 : List Nat} (I : Inv S (fun l => A l ∨ l ∈ F1) r s Fs) (R : RepO S (US A s Fs F1) v o F1) (nd : F1.Nodup) (av : ∀ l ∈ F1, ¬ A l) : ∃ Fs1, Inv S A (r.set i (some v)) (s.set i (some o)) Fs1 ∧ ∀ l, Own (s.set i (some o)) Fs1 l → Own s Fs l ∨ l ∈ F1 := by
  by_cases hi : i < s.length
  · have hO : ∀ l, Own (s.set i (some o)) (upF Fs i F1) l → Own s Fs l ∨ l ∈ F1 := fun l z => by
      obtain ⟨j, z1, z2⟩ := own_has.mp z
      by_cases e : j = i
      · subst e; rw [upF_same] at z2; exact .inr z2
      · rw [upF_ne e] at z2
        rw [slot_set, if_neg fun w => e w.1.symm] at z1
        exact .inl (own_has.mpr ⟨j, z1, z2⟩)
    refine ⟨upF Fs i F1, I.put (W := fun _ => False) hi Fr.refl (fun _ z => z.elim) (fun l _ z => .inl (.inl z)) (fun l z _ => .inl (.inr z)) (R.weak fun l z => ?_) nd av (fun l z => I.old l (.inl z)), hO⟩
    rcases z with z | z
    · exact .inl (.inl z)
    · rcases hO l z with w | w
      · exact .inr w
      · exact .inl (.inr w)
  · have h : ¬ i < r.length := by rw [I.len]; exact hi
    rw [List.set_eq_of_length_le (by omega), List.set_eq_of_length_le (by omega)]
    exact ⟨Fs, I.move (W := fun _ => False) Fr.refl (fun _ z => z.elim) (fun l _ z => .inl z) (fun l z => I.old l (.inl z)), fun l z => .inl z⟩
theorem asg_case {t : Tg} {e : E} {x : VRes Ow} (ih : Sim RO false S A r s Fs x (evE T clh e r S)) (I : Inv S A r s Fs) : SimS (tgK t) S A r s Fs (vth x fun o s1 => onx (asgO t o s1)) (thenS (evE T clh e r S) fun v S1 => match asgT S1 t v r with
    | some r1 => .nx r1 S1
    | none => .bad) := by
  refine th_ok ih fun o s1 v S1 Fs1 F1 w R => ?_
  have gen : ∀ t : Tg, SimS (tgK t) S A r s Fs (onx (asgV t (frz o) s1)) (match asgT S1 t v r with
    | some r1 => .nx r1 S1
    | none => .bad) := fun t => by
    cases e1 : asgV t (frz o) s1 with
    | none => trivial
    | some s2 =>
      obtain ⟨r2, Fs2, g1, g2, g3, g4, _⟩ := asgV_ok (own := []) t w.invA (w.frz R) e1
      rw [g1]
      refine ⟨r2, S1, Fs2, rfl, ⟨w.fr.mono fun l _ z => z.2, g2, fun l z => w.m2 l (g3.own z), fun h => g4 h⟩⟩
  cases t with
  | nm i =>
    simp only [asgO, asgT, onx]
    obtain ⟨Fs2, g1, g2⟩ := put_own (i := i) w.inv R w.nd w.av
    refine ⟨_, S1, Fs2, rfl, ⟨w.fr.mono fun l _ z => z.2, g1, fun l z => ?_, fun h => ?_⟩⟩
    · rcases g2 l z with y | y
      · exact w.m2 l y
      · exact w.n1 l y
    · have h : i ≠ 0 := by simpa [tgK] using h
      exact List.getElem?_set_ne h
  | nil => exact gen .nil
  | cons a b => exact gen (.cons a b)
  | tup ts => exact gen (.tup ts)
/-- several owned results -/
def ROL : RT (List Ow) (List Va) := fun S U _ _ vs os F => RepA S U vs os F
theorem RepA.move {U U' W : Set'} (f : Fr S S' W) (hW : ∀ l, W l → U l) (hU : ∀ l, l < S.length → U' l → U l) : ∀ {vs : List Va} {os : List Ow} {F : List Nat}, RepA S U vs os F → (∀ l ∈ F, ¬ W l) → RepA S' U' vs os F
  | _, _, _, .nil, _ => .nil
  | _, _, _, .cons a t, n => .cons (RepO.move f hW hU a fun l z => n l (by simp [z])) (RepA.move f hW hU t fun l z => n l (by simp [z]))
theorem RepA.weak {U U' : Set'} {vs : List Va} {os : List Ow} {F : List Nat} (h : RepA S U vs os F) (hU : ∀ l, U' l → U l) : RepA S U' vs os F := RepA.move (W := fun _ => False) Fr.refl (fun _ z => z.elim) (fun l _ z => hU l z) h fun _ _ z => z
theorem Out.perm {q : Bool} {S1 : Sto} {s1 : VEnv} {Fs1 : Nat → List Nat} {F1 F2 : List Nat} (o : Out q S A r s Fs S1 s1 Fs1 F1) (p : F1.Perm F2) : Out q S A r s Fs S1 s1 Fs1 F2 :=
  ⟨o.fr, o.inv.move (W := fun _ => False) Fr.refl (fun _ z => z.elim) (fun l _ z => z.imp id fun z => p.symm.subset z) (fun l z => o.inv.old l (z.imp id fun z => p.symm.subset z)), p.nodup_iff.mp o.nd, fun l z => o.av l (p.symm.subset z), fun l z => o.n1 l (p.symm.subset z), o.n2⟩
theorem RepA.len {U : Set'} : ∀ {vs : List Va} {os : List Ow} {F : List Nat}, RepA S U vs os F → vs.length = os.length
  | _, _, _, .nil => rfl
  | _, _, _, .cons _ t => by rw [List.length_cons, List.length_cons, RepA.len t]
theorem RepA.chO {U : Set'} : ∀ {vs : List Va} {os : List Ow} {F : List Nat}, RepA S U vs os F → RepG S U (vs.map fun v => (0, v)) (chO os) F
  | _, _, _, .nil => .nil
  | _, _, _, .cons a t => .cons a (RepA.chO t)
/-- a list of owned things -/
theorem lso_ok {es : E} (h : Sim ROL false S A r s Fs (vO T clv es s) (evA T clh es r S)) : Sim RO false S A r s Fs (lsoR (vO T clv es s)) (evE T clh (.lst es) r S) := by
  simp only [evE]
  unfold lsoR
  revert h
  cases e : vO T clv es s with
  | bad => exact fun _ => trivial
  | exc c s' =>
    rintro ⟨S', Fs', e2, o2⟩
    exact ⟨S', Fs', by rw [e2]; rfl, o2⟩
  | ok os s1 =>
    rintro ⟨vs, S1, Fs1, F1, e2, o1, R1⟩
    have R1 : RepA S1 (US A s1 Fs1 F1) vs os F1 := R1
    rw [e2]
    dsimp only [VRes.bind, Res.bind]
    by_cases hl : os.length ≤ line
    · rw [if_pos hl, if_pos (by rw [R1.len]; exact hl)]
      have oa := o1.both (Out.alloc (q := true) (o := .lst vs) o1.inv)
      rw [Bool.and_true] at oa
      have ob := oa.perm (F2 := S1.length :: F1) (List.perm_append_comm (l₁ := F1) (l₂ := [S1.length]))
      refine ⟨_, _, Fs1, S1.length :: F1, rfl, ob, .lso (by simp) ((R1.move (W := fun _ => False) Fr.new (fun _ z => z.elim) (fun l hl z => ?_) (fun _ _ z => z)).chO)⟩
      rcases z with (z | z) | z
      · exact .inl (.inl z)
      · rcases List.mem_cons.mp z with z | z
        · omega
        · exact .inl (.inr z)
      · exact .inr z
    · rw [if_neg hl]; trivial
theorem vX_nl {e : E} (h : dplE e = false) : vX T clv e s = vE T clv e s := by
  cases e <;> try rfl
  rename_i es
  have h : dpl es = false := h
  unfold vX
  dsimp only
  rw [if_neg (by rw [h]; simp)]
theorem vX_ok {e : E} (hE : IHE T clv clh e) (hO : ∀ es, e = .lst es → Sim ROL false S A r s Fs (vO T clv es s) (evA T clh es r S)) (I : Inv S A r s Fs) : Sim RO false S A r s Fs (vX T clv e s) (evE T clh e r S) := by
  cases hd : dplE e with
  | false =>
    rw [vX_nl hd]
    exact (hE I).loud fun z => by cases z
  | true =>
    cases e <;> try (cases hd; done)
    rename_i es
    have hd : dpl es = true := hd
    unfold vX
    dsimp only
    rw [if_pos hd]
    exact lso_ok (hO es rfl)
theorem vO_cons {a b : E} {s : VEnv} : vO T clv (.cons a b) s = (vX T clv a s).bind fun x s1 => (vO T clv b s1).bind fun xs s2 => .ok (x :: xs) s2 := by
  cases a <;> simp only [vO, vX]
theorem vO_go (hE : ∀ e, IHE T clv clh e) : ∀ (n : Nat) {as : E} {S : Sto} {A : Set'} {s : VEnv} {Fs : Nat → List Nat}, sizeOf as < n → Inv S A r s Fs → Sim ROL false S A r s Fs (vO T clv as s) (evA T clh as r S)
  | 0, as, S, A, s, Fs, hn, I => by omega
  | n + 1, as, S, A, s, Fs, hn, I => by
    cases as <;> try (simp only [vO]; trivial)
    · simp only [vO, evA]
      exact (Sim.pure I .nil : Sim ROL false _ _ _ _ _ (.ok [] _) (.ok [] _))
    rename_i a b
    have hsz : sizeOf a < n ∧ sizeOf b < n := by
      have : sizeOf (E.cons a b) = 1 + sizeOf a + sizeOf b := by simp
      omega
    rw [vO_cons]
    simp only [evA]
    have h := vX_ok (hE a) (fun es e => vO_go hE n (by
      subst e
      have : sizeOf (E.lst es) = 1 + sizeOf es := by simp
      omega) I) I
    revert h
    cases e : vX T clv a s with
    | bad => exact fun _ => trivial
    | exc c s' =>
      rintro ⟨S', Fs', e2, o2⟩
      exact ⟨S', Fs', by rw [e2]; rfl, ⟨o2.fr.mono fun l _ z => ⟨rfl, z.2⟩, o2.inv, o2.nd, o2.av, o2.n1, o2.n2⟩⟩
    | ok x s1 =>
      rintro ⟨v, S1, Fs1, F1, e2, o1, R1⟩
      rw [e2]
      dsimp only [VRes.bind, Res.bind]
      have h := vO_go hE n (as := b) hsz.2 o1.inv
      revert h
      cases e3 : vO T clv b s1 with
      | bad => exact fun _ => trivial
      | exc c s' =>
        rintro ⟨S', Fs', e4, o2⟩
        refine ⟨S', Fs', by rw [e4], ?_⟩
        have := o1.drop o2
        rw [Bool.and_false] at this
        exact this
      | ok xs s2 =>
        rintro ⟨vs, S2, Fs2, F2, e4, o2, R2⟩
        have ob := o1.both o2
        rw [Bool.and_false] at ob
        refine ⟨v :: vs, S2, Fs2, F1 ++ F2, by rw [e4], ob, .cons (R1.move o2.fr (fun l z => .inr z.2) (fun l hl z => ?_) (fun l hl z => o1.inv.av l z.2 (.inr hl))) (RepA.weak R2 fun l z => ?_)⟩
        · rcases z with (z | z) | z
          · exact .inl (.inl z)
          · rcases List.mem_append.mp z with z | z
            · exact .inl (.inr z)
            · rcases o2.n1 l z with w | w
              · exact .inr w
              · omega
          · rcases o2.m2 l z with w | w
            · exact .inr w
            · omega
        · rcases z with (z | z) | z
          · exact .inl (.inl (.inl z))
          · rcases List.mem_append.mp z with z | z
            · exact .inl (.inl (.inr z))
            · exact .inl (.inr z)
          · exact .inr z
theorem vO_ok (hE : ∀ e, IHE T clv clh e) {as : E} {S : Sto} {A : Set'} {s : VEnv} {Fs : Nat → List Nat} (I : Inv S A r s Fs) : Sim ROL false S A r s Fs (vO T clv as s) (evA T clh as r S) := vO_go hE (sizeOf as + 1) (by omega) I
theorem setV_ok {U : Set'} : ∀ {is : List Nat} {vs : List Va} {os : List Ow} {F : List Nat} {r : Rho} {s s1 : VEnv} {Fs : Nat → List Nat}, RepA S U vs os F → Inv S (fun l => A l ∨ l ∈ F) r s Fs → (∀ l, US A s Fs F l → U l) → F.Nodup → (∀ l ∈ F, ¬ A l) → setV is os s = some s1 →
    ∃ r1 Fs1, setAll is vs r = some r1 ∧ Inv S A r1 s1 Fs1 ∧ (∀ l, Own s1 Fs1 l → Own s Fs l ∨ l ∈ F) ∧ ((is.all fun i => decide (i ≠ 0)) = true → r1[0]? = r[0]?)
  | [], _, _, _, r, s, s1, Fs,   .nil, I, hU, nd, av, e => by
    simp only [setV] at e
    cases e
    exact ⟨r, Fs, by simp only [setAll], I.move (W := fun _ => False) Fr.refl (fun _ z => z.elim) (fun l _ z => .inl z) (fun l z => I.old l (.inl z)), fun l z => .inl z, fun _ => rfl⟩
  | [], _, _, _, r, s, s1, Fs, .cons _ _, I, hU, nd, av, e => by simp only [setV] at e; cases e
  | i :: is, _, _, _, r, s, s1, Fs,   .nil, I, hU, nd, av, e => by simp only [setV] at e; cases e
  | i :: is, _, _, _, r, s, s1, Fs, .cons (v := v) (o := o) (F1 := F1) (F2 := F2) (vs := vs) (os := os) a t, I, hU, nd, av, e => by
    simp only [setV] at e
    have hnd := List.nodup_append.mp nd
    have I' : Inv S (fun l => (fun l => A l ∨ l ∈ F2) l ∨ l ∈ F1) r s Fs := I.move (W := fun _ => False) Fr.refl (fun _ z => z.elim) (fun l _ z => by
      rcases z with (z | z) | z
      · exact .inl z
      · exact .inr (List.mem_append_right _ z)
      · exact .inr (List.mem_append_left _ z)) (fun l z => I.old l (by
      rcases z with (z | z) | z
      · exact .inl z
      · exact .inr (List.mem_append_right _ z)
      · exact .inr (List.mem_append_left _ z)))
    obtain ⟨Fs1, g1, g2⟩ := put_own (A := fun l => A l ∨ l ∈ F2) (i := i) I' (a.weak fun l z => hU l <| by
      rcases z with ((z | z) | z) | z
      · exact .inl (.inl z)
      · exact .inl (.inr (List.mem_append_right _ z))
      · exact .inl (.inr (List.mem_append_left _ z))
      · exact .inr z) hnd.1 (fun l h z => by
      rcases z with z | z
      · exact av l (List.mem_append_left _ h) z
      · exact hnd.2.2 l h l z rfl)
    obtain ⟨r1, Fs2, k1, k2, k3, k4⟩ := setV_ok (U := U) (is := is) t g1 (fun l z => hU l <| by
      rcases z with (z | z) | z
      · exact .inl (.inl z)
      · exact .inl (.inr (List.mem_append_right _ z))
      · rcases g2 l z with w | w
        · exact .inr w
        · exact .inl (.inr (List.mem_append_left _ w))) hnd.2.1 (fun l h => av l (List.mem_append_right _ h)) e
    refine ⟨r1, Fs2, by simp only [setAll]; exact k1, k2, fun l z => ?_, fun h => ?_⟩
    · rcases k3 l z with w | w
      · rcases g2 l w with y | y
        · exact .inl y
        · exact .inr (List.mem_append_left _ y)
      · exact .inr (List.mem_append_right _ w)
    · rw [List.all_cons, Bool.and_eq_true] at h
      rw [k4 h.2]
      exact List.getElem?_set_ne (by simpa using h.1)
end
end Vl
end

section
set_option linter.all false
/-! Vr19: the cases of a statement. -/
namespace Vl
open PySem Ev
section
variable {T : Tx} {clv : Nat → List Ow → CRes} {clh : Nat → List Va → Sto → Res Va} {S S0 S1 S2 S' : Sto} {A A0 : Set'} {r r0 r1 r2 : Rho} {s s0 s1 s2 : VEnv} {Fs Fs0 Fs1 Fs2 : Nat → List Nat} {B : List Nat} {k0 : Bool}
def IHS (T : Tx) (clv : Nat → List Ow → CRes) (clh : Nat → List Va → Sto → Res Va) (b : Sm) : Prop := ∀ {S : Sto} {A : Set'} {r : Rho} {s : VEnv} {Fs : Nat → List Nat}, Inv S A r s Fs → SimS (keeps0 b) S A r s Fs (vS T clv b s) (evS T clh b r S)
theorem SimS.weakK {k1 : Bool} {x : VFl} {y : Fl} (h : SimS k1 S A r s Fs x y) (hk : k0 = true → k1 = true) : SimS k0 S A r s Fs x y := by
  cases x with
  | nx s' => obtain ⟨r', S', Fs', e, o⟩ := h; exact ⟨r', S', Fs', e, o.fr, o.inv, o.n2, fun h => o.kp (hk h)⟩
  | bk s' => obtain ⟨r', S', Fs', e, o⟩ := h; exact ⟨r', S', Fs', e, o.fr, o.inv, o.n2, fun h => o.kp (hk h)⟩
  | ct s' => obtain ⟨r', S', Fs', e, o⟩ := h; exact ⟨r', S', Fs', e, o.fr, o.inv, o.n2, fun h => o.kp (hk h)⟩
  | exc c s' => obtain ⟨r', S', Fs', e, o⟩ := h; exact ⟨r', S', Fs', e, o.fr, o.inv, o.n2, fun h => o.kp (hk h)⟩
  | rt o s' => obtain ⟨v, r', S', Fs', Fo, e, o, R⟩ := h; exact ⟨v, r', S', Fs', Fo, e, ⟨o.fr, o.inv, o.n2, fun h => o.kp (hk h), o.nd, o.av, o.n1⟩, R⟩
  | bad => trivial
theorem par_case {is : List Nat} {as : E} (hE : ∀ e, IHE T clv clh e) (I : Inv S A r s Fs) : SimS (is.all fun i => decide (i ≠ 0)) S A r s Fs (vth (vO T clv as s) fun vs s1 => onx (setV is vs s1)) (thenS (evA T clh as r S) fun vs S1 => match setAll is vs r with
    | some r1 => .nx r1 S1
    | none => .bad) := by
  refine th_ok (vO_ok hE (as := as) I) fun os s1 vs S1 Fs1 F1 w R => ?_
  cases e : setV is os s1 with
  | none => trivial
  | some s2 =>
    obtain ⟨r2, Fs2, g1, g2, g3, g4⟩ := setV_ok (A := A) R w.inv (fun l z => z) w.nd w.av e
    rw [g1]
    refine ⟨r2, S1, Fs2, rfl, ⟨w.fr.mono fun l _ z => z.2, g2, fun l z => ?_, g4⟩⟩
    rcases g3 l z with y | y
    · exact w.m2 l y
    · exact w.n1 l y
theorem asgTs_set : ∀ {ts : Tg} {is : List Nat} {vs : List Va} {r : Rho}, nmsT ts = some is → asgTs S ts vs r = setAll is vs r
  | .nil, is, vs, r, e => by
    cases (show some [] = some is from e)
    cases vs <;> simp only [asgTs, setAll]
  | .cons t ts, is, vs, r, e => by
    cases t <;> try (cases e; done)
    rename_i i
    have e : (nmsT ts).map (i :: ·) = some is := e
    cases e1 : nmsT ts with
    | none => rw [e1] at e; cases e
    | some js =>
      rw [e1] at e
      cases (show some (i :: js) = some is from e)
      cases vs with
      | nil => simp only [asgTs, setAll]
      | cons v vs =>
        simp only [asgTs, setAll, asgT]
        exact asgTs_set e1
  | .nm i, is, vs, r, e => by cases e
  | .tup ts, is, vs, r, e => by cases e
theorem nmsT_k : ∀ {ts : Tg} {is : List Nat}, nmsT ts = some is → tgK ts = true → (is.all fun i => decide (i ≠ 0)) = true
  | .nil, is, e, _ => by
    cases (show some [] = some is from e)
    rfl
  | .cons t ts, is, e, h => by
    cases t <;> try (cases e; done)
    rename_i i
    have e : (nmsT ts).map (i :: ·) = some is := e
    cases e1 : nmsT ts with
    | none => rw [e1] at e; cases e
    | some js =>
      rw [e1] at e
      cases (show some (i :: js) = some is from e)
      have h : (decide (i ≠ 0) && tgK ts) = true := h
      rw [Bool.and_eq_true] at h
      rw [List.all_cons, h.1, nmsT_k e1 h.2]
      rfl
  | .nm i, is, e, _ => by cases e
  | .tup ts, is, e, _ => by cases e
theorem upk_case {ts : Tg} {is : List Nat} {es : E} (hE : ∀ e, IHE T clv clh e) (hn : nmsT ts = some is) (I : Inv S A r s Fs) : SimS (tgK (.tup ts)) S A r s Fs (vth (vO T clv es s) fun os s1 => if os.length ≤ line then onx (setV is os s1) else .bad) (thenS (evE T clh (.tup es) r S) fun v S1 => match asgT S1 (.tup ts) v r with
    | some r1 => .nx r1 S1
    | none => .bad) := by
  have h := vO_ok hE (as := es) I
  revert h
  simp only [evE]
  cases e : vO T clv es s with
  | bad => exact fun _ => trivial
  | exc c s' =>
    rintro ⟨S', Fs', e2, o2⟩
    rw [e2]
    exact ⟨r, S', Fs', rfl, ⟨o2.fr.mono fun l _ z => z.2, o2.invA, fun l z => o2.m2 l z, fun _ => rfl⟩⟩
  | ok os s1 =>
    rintro ⟨vs, S1, Fs1, F1, e2, w, R⟩
    have R : RepA S1 (US A s1 Fs1 F1) vs os F1 := R
    rw [e2]
    dsimp only [Res.bind, vth]
    by_cases hl : os.length ≤ line
    · rw [if_pos hl, if_pos (by rw [R.len]; exact hl)]
      have hg : getT (S1 ++ [Ob.tup vs]) (.loc S1.length) = some vs := by simp [getT]
      simp only [new, thenS, asgT, hg, asgTs_set hn]
      cases e3 : setV is os s1 with
      | none => trivial
      | some s2 =>
        have I2 : Inv (S1 ++ [Ob.tup vs]) (fun l => A l ∨ l ∈ F1) r s1 Fs1 := w.inv.move (W := fun _ => False) Fr.new (fun _ z => z.elim) (fun l _ z => z) (fun l z => by have := w.inv.old l z; simp; omega)
        have R2 : RepA (S1 ++ [Ob.tup vs]) (US A s1 Fs1 F1) vs os F1 := R.move (W := fun _ => False) Fr.new (fun _ z => z.elim) (fun l _ z => z) (fun _ _ z => z)
        obtain ⟨r2, Fs2, g1, g2, g3, g4⟩ := setV_ok (A := A) R2 I2 (fun l z => z) w.nd w.av e3
        rw [g1]
        refine ⟨r2, _, Fs2, rfl, ⟨(w.fr.mono fun l _ z => z.2).trans (W1 := fun _ => False) Fr.new fun l _ z => z.elim, g2, fun l z => ?_, fun h => g4 (nmsT_k hn h)⟩⟩
        rcases g3 l z with y | y
        · exact w.m2 l y
        · exact w.n1 l y
    · rw [if_neg hl]; trivial
theorem ret_gen {e : E} (ih : IHE T clv clh e) (I : Inv S A r s Fs) : SimS k0 S A r s Fs (vth (vE T clv e s) fun v s1 => .rt v s1) (thenS (evE T clh e r S) fun v S1 => .rt v S1) :=
  th_ok (ih I) fun o s1 v S1 Fs1 F1 w R => ⟨v, r, S1, Fs1, F1, rfl, ⟨w.fr.mono fun l _ z => z.2, w.inv, fun l z => w.m2 l z, fun _ => rfl, w.nd, w.av, w.n1⟩, R⟩
theorem ret_case {e : E} (ih : IHE T clv clh e) : IHS T clv clh (.ret e) := fun {S A r s Fs} I => by
  simp only [evS]
  cases e
  case var i =>
    simp only [vS]
    cases e0 : slotO s i with
    | none => trivial
    | some o =>
      obtain ⟨v, e1, R⟩ := I.rep i o e0
      have hv : evE T clh (.var i) r S = .ok v S := by simp only [evE, e1, R.plain, if_true]
      rw [hv]
      have own : SimS (keeps0 (.ret (.var i))) S A r s Fs (.rt o (s.set i none)) (.rt v S) := by
        have hw : wipeV s [i] = s.set i none := rfl
        have hA : ∀ l, (A l ∨ l ∈ Fs i) → A l ∨ ∃ j ∈ [i], HasF s Fs j l := fun l z => by
          rcases z with z | z
          · exact .inl z
          · exact .inr ⟨i, by simp, by rw [e0]; rfl, z⟩
        have I2 := I.wipe (r := r) (own := [i]) (A' := fun l => A l ∨ l ∈ Fs i) rfl (fun _ _ => rfl) hA
        rw [hw] at I2
        refine ⟨v, r, S, Fs, Fs i, rfl, ⟨Fr.refl, I2, fun l z => ?_, fun _ => rfl, I.nd i o e0, fun l z => I.av l ⟨i, o, e0, z⟩, fun l z => .inl ⟨i, o, e0, z⟩⟩, R.weak fun l z => ?_⟩
        · obtain ⟨j, z⟩ := own_has.mp z
          rw [← hw] at z
          exact .inl (own_has.mpr ⟨j, (HasF_wipe z).2⟩)
        · rcases z with (z | z) | z
          · exact .inl z
          · exact .inr ⟨i, o, e0, z⟩
          · obtain ⟨j, z⟩ := own_has.mp z
            rw [← hw] at z
            exact .inr (own_has.mpr ⟨j, (HasF_wipe z).2⟩)
      cases o with
      | sh d =>
        dsimp only [thenS]
        obtain ⟨_, k⟩ := RepO.sh_nil R
        refine ⟨v, r, S, Fs, [], rfl, ⟨Fr.refl, I.move (W := fun _ => False) Fr.refl (fun _ z => z.elim) (fun l _ z => by simpa using z) (fun l z => I.old l (by simpa using z)), fun l z => .inl z, fun _ => rfl, .nil, by simp, by simp⟩, .sh (k.weak fun l z => ?_)⟩
        rcases z with (z | z) | z
        · exact .inl z
        · simp at z
        · exact .inr z
      | _ => exact own
  all_goals
    simp only [vS]
    exact ret_gen ih I
/-! ### loops -/
theorem for_ok {t : Tg} {b : Sm} {J : Iter} {xs : List D} (ihb : IHS T clv clh b) :
    ∀ (n i : Nat) {S : Sto} {r : Rho} {s : VEnv} {Fs : Nat → List Nat}, xs.length - i < n → Inv S A r s Fs → SrcI S (UA A s Fs) J xs → (∀ l ∈ srcs J, ¬ Own s Fs l) →
    SimS (tgK t && keeps0 b) S A r s Fs (forV t (vS T clv b) (xs.drop i) s) (forL J t (evS T clh b) n i r S) := by
  intro n
  induction n with
  | zero => intro i S r s Fs h; omega
  | succ n ih =>
    intro i S r s Fs hn I K hq
    have hO : ∀ l, UA A s Fs l → l < S.length := fun l z => by
      rcases z with z | z
      · exact I.old l z
      · exact I.lt z
    cases ex : xs[i]? with
    | none =>
      have hd : xs.drop i = [] := by
        rw [List.getElem?_eq_none_iff] at ex
        exact List.drop_eq_nil_of_le ex
      rw [hd]
      simp only [forV, forL, K.stop ex]
      exact ⟨r, S, Fs, rfl, OutS.refl I⟩
    | some x =>
      have hi : i < xs.length := (List.getElem?_eq_some_iff.mp ex).1
      have hd : xs.drop i = x :: xs.drop (i + 1) := by
        rw [List.drop_eq_getElem_cons hi]
        rw [List.getElem?_eq_getElem hi] at ex
        rw [Option.some.inj ex]
      rw [hd]
      simp only [forV, forL]
      obtain ⟨v, X, e1, k1⟩ := K.next hO ex
      rw [e1]
      dsimp only
      cases ea : asgV t x s with
      | none => trivial
      | some s1 =>
        have I0 : Inv (S ++ X) A r s Fs := Out.alloc1 (q := true) I
        obtain ⟨r1, Fs1, g1, g2, g3, g4, _⟩ := asgV_ok (own := []) t I0 k1 ea
        rw [g1]
        dsimp only
        have o0 : OutS (tgK t && keeps0 b) S A r s Fs (S ++ X) r1 s1 Fs1 := ⟨Fr.new, g2, fun l z => .inl (g3.own z), fun h => g4 (by rw [Bool.and_eq_true] at h; exact h.1)⟩
        have hb := (ihb g2).weakK (k0 := tgK t && keeps0 b) fun h => by rw [Bool.and_eq_true] at h; exact h.2
        have go : ∀ {S2 : Sto} {r2 : Rho} {s2 : VEnv} {Fs2 : Nat → List Nat}, OutS (tgK t && keeps0 b) (S ++ X) A r1 s1 Fs1 S2 r2 s2 Fs2 → SimS (tgK t && keeps0 b) S A r s Fs (forV t (vS T clv b) (xs.drop (i + 1)) s2) (forL J t (evS T clh b) n (i + 1) r2 S2) := fun {S2 r2 s2 Fs2} o1 => by
          have o2 := o0.trans o1
          refine (ih (i + 1) (by omega) o2.inv (K.move o2.fr (fun l z => .inr z) (fun l hl z => ?_) hq) (fun l hl z => ?_)).after o2
          · rcases z with z | z
            · exact .inl z
            · rcases o2.n2 l z with w | w
              · exact .inr w
              · omega
          · rcases o2.n2 l z with w | w
            · exact hq l hl w
            · have := K.lt l hl; omega
        revert hb
        cases vS T clv b s1 with
        | bad => exact fun _ => trivial
        | nx s2 => rintro ⟨r2, S2, Fs2, e2, o1⟩; rw [e2]; exact go o1
        | ct s2 => rintro ⟨r2, S2, Fs2, e2, o1⟩; rw [e2]; exact go o1
        | bk s2 => rintro ⟨r2, S2, Fs2, e2, o1⟩; rw [e2]; exact ⟨r2, S2, Fs2, rfl, o0.trans o1⟩
        | exc c s2 => rintro ⟨r2, S2, Fs2, e2, o1⟩; rw [e2]; exact ⟨r2, S2, Fs2, rfl, o0.trans o1⟩
        | rt o s2 => rintro ⟨v, r2, S2, Fs2, Fo, e2, o1, R⟩; rw [e2]; exact ⟨v, r2, S2, Fs2, Fo, rfl, o0.transR o1, R⟩
theorem while_ok {c : E} {b : Sm} (ihc : IHE T clv clh c) (ihb : IHS T clv clh b) : ∀ (n : Nat) {S : Sto} {r : Rho} {s : VEnv} {Fs : Nat → List Nat}, Inv S A r s Fs → SimS (keeps0 b) S A r s Fs (whileV (fun s => asB (vE T clv c s)) (vS T clv b) n s) (whileL (evE T clh c) (evS T clh b) n r S) := by
  intro n
  induction n with
  | zero => intro S r s Fs I; trivial
  | succ n ih =>
    intro S r s Fs I
    simp only [whileV, whileL]
    have hc := asB_ok (ihc I)
    revert hc
    cases asB (vE T clv c s) with
    | bad => exact fun _ => trivial
    | exc c s1 =>
      rintro ⟨S1, Fs1, e1, o⟩
      rw [e1]
      exact ⟨r, S1, Fs1, rfl, o.toS⟩
    | ok w s1 =>
      rintro ⟨v, S1, Fs1, F1, e1, o, rfl⟩
      rw [e1]
      cases w with
      | false => exact ⟨r, S1, Fs1, rfl, o.toS⟩
      | true =>
        dsimp only
        have hb := ihb o.invA
        have o0 : OutS (keeps0 b) S A r s Fs S1 r s1 Fs1 := o.toS
        revert hb
        cases vS T clv b s1 with
        | bad => exact fun _ => trivial
        | nx s2 => rintro ⟨r2, S2, Fs2, e2, o1⟩; rw [e2]; exact (ih o1.inv).after (o0.trans o1)
        | ct s2 => rintro ⟨r2, S2, Fs2, e2, o1⟩; rw [e2]; exact (ih o1.inv).after (o0.trans o1)
        | bk s2 => rintro ⟨r2, S2, Fs2, e2, o1⟩; rw [e2]; exact ⟨r2, S2, Fs2, rfl, o0.trans o1⟩
        | exc c s2 => rintro ⟨r2, S2, Fs2, e2, o1⟩; rw [e2]; exact ⟨r2, S2, Fs2, rfl, o0.trans o1⟩
        | rt o s2 => rintro ⟨v, r2, S2, Fs2, Fo, e2, o1, R⟩; rw [e2]; exact ⟨v, r2, S2, Fs2, Fo, rfl, o0.transR o1, R⟩
theorem frzI_is (it : E) (s : VEnv) : ∃ B, frzI it s = frzS s B := by
  unfold frzI
  split
  · split
    · exact ⟨_, rfl⟩
    · exact ⟨[], rfl⟩
  · split
    · exact ⟨_, rfl⟩
    · exact ⟨[], rfl⟩
  · split
    · exact ⟨_, rfl⟩
    · exact ⟨_, rfl⟩
    · exact ⟨_, rfl⟩
    · exact ⟨[], rfl⟩
  · exact ⟨[], rfl⟩
theorem for_case {t : Tg} {it : E} {b : Sm} (ihi : IHI T clv clh it) (ihb : IHS T clv clh b) (I : Inv S A r s Fs) : SimS (keeps0 (.for_ t it b)) S A r s Fs (vth (vI T clv it (frzI it s)) fun p s1 => if p.2 then .bad else forV t (vS T clv b) p.1 s1) (evS T clh (.for_ t it b) r S) := by
  simp only [evS]
  obtain ⟨B, e⟩ := frzI_is it s
  rw [e]
  have I1 := I.frz B
  have o0 : OutS (keeps0 (.for_ t it b)) S A r s Fs S r (frzS s B) (minusF Fs B) := ⟨Fr.refl, I1, fun l z => by
    obtain ⟨i, z⟩ := own_has.mp z
    exact .inl (own_has.mpr ⟨i, (HasF_frz z).2⟩), fun _ => rfl⟩
  refine SimS.after o0 (th_ok (ihi I1) fun p s1 J S1 Fs1 F1 o R => ?_)
  by_cases hp : p.2 = true
  · rw [if_pos hp]; trivial
  · rw [if_neg hp]
    have hf := R.2 (by simpa using hp)
    have h := for_ok (A := fun l => A l ∨ l ∈ F1) (t := t) (J := J) (xs := p.1) ihb (lenI J S1 + 1) 0 (by have := R.1.len; omega) o.inv R.1 hf
    rw [List.drop_zero] at h
    have o1 : OutS (tgK t && keeps0 b) S A r (frzS s B) (minusF Fs B) S1 r s1 Fs1 := o.toS
    have wk : ∀ {S2 : Sto} {r2 : Rho} {s2 : VEnv} {Fs2 : Nat → List Nat}, OutS (tgK t && keeps0 b) S1 (fun l => A l ∨ l ∈ F1) r s1 Fs1 S2 r2 s2 Fs2 → OutS (tgK t && keeps0 b) S A r (frzS s B) (minusF Fs B) S2 r2 s2 Fs2 := fun o2 =>
      o1.trans ⟨o2.fr, o2.inv.move (W := fun _ => False) Fr.refl (fun _ z => z.elim) (fun l _ z => .inl z) (fun l z => o2.inv.old l (.inl z)), o2.n2, o2.kp⟩
    revert h
    show SimS (tgK t && keeps0 b) _ _ _ _ _ _ _ → SimS (tgK t && keeps0 b) _ _ _ _ _ _ _
    cases forV t (vS T clv b) p.1 s1 with
    | bad => exact fun _ => trivial
    | nx s2 => rintro ⟨r2, S2, Fs2, e2, o2⟩; exact ⟨r2, S2, Fs2, e2, wk o2⟩
    | ct s2 => rintro ⟨r2, S2, Fs2, e2, o2⟩; exact ⟨r2, S2, Fs2, e2, wk o2⟩
    | bk s2 => rintro ⟨r2, S2, Fs2, e2, o2⟩; exact ⟨r2, S2, Fs2, e2, wk o2⟩
    | exc c s2 => rintro ⟨r2, S2, Fs2, e2, o2⟩; exact ⟨r2, S2, Fs2, e2, wk o2⟩
    | rt w s2 =>
      rintro ⟨v, r2, S2, Fs2, Fo, e2, o2, R2⟩
      refine ⟨v, r2, S2, Fs2, Fo, e2, o1.transR ⟨o2.fr, o2.inv.move (W := fun _ => False) Fr.refl (fun _ z => z.elim) (fun l _ z => ?_) (fun l z => ?_), o2.n2, o2.kp, o2.nd, fun l z w => o2.av l z (.inl w), o2.n1⟩, R2.weak fun l z => ?_⟩
      · rcases z with z | z
        · exact .inl (.inl z)
        · exact .inr z
      · rcases z with z | z
        · exact o2.inv.old l (.inl (.inl z))
        · exact o2.inv.old l (.inr z)
      · rcases z with (z | z) | z
        · exact .inl (.inl (.inl z))
        · exact .inl (.inr z)
        · exact .inr z
/-! ### fields and elements stored -/
theorem RepG.put {U : Set'} {f : Nat} {v : Va} {o : Ow} {Fv : List Nat} (R : RepO S U v o Fv) : ∀ {ys : List (Nat × Va)} {fs : Ow} {F : List Nat}, RepG S U ys fs F → ∃ F', RepG S U (putF f v ys) (putO f o fs) F' ∧ (∀ l ∈ F', l ∈ F ∨ l ∈ Fv) ∧ ((F ++ Fv).Nodup → F'.Nodup)
  | _, _, _, .nil => ⟨Fv, by
      have : RepG S U [(f, v)] (.cons f o .nil) (Fv ++ []) := .cons R .nil
      rw [List.append_nil] at this
      exact this, fun l z => .inr z, fun h => by simpa using h⟩
  | _, _, _, .cons (f := g) (v := u) (o := o0) (fs := fs) (F1 := F1) (F2 := F2) h t => by
    unfold putF putO
    by_cases e : g = f
    · rw [if_pos e, if_pos e]
      refine ⟨Fv ++ F2, .cons R t, fun l z => ?_, fun hn => ?_⟩
      · rcases List.mem_append.mp z with z | z
        · exact .inr z
        · exact .inl (List.mem_append_right _ z)
      · rw [List.append_assoc] at hn
        have := (List.nodup_append.mp hn).2.1
        exact List.perm_append_comm.nodup_iff.mp this
    · rw [if_neg e, if_neg e]
      obtain ⟨F', k1, k2, k3⟩ := RepG.put R t
      refine ⟨F1 ++ F', .cons h k1, fun l z => ?_, fun hn => ?_⟩
      · rcases List.mem_append.mp z with z | z
        · exact .inl (List.mem_append_left _ z)
        · rcases k2 l z with w | w
          · exact .inl (List.mem_append_right _ w)
          · exact .inr w
      · rw [List.append_assoc] at hn
        have hn := List.nodup_append.mp hn
        refine List.nodup_append.mpr ⟨hn.1, k3 hn.2.1, fun a ha b hb e => ?_⟩
        subst e
        rcases k2 a hb with w | w
        · exact hn.2.2 a ha a (List.mem_append_left _ w) rfl
        · exact hn.2.2 a ha a (List.mem_append_right _ w) rfl
theorem RepG.len {U : Set'} : ∀ {ys : List (Nat × Va)} {fs : Ow} {F : List Nat}, RepG S U ys fs F → ys.length = lenO fs
  | _, _, _, .nil => rfl
  | _, _, _, .cons h t => by unfold lenO; rw [List.length_cons, RepG.len t]
/-- a field of an own instance at a path is stored: over the temps of A0 -/
theorem setf_ok {q : Nat × List Nat} {l c dx f : Nat} {ys : List (Nat × Va)} {fs o : Ow} {v : Va} {F G Fv : List Nat} (I : Inv S (fun l => A l ∨ l ∈ Fv) r s Fs) (P : PathAt T S (fun l => A l ∨ l ∈ Fv) r s Fs q (.loc l) (l :: F) G) (hl : S[l]? = some (.ins c dx ys)) (R : RepG S (UA (fun l => A l ∨ l ∈ Fv) s Fs) ys fs F)
    (Rv : RepO S (US A s Fs Fv) v o Fv) (nd : Fv.Nodup) (av : ∀ l ∈ Fv, ¬ A l) : ∃ s2 Fs2, writeP T s q (.ins c (putO f o fs)) = some s2 ∧ Inv (S.set l (.ins c dx (putF f v ys))) A r s2 Fs2 ∧ (∀ i l, HasF s2 Fs2 i l → HasF s Fs i l ∨ l ∈ Fv ∨ S.length ≤ l) := by
  obtain ⟨F', k1, k2, k3⟩ := RepG.put (f := f) Rv R
  have hown : ∀ x ∈ l :: F, Own s Fs x := fun x z => own_has.mpr ⟨q.1, P.own (List.mem_append_left _ z)⟩
  have hnd := (List.nodup_append.mp (P.nd I)).1
  have hdis : ∀ x ∈ l :: F, x ∉ Fv := fun x z w => I.av x (hown x z) (.inr w)
  have frS : Fr S (S.set l (.ins c dx (putF f v ys))) (fun l' => false = false ∧ l' ∈ l :: F) := Fr.set ⟨rfl, by simp⟩
  have frL : Fr S (S.set l (.ins c dx (putF f v ys))) (fun l' => l' = l) := Fr.set rfl
  have hl' : l ∉ F' := fun z => by
    rcases k2 l z with w | w
    · exact (List.nodup_cons.mp hnd).1 w
    · exact hdis l (by simp) w
  obtain ⟨s2, Fs2, g1, g2, g3⟩ := put_gen (T := T) (A := A) (me2 := .ins c (putO f o fs)) (Fm := l :: F') I P frS (fun l z => .inl z) (List.nodup_cons.mpr ⟨hl', k3 (List.nodup_append.mpr ⟨(List.nodup_cons.mp hnd).2, nd, fun a ha b hb e => hdis a (by simp [ha]) (e ▸ hb)⟩)⟩) (fun x z => by
      rcases List.mem_cons.mp z with z | z
      · subst z; exact .inl (by simp)
      · rcases k2 x z with w | w
        · exact .inl (by simp [w])
        · exact .inr (.inl ⟨.inr w, av x w⟩)) (.ins (List.getElem?_set_self (lt_of_get hl)) (k1.move frL (fun x z => by rw [z]; exact .inr (hown l (by simp))) (fun x _ z => by
      rcases z with (z | z) | z | z
      · exact .inl (.inl z)
      · exact .inr z.1
      · simp at z
      · rcases List.mem_cons.mp z with z | z
        · subst z; exact .inr (hown x (by simp))
        · rcases k2 x z with w | w
          · exact .inr (hown x (by simp [w]))
          · exact .inl (.inr w)) (fun x z w => hl' (w ▸ z))))
  refine ⟨s2, Fs2, g1, g2, fun i x z => ?_⟩
  rcases g3 i x z with w | w | w
  · exact .inl w
  · rcases w.1 with y | y
    · exact absurd y w.2
    · exact .inr (.inl y)
  · exact .inr (.inr w)
theorem setf_case {o e : E} {f : Nat} (ihe : IHE T clv clh e) : IHS T clv clh (.setf o f e) := fun {S A r s Fs} I => by
  simp only [vS, evS]
  refine th_ok (ihe I) fun w s1 v S1 Fs1 F1 out R => ?_
  cases ep : pathOf o with
  | none => trivial
  | some q =>
    dsimp only
    cases er : readP T s1 q with
    | none => trivial
    | some ob =>
      cases ob <;> first | trivial | skip
      rename_i c fs
      dsimp only
      obtain ⟨u, Fp, G, m1, m2, P⟩ := path_at (cl := clh) out.inv ep er
      cases m2 with
      | ins e1 t =>
        rename_i l dx ys F
        by_cases hc : T.fl c f = true ∧ lenO fs < 900
        · rw [if_pos hc, m1]
          dsimp only [thenS]
          obtain ⟨s2, Fs2, g1, g2, g3⟩ := setf_ok (f := f) out.inv P e1 t R out.nd out.av
          rw [g1]
          simp only [setF, e1]
          rw [t.len, if_pos hc]
          refine ⟨r, _, Fs2, rfl, ⟨?_, g2, fun x z => ?_, fun _ => rfl⟩⟩
          · refine Fr.trans (W1 := fun x => x = l) (out.fr.mono fun x _ z => z.2) (Fr.set rfl) fun x hx z => ?_
            subst z
            rcases out.m2 x (own_has.mpr ⟨q.1, P.own (by simp)⟩) with w | w
            · exact w
            · omega
          · obtain ⟨i, z⟩ := own_has.mp z
            rcases g3 i x z with y | y | y
            · exact out.m2 x (own_has.mpr ⟨i, y⟩)
            · exact out.n1 x y
            · exact .inr (Nat.le_trans out.fr.len y)
        · rw [if_neg hc]; trivial
theorem augf_case {o : E} {f : Nat} {k : Int} : IHS T clv clh (.augf o f k) := fun {S A r s Fs} I => by
  simp only [vS, evS]
  cases ep : pathOf o with
  | none => trivial
  | some q =>
    dsimp only
    cases er : readP T s q with
    | none => trivial
    | some ob =>
      cases ob <;> first | trivial | skip
      rename_i c fs
      dsimp only
      cases el : lookO f fs with
      | none => trivial
      | some x =>
        cases x <;> first | trivial | skip
        rename_i d
        cases d <;> first | trivial | skip
        rename_i i
        dsimp only
        by_cases hc : T.fl c f = true ∧ lenO fs < 900
        · rw [if_pos hc]
          have I0 : Inv S (fun l => A l ∨ l ∈ []) r s Fs := I.move (W := fun _ => False) Fr.refl (fun _ z => z.elim) (fun l _ z => by simpa using z) (fun l z => I.old l (by simpa using z))
          obtain ⟨u, Fp, G, m1, m2, P⟩ := path_at (cl := clh) I0 ep er
          cases m2 with
          | ins e1 t =>
            rename_i l dx ys F
            obtain ⟨v0, Fa, Ga, a1, a2, _, _⟩ := RepG.at t el
            obtain ⟨_, k2⟩ := RepO.sh_nil a2
            cases k2
            obtain ⟨s2, Fs2, g1, g2, g3⟩ := setf_ok (A := A) (f := f) (v := .int (i + k)) (o := .sh (.int (i + k))) (Fv := []) I0 P e1 t (.sh .int) .nil (by simp)
            rw [m1, g1]
            dsimp only [thenS, onx]
            simp only [fld, e1, hc.1, if_true, a1, setF]
            rw [t.len, if_pos ⟨trivial, hc.2⟩]
            refine ⟨r, _, Fs2, rfl, ⟨Fr.set (own_has.mpr ⟨q.1, P.own (by simp)⟩), g2, fun x z => ?_, fun _ => rfl⟩⟩
            obtain ⟨i, z⟩ := own_has.mp z
            rcases g3 i x z with y | y | y
            · exact .inl (own_has.mpr ⟨i, y⟩)
            · simp at y
            · exact .inr y
        · rw [if_neg hc]; trivial
end
end Vl
end

section
set_option linter.all false
/-! Vr19b: a walk over a list of owned things that lends each of them to the loop's slot. -/
namespace Vl
open PySem Ev
section
variable {T : Tx} {clv : Nat → List Ow → CRes} {clh : Nat → List Va → Sto → Res Va} {S S1 S2 : Sto} {A : Set'} {r : Rho} {s s1 s2 : VEnv} {Fs Fs1 Fs2 : Nat → List Nat}
theorem RepG.unch {U : Set'} : ∀ {ys : List Va} {fs : Ow} {F : List Nat}, RepG S U (ys.map fun v => (0, v)) fs F → RepA S U ys (unch fs) F
  | [], _, _, .nil => .nil
  | _ :: _, _, _, .cons a t => .cons a (RepG.unch t)
theorem RepA.app {U : Set'} : ∀ {vs us : List Va} {os ps : List Ow} {F G : List Nat}, RepA S U vs os F → RepA S U us ps G → RepA S U (vs ++ us) (os ++ ps) (F ++ G)
  | _, _, _, _, _, _, .nil, h => h
  | _, _, _, _, _, _, .cons a t, h => by
    rw [List.append_assoc]
    exact .cons a (RepA.app t h)
/-- where the walk stands -/
structure Lend (S : Sto) (A : Set') (r : Rho) (s : VEnv) (Fs : Nat → List Nat) (j l : Nat) (vs1 vs2 : List Va) (os1 os2 : List Ow) (F1 F2 : List Nat) : Prop where
  lst : S[l]? = some (.lst (vs1 ++ vs2))
  inv : Inv S (fun x => A x ∨ x ∈ l :: (F1 ++ F2)) r s Fs
  off : slotO s j = Option.none
  nd : (l :: (F1 ++ F2)).Nodup
  av : ∀ x ∈ l :: (F1 ++ F2), ¬ A x
  r1 : RepA S (fun x => (A x ∨ x ∈ l :: (F1 ++ F2)) ∨ Own s Fs x) vs1 os1 F1
  r2 : RepA S (fun x => (A x ∨ x ∈ l :: (F1 ++ F2)) ∨ Own s Fs x) vs2 os2 F2
theorem Lend.step {j l : Nat} {v : Va} {o : Ow} {e : E} {w : Ow} {o' : Ow} {vs1 vs2 : List Va} {os1 os2 : List Ow} {F1 F2 : List Nat} (ih : IHE T clv clh e) (L : Lend S A r s Fs j l vs1 (v :: vs2) os1 (o :: os2) F1 F2) (hj : j < s.length) (e1 : vE T clv e (s.set j (some o)) = .ok w s1) (e2 : slotO s1 j = some o') :
    ∃ u S1 Fs1 F1' F2', evE T clh e (r.set j (some v)) S = .ok u S1 ∧ Lend S1 A (r.set j (some v)) (s1.set j none) Fs1 j l (vs1 ++ [v]) vs2 (os1 ++ [o']) os2 F1' F2' ∧ Fr S S1 (fun x => Own s Fs x ∨ x ∈ F1 ++ F2) ∧ (∀ x, Own (s1.set j none) Fs1 x ∨ x ∈ F1' ++ F2' → (Own s Fs x ∨ x ∈ F1 ++ F2) ∨ S.length ≤ x) := by
  obtain ⟨hl, I, hn, nd, av, R1, R2⟩ := L
  cases R2 with
  | cons Ro Rt =>
    rename_i Fa Fb
    /- the thing goes into slot j -/
    have nd2 := List.nodup_cons.mp nd
    have nda := List.nodup_append.mp nd2.2
    have ndb := List.nodup_append.mp nda.2.1
    let A2 : Set' := fun x => A x ∨ x ∈ l :: (F1 ++ Fb)
    have hA2 : ∀ x, (A2 x ∨ x ∈ Fa) ↔ (A x ∨ x ∈ l :: (F1 ++ (Fa ++ Fb))) := fun x => by
      show ((A x ∨ x ∈ l :: (F1 ++ Fb)) ∨ x ∈ Fa) ↔ _
      simp only [List.mem_cons, List.mem_append]
      constructor
      · rintro ((q | q | q | q) | q)
        · exact .inl q
        · exact .inr (.inl q)
        · exact .inr (.inr (.inl q))
        · exact .inr (.inr (.inr (.inr q)))
        · exact .inr (.inr (.inr (.inl q)))
      · rintro (q | q | q | q | q)
        · exact .inl (.inl q)
        · exact .inl (.inr (.inl q))
        · exact .inl (.inr (.inr (.inl q)))
        · exact .inr q
        · exact .inl (.inr (.inr (.inr q)))
    have avA : ∀ x ∈ Fa, ¬ A2 x := fun x hx q => by
      rcases q with q | q
      · exact av x (by simp [hx]) q
      · rcases List.mem_cons.mp q with q | q
        · exact nd2.1 (by rw [← q]; simp [hx])
        · rcases List.mem_append.mp q with q | q
          · exact nda.2.2 x q x (List.mem_append_left _ hx) rfl
          · exact ndb.2.2 x hx x q rfl
    have I0 : Inv S (fun x => A2 x ∨ x ∈ Fa) r s Fs := I.move (W := fun _ => False) Fr.refl (fun _ z => z.elim) (fun x _ z => (hA2 x).mp z) (fun x z => I.old x ((hA2 x).mp z))
    obtain ⟨Fs0, I1, ho⟩ := put_own (i := j) I0 (Ro.weak fun x z => by
      rcases z with z | z
      · exact .inl ((hA2 x).mp z)
      · exact .inr z) ndb.1 avA
    have h := ih I1
    rw [e1] at h
    obtain ⟨u, S1, Fs1, Fo, e3, out, _⟩ := h
    have I2 := out.invA
    obtain ⟨v', e4, Rj⟩ := I2.rep j o' e2
    have hv : v' = v := by
      rw [List.getElem?_set_self (by rw [I.len]; exact hj)] at e4
      exact (Option.some.inj (Option.some.inj e4)).symm
    subst hv
    /- the thing is given back -/
    have hw : wipeV s1 [j] = s1.set j none := rfl
    have I3 : Inv S1 (fun x => A x ∨ x ∈ l :: ((F1 ++ Fs1 j) ++ Fb)) (r.set j (some v')) (s1.set j none) Fs1 := by
      rw [← hw]
      refine I2.wipe (own := [j]) rfl (fun _ _ => rfl) fun x z => ?_
      rcases z with z | z
      · exact .inl (.inl z)
      · rcases List.mem_cons.mp z with z | z
        · exact .inl (.inr (by rw [z]; simp))
        · rcases List.mem_append.mp z with z | z
          · rcases List.mem_append.mp z with z | z
            · exact .inl (.inr (by simp [z]))
            · exact .inr ⟨j, by simp, by rw [e2]; rfl, z⟩
          · exact .inl (.inr (by simp [z]))
    have own3 : ∀ x, Own (s1.set j none) Fs1 x → Own s1 Fs1 x := fun x z => by
      obtain ⟨i, o2, q1, q2⟩ := z
      rw [slot_set] at q1
      by_cases q : j = i ∧ j < s1.length
      · rw [if_pos q] at q1; cases q1
      · rw [if_neg q] at q1; exact ⟨i, o2, q1, q2⟩
    have hWA : ∀ x, Own (s.set j (some o)) Fs0 x → ¬ A2 x := fun x z => I1.av x z
    have frW : Fr S S1 (fun x => false = false ∧ Own (s.set j (some o)) Fs0 x) := out.fr.mono fun x _ z => ⟨rfl, z.2⟩
    have keepA : ∀ x, x < S.length → A2 x → S1[x]? = S[x]? := fun x hx z => out.fr.keep x hx fun q => hWA x q.2 z
    have mv : ∀ {ws : List Va} {ps : List Ow} {G : List Nat}, RepA S (fun x => (A x ∨ x ∈ l :: (F1 ++ (Fa ++ Fb))) ∨ Own s Fs x) ws ps G → (∀ x ∈ G, A2 x) → RepA S1 (fun x => (A x ∨ x ∈ l :: ((F1 ++ Fs1 j) ++ Fb)) ∨ Own (s1.set j none) Fs1 x) ws ps G := fun {ws ps G} R hG => by
      refine R.move frW (fun x z => ?_) (fun x hx z => ?_) (fun x hx z => hWA x z.2 (hG x hx))
      · rcases ho x z.2 with q | q
        · exact .inr q
        · exact .inl (.inr (by simp [q]))
      · have two : Own s1 Fs1 x → (A x ∨ x ∈ l :: (F1 ++ (Fa ++ Fb))) ∨ Own s Fs x := fun q => by
          rcases out.m2 x q with q | q
          · rcases ho x q with q | q
            · exact .inr q
            · exact .inl (.inr (by simp [q]))
          · omega
        rcases z with (z | z) | z
        · exact .inl (.inl z)
        · rcases List.mem_cons.mp z with z | z
          · exact .inl (.inr (by rw [z]; simp))
          · rcases List.mem_append.mp z with z | z
            · rcases List.mem_append.mp z with z | z
              · exact .inl (.inr (by simp [z]))
              · exact two ⟨j, o', e2, z⟩
            · exact .inl (.inr (by simp [z]))
        · exact two (own3 x z)
    have hjn : ∀ x ∈ Fs1 j, ¬ A2 x := fun x hx => I2.av x ⟨j, o', e2, hx⟩
    refine ⟨u, S1, Fs1, F1 ++ Fs1 j, Fb, e3, ⟨?_, I3, ?_, ?_, ?_, ?_, ?_⟩, ?_, ?_⟩
    · rw [keepA l (lt_of_get hl) (.inr (by simp)), hl]; simp
    · rw [slot_set]
      by_cases q : j < s1.length
      · rw [if_pos ⟨rfl, q⟩]
      · have := slot_lt e2; omega
    · have ndj := I2.nd j o' e2
      refine List.nodup_cons.mpr ⟨fun q => ?_, List.nodup_append.mpr ⟨List.nodup_append.mpr ⟨nda.1, ndj, fun x hx y hy q => ?_⟩, ndb.2.1, fun x hx y hy q => ?_⟩⟩
      · rcases List.mem_append.mp q with q | q
        · rcases List.mem_append.mp q with q | q
          · exact nd2.1 (by simp [q])
          · exact hjn l q (.inr (by simp))
        · exact nd2.1 (by simp [q])
      · subst q; exact hjn x hy (.inr (by simp [hx]))
      · subst q
        rcases List.mem_append.mp hx with hx | hx
        · exact nda.2.2 x hx x (List.mem_append_right _ hy) rfl
        · exact hjn x hx (.inr (by simp [hy]))
    · intro x hx q
      rcases List.mem_cons.mp hx with hx | hx
      · exact av x (by rw [hx]; simp) q
      · rcases List.mem_append.mp hx with hx | hx
        · rcases List.mem_append.mp hx with hx | hx
          · exact av x (by simp [hx]) q
          · exact hjn x hx (.inl q)
        · exact av x (by simp [hx]) q
    · refine RepA.app (mv R1 fun x hx => .inr (by simp [hx])) ?_
      have : RepA S1 (fun x => (A x ∨ x ∈ l :: ((F1 ++ Fs1 j) ++ Fb)) ∨ Own (s1.set j none) Fs1 x) [v'] [o'] (Fs1 j ++ []) := .cons (Rj.weak fun x z => by
        rcases z with (z | z) | z
        · exact .inl (.inl z)
        · rcases List.mem_cons.mp z with z | z
          · exact .inl (.inr (by rw [z]; simp))
          · rcases List.mem_append.mp z with z | z
            · rcases List.mem_append.mp z with z | z
              · exact .inl (.inr (by simp [z]))
              · exact .inr ⟨j, o', e2, z⟩
            · exact .inl (.inr (by simp [z]))
        · exact .inr (own3 x z)) .nil
      rw [List.append_nil] at this
      exact this
    · exact mv Rt fun x hx => .inr (by simp [hx])
    · refine out.fr.mono fun x _ z => ?_
      rcases ho x z.2 with q | q
      · exact .inl q
      · exact .inr (by simp [q])
    · intro x z
      have two : Own s1 Fs1 x → (Own s Fs x ∨ x ∈ F1 ++ (Fa ++ Fb)) ∨ S.length ≤ x := fun q => by
        rcases out.m2 x q with q | q
        · rcases ho x q with q | q
          · exact .inl (.inl q)
          · exact .inl (.inr (by simp [q]))
        · exact .inr q
      rcases z with z | z
      · exact two (own3 x z)
      · rcases List.mem_append.mp z with z | z
        · rcases List.mem_append.mp z with z | z
          · exact .inl (.inr (by simp [z]))
          · exact two ⟨j, o', e2, z⟩
        · exact .inl (.inr (by simp [z]))
theorem evS_ex {e : E} {r : Rho} {S S1 : Sto} {u : Va} (h : evE T clh e r S = .ok u S1) : evS T clh (.seq (.ex e) .skip) r S = .nx r S1 := by
  simp only [evS, h, thenS]
theorem lend_go {j l : Nat} {e : E} (ih : IHE T clv clh e) : ∀ {os2 : List Ow} {n k : Nat} {S : Sto} {r : Rho} {s s' : VEnv} {Fs : Nat → List Nat} {vs1 vs2 : List Va} {os1 done : List Ow} {F1 F2 : List Nat}, Lend S A r s Fs j l vs1 vs2 os1 os2 F1 F2 → vs1.length = k → vs2.length < n → j < s.length → lendV j (vE T clv e) os2 os1 s = some (done, s') →
    ∃ r' S' Fs' F, forL (.lst l) (.nm j) (evS T clh (.seq (.ex e) .skip)) n k r S = .nx r' S' ∧ Lend S' A r' s' Fs' j l (vs1 ++ vs2) [] done [] F [] ∧ Fr S S' (fun x => Own s Fs x ∨ x ∈ F1 ++ F2) ∧ (∀ x, Own s' Fs' x ∨ x ∈ F → (Own s Fs x ∨ x ∈ F1 ++ F2) ∨ S.length ≤ x) ∧ (∀ i, i ≠ j → r'[i]? = r[i]?)
  | [], n, k, S, r, s, s', Fs, vs1, vs2, os1, done, F1, F2, L, hk, hn, hj, h => by
    cases (show some (os1, s) = some (done, s') from h)
    have hv : vs2 = [] ∧ F2 = [] := by
      have := L.r2
      cases this
      exact ⟨rfl, rfl⟩
    obtain ⟨rfl, rfl⟩ := hv
    cases n with
    | zero => simp at hn
    | succ n =>
      have hl := L.lst
      rw [List.append_nil] at hl
      refine ⟨r, S, Fs, F1, ?_, ?_, Fr.refl, fun x z => .inl (z.imp id fun q => by simpa using q), fun _ _ => rfl⟩
      · unfold forL
        simp only [nextI, getL, hl]
        rw [List.getElem?_eq_none (by omega)]
      · rw [List.append_nil]
        obtain ⟨a1, a2, a3, a4, a5, a6, a7⟩ := L
        exact ⟨by rw [List.append_nil]; exact hl, a2, a3, a4, a5, a6, a7⟩
  | o :: os2, n, k, S, r, s, s', Fs, vs1, vs2, os1, done, F1, F2, L, hk, hn, hj, h => by
    obtain ⟨v, vs2, rfl⟩ : ∃ v w, vs2 = v :: w := by
      have := L.r2
      cases this
      exact ⟨_, _, rfl⟩
    unfold lendV at h
    cases e1 : vE T clv e (s.set j (some o)) with
    | bad => rw [e1] at h; cases h
    | exc c s1 => rw [e1] at h; cases h
    | ok w s1 =>
      rw [e1] at h
      dsimp only at h
      cases e2 : slotO s1 j with
      | none => rw [e2] at h; cases h
      | some o' =>
        rw [e2] at h
        dsimp only at h
        obtain ⟨u, S1, Fs1, F1', F2', g1, g2, g3, g4⟩ := L.step ih hj e1 e2
        cases n with
        | zero => simp at hn
        | succ n =>
          obtain ⟨r', S', Fs', F, k1, k2, k3, k4, k5⟩ := lend_go ih (n := n) (k := k + 1) g2 (by rw [List.length_append, hk]; rfl) (by rw [List.length_cons] at hn; omega) (by rw [List.length_set]; exact slot_lt e2) h
          refine ⟨r', S', Fs', F, ?_, ?_, ?_, ?_, fun i hi => ?_⟩
          · unfold forL
            have hl := L.lst
            simp only [nextI, getL, hl]
            rw [List.getElem?_append_right (by omega), show k - vs1.length = 0 by omega]
            simp only [List.getElem?_cons_zero, asgT]
            rw [evS_ex g1]
            exact k1
          · have : vs1 ++ v :: vs2 = (vs1 ++ [v]) ++ vs2 := by simp
            rw [this]
            exact k2
          · refine g3.trans k3 fun x hx z => ?_
            rcases g4 x z with q | q
            · exact q
            · omega
          · intro x z
            rcases k4 x z with q | q
            · rcases g4 x q with w | w
              · exact .inl w
              · exact .inr w
            · have := g3.len
              exact .inr (by omega)
          · rw [k5 i hi]
            exact List.getElem?_set_ne (Ne.symm hi)
theorem lend_case {i j : Nat} {e : E} {fs : Ow} (ih : IHE T clv clh e) (hij : i ≠ j) (hs : slotO s i = some (.lso fs)) (I : Inv S A r s Fs) : SimS (decide (j ≠ 0)) S A r s Fs (lendS i j (vE T clv e) fs s) (evS T clh (.for_ (.nm j) (.seq (.var i)) (.seq (.ex e) .skip)) r S) := by
  unfold lendS
  by_cases hj : j < s.length
  case neg => rw [if_neg hj]; trivial
  rw [if_pos hj]
  cases h : lendV j (vE T clv e) (unch fs) [] ((s.set i none).set j none) with
  | none => trivial
  | some p =>
    obtain ⟨done, s1⟩ := p
    dsimp only
    obtain ⟨v, e1, R⟩ := I.rep i _ hs
    generalize hFi : Fs i = Fi at R
    cases R with
    | lso el Rg =>
      rename_i l ys F
      have hA : ∀ x, (A x ∨ x ∈ l :: F) → A x ∨ ∃ i' ∈ [j, i], HasF s Fs i' x := fun x z => by
        rcases z with z | z
        · exact .inl z
        · exact .inr ⟨i, by simp, by rw [hs]; rfl, by rw [hFi]; exact z⟩
      have hw : wipeV s [j, i] = (s.set i none).set j none := rfl
      have I2 : Inv S (fun x => A x ∨ x ∈ l :: ([] ++ F)) r ((s.set i none).set j none) Fs := by
        rw [← hw]
        exact I.wipe (own := [j, i]) rfl (fun _ _ => rfl) hA
      have own2 : ∀ x, Own ((s.set i none).set j none) Fs x → Own s Fs x := fun x z => by
        obtain ⟨i', o2, q1, q2⟩ := z
        rw [slot_set, slot_set] at q1
        split at q1
        · cases q1
        · split at q1
          · cases q1
          · exact ⟨i', o2, q1, q2⟩
      have Ra : RepA S (fun x => (A x ∨ x ∈ l :: ([] ++ F)) ∨ Own ((s.set i none).set j none) Fs x) ys (unch fs) F := (RepG.unch Rg).weak fun x z => by
        rcases z with (z | z) | z
        · exact .inl z
        · exact .inr ⟨i, _, hs, by rw [hFi]; exact z⟩
        · exact .inr (own2 x z)
      have L : Lend S A r ((s.set i none).set j none) Fs j l [] ys [] (unch fs) [] F := ⟨el, I2, by
        rw [slot_set]
        rw [if_pos ⟨rfl, by rw [List.length_set]; exact hj⟩], by
        have := I.nd i _ hs
        rw [hFi] at this
        exact this, fun x hx => I.av x ⟨i, _, hs, by rw [hFi]; exact hx⟩, .nil, Ra⟩
      obtain ⟨r', S', Fs', G, k1, k2, k3, k4, k5⟩ := lend_go ih (n := lenI (.lst l) S + 1) (k := 0) L rfl (by simp [lenI, getL, el]) (by rw [List.length_set, List.length_set]; exact hj) h
      obtain ⟨a1, a2, a3, a4, a5, a6, a7⟩ := k2
      have ri : r'[i]? = some (some (.loc l)) := (k5 i hij).trans e1
      have hset : r'.set i (some (.loc l)) = r' := by
        apply List.ext_getElem?
        intro q
        by_cases w : i = q
        · subst w
          rw [List.getElem?_set_self (List.getElem?_eq_some_iff.mp ri).1, ri]
        · rw [List.getElem?_set_ne w]
      have a1 : S'[l]? = some (.lst ys) := by simpa using a1
      have a4 : (l :: G).Nodup := by simpa using a4
      have a2 : Inv S' (fun x => A x ∨ x ∈ l :: G) r' s1 Fs' := by simpa using a2
      have a5 : ∀ x ∈ l :: G, ¬ A x := by simpa using a5
      have a6 : RepA S' (fun x => (A x ∨ x ∈ l :: G) ∨ Own s1 Fs' x) ys done G := by simpa using a6
      obtain ⟨Fs2, g1, g2⟩ := put_own (i := i) (v := .loc l) (o := .lso (chO done)) a2 (.lso a1 (RepA.chO (a6.weak fun x z => z))) a4 a5
      rw [hset] at g1
      have back : ∀ x, (Own ((s.set i none).set j none) Fs x ∨ x ∈ [] ++ F) → Own s Fs x := fun x z => by
        rcases z with z | z
        · exact own2 x z
        · exact ⟨i, _, hs, by rw [hFi]; exact List.mem_cons_of_mem _ (by simpa using z)⟩
      refine ⟨r', S', Fs2, ?_, ⟨k3.mono fun x _ z => back x z, g1, fun x z => ?_, fun h0 => ?_⟩⟩
      · simp only [evS, evI]
        have : evE T clh (.var i) r S = .ok (.loc l) S := by simp only [evE, e1]; rfl
        rw [this]
        simp only [Res.bind, getL, el, thenS]
        exact k1
      · rcases g2 x z with q | q
        · rcases k4 x (.inl q) with w | w
          · exact .inl (back x w)
          · exact .inr w
        · rcases List.mem_cons.mp q with q | q
          · exact .inl ⟨i, _, hs, by rw [hFi, q]; simp⟩
          · rcases k4 x (.inr q) with w | w
            · exact .inl (back x w)
            · exact .inr w
      · have h0 : j ≠ 0 := by simpa using h0
        exact k5 0 (Ne.symm h0)
end
end Vl
end

section
set_option linter.all false
/-! Vr19c: x = [list(row) for row in rows], rows of scalars: a list of owned lists. -/
namespace Vl
open PySem Ev
section
variable {T : Tx} {clv : Nat → List Ow → CRes} {clh : Nat → List Va → Sto → Res Va} {A : Set'} {r : Rho}
theorem list_ev {t m : Nat} {ys : List Va} {r : Rho} {S : Sto} (ht : t < r.length) (h : S[m]? = some (.lst ys)) : evE T clh (.bi .list (.cons (.var t) .nil)) (r.set t (some (.loc m))) S = .ok (.loc S.length) (S ++ [.lst ys]) := by
  have e : (r.set t (some (Va.loc m)))[t]? = some (some (.loc m)) := List.getElem?_set_self ht
  simp only [evE, evA, e, Res.bind, bi, biLT, getL, h, new, Option.or, Ev.plain, if_true]
theorem fresh_go {J : Iter} {t : Nat} {S0 : Sto} {vs0 : List Va} {r : Rho} (ht : t < r.length) (hnx : ∀ S', (∀ x, x < S0.length → S'[x]? = S0[x]?) → ∀ k, nextI J k S' = some ((vs0[k]?).map fun v => (v, S'))) :
    ∀ {xss : List (List D)} {vs : List Va} {n k : Nat} {acc : List Va} {S : Sto}, Fr S0 S (fun _ => False) → vs0.drop k = vs → ShL S (fun _ => False) vs (xss.map .lst) → (∀ xs ∈ xss, xs.all sca = true) → xss.length < n → acc.length + xss.length ≤ line →
    ∃ us S' F, compL J (.nm t) (evE T clh (.con (.bl true))) (evE T clh (.bi .list (.cons (.var t) .nil))) r n k acc S = .ok (acc ++ us) S' ∧ Fr S S' (fun _ => False) ∧ (∀ U, RepA S' U us (xss.map .lst) F) ∧ F.Nodup ∧ (∀ l ∈ F, S.length ≤ l ∧ l < S'.length)
  | [], vs, n, k, acc, S, f0, hv, hs, _, hn, _ => by
    cases hs
    cases n with
    | zero => simp at hn
    | succ n =>
      refine ⟨[], S, [], ?_, Fr.refl, fun U => .nil, .nil, by simp⟩
      have : vs0[k]? = none := by
        rw [List.getElem?_eq_none]
        have := congrArg List.length hv
        simp at this
        omega
      unfold compL
      rw [hnx S (fun x hx => f0.keep x hx id) k, this]
      simp
  | xs :: xss, vs, n, k, acc, S, f0, hv, hs, ha, hn, hl => by
    cases hs with
    | cons h1 h2 =>
      rename_i v vs
      cases h1 with
      | lst e1 nf t1 =>
        rename_i m ys
        cases n with
        | zero => simp at hn
        | succ n =>
          have hvk : vs0[k]? = some (.loc m) := by
            have := congrArg (fun l => l[0]?) hv
            simpa using this
          have fr1 : Fr S (S ++ [Ob.lst ys]) (fun _ => False) := Fr.new
          have hv2 : vs0.drop (k + 1) = vs := by
            have := congrArg List.tail hv
            simpa using this
          obtain ⟨us, S', F, g1, g2, g3, g4, g5⟩ := fresh_go ht hnx (xss := xss) (vs := vs) (n := n) (k := k + 1) (acc := acc ++ [.loc S.length]) (S := S ++ [Ob.lst ys]) (f0.trans fr1 fun _ _ z => z) hv2 (h2.move (W := fun _ => False) fr1 (fun _ z => z) (fun _ _ z => z)) (fun x hx => ha x (List.mem_cons_of_mem _ hx)) (by simp at hn; omega) (by simp at hl ⊢; omega)
          refine ⟨.loc S.length :: us, S', S.length :: F, ?_, fr1.trans g2 fun _ _ z => z, fun U => ?_, ?_, ?_⟩
          · unfold compL
            rw [hnx S (fun x hx => f0.keep x hx id) k, hvk]
            simp only [Option.map_some, asgT]
            have hc : evE T clh (.con (.bl true)) (r.set t (some (.loc m))) S = .ok (.bl true) S := by simp only [evE]
            rw [hc]
            simp only [list_ev ht e1]
            rw [if_pos (by simp at hl; omega), g1]
            simp
          · have hx := ha xs (by simp)
            have hl2 : S'[S.length]? = some (.lst ys) := by
              rw [g2.keep S.length (by simp) id]
              simp
            have : RepO S' U (.loc S.length) (.lst xs) [S.length] := .lst hl2 (ShL.sca_any (t1.move (W := fun _ => False) (fr1.trans g2 fun _ _ z => z) (fun _ z => z) (fun _ _ z => z)) hx)
            exact RepA.cons (F1 := [S.length]) this (g3 U)
          · refine List.nodup_cons.mpr ⟨fun q => ?_, g4⟩
            have := (g5 _ q).1
            simp at this
            omega
          · intro l hl3
            rcases List.mem_cons.mp hl3 with q | q
            · subst q
              have := g2.len
              simp at this
              omega
            · have := g5 l q
              simp at this
              omega
theorem rowsOf_map : ∀ {xs : List D} {xss : List (List D)}, rowsOf xs = some xss → xs = xss.map .lst ∧ ∀ x ∈ xss, x.all sca = true
  | [], xss, h => by cases (show some [] = some xss from h); exact ⟨rfl, by simp⟩
  | .lst ys :: r, xss, h => by
    unfold rowsOf at h
    by_cases hy : ys.all sca = true
    · rw [if_pos hy] at h
      cases e : rowsOf r with
      | none => rw [e] at h; cases h
      | some zss =>
        rw [e] at h
        cases (show some (ys :: zss) = some xss from h)
        obtain ⟨h1, h2⟩ := rowsOf_map e
        refine ⟨by rw [h1]; rfl, fun x hx => ?_⟩
        rcases List.mem_cons.mp hx with q | q
        · rw [q]; exact hy
        · exact h2 x q
    · rw [if_neg hy] at h; cases h
  | .non :: _, _, h | .bl _ :: _, _, h | .int _ :: _, _, h | .str _ :: _, _, h | .fn _ :: _, _, h | .scr _ :: _, _, h | .tup _ :: _, _, h | .dct _ :: _, _, h | .ins _ _ :: _, _, h => by cases h
variable {S : Sto} {s : VEnv} {Fs : Nat → List Nat}
theorem fresh_case {t : Tg} {e : E} {p : Nat × List (List D)} (h : freshV T t e s = some p) (I : Inv S A r s Fs) : SimS (tgK t) S A r s Fs (.nx (s.set p.1 (some (.lso (chO (p.2.map .lst)))))) (evS T clh (.asg t e) r S) := by
  unfold freshV at h
  cases ef : freshP t e with
  | none => rw [ef] at h; cases h
  | some p0 =>
    rw [ef] at h
    dsimp only at h
    obtain ⟨i, j, a⟩ := p0
    dsimp only at h
    by_cases hj : j < s.length
    case neg => rw [if_neg hj] at h; cases h
    rw [if_pos hj] at h
    cases ep : pathOf a with
    | none => rw [ep] at h; cases h
    | some q =>
      rw [ep] at h
      dsimp only [Option.bind] at h
      cases er : readP T s q with
      | none => rw [er] at h; cases h
      | some o =>
        rw [er] at h
        cases o with
        | sh d =>
          dsimp only at h
          cases ed : (seqD d).bind rowsOf with
          | none =>
            unfold Option.bind at ed
            rw [ed] at h; cases h
          | some xss =>
            have ed2 := ed
            unfold Option.bind at ed2
            rw [ed2] at h
            dsimp only at h
            by_cases hl : xss.length ≤ line
            case neg => rw [if_neg hl] at h; cases h
            rw [if_pos hl] at h
            cases h
            /- the text -/
            obtain ⟨rfl, rfl⟩ : t = .nm i ∧ e = .comp [j] (.nm j) (.seq a) (.con (.bl true)) (.bi .list (.cons (.var j) .nil)) := by
              unfold freshP at ef
              split at ef
              · rename_i i' j' j2 a' k'
                by_cases hh : j' = j2 ∧ j' = k'
                · rw [if_pos hh] at ef
                  cases ef
                  obtain ⟨h1, h2⟩ := hh
                  subst h1; subst h2
                  exact ⟨rfl, rfl⟩
                · rw [if_neg hh] at ef; cases ef
              · cases ef
            obtain ⟨v, F1, G, m1, m2, P⟩ := path_at (cl := clh) I ep er
            cases m2 with
            | sh hsh =>
            have hjr : j < (wipeR r [j]).length := by rw [wipeR_len, I.len]; exact hj
            /- what is walked -/
            have key : ∃ (J : Iter) (vs : List Va), evI T clh (.seq a) r S = .ok J S ∧ lenI J S = vs.length ∧ ShL S (fun _ => False) vs (xss.map .lst) ∧ (∀ x ∈ xss, x.all sca = true) ∧ ∀ S', (∀ x, x < S.length → S'[x]? = S[x]?) → ∀ k, nextI J k S' = some ((vs[k]?).map fun v => (v, S')) := by
              cases hsh with
              | lst e1 n1 t1 =>
                rename_i l ys xs
                obtain ⟨hx, ha⟩ := rowsOf_map (show rowsOf xs = some xss from ed)
                subst hx
                refine ⟨.lst l, ys, ?_, ?_, t1.move (W := fun _ => False) Fr.refl (fun _ z => z.elim) (fun _ _ z => z.elim), ha, fun S' hS k => ?_⟩
                · simp only [evI, m1, Res.bind, getL, e1]
                · simp only [lenI, getL, e1, Option.getD]
                · simp only [nextI, getL, hS l (lt_of_get e1), e1]
                  cases ys[k]? <;> rfl
              | tup e1 n1 t1 =>
                rename_i l ys xs
                obtain ⟨hx, ha⟩ := rowsOf_map (show rowsOf xs = some xss from ed)
                subst hx
                refine ⟨.tup l, ys, ?_, ?_, t1.move (W := fun _ => False) Fr.refl (fun _ z => z.elim) (fun _ _ z => z.elim), ha, fun S' hS k => ?_⟩
                · simp only [evI, m1, Res.bind, getL, getT, e1]
                · simp only [lenI, getT, e1, Option.getD]
                · simp only [nextI, getT, hS l (lt_of_get e1), e1]
                  cases ys[k]? <;> rfl
              | _ => cases ed
            obtain ⟨J, vs, g1, g2, g3, g4, g5⟩ := key
            have hlen : vs.length = xss.length := by have := g3.len; simpa using this
            obtain ⟨us, S', F, k1, k2, k3, k4, k5⟩ := fresh_go (T := T) (clh := clh) (J := J) (t := j) (S0 := S) (vs0 := vs) (r := wipeR r [j]) hjr g5 (xss := xss) (vs := vs) (n := lenI J S + 1) (k := 0) (acc := []) (S := S) Fr.refl (by simp) g3 g4 (by omega) (by simpa using hl)
            rw [List.nil_append] at k1
            have f2 : Fr S (S' ++ [Ob.lst us]) (fun _ => False) := k2.trans (Fr.new (W := fun _ => False)) fun _ _ z => z
            have nF : ∀ l ∈ S'.length :: F, S.length ≤ l ∧ l < (S' ++ [Ob.lst us]).length := fun l hl => by
              have := k2.len
              rcases List.mem_cons.mp hl with q | q
              · subst q; simp; omega
              · have := k5 l q; simp; omega
            have I2 : Inv (S' ++ [Ob.lst us]) (fun l => A l ∨ l ∈ S'.length :: F) r s Fs := I.move f2 (fun _ z => z.elim) (fun l hl z => by
              rcases z with z | z
              · exact z
              · have := (nF l z).1; omega) (fun l z => by
              rcases z with z | z
              · have := I.old l z; have := f2.len; omega
              · exact (nF l z).2)
            have hnd : (S'.length :: F).Nodup := List.nodup_cons.mpr ⟨fun q => by have := (k5 _ q).2; omega, k4⟩
            have hav : ∀ l ∈ S'.length :: F, ¬ A l := fun l hl z => by have := (nF l hl).1; have := I.old l z; omega
            obtain ⟨Fs1, q1, q2⟩ := put_own (i := i) (v := .loc S'.length) (o := .lso (chO (xss.map .lst))) I2 (.lso (by simp) (RepA.chO ((k3 _).move (W := fun _ => False) Fr.new (fun _ z => z.elim) (fun _ _ z => z) (fun _ _ z => z)))) hnd hav
            refine ⟨r.set i (some (.loc S'.length)), S' ++ [Ob.lst us], Fs1, ?_, ⟨f2.mono fun _ _ z => z.elim, q1, fun l z => ?_, fun h0 => ?_⟩⟩
            · have e0 : evE T clh (.comp [j] (.nm j) (.seq a) (.con (.bl true)) (.bi .list (.cons (.var j) .nil))) r S = ((evI T clh (.seq a) r S).bind fun J S1 => (compL J (.nm j) (evE T clh (.con (.bl true))) (evE T clh (.bi .list (.cons (.var j) .nil))) (wipeR r [j]) (lenI J S1 + 1) 0 [] S1).bind fun xs S2 => new (.lst xs) S2) := by rw [evE]
              unfold evS
              rw [e0, g1]
              dsimp only [Res.bind]
              rw [k1]
              rfl
            · rcases q2 l z with w | w
              · exact .inl w
              · exact .inr (nF l w).1
            · have h0 : i ≠ 0 := by simpa [tgK] using h0
              exact List.getElem?_set_ne h0
        | _ => cases h
end
end Vl
end

section
set_option linter.all false
/-! Vr20: elements stored; the induction over statements; calls by depth. -/
namespace Vl
open PySem Ev
section
variable {T : Tx} {clv : Nat → List Ow → CRes} {clh : Nat → List Va → Sto → Res Va} {S S0 S1 S2 S' : Sto} {A A0 : Set'} {r r0 r1 r2 : Rho} {s s0 s1 s2 : VEnv} {Fs Fs0 Fs1 Fs2 : Nat → List Nat} {B : List Nat} {k0 : Bool}
theorem ShK.any {U : Set'} {k : Int} : ∀ {ys : List (Int × Va)} {xs : List (Int × D)}, ShK S U ys xs → (ys.any fun kv => decide (kv.1 = k)) = (xs.any fun kv => decide (kv.1 = k))
  | _, _, .nil => rfl
  | _, _, .cons _ t => by rw [List.any_cons, List.any_cons, ShK.any t]
theorem ShK.len {U : Set'} : ∀ {ys : List (Int × Va)} {xs : List (Int × D)}, ShK S U ys xs → ys.length = xs.length
  | _, _, .nil => rfl
  | _, _, .cons _ t => by rw [List.length_cons, List.length_cons, ShK.len t]
theorem ShK.app {U : Set'} : ∀ {ys us : List (Int × Va)} {xs zs : List (Int × D)}, ShK S U ys xs → ShK S U us zs → ShK S U (ys ++ us) (xs ++ zs)
  | _, _, _, _, .nil, h => h
  | _, _, _, _, .cons a t, h => .cons a (ShK.app t h)
theorem ShK.upd {U : Set'} {k : Int} {v : Va} {d : D} (h : Sh S U v d) : ∀ {ys : List (Int × Va)} {xs : List (Int × D)}, ShK S U ys xs → ShK S U (ys.map (fun kv => if kv.1 = k then (kv.1, v) else kv)) (xs.map (fun kv => if kv.1 = k then (kv.1, d) else kv))
  | _, _, .nil => .nil
  | _, _, .cons (k := j) a t => by
    rw [List.map_cons, List.map_cons]
    by_cases e : j = k
    · simp only [e, if_true]; exact .cons h (ShK.upd h t)
    · simp only [e, if_false]; exact .cons a (ShK.upd h t)
theorem ShK.put {U : Set'} {k : Int} {v : Va} {d : D} {ys : List (Int × Va)} {xs : List (Int × D)} (h : Sh S U v d) (t : ShK S U ys xs) : ShK S U (Ev.put k v ys) (dput k d xs) := by
  unfold Ev.put dput
  rw [t.any]
  split
  · exact t.upd h
  · exact t.app (.cons h .nil)
/-- a list or dict at a path gets another content -/
theorem cell_ok {q : Nat × List Nat} {l : Nat} {G : List Nat} {ob : Ob} {o : Ow} (I : Inv S A r s Fs) (P : PathAt T S A r s Fs q (.loc l) [l] G) (hl : l < S.length) (R : RepO (S.set l ob) (UA A s Fs) (.loc l) o [l]) : ∃ s2 Fs2, writeP T s q o = some s2 ∧ OutS true S A r s Fs (S.set l ob) r s2 Fs2 := by
  have hown : Own s Fs l := own_has.mpr ⟨q.1, P.own (by simp)⟩
  have frS : Fr S (S.set l ob) (fun l' => false = false ∧ l' ∈ [l]) := Fr.set ⟨rfl, by simp⟩
  obtain ⟨s2, Fs2, g1, g2, g3⟩ := put_gen (T := T) (A := A) (me2 := o) (Fm := [l]) I P frS (fun l z => z) (by simp) (fun x z => .inl z) (R.weak fun x z => by
    rcases z with (z | z) | z | z
    · exact .inl z
    · exact .inr z.1
    · simp at z
    · rw [List.mem_singleton.mp z]; exact .inr hown)
  refine ⟨s2, Fs2, g1, ⟨Fr.set hown, g2, fun x z => ?_, fun _ => rfl⟩⟩
  obtain ⟨i, z⟩ := own_has.mp z
  rcases g3 i x z with y | y | y
  · exact .inl (own_has.mpr ⟨i, y⟩)
  · exact absurd y.1 y.2
  · exact .inr y
theorem seti_case {o i e : E} (ihi : IHE T clv clh i) (ihe : IHE T clv clh e) : IHS T clv clh (.seti o i e) := fun {S A r s Fs} I => by
  simp only [vS, evS]
  cases hq : quiet i with
  | false => trivial
  | true =>
  rw [if_neg (by simp)]
  refine th_ok (ihe I) fun w s1 v S1 Fs1 F1 out R => ?_
  have hv := out.frz R
  cases ep : pathOf o with
  | none => trivial
  | some q =>
    cases er : readP T s1 q with
    | none => simp only [Option.bind, er, Option.map]; trivial
    | some ob =>
      simp only [Option.bind, er, Option.map]
      obtain ⟨u, Fp, G, m1, m2, P⟩ := path_at (cl := clh) out.invA ep er
      rw [m1]
      show SimS _ S A r s Fs _ (thenS (evE T clh i r S1) _)
      refine SimS.after (k0 := keeps0 (.seti o i e)) out.toS (th_ok (bor_ok (qb := true) out.invA (ihi out.invA) (.inl rfl)) fun y s2 y' S2 Fs2 F2 out2 R2 => ?_)
      have hfr := out2.fr
      obtain ⟨_, m3⟩ := path_same (S1 := S2) ep (fun l hl => hfr.keep l hl fun z => by rw [hq] at z; cases z.1) m1
      have hv2 : Sh S2 (UA A s2 Fs2) v (frz w) := hv.move out2.fr (fun l z => .inr z.2) (fun l hl z => by
        rcases z with z | z
        · exact .inl z
        · rcases out2.m2 l z with y | y
          · exact .inr y
          · omega)
      obtain ⟨_, ky⟩ := R2.bo.sh
      cases ky <;> first | trivial | skip
      rename_i k
      cases er2 : readP T s2 q with
      | none => trivial
      | some ob2 =>
        obtain ⟨u2, Fp2, G2, n1, n2, P2⟩ := path_at (cl := clh) out2.invA ep er2
        rw [m3] at n1
        cases n1
        cases n2 <;> first | trivial | skip
        · rename_i l ys xs e1 t
          dsimp only
          simp only [setI, e1, t.len]
          cases hx : ixN xs.length k with
          | none => trivial
          | some j =>
            dsimp only
            obtain ⟨s3, Fs3, g1, g2⟩ := cell_ok (ob := .lst (ys.set j v)) (o := .lst (xs.set j (frz w))) out2.invA P2 (lt_of_get e1) (.lst (List.getElem?_set_self (lt_of_get e1)) ((ShL.set hv2 j t).move (Fr.set (W := fun x => x = l) rfl) (fun x z => by rw [z]; exact .inr (own_has.mpr ⟨q.1, P2.own (by simp)⟩)) (fun x _ z => z)))
            rw [g1]
            exact ⟨r, _, Fs3, rfl, (out2.toS (k0 := true)).trans g2⟩
        · rename_i l ys xs e1 t
          dsimp only
          simp only [setI, e1, t.len]
          by_cases hx : xs.length < line
          · rw [if_pos hx, if_pos hx]
            dsimp only
            obtain ⟨s3, Fs3, g1, g2⟩ := cell_ok (ob := .dct (Ev.put k v ys)) (o := .dct (dput k (frz w) xs)) out2.invA P2 (lt_of_get e1) (.dct (List.getElem?_set_self (lt_of_get e1)) ((ShK.put hv2 t).move (Fr.set (W := fun x => x = l) rfl) (fun x z => by rw [z]; exact .inr (own_has.mpr ⟨q.1, P2.own (by simp)⟩)) (fun x _ z => z)))
            rw [g1]
            exact ⟨r, _, Fs3, rfl, (out2.toS (k0 := true)).trans g2⟩
          · rw [if_neg hx]; trivial
theorem s_ok (hc : ∀ f, CallOk (clv f) (clh f)) (b : Sm) : IHS T clv clh b := by
  have hE : ∀ e, IHE T clv clh e := fun e => (e_ok hc e).1
  induction b with
  | skip =>
    intro S A r s Fs I
    simp only [vS, evS]
    exact ⟨r, S, Fs, rfl, OutS.refl I⟩
  | seq a b iha ihb =>
    intro S A r s Fs I
    simp only [vS, evS]
    have h := (iha I).weakK (k0 := keeps0 a && keeps0 b) fun h => by rw [Bool.and_eq_true] at h; exact h.1
    revert h
    show SimS (keeps0 a && keeps0 b) _ _ _ _ _ _ _ → SimS (keeps0 a && keeps0 b) _ _ _ _ _ _ _
    cases vS T clv a s with
    | bad => exact fun _ => trivial
    | nx s2 =>
      rintro ⟨r2, S2, Fs2, e2, o1⟩
      rw [e2]
      exact ((ihb o1.inv).weakK fun h => by rw [Bool.and_eq_true] at h; exact h.2).after o1
    | ct s2 => rintro ⟨r2, S2, Fs2, e2, o1⟩; rw [e2]; exact ⟨r2, S2, Fs2, rfl, o1⟩
    | bk s2 => rintro ⟨r2, S2, Fs2, e2, o1⟩; rw [e2]; exact ⟨r2, S2, Fs2, rfl, o1⟩
    | exc c s2 => rintro ⟨r2, S2, Fs2, e2, o1⟩; rw [e2]; exact ⟨r2, S2, Fs2, rfl, o1⟩
    | rt o s2 => rintro ⟨v, r2, S2, Fs2, Fo, e2, o1, R⟩; rw [e2]; exact ⟨v, r2, S2, Fs2, Fo, rfl, o1, R⟩
  | asg t e =>
    intro S A r s Fs I
    simp only [vS]
    cases eu : upk t e with
    | none =>
      cases ef : freshV T t e s with
      | some p => exact fresh_case ef I
      | none => simp only [evS]; exact asg_case (vX_ok (hE e) (fun es _ => vO_ok hE I) I) I
    | some p =>
      unfold upk at eu
      split at eu
      · rename_i ts es
        cases en : nmsT ts with
        | none => rw [en] at eu; cases eu
        | some is =>
          rw [en] at eu
          cases (show some (is, es) = some p from eu)
          simp only [evS]
          exact upk_case hE en I
      · cases eu
  | par is as =>
    intro S A r s Fs I
    simp only [vS, evS]
    exact par_case hE I
  | ex e =>
    intro S A r s Fs I
    simp only [vS, evS]
    exact th_ok (hE e I) fun o s1 v S1 Fs1 F1 w R => ⟨r, S1, Fs1, rfl, w.toS⟩
  | ret e => exact ret_case (hE e)
  | ite c a b iha ihb =>
    intro S A r s Fs I
    simp only [vS, evS]
    refine th_ok (asB_ok (hE c I)) fun x s1 v S1 Fs1 F1 w R => ?_
    subst R
    cases x with
    | true => exact ((iha w.invA).weakK fun (h : (keeps0 a && keeps0 b) = true) => by rw [Bool.and_eq_true] at h; exact h.1).after w.toS
    | false => exact ((ihb w.invA).weakK fun (h : (keeps0 a && keeps0 b) = true) => by rw [Bool.and_eq_true] at h; exact h.2).after w.toS
  | for_ t it b ihb =>
    intro S A r s Fs I
    simp only [vS]
    cases el : lendP t it b s with
    | none => exact for_case (e_ok hc it).2.2.2.1 ihb I
    | some p =>
      unfold lendP at el
      split at el
      · rename_i j i e
        by_cases hij : i = j
        · rw [if_pos hij] at el; cases el
        · rw [if_neg hij] at el
          split at el
          · rename_i fs hs
            cases el
            exact (lend_case (hE e) hij hs I).weakK fun h => by
              have h : (decide (j ≠ 0) && (true && true)) = true := h
              rw [Bool.and_eq_true] at h
              exact h.1
          · cases el
      · cases el
  | while_ c b ihb =>
    intro S A r s Fs I
    simp only [vS, evS]
    exact while_ok (hE c) ihb wfuel I
  | setf o f e => exact setf_case (hE e)
  | augf o f k => exact augf_case
  | seti o i e => exact seti_case (hE i) (hE e)
  | raise c =>
    intro S A r s Fs I
    simp only [vS, evS]
    exact ⟨r, S, Fs, rfl, OutS.refl I⟩
  | tryA i as c x k w =>
    intro S A r s Fs I
    simp only [vS]
    exact trivial
/-! ### calls -/
theorem RepA.lens {U : Set'} : ∀ {vs : List Va} {os : List Ow} {F : List Nat}, RepA S U vs os F → vs.length = os.length
  | _, _, _, .nil => rfl
  | _, _, _, .cons _ t => by rw [List.length_cons, List.length_cons, RepA.lens t]
theorem RepA.places {U : Set'} : ∀ {vs : List Va} {os : List Ow} {F : List Nat}, RepA S U vs os F → F.Nodup → ∃ Fs : Nat → List Nat, (∀ i o, os[i]? = some o → ∃ v, vs[i]? = some v ∧ RepO S U v o (Fs i)) ∧ (∀ i o, os[i]? = some o → (Fs i).Nodup ∧ ∀ l ∈ Fs i, l ∈ F) ∧ (∀ i j o o', i ≠ j → os[i]? = some o → os[j]? = some o' → ∀ l ∈ Fs i, l ∉ Fs j) ∧ (∀ l ∈ F, ∃ i o, os[i]? = some o ∧ l ∈ Fs i)
  | _, _, _, .nil, _ => ⟨fun _ => [], by simp, by simp, by simp, by simp⟩
  | _, _, _, .cons (v := v) (o := o) (F1 := F1) (F2 := F2) (vs := vs) (os := os) a t, nd => by
    have hn := List.nodup_append.mp nd
    obtain ⟨Fs, h1, h2, h3, h4⟩ := RepA.places t hn.2.1
    refine ⟨fun i => match i with | 0 => F1 | i + 1 => Fs i, fun i o' e => ?_, fun i o' e => ?_, fun i j o1 o2 ne e1 e2 l z w => ?_, fun l z => ?_⟩
    · cases i with
      | zero => simp at e; subst e; exact ⟨v, rfl, a⟩
      | succ i => simp at e; obtain ⟨u, k1, k2⟩ := h1 i o' e; exact ⟨u, by simpa using k1, k2⟩
    · cases i with
      | zero => exact ⟨hn.1, fun l z => List.mem_append_left _ z⟩
      | succ i => simp at e; exact ⟨(h2 i o' e).1, fun l z => List.mem_append_right _ ((h2 i o' e).2 l z)⟩
    · cases i with
      | zero =>
        cases j with
        | zero => exact ne rfl
        | succ j => simp at e2; exact hn.2.2 l z l ((h2 j o2 e2).2 l w) rfl
      | succ i =>
        simp at e1
        cases j with
        | zero => exact hn.2.2 l w l ((h2 i o1 e1).2 l z) rfl
        | succ j => simp at e2; exact h3 i j o1 o2 (fun h => ne (by rw [h])) e1 e2 l z w
    · rcases List.mem_append.mp z with z | z
      · exact ⟨0, o, rfl, z⟩
      · obtain ⟨i, o', e, k⟩ := h4 l z
        exact ⟨i + 1, o', by simpa using e, k⟩
theorem vstart_slot {n i : Nat} {os : List Ow} {o : Ow} (h : slotO (vstart n os) i = some o) : os[i]? = some o := by
  unfold slotO vstart at h
  by_cases hi : i < os.length
  · rw [List.getElem?_append_left (by simpa using hi), List.getElem?_map] at h
    cases e : os[i]? with
    | none => rw [e] at h; cases h
    | some x => rw [e] at h; exact h
  · rw [List.getElem?_append_right (by simpa using hi)] at h
    cases e : (List.replicate (n - os.length) (none : Option Ow))[i - (os.map some).length]? with
    | none => rw [e] at h; cases h
    | some x =>
      rw [e] at h
      have := List.getElem?_eq_some_iff.mp e
      obtain ⟨_, k⟩ := this
      rw [List.getElem_replicate] at k
      subst k
      cases h
theorem vstart_in {n i : Nat} {os : List Ow} {o : Ow} (h : os[i]? = some o) : slotO (vstart n os) i = some o := by
  unfold slotO vstart
  have hi := (List.getElem?_eq_some_iff.mp h).1
  rw [List.getElem?_append_left (by simpa using hi), List.getElem?_map, h]
  rfl
theorem start_in {n i : Nat} {vs : List Va} {v : Va} (h : vs[i]? = some v) : (Ev.start n vs)[i]? = some (some v) := by
  unfold Ev.start
  have hi := (List.getElem?_eq_some_iff.mp h).1
  rw [List.getElem?_append_left (by simpa using hi), List.getElem?_map, h]
  rfl
theorem start0 {n : Nat} {vs : List Va} {v : Va} (h : (Ev.start n vs)[0]? = some (some v)) : ∃ ws, vs = v :: ws := by
  cases vs with
  | nil =>
    unfold Ev.start at h
    rw [List.map_nil, List.nil_append] at h
    obtain ⟨_, k⟩ := List.getElem?_eq_some_iff.mp h
    rw [List.getElem_replicate] at k
    cases k
  | cons u ws =>
    unfold Ev.start at h
    simp at h
    exact ⟨ws, by rw [h]⟩
theorem body_ok {n : Nat} {b : Sm} (hb : IHS T clv clh b) {os : List Ow} {vs : List Va} {S : Sto} {A : Set'} {F : List Nat} (ci : CIn S A vs os F) : COk S A vs F (match vS T clv b (vstart n os) with
        | .nx s => .ok (.sh .non) (selfOf b s)
        | .rt o s => .ok o (selfOf b s)
        | .exc c s => .exc c (selfOf b s)
        | _ => .bad) (match evS T clh b (Ev.start n vs) S with
      | .nx _ S1 => .ok .non S1
      | .rt v S1 => .ok v S1
      | .exc c S1 => .exc c S1
      | _ => .bad) := by
  obtain ⟨Fs, h1, h2, h3, h4⟩ := RepA.places ci.rep ci.nd
  have hown : ∀ l, Own (vstart n os) Fs l → l ∈ F := fun l z => by
    obtain ⟨i, o, e, k⟩ := z
    exact (h2 i o (vstart_slot e)).2 l k
  have I : Inv S A (Ev.start n vs) (vstart n os) Fs := by
    refine ⟨by simp [Ev.start, vstart, ci.rep.lens], fun i o e => ?_, fun i o e => (h2 i o (vstart_slot e)).1, fun i j o o' ne e1 e2 => h3 i j o o' ne (vstart_slot e1) (vstart_slot e2), fun l z => ci.av l (hown l z), ci.old⟩
    obtain ⟨v, k1, k2⟩ := h1 i o (vstart_slot e)
    refine ⟨v, start_in k1, k2.weak fun l z => ?_⟩
    rcases z with z | z
    · exact .inl z
    · exact .inr (hown l z)
  have h := hb I
  /- the end -/
  have fin : ∀ {S' : Sto} {r' : Rho} {s' : VEnv} {Fs' : Nat → List Nat} {Fo : List Nat}, OutR (keeps0 b) S A (Ev.start n vs) (vstart n os) Fs S' r' s' Fs' Fo → ∃ Fm, COut S A F S' Fo Fm ∧ SelfOk S' (UC A Fo Fm) vs (selfOf b s') Fm ∧ ∀ l ∈ Fm, Own s' Fs' l := fun {S' r' s' Fs' Fo} o => by
    have fr : Fr S S' (fun l => l ∈ F) := o.fr.mono fun l _ z => hown l z
    have n1 : ∀ l ∈ Fo, l ∈ F ∨ S.length ≤ l := fun l z => by
      rcases o.n1 l z with w | w
      · exact .inl (hown l w)
      · exact .inr w
    cases hs : selfOf b s' with
    | none => exact ⟨[], ⟨fr, by simpa using o.nd, fun l z => n1 l (by simpa using z)⟩, rfl, by simp⟩
    | some me =>
      unfold selfOf at hs
      split at hs
      · rename_i hk
        obtain ⟨v0, e0, R⟩ := o.inv.rep 0 me hs
        rw [o.kp hk] at e0
        obtain ⟨ws, rfl⟩ := start0 e0
        have hm : ∀ l ∈ Fs' 0, Own s' Fs' l := fun l z => ⟨0, me, hs, z⟩
        refine ⟨Fs' 0, ⟨fr, List.nodup_append.mpr ⟨o.nd, o.inv.nd 0 me hs, fun a ha c hb e => ?_⟩, fun l z => ?_⟩, ⟨v0, ws, rfl, R.weak fun l z => ?_⟩, hm⟩
        · subst e; exact o.inv.av a (hm a hb) (.inr ha)
        · rcases List.mem_append.mp z with z | z
          · exact n1 l z
          · rcases o.n2 l (hm l z) with w | w
            · exact .inl (hown l w)
            · exact .inr w
        · rcases z with z | z | z
          · exact .inl (.inl z)
          · exact .inl (.inr z)
          · exact .inr (hm l z)
      · cases hs
  have toR : ∀ {S' : Sto} {r' : Rho} {s' : VEnv} {Fs' : Nat → List Nat}, OutS (keeps0 b) S A (Ev.start n vs) (vstart n os) Fs S' r' s' Fs' → OutR (keeps0 b) S A (Ev.start n vs) (vstart n os) Fs S' r' s' Fs' [] := fun o =>
    ⟨o.fr, o.inv.move (W := fun _ => False) Fr.refl (fun _ z => z.elim) (fun l _ z => by simpa using z) (fun l z => o.inv.old l (by simpa using z)), o.n2, o.kp, .nil, by simp, by simp⟩
  revert h
  cases vS T clv b (vstart n os) with
  | bad => exact fun _ => trivial
  | ct s2 => exact fun _ => trivial
  | bk s2 => exact fun _ => trivial
  | nx s2 =>
    rintro ⟨r2, S2, Fs2, e2, o1⟩
    rw [e2]
    obtain ⟨Fm, k1, k2, _⟩ := fin (toR o1)
    exact ⟨.non, S2, [], Fm, rfl, k1, .sh .non, k2⟩
  | exc c s2 =>
    rintro ⟨r2, S2, Fs2, e2, o1⟩
    rw [e2]
    obtain ⟨Fm, k1, k2, _⟩ := fin (toR o1)
    exact ⟨S2, Fm, rfl, k1, k2⟩
  | rt o s2 =>
    rintro ⟨v, r2, S2, Fs2, Fo, e2, o1, R⟩
    rw [e2]
    obtain ⟨Fm, k1, k2, k3⟩ := fin o1
    refine ⟨v, S2, Fo, Fm, rfl, k1, R.weak fun l z => ?_, k2⟩
    rcases z with z | z | z
    · exact .inl (.inl z)
    · exact .inl (.inr z)
    · exact .inr (k3 l z)
end
/-- by values, then in the store -/
theorem vrun_ok {T : Tx} {ov : Nat → Nat → Option (List Ow → CRes)} (hov : ∀ d f g, ov d f = some g → CallOk g (run T (d + 1) f)) : ∀ d f, CallOk (vrun T ov d f) (run T d f) := by
  intro d
  induction d with
  | zero => intro f os vs S A F ci; unfold vrun; trivial
  | succ d ih =>
    intro f os vs S A F ci
    unfold vrun
    cases e : ov d f with
    | some g => exact hov d f g e ci
    | none =>
      dsimp only
      cases e1 : T.fn f with
      | none => trivial
      | some p =>
        obtain ⟨np, n, b⟩ := p
        dsimp only
        by_cases hl : os.length = np
        · rw [if_pos hl]
          have hl2 : vs.length = np := by rw [ci.rep.lens]; exact hl
          have := body_ok (T := T) (n := n) (s_ok ih b) ci
          unfold Ev.run
          rw [e1]
          dsimp only
          rw [if_pos hl2]
          exact this
        · rw [if_neg hl]; trivial
theorem law_ok {T : Tx} {ov : Nat → Nat → Option (List Ow → CRes)} (hov : ∀ d f g, ov d f = some g → CallOk g (run T (d + 1) f)) {d f : Nat} {ns : List Int} (h : ∃ self, vrun T ov d f [.sh (.scr ns)] = .ok (.sh (.bl true)) self) : ∃ S, run T d f [.scr ns] [] = .ok (.bl true) S := by
  obtain ⟨self, h⟩ := h
  have k := vrun_ok hov d f (os := [.sh (.scr ns)]) (vs := [.scr ns]) (S := []) (A := fun _ => False) (F := []) ⟨.cons (F1 := []) (F2 := []) (.sh .scr) .nil, .nil, by simp, fun l z => z.elim⟩
  rw [h] at k
  obtain ⟨v, S', Fo, Fm, e, _, R, _⟩ := k
  obtain ⟨_, k⟩ := RepO.sh_nil R
  cases k
  exact ⟨S', e⟩
end Vl
end

section
set_option linter.all false
/-! Wp: the evaluator by values, step by step. -/
namespace Vl
open PySem Ev
section
variable {T : Tx} {cl : Nat → List Ow → CRes} {s : VEnv} {a b c e it as : E} {i f m : Nat} {t : Tg} {rest x y : Sm} {P : VFl → Prop}
def WE (T : Tx) (cl : Nat → List Ow → CRes) (e : E) (s : VEnv) (Q : Ow → VEnv → Prop) : Prop := ∃ o s1, vE T cl e s = .ok o s1 ∧ Q o s1
def WB (T : Tx) (cl : Nat → List Ow → CRes) (e : E) (s : VEnv) (Q : D → VEnv → Prop) : Prop := ∃ o s1, bor T e (vE T cl e) s = .ok o s1 ∧ Q o s1
def WA (T : Tx) (cl : Nat → List Ow → CRes) (e : E) (s : VEnv) (Q : List D → VEnv → Prop) : Prop := ∃ o s1, vA T cl e s = .ok o s1 ∧ Q o s1
/-- arguments, of a call or of a builtin -/
def WC (T : Tx) (cl : Nat → List Ow → CRes) (e : E) (s : VEnv) (Q : List D → VEnv → Prop) : Prop := ∃ o s1, (vC T cl e s = .ok o s1 ∧ vB T cl e s = .ok o s1) ∧ Q o s1
def WO (T : Tx) (cl : Nat → List Ow → CRes) (e : E) (s : VEnv) (Q : List Ow → VEnv → Prop) : Prop := ∃ o s1, vO T cl e s = .ok o s1 ∧ Q o s1
def WI (T : Tx) (cl : Nat → List Ow → CRes) (e : E) (s : VEnv) (Q : List D → Bool → VEnv → Prop) : Prop := ∃ o s1, vI T cl e s = .ok o s1 ∧ Q o.1 o.2 s1
@[irreducible] def WS (T : Tx) (cl : Nat → List Ow → CRes) (b : Sm) (s : VEnv) (P : VFl → Prop) : Prop := P (vS T cl b s)
/-! ### expressions -/
theorem w_sh {Q : Ow → VEnv → Prop} {d : D} (h : slotO s i = some (.sh d)) (k : Q (.sh d) s) : WE T cl (.var i) s Q := ⟨_, _, by simp only [vE, h], k⟩
theorem w_frz {Q : Ow → VEnv → Prop} {o : Ow} (h : slotO s i = some o) (k : Q (.sh (frz o)) (s.set i (some (.sh (frz o))))) : WE T cl (.var i) s Q := by
  cases o with
  | sh d =>
    refine ⟨.sh d, s, by simp only [vE, h], ?_⟩
    have : s.set i (some (Ow.sh (frz (.sh d)))) = s := by
      apply List.ext_getElem?
      intro j
      by_cases q : i = j
      · subst q
        rw [List.getElem?_set_self (slot_lt h)]
        unfold slotO at h
        cases e3 : s[i]? with
        | none => rw [e3] at h; cases h
        | some x => rw [e3] at h; exact congrArg some h.symm
      · rw [List.getElem?_set_ne q]
    rw [this] at k
    exact k
  | _ => exact ⟨_, _, by simp only [vE, h], k⟩
theorem w_con {Q : Ow → VEnv → Prop} {v : Va} {d : D} (h : vaD v = some d) (k : Q (.sh d) s) : WE T cl (.con v) s Q := ⟨_, _, by simp only [vE, h], k⟩
theorem b_path {Q : D → VEnv → Prop} {q : Nat × List Nat} {o : Ow} (h : pathOf a = some q) (h2 : readP T s q = some o) (k : Q (frz o) s) (hl : isLso o = false := by rfl) : WB T cl a s Q := ⟨_, _, by simp only [bor, h, h2, hl, Bool.false_eq_true, if_false], k⟩
theorem b_lso {Q : D → VEnv → Prop} {q : Nat × List Nat} {o : Ow} (h : pathOf a = some q) (h2 : readP T s q = some o) (hl : isLso o = true) (k : Q (frz o) (frzS s [q.1])) : WB T cl a s Q := ⟨_, _, by simp only [bor, h, h2, hl, if_true], k⟩
theorem b_var {Q : D → VEnv → Prop} {o : Ow} (h2 : slotO s i = some o) (k : Q (frz o) s) (hl : isLso o = false := by rfl) : WB T cl (.var i) s Q := b_path (T := T) (q := (i, [])) rfl (by unfold readP; dsimp only; rw [h2]; exact getP_nil (fl := T.fl)) k hl
theorem b_of {Q : D → VEnv → Prop} (h : ((pathOf a).bind fun q => readP T s q) = none) (k : WE T cl a s fun o s1 => Q (frz o) s1) : WB T cl a s Q := by
  obtain ⟨o, s1, h1, h2⟩ := k
  refine ⟨_, _, ?_, h2⟩
  unfold bor
  cases hp : pathOf a with
  | none => simp only [h1, asD, VRes.bind]
  | some q =>
    rw [hp] at h
    have h : readP T s q = none := h
    simp only [h, h1, asD, VRes.bind]
theorem b_of2 {Q : D → VEnv → Prop} {q : Nat × List Nat} (h : pathOf a = some q) (h0 : readP T s q = none) (k : WE T cl a s fun o s1 => Q (frz o) s1) : WB T cl a s Q := by
  obtain ⟨o, s1, h1, h2⟩ := k
  exact ⟨_, _, by simp only [bor, h, h0, h1, asD, VRes.bind], h2⟩
theorem w_bin {Q : Ow → VEnv → Prop} {o : Bop} (hs : stale a b s = false) (k : WB T cl a s fun x s1 => WB T cl b s1 fun y s2 => ∃ w, vbop o x y = some w ∧ Q w s2) : WE T cl (.bin o a b) s Q := by
  obtain ⟨x, s1, h1, y, s2, h2, w, h3, h4⟩ := k
  exact ⟨w, s2, by simp [vE, calm, hs, h1, h2, h3, VRes.bind, oksO], h4⟩
/-- .. whose first slot is frozen, as the second part may change it -/
theorem w_binF {Q : Ow → VEnv → Prop} {o : Bop} {q : Nat × List Nat} (hp : pathOf a = some q) (ht : stale a b s = true) (hs : stale a b (frzS s [q.1]) = false) (k : WB T cl a (frzS s [q.1]) fun x s1 => WB T cl b s1 fun y s2 => ∃ w, vbop o x y = some w ∧ Q w s2) : WE T cl (.bin o a b) s Q := by
  obtain ⟨x, s1, h1, y, s2, h2, w, h3, h4⟩ := k
  exact ⟨w, s2, by simp [vE, calm, ht, hp, hs, h1, h2, h3, VRes.bind, oksO], h4⟩
theorem w_neg {Q : Ow → VEnv → Prop} (k : WB T cl a s fun x s1 => ∃ i, x = .int i ∧ Q (.sh (.int (-i))) s1) : WE T cl (.neg a) s Q := by
  obtain ⟨x, s1, h1, i, rfl, h4⟩ := k
  exact ⟨_, s1, by simp [vE, h1, VRes.bind], h4⟩
theorem w_not {Q : Ow → VEnv → Prop} (k : WE T cl a s fun x s1 => ∃ c, x = .sh (.bl c) ∧ Q (.sh (.bl !c)) s1) : WE T cl (.not a) s Q := by
  obtain ⟨x, s1, h1, i, rfl, h4⟩ := k
  exact ⟨_, s1, by simp [vE, h1, VRes.bind, asB], h4⟩
theorem w_and {Q : Ow → VEnv → Prop} (k : WE T cl a s fun x s1 => ∃ c, x = .sh (.bl c) ∧ (c = true → WE T cl b s1 Q) ∧ (c = false → Q (.sh (.bl false)) s1)) : WE T cl (.and a b) s Q := by
  obtain ⟨x, s1, h1, c, rfl, h4, h5⟩ := k
  cases c with
  | true =>
    obtain ⟨o, s2, h6, h7⟩ := h4 rfl
    exact ⟨o, s2, by simp [vE, h1, VRes.bind, asB, h6], h7⟩
  | false => exact ⟨_, s1, by simp [vE, h1, VRes.bind, asB], h5 rfl⟩
theorem w_or {Q : Ow → VEnv → Prop} (k : WE T cl a s fun x s1 => ∃ c, x = .sh (.bl c) ∧ (c = true → Q (.sh (.bl true)) s1) ∧ (c = false → WE T cl b s1 Q)) : WE T cl (.or a b) s Q := by
  obtain ⟨x, s1, h1, c, rfl, h4, h5⟩ := k
  cases c with
  | false =>
    obtain ⟨o, s2, h6, h7⟩ := h5 rfl
    exact ⟨o, s2, by simp [vE, h1, VRes.bind, asB, h6], h7⟩
  | true => exact ⟨_, s1, by simp [vE, h1, VRes.bind, asB], h4 rfl⟩
theorem w_ite {Q : Ow → VEnv → Prop} (k : WE T cl c s fun x s1 => ∃ w, x = .sh (.bl w) ∧ (w = true → WE T cl a s1 Q) ∧ (w = false → WE T cl b s1 Q)) : WE T cl (.ite c a b) s Q := by
  obtain ⟨x, s1, h1, w, rfl, h4, h5⟩ := k
  cases w with
  | true =>
    obtain ⟨o, s2, h6, h7⟩ := h4 rfl
    exact ⟨o, s2, by simp [vE, h1, VRes.bind, asB, h6], h7⟩
  | false =>
    obtain ⟨o, s2, h6, h7⟩ := h5 rfl
    exact ⟨o, s2, by simp [vE, h1, VRes.bind, asB, h6], h7⟩
theorem w_cmp {Q : Ow → VEnv → Prop} {o : Cop} (hs : (stale a b s || lsoAt T a s) = false) (k : WB T cl a s fun x s1 => WB T cl b s1 fun y s2 => ∃ w, vcop o x y = some w ∧ Q (.sh (.bl w)) s2) : WE T cl (.cmp o a b) s Q := by
  obtain ⟨x, s1, h1, y, s2, h2, w, h3, h4⟩ := k
  rw [Bool.or_eq_false_iff] at hs
  exact ⟨_, s2, by simp [vE, borQ, hs.1, hs.2, h1, h2, h3, VRes.bind, oksB], h4⟩
/-- .. of a list of owned things -/
theorem w_cmpL {Q : Ow → VEnv → Prop} {o : Cop} {q : Nat × List Nat} {o1 : Ow} (hs : stale a b s = false) (ho : eqC o = true) (h : pathOf a = some q) (h0 : readP T s q = some o1) (hl : isLso o1 = true) (k : WB T cl b s fun y s2 => ∃ w, vcop o (frz o1) y = some w ∧ Q (.sh (.bl w)) s2) : WE T cl (.cmp o a b) s Q := by
  obtain ⟨y, s2, h2, w, h3, h4⟩ := k
  exact ⟨_, s2, by simp [vE, borQ, lsoAt, hs, ho, h, h0, hl, h2, h3, VRes.bind, oksB], h4⟩
theorem w_chain {Q : Ow → VEnv → Prop} {o p : Cop} (hs : stale a b s = false) (k : WB T cl a s fun x s1 => stale b c s1 = false ∧ WB T cl b s1 fun y s2 => ∃ w, vcop o x y = some w ∧ (w = true → WB T cl c s2 fun z s3 => ∃ u, vcop p y z = some u ∧ Q (.sh (.bl u)) s3) ∧ (w = false → Q (.sh (.bl false)) s2)) : WE T cl (.chain o p a b c) s Q := by
  obtain ⟨x, s1, h1, hs2, y, s2, h2, w, h3, h4, h5⟩ := k
  cases w with
  | true =>
    obtain ⟨z, s3, h6, u, h7, h8⟩ := h4 rfl
    exact ⟨_, s3, by simp [vE, hs, hs2, h1, h2, h3, h6, h7, VRes.bind, oksB], h8⟩
  | false => exact ⟨_, s2, by simp [vE, hs, hs2, h1, h2, h3, VRes.bind, oksB], h5 rfl⟩
theorem w_isC {Q : Ow → VEnv → Prop} {v : Va} {n : Bool} (k : WB T cl a s fun x s1 => ∃ w, visC v n x = some w ∧ Q (.sh (.bl w)) s1) : WE T cl (.isC v n a) s Q := by
  obtain ⟨x, s1, h1, w, h3, h4⟩ := k
  exact ⟨_, s1, by simp [vE, h1, h3, VRes.bind, oksB], h4⟩
theorem w_inStrs {Q : Ow → VEnv → Prop} {xs : List Str} (k : WB T cl a s fun x s1 => dFlat x = true ∧ Q (.sh (.bl (xs.any fun z => dEqF (.str z) x))) s1) : WE T cl (.inStrs a xs) s Q := by
  obtain ⟨x, s1, h1, h3, h4⟩ := k
  exact ⟨_, s1, by simp [vE, h1, h3, VRes.bind], h4⟩
theorem w_lst {Q : Ow → VEnv → Prop} (k : WA T cl as s fun xs s1 => xs.length ≤ line ∧ Q (.lst xs) s1) : WE T cl (.lst as) s Q := by
  obtain ⟨x, s1, h1, h3, h4⟩ := k
  exact ⟨_, s1, by simp [vE, h1, h3, VRes.bind], h4⟩
theorem w_tup {Q : Ow → VEnv → Prop} (k : WA T cl as s fun xs s1 => xs.length ≤ line ∧ Q (.sh (.tup xs)) s1) : WE T cl (.tup as) s Q := by
  obtain ⟨x, s1, h1, h3, h4⟩ := k
  exact ⟨_, s1, by simp [vE, h1, h3, VRes.bind], h4⟩
theorem w_dnew {Q : Ow → VEnv → Prop} (k : Q (.dct []) s) : WE T cl .dnew s Q := ⟨_, _, by simp only [vE], k⟩
theorem w_idx {Q : Ow → VEnv → Prop} (hs : stale a b s = false) (k : WB T cl a s fun x s1 => WB T cl b s1 fun y s2 => ∃ w, vidx x y = some w ∧ Q (.sh w) s2) : WE T cl (.idx a b) s Q := by
  obtain ⟨x, s1, h1, y, s2, h2, w, h3, h4⟩ := k
  exact ⟨_, s2, by simp [vE, hs, h1, h2, h3, VRes.bind], h4⟩
/-- a part of a slice -/
def WP (T : Tx) (cl : Nat → List Ow → CRes) (e : E) (s : VEnv) (Q : Option Int → VEnv → Prop) : Prop := ∃ o s1, vprt (isNil e) (fun s => asD (vE T cl e s)) s = .ok o s1 ∧ Q o s1
theorem p_nil {Q : Option Int → VEnv → Prop} (k : Q none s) : WP T cl .nil s Q := ⟨_, _, rfl, k⟩
theorem p_int {Q : Option Int → VEnv → Prop} (hn : isNil e = false) (k : WE T cl e s fun o s1 => ∃ i, o = .sh (.int i) ∧ Q (some i) s1) : WP T cl e s Q := by
  obtain ⟨o, s1, h1, i, rfl, h2⟩ := k
  exact ⟨_, _, by simp [vprt, hn, h1, asD, VRes.bind, frz], h2⟩
theorem w_sl {Q : Ow → VEnv → Prop} {lo hi : E} (hs : (stale a lo s || stale a hi s) = false) (k : WB T cl a s fun x s1 => WP T cl lo s1 fun l s2 => WP T cl hi s2 fun h s3 => ∃ xs, dL x = some xs ∧ Q (.lst (cut xs l h)) s3) : WE T cl (.sl a lo hi) s Q := by
  obtain ⟨x, s1, h1, l, s2, h2, h, s3, h3, xs, h4, h5⟩ := k
  exact ⟨_, s3, by simp [vE, hs, h1, h2, h3, h4, VRes.bind], h5⟩
theorem w_rev {Q : Ow → VEnv → Prop} (k : WB T cl a s fun x s1 => ∃ xs, dL x = some xs ∧ Q (.lst xs.reverse) s1) : WE T cl (.rev a) s Q := by
  obtain ⟨x, s1, h1, xs, h4, h5⟩ := k
  exact ⟨_, s1, by simp [vE, h1, h4, VRes.bind], h5⟩
theorem w_sls {Q : Ow → VEnv → Prop} {lo st : E} (hs : (stale a lo s || stale a st s) = false) (h1 : isNil lo = false) (h2 : isNil st = false) (k : WB T cl a s fun x s1 => WP T cl lo s1 fun l s2 => WP T cl st s2 fun h s3 => ∃ xs l' k', dL x = some xs ∧ l = some l' ∧ h = some k' ∧ k' ≠ 0 ∧ Q (.lst (pick xs l' k')) s3) : WE T cl (.sls a lo st) s Q := by
  obtain ⟨x, s1, g1, l, s2, g2, h, s3, g3, xs, l', k', g4, rfl, rfl, g5, g6⟩ := k
  rw [h1] at g2
  rw [h2] at g3
  exact ⟨_, s3, by simp [vE, hs, g1, g2, g3, g4, g5, VRes.bind], g6⟩
/-- a field of an own instance that is shared -/
theorem w_fldsh {Q : Ow → VEnv → Prop} {q : Nat × List Nat} {d : D} (h : pathOf (.fld a f) = some q) (h2 : readP T s q = some (.sh d)) (k : Q (.sh d) s) : WE T cl (.fld a f) s Q := ⟨_, _, by simp [vE, h, h2], k⟩
/-- .. of a shared one -/
theorem w_fldD {Q : Ow → VEnv → Prop} (h : ((pathOf (.fld a f)).bind fun q => (readP T s q).map fun o => (q, o)) = none) (k : WE T cl a s fun o s1 => ∃ d, fldD T (frz o) f = some d ∧ Q (.sh d) s1) : WE T cl (.fld a f) s Q := by
  obtain ⟨o, s1, h1, d, h3, h4⟩ := k
  exact ⟨_, s1, by simp [vE, h, h1, h3, asD, VRes.bind], h4⟩
theorem w_fldfrz {Q : Ow → VEnv → Prop} {q : Nat × List Nat} {o : Ow} {s1 : VEnv} (h : pathOf (.fld a f) = some q) (h2 : readP T s q = some o) (hn : isSh o = false) (h3 : writeP T s q (.sh (frz o)) = some s1) (k : Q (.sh (frz o)) s1) : WE T cl (.fld a f) s Q := by
  refine ⟨_, s1, ?_, k⟩
  cases o <;> simp_all [vE, isSh]
/-! ### calls -/
theorem w_call {Q : Ow → VEnv → Prop} (k : WC T cl as s fun xs s1 => ∃ o self, cl f (xs.map .sh) = .ok o self ∧ Q o (behind o (brw as) s1)) : WE T cl (.call f as) s Q := by
  obtain ⟨x, s1, ⟨h1, _⟩, o, self, h2, h3⟩ := k
  exact ⟨_, _, by simp [vE, h1, h2, VRes.bind, call0], h3⟩
theorem w_make {Q : Ow → VEnv → Prop} {c : Nat} (h : T.ini c = some (some f)) (k : WC T cl as s fun xs s1 => ∃ me, cl f (.ins c .nil :: xs.map .sh) = .ok (.sh .non) (some me) ∧ Q me (behind me (brw as) s1)) : WE T cl (.make c as) s Q := by
  obtain ⟨x, s1, ⟨h1, _⟩, me, h2, h3⟩ := k
  exact ⟨_, _, by simp [vE, h, h1, h2, VRes.bind, call1], h3⟩
theorem w_make0 {Q : Ow → VEnv → Prop} {c : Nat} (h : T.ini c = some none) (k : Q (.ins c .nil) s) : WE T cl (.make c .nil) s Q := ⟨_, _, by simp [vE, h], k⟩
/-- a method of an own instance at a path -/
theorem w_meth {Q : Ow → VEnv → Prop} {q : Nat × List Nat} {c : Nat} {fs : Ow} (h : pathOf a = some q) (h2 : readP T s q = some (.ins c fs)) (h3 : ((brw as).contains q.1 || !quiet as) = false) (h4 : T.mth c m = some f) (h5 : lookO m fs = none)
    (k : WC T cl as s fun xs s1 => ∃ c' fs', readP T s1 q = some (.ins c' fs') ∧ ∃ o me2 s2, cl f (.ins c' fs' :: xs.map .sh) = .ok o (some me2) ∧ writeP T s1 q me2 = some s2 ∧ Q o (if noal o && noal me2 then s2 else frzS s2 (brw as))) (hv : viaB T f = false := by rfl) : WE T cl (.meth a m as) s Q := by
  obtain ⟨xs, s1, ⟨h6, _⟩, c', fs', h7, o, me2, s2, h8, h9, h10⟩ := k
  refine ⟨_, _, ?_, h10⟩
  rw [Bool.or_eq_false_iff] at h3
  simp only [vE, h, h2, Option.bind, insO, h4, h5, hv, h6, h7, VRes.bind, call1, h8, h9, h3.1, h3.2, mB, Bool.false_and, Bool.false_eq_true, if_false]
/-- .. that is handed scalars of its own -/
theorem w_methS {Q : Ow → VEnv → Prop} {q : Nat × List Nat} {c : Nat} {fs : Ow} (h : pathOf a = some q) (h2 : readP T s q = some (.ins c fs)) (h3 : quiet as = true) (hc : (brw as).contains q.1 = true) (h4 : T.mth c m = some f) (h5 : lookO m fs = none)
    (k : WC T cl as s fun xs s1 => xs.all sca = true ∧ ∃ c' fs', readP T s1 q = some (.ins c' fs') ∧ ∃ o me2 s2, cl f (.ins c' fs' :: xs.map .sh) = .ok o (some me2) ∧ writeP T s1 q me2 = some s2 ∧ Q o s2) (hv : viaB T f = false := by rfl) : WE T cl (.meth a m as) s Q := by
  obtain ⟨xs, s1, ⟨h6, _⟩, hx, c', fs', h7, o, me2, s2, h8, h9, h10⟩ := k
  refine ⟨o, s2, ?_, h10⟩
  simp only [vE, h, h2, Option.bind, insO, h4, h5, hv, h6, h7, VRes.bind, call1, h8, h9, h3, hc, hx, mB, Bool.not_true, Bool.and_false, Bool.false_eq_true, if_false, if_true, frzS, ite_self]
/-- .. that walks over its own field -/
theorem w_methB {Q : Ow → VEnv → Prop} {q : Nat × List Nat} {c : Nat} {fs : Ow} (h : pathOf a = some q) (h2 : readP T s q = some (.ins c fs)) (h3 : quiet as = true) (h4 : T.mth c m = some f) (h5 : lookO m fs = none) (hv : viaB T f = true)
    (k : WC T cl as s fun xs s1 => ∃ o self, cl f (.sh (.ins c (frzF fs)) :: xs.map .sh) = .ok o self ∧ Q o (behind o (brw (.cons a as)) s1)) : WE T cl (.meth a m as) s Q := by
  obtain ⟨xs, s1, ⟨h6, _⟩, o, self, h7, h8⟩ := k
  refine ⟨_, _, ?_, h8⟩
  simp only [vE, h, h2, h3, Option.bind, insO, h4, h5, hv, if_true, borN, frz, h6, VRes.bind, call0, h7, Bool.not_true, Bool.false_eq_true, if_false, List.map_cons]
/-- .. of a shared or passing one -/
theorem w_methD {Q : Ow → VEnv → Prop} (h : ((pathOf a).bind fun q => (readP T s q).bind fun o => insO o q) = none) (hs : stale a as s = false)
    (k : WB T cl a s fun r s0 => ∃ c fs, r = .ins c fs ∧ ∃ f, T.mth c m = some f ∧ dfld m fs = none ∧ WC T cl as s0 fun xs s1 => ∃ o self, cl f (.sh (.ins c fs) :: xs.map .sh) = .ok o self ∧ Q o (behind o (brw (.cons a as)) s1)) : WE T cl (.meth a m as) s Q := by
  obtain ⟨r, s0, h1, c, fs, rfl, f, h2, h3, xs, s1, ⟨h4, _⟩, o, self, h5, h6⟩ := k
  exact ⟨_, _, by simp [vE, h, hs, h1, h2, h3, h4, h5, VRes.bind, call0], h6⟩
theorem w_lm {Q : Ow → VEnv → Prop} {q : Nat × List Nat} {m : Lm} {zs : List D} (h : pathOf a = some q) (h2 : readP T s q = some (.lst zs)) (h3 : (!q.2.isEmpty && !quiet as) = false)
    (k : WA T cl as s fun xs s1 => ∃ ys, readP T s1 q = some (.lst ys) ∧ ∃ d ws s2, vlm m ys xs = some (d, ws) ∧ writeP T s1 q (.lst ws) = some s2 ∧ Q (.sh d) s2) : WE T cl (.lm m a as) s Q := by
  obtain ⟨xs, s1, h4, ys, h5, d, ws, s2, h6, h7, h8⟩ := k
  refine ⟨_, s2, ?_, h8⟩
  simp only [vE, h, h2, Option.bind, lstO, h4, h5, VRes.bind, h6, h7]
  rw [if_neg (by rw [h3]; simp)]
theorem w_bi {Q : Ow → VEnv → Prop} {b : Bi} (k : WC T cl as s fun xs s1 => ∃ w, vbi b xs = some w ∧ Q w s1) : WE T cl (.bi b as) s Q := by
  obtain ⟨xs, s1, ⟨_, h1⟩, w, h2, h3⟩ := k
  exact ⟨_, _, by simp [vE, h1, h2, VRes.bind, oksO], h3⟩
theorem w_isTy {Q : Ow → VEnv → Prop} {t : Ty} (k : WB T cl a s fun x s1 => ∃ w, visTy T t x = some w ∧ Q (.sh (.bl w)) s1) : WE T cl (.isTy t a) s Q := by
  obtain ⟨x, s1, h1, w, h3, h4⟩ := k
  exact ⟨_, s1, by simp [vE, h1, h3, VRes.bind, oksB], h4⟩
theorem w_isCls {Q : Ow → VEnv → Prop} {c : Nat} (k : WB T cl a s fun x s1 => ∃ w, visCls T c x = some w ∧ Q (.sh (.bl w)) s1) : WE T cl (.isCls c a) s Q := by
  obtain ⟨x, s1, h1, w, h3, h4⟩ := k
  exact ⟨_, s1, by simp [vE, h1, h3, VRes.bind, oksB], h4⟩
/-! ### arguments -/
theorem a_nil {Q : List D → VEnv → Prop} (k : Q [] s) : WA T cl .nil s Q := ⟨_, _, by simp only [vA], k⟩
theorem a_cons {Q : List D → VEnv → Prop} (k : WE T cl a s fun x s1 => WA T cl b s1 fun xs s2 => Q (frz x :: xs) s2) : WA T cl (.cons a b) s Q := by
  obtain ⟨x, s1, h1, xs, s2, h2, h3⟩ := k
  exact ⟨_, _, by simp [vA, h1, h2, VRes.bind], h3⟩
theorem c_nil {Q : List D → VEnv → Prop} (k : Q [] s) : WC T cl .nil s Q := ⟨_, _, ⟨by simp only [vC], by simp only [vB]⟩, k⟩
theorem borN_eq {a : E} {ve : VEnv → VRes Ow} {s : VEnv} (h : lsoAt T a s = false) : borN T a ve s = bor T a ve s := by
  unfold borN bor
  unfold lsoAt at h
  cases hp : pathOf a with
  | none => rfl
  | some q =>
    rw [hp] at h
    dsimp only
    cases hr : readP T s q with
    | none => rfl
    | some o =>
      have h : isLso o = false := by simpa [hr] using h
      dsimp only
      rw [h, if_neg (by simp)]
theorem c_cons {Q : List D → VEnv → Prop} (hs : (stale a b s || lsoAt T a s) = false) (k : WB T cl a s fun x s1 => WC T cl b s1 fun xs s2 => Q (x :: xs) s2) : WC T cl (.cons a b) s Q := by
  obtain ⟨x, s1, h1, xs, s2, ⟨h2, h3⟩, h4⟩ := k
  rw [Bool.or_eq_false_iff] at hs
  exact ⟨_, _, ⟨by simp [vC, hs.1, borN_eq hs.2, h1, h2, VRes.bind], by simp [vB, hs.1, h1, h3, VRes.bind]⟩, h4⟩
theorem o_nil {Q : List Ow → VEnv → Prop} (k : Q [] s) : WO T cl .nil s Q := ⟨_, _, by simp only [vO], k⟩
theorem o_cons {Q : List Ow → VEnv → Prop} (k : WE T cl a s fun x s1 => WO T cl b s1 fun xs s2 => Q (x :: xs) s2) (hd : dplE a = false := by rfl) : WO T cl (.cons a b) s Q := by
  obtain ⟨x, s1, h1, xs, s2, h2, h3⟩ := k
  exact ⟨_, _, by rw [vO_cons, vX_nl hd]; simp [h1, h2, VRes.bind], h3⟩
/-- .. a list of owned things -/
theorem o_consL {Q : List Ow → VEnv → Prop} {es : E} (hd : dpl es = true) (k : WO T cl es s fun os s1 => os.length ≤ line ∧ WO T cl b s1 fun xs s2 => Q (.lso (chO os) :: xs) s2) : WO T cl (.cons (.lst es) b) s Q := by
  obtain ⟨os, s1, h1, hl, xs, s2, h2, h3⟩ := k
  exact ⟨_, _, by rw [vO_cons]; simp [vX, hd, lsoR, h1, hl, h2, VRes.bind], h3⟩
/-! ### walks -/
theorem i_seq {Q : List D → Bool → VEnv → Prop} (k : WB T cl a s fun x s1 => (∃ xs, x = .lst xs ∧ Q xs (owned a s) s1) ∨ (∃ xs, x = .tup xs ∧ Q xs false s1)) : WI T cl (.seq a) s Q := by
  obtain ⟨x, s1, h1, h2⟩ := k
  rcases h2 with ⟨xs, rfl, h2⟩ | ⟨xs, rfl, h2⟩
  · exact ⟨_, _, by simp [vI, h1, VRes.bind]; exact ⟨rfl, rfl⟩, h2⟩
  · exact ⟨_, _, by simp [vI, h1, VRes.bind]; exact ⟨rfl, rfl⟩, h2⟩
theorem i_enum {Q : List D → Bool → VEnv → Prop} (k : WB T cl a s fun x s1 => ∃ xs, x = .lst xs ∧ Q (enumD xs) (owned a s) s1) : WI T cl (.enum a) s Q := by
  obtain ⟨x, s1, h1, xs, rfl, h2⟩ := k
  exact ⟨_, _, by simp [vI, h1, VRes.bind]; exact ⟨rfl, rfl⟩, h2⟩
theorem i_zip {Q : List D → Bool → VEnv → Prop} (hs : stale a b s = false) (k : WB T cl a s fun x s1 => WB T cl b s1 fun y s2 => ∃ xs ys, x = .lst xs ∧ y = .lst ys ∧ Q (zipD xs ys) (owned a s || owned b s1) s2) : WI T cl (.zip a b) s Q := by
  obtain ⟨x, s1, h1, y, s2, h2, xs, ys, rfl, rfl, h3⟩ := k
  exact ⟨_, _, by simp [vI, hs, h1, h2, VRes.bind]; exact ⟨rfl, rfl⟩, h3⟩
theorem i_rng1 {Q : List D → Bool → VEnv → Prop} (k : WE T cl a s fun x s1 => ∃ j, x = .sh (.int j) ∧ (-(2 ^ 62) ≤ j ∧ j < 2 ^ 62) ∧ Q (ranI 0 1 j.toNat) false s1) : WI T cl (.rng1 a) s Q := by
  obtain ⟨x, s1, h1, j, rfl, hj, h2⟩ := k
  refine ⟨(ranI 0 1 j.toNat, false), s1, ?_, h2⟩
  simp only [vI, h1, asD, VRes.bind, frz]
  rw [if_pos hj]
theorem i_rng2 {Q : List D → Bool → VEnv → Prop} (k : WE T cl a s fun x s1 => WE T cl b s1 fun y s2 => ∃ i j, x = .sh (.int i) ∧ y = .sh (.int j) ∧ (-(2 ^ 62) ≤ i ∧ i < 2 ^ 62 ∧ -(2 ^ 62) ≤ j ∧ j < 2 ^ 62) ∧ Q (ranI i 1 (j - i).toNat) false s2) : WI T cl (.rng2 a b) s Q := by
  obtain ⟨x, s1, h1, y, s2, h2, i, j, rfl, rfl, hj, h3⟩ := k
  refine ⟨(ranI i 1 (j - i).toNat, false), s2, ?_, h3⟩
  simp only [vI, h1, h2, asD, VRes.bind, frz]
  rw [if_pos hj]
theorem i_rng3 {Q : List D → Bool → VEnv → Prop} (k : WE T cl a s fun x s1 => WE T cl b s1 fun y s2 => WE T cl c s2 fun z s3 => ∃ i j k, x = .sh (.int i) ∧ y = .sh (.int j) ∧ z = .sh (.int k) ∧ (0 ≤ i ∧ i < 2 ^ 30 ∧ 0 ≤ j ∧ j < 2 ^ 30 ∧ 0 < k ∧ k < 2 ^ 30) ∧ Q (ranI i k ((j - i + k - 1) / k).toNat) false s3) : WI T cl (.rng3 a b c) s Q := by
  obtain ⟨x, s1, h1, y, s2, h2, z, s3, h3, i, j, k, rfl, rfl, rfl, hj, h4⟩ := k
  refine ⟨(ranI i k ((j - i + k - 1) / k).toNat, false), s3, ?_, h4⟩
  simp only [vI, h1, h2, h3, asD, VRes.bind, frz]
  rw [if_pos hj]
/-! ### comprehensions: c and e leave the slots as they are -/
theorem compV_go {own : List Nat} {cc : VEnv → VRes Bool} {ee : VEnv → VRes D} {s0 : VEnv} {p : D → Bool} {g : D → D} : ∀ (xs acc : List D) (s : VEnv), wipeV s own = s0 → acc.length + xs.length ≤ line → (∀ x ∈ xs, ∃ s1, asgV t x s0 = some s1 ∧ wipeV s1 own = s0 ∧ cc s1 = .ok (p x) s1 ∧ (p x = true → ee s1 = .ok (g x) s1)) →
    ∃ s', compV t own cc ee xs acc s = .ok (acc ++ (xs.filter p).map g) s' ∧ wipeV s' own = s0
  | [], acc, s, h0, hl, h => ⟨s, by simp [compV], h0⟩
  | x :: xs, acc, s, h0, hl, h => by
    obtain ⟨s1, h1, h2, h3, h4⟩ := h x (by simp)
    have hr : ∀ x ∈ xs, ∃ s1, asgV t x s0 = some s1 ∧ wipeV s1 own = s0 ∧ cc s1 = .ok (p x) s1 ∧ (p x = true → ee s1 = .ok (g x) s1) := fun y hy => h y (by simp [hy])
    simp only [List.length_cons] at hl
    unfold compV
    rw [h0, h1]
    dsimp only
    rw [h3]
    cases hp : p x with
    | false =>
      obtain ⟨s', k1, k2⟩ := compV_go xs acc s1 h2 (by omega) hr
      exact ⟨s', by dsimp only; rw [k1]; simp [hp], k2⟩
    | true =>
      obtain ⟨s', k1, k2⟩ := compV_go xs (acc ++ [g x]) s1 h2 (by simp; omega) hr
      refine ⟨s', ?_, k2⟩
      dsimp only
      rw [h4 hp]
      dsimp only
      rw [if_pos (by omega), k1]
      simp [hp]
theorem back_same {own : List Nat} {s s' : VEnv} (h : wipeV s' own = wipeV s own) : backV s s' own = s := by
  have hl : s'.length = s.length := by have := congrArg List.length h; simpa [wipeV_len] using this
  apply List.ext_getElem?
  intro j
  by_cases hj : j < s.length
  · have g : ∀ t : VEnv, t.length = s.length → t[j]? = some (slotO t j) := fun t ht => by
      unfold slotO
      rw [List.getElem?_eq_getElem (by omega)]
      rfl
    rw [g _ (by rw [backV_len]; exact hl), g _ rfl, backV_slot hl]
    by_cases e : j ∈ own
    · rw [if_pos e]
    · rw [if_neg e]
      have : slotO (wipeV s' own) j = slotO (wipeV s own) j := by rw [h]
      rw [wipeV_slot, wipeV_slot, if_neg e, if_neg e] at this
      rw [this]
  · rw [List.getElem?_eq_none (by rw [backV_len]; omega), List.getElem?_eq_none (by omega)]
theorem w_comp {Q : Ow → VEnv → Prop} {own : List Nat} (p : D → Bool) (g : D → D) (ht : tgIn own t = true) (k : WI T cl it s fun xs fl s1 => (fl && !(quiet c && quiet e)) = false ∧ xs.length ≤ line ∧ (∀ x ∈ xs, ∃ s2, asgV t x (wipeV s1 own) = some s2 ∧ wipeV s2 own = wipeV s1 own ∧ WE T cl c s2 (fun o s3 => o = .sh (.bl (p x)) ∧ s3 = s2) ∧ (p x = true → WE T cl e s2 (fun o s3 => frz o = g x ∧ s3 = s2))) ∧ Q (.lst ((xs.filter p).map g)) s1) : WE T cl (.comp own t it c e) s Q := by
  obtain ⟨⟨xs, fl⟩, s1, h1, h2, hl, h3, h4⟩ := k
  obtain ⟨s', k1, k2⟩ := compV_go (t := t) (own := own) (cc := fun s => asB (vE T cl c s)) (ee := fun s => asD (vE T cl e s)) (s0 := wipeV s1 own) (p := p) (g := g) xs [] s1 rfl (by simpa using hl) (fun x hx => by
    obtain ⟨s2, g1, g2, ⟨o, s3, g3, rfl, rfl⟩, g4⟩ := h3 x hx
    refine ⟨s3, g1, g2, by simp [asB, g3, VRes.bind], fun hp => ?_⟩
    obtain ⟨o, s4, g5, g6, rfl⟩ := g4 hp
    simp [asD, g5, VRes.bind, g6])
  refine ⟨_, s1, ?_, h4⟩
  simp only [vE, h1, VRes.bind]
  rw [if_neg (by rw [h2, ht]; simp), k1]
  dsimp only
  rw [back_same k2]
  rfl
/-! ### statements -/
theorem s_assoc (k : WS T cl (.seq x (.seq y rest)) s P) : WS T cl (.seq (.seq x y) rest) s P := by
  unfold WS at k ⊢
  simp only [vS] at k ⊢
  revert k
  cases vS T cl x s <;> exact fun k => k
theorem s_skip (k : WS T cl rest s P) : WS T cl (.seq .skip rest) s P := by
  unfold WS at k ⊢
  simp only [vS]
  exact k
theorem s_end (k : P (.nx s)) : WS T cl .skip s P := by
  unfold WS
  simp only [vS]
  exact k
theorem s_asg (k : WE T cl e s fun o s1 => ∃ s2, asgO t o s1 = some s2 ∧ WS T cl rest s2 P) (hd : (dplE e || (upk t e).isSome) = false := by rfl) (hf : freshP t e = none := by rfl) : WS T cl (.seq (.asg t e) rest) s P := by
  obtain ⟨o, s1, h1, s2, h2, h3⟩ := k
  have hf : freshV T t e s = none := by unfold freshV; rw [hf]
  rw [Bool.or_eq_false_iff] at hd
  have hu : upk t e = none := by
    cases hh : upk t e with
    | none => rfl
    | some p => rw [hh] at hd; cases hd.2
  unfold WS at h3 ⊢
  simp only [vS, hu, hf, vX_nl hd.1, h1, vth, h2, onx]
  exact h3
/-- .. several parts, each as it is -/
theorem s_asgU {p : List Nat × E} (hu : upk t e = some p) (k : WO T cl p.2 s fun os s1 => os.length ≤ line ∧ ∃ s2, setV p.1 os s1 = some s2 ∧ WS T cl rest s2 P) : WS T cl (.seq (.asg t e) rest) s P := by
  obtain ⟨os, s1, h1, hl, s2, h2, h3⟩ := k
  unfold WS at h3 ⊢
  simp only [vS, hu, h1, vth, hl, if_true, h2, onx]
  exact h3
/-- .. a list of owned things -/
theorem s_asgL {es : E} (hd : dpl es = true) (k : WO T cl es s fun os s1 => os.length ≤ line ∧ ∃ s2, asgO t (.lso (chO os)) s1 = some s2 ∧ WS T cl rest s2 P) : WS T cl (.seq (.asg t (.lst es)) rest) s P := by
  obtain ⟨os, s1, h1, hl, s2, h2, h3⟩ := k
  unfold WS at h3 ⊢
  have hu : upk t (.lst es) = none := by cases t <;> rfl
  have hf : freshV T t (.lst es) s = none := by cases t <;> rfl
  simp only [vS, hu, hf, vX, hd, if_true, lsoR, h1, VRes.bind, hl, vth, h2, onx]
  exact h3
/-- .. a list of fresh lists -/
theorem s_asgF {p : Nat × List (List D)} (hu : upk t e = none) (hf : freshV T t e s = some p) (k : WS T cl rest (s.set p.1 (some (.lso (chO (p.2.map .lst))))) P) : WS T cl (.seq (.asg t e) rest) s P := by
  unfold WS at k ⊢
  simp only [vS, hu, hf]
  exact k
theorem s_par {is : List Nat} (k : WO T cl as s fun os s1 => ∃ s2, setV is os s1 = some s2 ∧ WS T cl rest s2 P) : WS T cl (.seq (.par is as) rest) s P := by
  obtain ⟨o, s1, h1, s2, h2, h3⟩ := k
  unfold WS at h3 ⊢
  simp only [vS, h1, vth, h2, onx]
  exact h3
theorem s_ex (k : WE T cl e s fun _ s1 => WS T cl rest s1 P) : WS T cl (.seq (.ex e) rest) s P := by
  obtain ⟨o, s1, h1, h3⟩ := k
  unfold WS at h3 ⊢
  simp only [vS, h1, vth]
  exact h3
def noVar : E → Bool
  | .var _ => false
  | _ => true
theorem s_ret (hn : noVar e = true) (k : WE T cl e s fun o s1 => P (.rt o s1)) : WS T cl (.seq (.ret e) rest) s P := by
  obtain ⟨o, s1, h1, h3⟩ := k
  unfold WS
  cases e <;> first | (cases hn; done) | (simp only [vS, h1, vth]; exact h3)
theorem s_retS {d : D} (h : slotO s i = some (.sh d)) (k : P (.rt (.sh d) s)) : WS T cl (.seq (.ret (.var i)) rest) s P := by
  unfold WS
  simp only [vS, h]
  exact k
theorem s_retO {o : Ow} (h : slotO s i = some o) (hn : isSh o = false) (k : P (.rt o (s.set i none))) : WS T cl (.seq (.ret (.var i)) rest) s P := by
  unfold WS
  cases o <;> first | (cases hn; done) | (simp only [vS, h]; exact k)
theorem s_ite (k : WE T cl c s fun o s1 => ∃ w, o = .sh (.bl w) ∧ (w = true → WS T cl (.seq x rest) s1 P) ∧ (w = false → WS T cl (.seq y rest) s1 P)) : WS T cl (.seq (.ite c x y) rest) s P := by
  obtain ⟨o, s1, h1, w, rfl, h2, h3⟩ := k
  unfold WS at h2 h3 ⊢
  cases w with
  | true =>
    have := h2 rfl
    simp only [vS, h1, vth, asB, VRes.bind] at this ⊢
    exact this
  | false =>
    have := h3 rfl
    simp only [vS, h1, vth, asB, VRes.bind] at this ⊢
    exact this
theorem s_for (J : List D → VEnv → Prop) (k : WI T cl it (frzI it s) fun xs fl s1 => fl = false ∧ J xs s1) (hs : ∀ z zs s, J (z :: zs) s → ∃ s1, asgV t z s = some s1 ∧ WS T cl x s1 fun r => match r with
      | .nx s2 => J zs s2
      | .rt o s2 => P (.rt o s2)
      | _ => False) (he : ∀ s, J [] s → WS T cl rest s P) (hl : lendP t it x s = none := by rfl) : WS T cl (.seq (.for_ t it x) rest) s P := by
  obtain ⟨⟨xs, fl⟩, s1, h1, h2, h3⟩ := k
  have h2 : fl = false := h2
  subst h2
  unfold WS at he ⊢
  simp only [vS, hl, h1, vth]
  rw [if_neg (by simp)]
  have key : ∀ (xs : List D) (s1 : VEnv), J xs s1 → (∃ s2, forV t (vS T cl x) xs s1 = .nx s2 ∧ J [] s2) ∨ (∃ o s2, forV t (vS T cl x) xs s1 = .rt o s2 ∧ P (.rt o s2)) := by
    intro xs
    induction xs with
    | nil => intro s1 h; exact .inl ⟨s1, rfl, h⟩
    | cons z zs ih =>
      intro s1 h
      obtain ⟨s2, g1, g2⟩ := hs z zs s1 h
      unfold WS at g2
      unfold forV
      rw [g1]
      dsimp only
      revert g2
      cases vS T cl x s2 with
      | nx s3 => exact fun g2 => ih s3 g2
      | rt o s3 => exact fun g2 => .inr ⟨o, s3, rfl, g2⟩
      | bk s3 => exact fun g2 => g2.elim
      | ct s3 => exact fun g2 => g2.elim
      | exc c s3 => exact fun g2 => g2.elim
      | bad => exact fun g2 => g2.elim
  rcases key xs s1 h3 with ⟨s2, g1, g2⟩ | ⟨o, s2, g1, g2⟩
  · rw [g1]; exact he s2 g2
  · rw [g1]; exact g2
/-- each owned thing of a list is lent -/
def WL (T : Tx) (cl : Nat → List Ow → CRes) (j : Nat) (e : E) (os done : List Ow) (s : VEnv) (Q : List Ow → VEnv → Prop) : Prop := ∃ d s1, lendV j (vE T cl e) os done s = some (d, s1) ∧ Q d s1
theorem l_nil {j : Nat} {done : List Ow} {Q : List Ow → VEnv → Prop} (k : Q done s) : WL T cl j e [] done s Q := ⟨_, _, rfl, k⟩
theorem l_cons {j : Nat} {o : Ow} {os done : List Ow} {Q : List Ow → VEnv → Prop} (k : WE T cl e (s.set j (some o)) fun _ s1 => ∃ o', slotO s1 j = some o' ∧ WL T cl j e os (done ++ [o']) (s1.set j none) Q) : WL T cl j e (o :: os) done s Q := by
  obtain ⟨w, s1, h1, o', h2, d, s2, h3, h4⟩ := k
  exact ⟨d, s2, by unfold lendV; rw [h1]; dsimp only; rw [h2]; exact h3, h4⟩
theorem s_lend {p : Nat × Nat × E × Ow} (hp : lendP t it x s = some p) (hj : p.2.1 < s.length) (k : WL T cl p.2.1 p.2.2.1 (unch p.2.2.2) [] ((s.set p.1 none).set p.2.1 none) fun d s1 => WS T cl rest (s1.set p.1 (some (.lso (chO d)))) P) : WS T cl (.seq (.for_ t it x) rest) s P := by
  obtain ⟨d, s1, h1, h2⟩ := k
  unfold WS at h2 ⊢
  simp only [vS, hp, lendS]
  rw [if_pos hj, h1]
  exact h2
/-- a while by a measure below the fuel -/
theorem s_while (J : Nat → VEnv → Prop) (n : Nat) (hn : n < wfuel) (h0 : J n s) (hs : ∀ n s, J n s → WE T cl c s fun o s1 => ∃ w, o = .sh (.bl w) ∧ (w = true → WS T cl x s1 fun r => match r with
      | .nx s2 => ∃ m, m < n ∧ J m s2
      | .rt o s2 => P (.rt o s2)
      | _ => False) ∧ (w = false → WS T cl rest s1 P)) : WS T cl (.seq (.while_ c x) rest) s P := by
  unfold WS
  simp only [vS]
  have key : ∀ (k n : Nat) (s : VEnv), n < k → J n s → (∃ s1, whileV (fun s => asB (vE T cl c s)) (vS T cl x) k s = .nx s1 ∧ WS T cl rest s1 P) ∨ (∃ o s2, whileV (fun s => asB (vE T cl c s)) (vS T cl x) k s = .rt o s2 ∧ P (.rt o s2)) := by
    intro k
    induction k with
    | zero => intro n s h; omega
    | succ k ih =>
      intro n s hk hJ
      obtain ⟨o, s1, g1, w, rfl, g2, g3⟩ := hs n s hJ
      unfold whileV
      simp only [asB, g1, VRes.bind]
      cases w with
      | false => exact .inl ⟨s1, rfl, g3 rfl⟩
      | true =>
        have g2 := g2 rfl
        unfold WS at g2
        dsimp only
        revert g2
        cases vS T cl x s1 with
        | nx s3 =>
          rintro ⟨m, hm, hJ'⟩
          exact ih m s3 (by omega) hJ'
        | rt o s3 => exact fun g2 => .inr ⟨o, s3, rfl, g2⟩
        | bk s3 => exact fun g2 => g2.elim
        | ct s3 => exact fun g2 => g2.elim
        | exc c s3 => exact fun g2 => g2.elim
        | bad => exact fun g2 => g2.elim
  rcases key wfuel n s hn h0 with ⟨s2, g1, g2⟩ | ⟨o, s2, g1, g2⟩
  · rw [g1]; unfold WS at g2; exact g2
  · rw [g1]; exact g2
theorem s_setf {q : Nat × List Nat} {o : E} (h : pathOf o = some q) (k : WE T cl e s fun v s1 => ∃ c fs s2, readP T s1 q = some (.ins c fs) ∧ T.fl c f = true ∧ lenO fs < 900 ∧ writeP T s1 q (.ins c (putO f v fs)) = some s2 ∧ WS T cl rest s2 P) : WS T cl (.seq (.setf o f e) rest) s P := by
  obtain ⟨v, s1, h1, c, fs, s2, h2, h3, h4, h5, h6⟩ := k
  unfold WS at h6 ⊢
  simp only [vS, h1, vth, h, h2]
  rw [if_pos ⟨h3, h4⟩, h5]
  exact h6
theorem s_augf {q : Nat × List Nat} {o : E} {k : Int} {c : Nat} {fs : Ow} {i : Int} {s2 : VEnv} (h : pathOf o = some q) (h2 : readP T s q = some (.ins c fs)) (h3 : lookO f fs = some (.sh (.int i))) (h4 : T.fl c f = true) (h5 : lenO fs < 900) (h6 : writeP T s q (.ins c (putO f (.sh (.int (i + k))) fs)) = some s2) (k' : WS T cl rest s2 P) : WS T cl (.seq (.augf o f k) rest) s P := by
  unfold WS at k' ⊢
  simp only [vS, h, h2, h3]
  rw [if_pos ⟨h4, h5⟩, h6]
  exact k'
theorem s_setiL {q : Nat × List Nat} {o i : E} (hq : quiet i = true) (h : pathOf o = some q) (k : WE T cl e s fun v s1 => (readP T s1 q).isSome = true ∧ WB T cl i s1 fun y s2 => ∃ n xs j s3, y = .int n ∧ readP T s2 q = some (.lst xs) ∧ ixN xs.length n = some j ∧ writeP T s2 q (.lst (xs.set j (frz v))) = some s3 ∧ WS T cl rest s3 P) : WS T cl (.seq (.seti o i e) rest) s P := by
  obtain ⟨v, s1, h1, h2, y, s2, h3, n, xs, j, s3, rfl, h4, h5, h6, h7⟩ := k
  obtain ⟨ob, h2⟩ := Option.isSome_iff_exists.mp h2
  unfold WS at h7 ⊢
  simp only [vS, hq, h1, vth, h, Option.bind, h2, Option.map, h3, h4, h5, h6, onx, Bool.not_true, Bool.false_eq_true, if_false]
  exact h7
theorem s_setiD {q : Nat × List Nat} {o i : E} (hq : quiet i = true) (h : pathOf o = some q) (k : WE T cl e s fun v s1 => (readP T s1 q).isSome = true ∧ WB T cl i s1 fun y s2 => ∃ n xs s3, y = .int n ∧ readP T s2 q = some (.dct xs) ∧ xs.length < line ∧ writeP T s2 q (.dct (dput n (frz v) xs)) = some s3 ∧ WS T cl rest s3 P) : WS T cl (.seq (.seti o i e) rest) s P := by
  obtain ⟨v, s1, h1, h2, y, s2, h3, n, xs, s3, rfl, h4, h5, h6, h7⟩ := k
  obtain ⟨ob, h2⟩ := Option.isSome_iff_exists.mp h2
  unfold WS at h7 ⊢
  simp only [vS, hq, h1, vth, h, Option.bind, h2, Option.map, h3, h4, h5, if_true, h6, onx, Bool.not_true, Bool.false_eq_true, if_false]
  exact h7
end
/-! ### calls of a def -/
/-- the end of a def's body -/
def selfB (k0 : Bool) (s : VEnv) : Option Ow := if k0 then slotO s 0 else none
def EndF (k0 : Bool) (Q : Ow → Option Ow → Prop) : VFl → Prop
  | .nx s => Q (.sh .non) (selfB k0 s)
  | .rt o s => Q o (selfB k0 s)
  | _ => False
theorem run_def {T : Tx} {ov : Nat → Nat → Option (List Ow → CRes)} {d f np n : Nat} {b : Sm} {as : List Ow} {Q : Ow → Option Ow → Prop} (k0 : Bool) (hov : ov d f = none) (hf : T.fn f = some (np, n, b)) (hl : as.length = np) (hk : keeps0 b = k0) (k : WS T (vrun T ov d) b (vstart n as) (EndF k0 Q)) : ∃ o self, vrun T ov (d + 1) f as = .ok o self ∧ Q o self := by
  unfold vrun
  rw [hov]
  dsimp only
  rw [hf]
  dsimp only
  rw [if_pos hl]
  unfold WS at k
  have e : ∀ s, selfOf b s = selfB k0 s := fun s => by unfold selfOf selfB; rw [hk]
  simp only [e]
  revert k
  cases vS T (vrun T ov d) b (vstart n as) with
  | nx s => exact fun k => ⟨_, _, rfl, k⟩
  | rt o s => exact fun k => ⟨_, _, rfl, k⟩
  | bk s => exact fun k => k.elim
  | ct s => exact fun k => k.elim
  | exc c s => exact fun k => k.elim
  | bad => exact fun k => k.elim
end Vl
end

section
set_option linter.all false
/-! Vs0: statements by what they do to the store: a body may be run in parts, a part may run with all slots frozen. -/
namespace Vl
open PySem Ev
section
variable {T : Tx} {clv : Nat → List Ow → CRes} {clh : Nat → List Va → Sto → Res Va} {S S1 S2 S' : Sto} {A : Set'} {r r1 r2 : Rho} {s s1 s2 : VEnv} {Fs Fs1 Fs2 : Nat → List Nat}
/-- b, run from slots s, ends as f -/
def HS (T : Tx) (clh : Nat → List Va → Sto → Res Va) (b : Sm) (s : VEnv) (f : VFl) : Prop := ∀ {S : Sto} {A : Set'} {r : Rho} {Fs : Nat → List Nat}, Inv S A r s Fs → SimS (keeps0 b) S A r s Fs f (evS T clh b r S)
theorem HS.of (hc : ∀ f, CallOk (clv f) (clh f)) (b : Sm) (s : VEnv) : HS T clh b s (vS T clv b s) := fun I => s_ok hc b I
theorem HS.seq {a b : Sm} {f : VFl} (h1 : HS T clh a s (.nx s1)) (h2 : HS T clh b s1 f) : HS T clh (.seq a b) s f := fun {S A r Fs} I => by
  obtain ⟨r2, S2, Fs2, e2, o1⟩ := (h1 I).weakK (k0 := keeps0 a && keeps0 b) fun h => by rw [Bool.and_eq_true] at h; exact h.1
  simp only [evS, e2]
  show SimS (keeps0 a && keeps0 b) _ _ _ _ _ _ _
  exact ((h2 o1.inv).weakK fun h => by rw [Bool.and_eq_true] at h; exact h.2).after o1
theorem HS.seqR {a b : Sm} {o : Ow} (h1 : HS T clh a s (.rt o s1)) : HS T clh (.seq a b) s (.rt o s1) := fun {S A r Fs} I => by
  obtain ⟨v, r2, S2, Fs2, Fo, e2, o1, R⟩ := (h1 I).weakK (k0 := keeps0 a && keeps0 b) fun h => by rw [Bool.and_eq_true] at h; exact h.1
  simp only [evS, e2]
  exact ⟨v, r2, S2, Fs2, Fo, rfl, o1, R⟩
/-! ### the slots that a statement stores -/
def tgS : Tg → List Nat
  | .nm i => [i]
  | .nil => []
  | .cons a b => tgS a ++ tgS b
  | .tup t => tgS t
def asgd : Sm → List Nat
  | .seq a b => asgd a ++ asgd b
  | .asg t _ => tgS t
  | .par is _ => is
  | .ite _ a b => asgd a ++ asgd b
  | .for_ t _ b => tgS t ++ asgd b
  | .while_ _ b => asgd b
  | .tryA _ _ _ x k _ => [x, k]
  | _ => []
/-- as long, and the same but at W -/
def Kp (W : List Nat) (r1 r : Rho) : Prop := r1.length = r.length ∧ ∀ i, i ∉ W → r1[i]? = r[i]?
theorem Kp.refl {W : List Nat} : Kp W r r := ⟨rfl, fun _ _ => rfl⟩
theorem Kp.trans {W : List Nat} (a : Kp W r2 r1) (b : Kp W r1 r) : Kp W r2 r := ⟨a.1.trans b.1, fun i hi => (a.2 i hi).trans (b.2 i hi)⟩
theorem Kp.mono {W W' : List Nat} (h : Kp W r1 r) (hW : ∀ i, i ∈ W → i ∈ W') : Kp W' r1 r := ⟨h.1, fun i hi => h.2 i fun z => hi (hW i z)⟩
theorem asgT_keep (t : Tg) : (∀ v r r1, asgT S t v r = some r1 → Kp (tgS t) r1 r) ∧ (∀ vs r r1, asgTs S t vs r = some r1 → Kp (tgS t) r1 r) := by
  induction t with
  | nm j =>
    refine ⟨fun v r r1 h => ?_, fun vs r r1 h => ?_⟩
    · simp only [asgT] at h
      cases h
      exact ⟨by simp, fun i hi => List.getElem?_set_ne fun e => hi (by rw [← e]; simp [tgS])⟩
    · cases vs <;> (simp only [asgTs] at h; cases h)
  | nil =>
    refine ⟨fun v r r1 h => ?_, fun vs r r1 h => ?_⟩
    · simp only [asgT] at h; cases h
    · cases vs with
      | nil => simp only [asgTs] at h; cases h; exact Kp.refl
      | cons x xs => simp only [asgTs] at h; cases h
  | cons a b iha ihb =>
    refine ⟨fun v r r1 h => ?_, fun vs r r1 h => ?_⟩
    · simp only [asgT] at h; cases h
    · cases vs with
      | nil => simp only [asgTs] at h; cases h
      | cons x xs =>
        simp only [asgTs] at h
        cases e : asgT S a x r with
        | none => rw [e] at h; cases h
        | some r0 =>
          rw [e] at h
          exact ((ihb.2 _ _ _ h).mono fun i z => List.mem_append_right _ z).trans ((iha.1 _ _ _ e).mono fun i z => List.mem_append_left _ z)
  | tup t ih =>
    refine ⟨fun v r r1 h => ?_, fun vs r r1 h => ?_⟩
    · simp only [asgT] at h
      cases e : getT S v with
      | none => rw [e] at h; cases h
      | some xs => rw [e] at h; exact ih.2 _ _ _ h
    · cases vs <;> (simp only [asgTs] at h; cases h)
theorem setAll_keep : ∀ {is : List Nat} {vs : List Va} {r r1 : Rho}, setAll is vs r = some r1 → Kp is r1 r
  | [], [], r, r1, h => by simp only [setAll] at h; cases h; exact Kp.refl
  | [], _ :: _, r, r1, h => by simp only [setAll] at h; cases h
  | _ :: _, [], r, r1, h => by simp only [setAll] at h; cases h
  | j :: is, v :: vs, r, r1, h => by
    simp only [setAll] at h
    refine ((setAll_keep h).mono fun i z => List.mem_cons_of_mem _ z).trans ⟨by simp, fun i hi => List.getElem?_set_ne fun e => hi (by rw [e]; simp)⟩
def KeepF (W : List Nat) (r : Rho) : Fl → Prop
  | .nx r' _ => Kp W r' r
  | .bk r' _ => Kp W r' r
  | .ct r' _ => Kp W r' r
  | _ => True
theorem KeepF.mono {W W' : List Nat} {f : Fl} (h : KeepF W r f) (hW : ∀ i, i ∈ W → i ∈ W') : KeepF W' r f := by
  cases f <;> first | trivial | exact Kp.mono h hW
theorem KeepF.after {W : List Nat} {f : Fl} (h0 : Kp W r1 r) (h : KeepF W r1 f) : KeepF W r f := by
  cases f <;> first | trivial | exact Kp.trans h h0
theorem forL_keep {J : Iter} {t : Tg} {b : Rho → Sto → Fl} {W : List Nat} (hb : ∀ r S, KeepF W r (b r S)) (ht : ∀ i, i ∈ tgS t → i ∈ W) : ∀ (n i : Nat) (r : Rho) (S : Sto), KeepF W r (forL J t b n i r S)
  | 0, i, r, S => by simp only [forL]; trivial
  | n + 1, i, r, S => by
    simp only [forL]
    split
    · trivial
    · exact Kp.refl
    · rename_i v S1 _
      split
      · trivial
      · rename_i r1 e1
        have h0 : Kp W r1 r := ((asgT_keep t).1 _ _ _ e1).mono ht
        have h := hb r1 S1
        cases e2 : b r1 S1 with
        | nx r2 S2 => rw [e2] at h; exact KeepF.after (Kp.trans h h0) (forL_keep hb ht n (i + 1) r2 S2)
        | ct r2 S2 => rw [e2] at h; exact KeepF.after (Kp.trans h h0) (forL_keep hb ht n (i + 1) r2 S2)
        | bk r2 S2 => rw [e2] at h; exact Kp.trans h h0
        | exc c S2 => trivial
        | rt v S2 => trivial
        | bad => trivial
theorem whileL_keep {c : Rho → Sto → Res Va} {b : Rho → Sto → Fl} {W : List Nat} (hb : ∀ r S, KeepF W r (b r S)) : ∀ (n : Nat) (r : Rho) (S : Sto), KeepF W r (whileL c b n r S)
  | 0, r, S => by simp only [whileL]; trivial
  | n + 1, r, S => by
    simp only [whileL]
    split
    · rename_i S1 _
      have h := hb r S1
      cases e2 : b r S1 with
      | nx r2 S2 => rw [e2] at h; exact KeepF.after h (whileL_keep hb n r2 S2)
      | ct r2 S2 => rw [e2] at h; exact KeepF.after h (whileL_keep hb n r2 S2)
      | bk r2 S2 => rw [e2] at h; exact h
      | exc c S2 => trivial
      | rt v S2 => trivial
      | bad => trivial
    · exact Kp.refl
    · trivial
    · trivial
theorem th_keep {α : Type} {W : List Nat} {x : Res α} {k : α → Sto → Fl} (h : ∀ a S, KeepF W r (k a S)) : KeepF W r (thenS x k) := by
  cases x <;> first | exact h _ _ | trivial
theorem evS_keep (b : Sm) : ∀ (r : Rho) (S : Sto), KeepF (asgd b) r (evS T clh b r S) := by
  induction b with
  | skip => intro r S; simp only [evS]; exact Kp.refl
  | seq a b iha ihb =>
    intro r S
    simp only [evS]
    have h := (iha r S).mono (W' := asgd (.seq a b)) fun i z => List.mem_append_left _ z
    cases e : evS T clh a r S with
    | nx r1 S1 => rw [e] at h; exact KeepF.after h ((ihb r1 S1).mono fun i z => List.mem_append_right _ z)
    | ct r2 S2 => rw [e] at h; exact h
    | bk r2 S2 => rw [e] at h; exact h
    | exc c S2 => trivial
    | rt v S2 => trivial
    | bad => trivial
  | asg t e =>
    intro r S
    simp only [evS]
    refine th_keep fun v S1 => ?_
    split
    · rename_i r1 e1; exact (asgT_keep t).1 _ _ _ e1
    · trivial
  | par is as =>
    intro r S
    simp only [evS]
    refine th_keep fun v S1 => ?_
    split
    · rename_i r1 e1; exact setAll_keep e1
    · trivial
  | ex e => intro r S; simp only [evS]; exact th_keep fun v S1 => Kp.refl
  | ret e => intro r S; simp only [evS]; exact th_keep fun v S1 => trivial
  | ite c a b iha ihb =>
    intro r S
    simp only [evS]
    refine th_keep fun v S1 => ?_
    split
    · exact (iha r S1).mono fun i z => List.mem_append_left _ z
    · exact (ihb r S1).mono fun i z => List.mem_append_right _ z
    · trivial
  | for_ t it b ihb =>
    intro r S
    simp only [evS]
    exact th_keep fun J S1 => forL_keep (fun r S => (ihb r S).mono fun i z => List.mem_append_right _ z) (fun i z => List.mem_append_left _ z) _ _ _ _
  | while_ c b ihb =>
    intro r S
    simp only [evS]
    exact whileL_keep ihb _ _ _
  | setf o f e =>
    intro r S
    simp only [evS]
    refine th_keep fun v S1 => th_keep fun x S2 => ?_
    split
    · exact Kp.refl
    · trivial
  | augf o f k =>
    intro r S
    simp only [evS]
    refine th_keep fun v S1 => ?_
    split
    · split
      · exact Kp.refl
      · trivial
    · trivial
  | seti o i e =>
    intro r S
    simp only [evS]
    refine th_keep fun v S1 => th_keep fun x S2 => th_keep fun y S3 => ?_
    split
    · exact Kp.refl
    · trivial
  | raise c => intro r S; simp only [evS]; trivial
  | tryA i as c x k w =>
    intro r S
    simp only [evS]
    split
    · split
      · exact Kp.refl
      · split
        · split
          · split
            · refine ⟨by simp, fun i hi => ?_⟩
              have h1 : i ≠ x := fun z => hi (by rw [z]; simp [asgd])
              have h2 : i ≠ k := fun z => hi (by rw [z]; simp [asgd])
              rw [List.getElem?_set_ne (Ne.symm h1), List.getElem?_set_ne (Ne.symm h2)]
            · trivial
          · trivial
        · trivial
      · trivial
    · trivial
/-! ### a look: all is frozen, and as before behind it -/
def frzAll (s : VEnv) : VEnv := frzS s (List.range s.length)
theorem own_frzAll {l : Nat} (h : Own (frzAll s) (minusF Fs (List.range s.length)) l) : False := by
  obtain ⟨i, z⟩ := own_has.mp h
  obtain ⟨z1, z2⟩ := HasF_frz z
  obtain ⟨o, e⟩ := Option.isSome_iff_exists.mp z2.1
  exact z1 (List.mem_range.mpr (slot_lt e))
theorem HS.look {a : Sm} (h : HS T clh a (frzAll s) (.nx s1)) : HS T clh a s (.nx (wipeV s (asgd a))) := fun {S A r Fs} I => by
  obtain ⟨r2, S2, Fs2, e2, o⟩ := h (I.frz (List.range s.length))
  have fr : Fr S S2 (fun _ => False) := o.fr.mono fun l _ z => own_frzAll z
  have hk := evS_keep (T := T) (clh := clh) a r S
  rw [e2] at hk
  have hl : r2.length = r.length := hk.1
  refine ⟨r2, S2, Fs, e2, ⟨fr.mono fun _ _ z => z.elim, ?_, fun l z => ?_, o.kp⟩⟩
  · have I1 : Inv S A r2 (wipeV s (asgd a)) Fs := I.wipe hl (fun i hi => hk.2 i hi) fun l z => .inl z
    exact I1.move fr (fun _ z => z.elim) (fun l _ z => z) (fun l z => Nat.lt_of_lt_of_le (I.old l z) fr.len)
  · obtain ⟨i, z⟩ := own_has.mp z
    exact .inl (own_has.mpr ⟨i, (HasF_wipe z).2⟩)
theorem HS.frz {a : Sm} {f : VFl} (B : List Nat) (h : HS T clh a (frzS s B) f) : HS T clh a s f := fun {S A r Fs} I => by
  have o0 : OutS (keeps0 a) S A r s Fs S r (frzS s B) (minusF Fs B) := ⟨Fr.refl, I.frz B, fun l z => by
    obtain ⟨i, z⟩ := own_has.mp z
    exact .inl (own_has.mpr ⟨i, (HasF_frz z).2⟩), fun _ => rfl⟩
  exact (h (I.frz B)).after o0
end
end Vl
end

section
set_option linter.all false
/-! Vs1: loops, rules, calls by what a body does to the store. -/
namespace Vl
open PySem Ev
section
variable {T : Tx} {clv : Nat → List Ow → CRes} {clh : Nat → List Va → Sto → Res Va} {S S1 S2 S' : Sto} {A : Set'} {r r1 r2 : Rho} {s s1 s2 : VEnv} {Fs Fs1 Fs2 : Nat → List Nat}
/-- the turns of a for over xs -/
def HFor (T : Tx) (clh : Nat → List Va → Sto → Res Va) (t : Tg) (b : Sm) (xs : List D) (s : VEnv) (f : VFl) : Prop := ∀ {n i : Nat} {S : Sto} {A : Set'} {r : Rho} {Fs : Nat → List Nat} {J : Iter} {xs0 : List D}, xs0.drop i = xs → xs0.length - i < n → Inv S A r s Fs → SrcI S (UA A s Fs) J xs0 → (∀ l ∈ srcs J, ¬ Own s Fs l) → SimS (tgK t && keeps0 b) S A r s Fs f (forL J t (evS T clh b) n i r S)
theorem HFor.nil {t : Tg} {b : Sm} : HFor T clh t b [] s (.nx s) := fun {n i S A r Fs J xs0} hd hn I K hq => by
  cases n with
  | zero => omega
  | succ n =>
    have ex : xs0[i]? = none := by
      rw [List.getElem?_eq_none_iff]
      exact List.drop_eq_nil_iff.mp hd
    simp only [forL, K.stop ex]
    exact ⟨r, S, Fs, rfl, OutS.refl I⟩
theorem HFor.step {t : Tg} {b : Sm} {x : D} {xs : List D} (ea : asgV t x s = some s1) {fb f : VFl} (hb : HS T clh b s1 fb) (hgo : (∃ s2, fb = .nx s2 ∧ HFor T clh t b xs s2 f) ∨ (∃ o s2, fb = .rt o s2 ∧ f = .rt o s2)) : HFor T clh t b (x :: xs) s f := fun {n i S A r Fs J xs0} hd hn I K hq => by
  cases n with
  | zero => omega
  | succ n =>
    have hO : ∀ l, UA A s Fs l → l < S.length := fun l z => by
      rcases z with z | z
      · exact I.old l z
      · exact I.lt z
    have hi : i < xs0.length := by
      rcases Nat.lt_or_ge i xs0.length with h | h
      · exact h
      · rw [List.drop_eq_nil_of_le h] at hd; cases hd
    have hd2 := hd
    rw [List.drop_eq_getElem_cons hi] at hd2
    have ex : xs0[i]? = some x := by
      rw [List.getElem?_eq_getElem hi]
      exact congrArg some (List.cons.inj hd2).1
    have hd3 : xs0.drop (i + 1) = xs := (List.cons.inj hd2).2
    simp only [forL]
    obtain ⟨v, X, e1, k1⟩ := K.next hO ex
    rw [e1]
    dsimp only
    have I0 : Inv (S ++ X) A r s Fs := Out.alloc1 (q := true) I
    obtain ⟨r1, Fs1, g1, g2, g3, g4, _⟩ := asgV_ok (own := []) t I0 k1 ea
    rw [g1]
    dsimp only
    have o0 : OutS (tgK t && keeps0 b) S A r s Fs (S ++ X) r1 s1 Fs1 := ⟨Fr.new, g2, fun l z => .inl (g3.own z), fun h => g4 (by rw [Bool.and_eq_true] at h; exact h.1)⟩
    have hb := (hb g2).weakK (k0 := tgK t && keeps0 b) fun h => by rw [Bool.and_eq_true] at h; exact h.2
    rcases hgo with ⟨s2, rfl, hF⟩ | ⟨o, s2, rfl, rfl⟩
    · obtain ⟨r2, S2, Fs2, e2, o1⟩ := hb
      rw [e2]
      have o2 := o0.trans o1
      refine (hF (n := n) (i := i + 1) hd3 (by omega) o2.inv (K.move o2.fr (fun l z => .inr z) (fun l hl z => ?_) hq) (fun l hl z => ?_)).after o2
      · rcases z with z | z
        · exact .inl z
        · rcases o2.n2 l z with w | w
          · exact .inr w
          · omega
      · rcases o2.n2 l z with w | w
        · exact hq l hl w
        · have := K.lt l hl; omega
    · obtain ⟨v, r2, S2, Fs2, Fo, e2, o1, R⟩ := hb
      rw [e2]
      exact ⟨v, r2, S2, Fs2, Fo, rfl, o0.transR o1, R⟩
theorem HS.for_ (hc : ∀ f, CallOk (clv f) (clh f)) {t : Tg} {it : E} {b : Sm} {p : List D × Bool} {f : VFl} (hi : vI T clv it (frzI it s) = .ok p s1) (hp : p.2 = false) (hF : HFor T clh t b p.1 s1 f) : HS T clh (.for_ t it b) s f := fun {S A r Fs} I => by
  simp only [evS]
  obtain ⟨B, e⟩ := frzI_is it s
  rw [e] at hi
  have I1 := I.frz B
  have o0 : OutS (keeps0 (.for_ t it b)) S A r s Fs S r (frzS s B) (minusF Fs B) := ⟨Fr.refl, I1, fun l z => by
    obtain ⟨i, z⟩ := own_has.mp z
    exact .inl (own_has.mpr ⟨i, (HasF_frz z).2⟩), fun _ => rfl⟩
  refine SimS.after o0 ?_
  have ihi := (e_ok (T := T) hc it).2.2.2.1 I1
  rw [hi] at ihi
  obtain ⟨J, S1, Fs1, F1, e1, o, R⟩ := ihi
  rw [e1]
  show SimS _ _ _ _ _ _ f (forL J t (evS T clh b) (lenI J S1 + 1) 0 r S1)
  have hf := R.2 hp
  have h := hF (A := fun l => A l ∨ l ∈ F1) (n := lenI J S1 + 1) (i := 0) (J := J) (xs0 := p.1) (by simp) (by have := R.1.len; omega) o.inv R.1 hf
  have o1 : OutS (tgK t && keeps0 b) S A r (frzS s B) (minusF Fs B) S1 r s1 Fs1 := o.toS
  have wk : ∀ {S2 : Sto} {r2 : Rho} {s2 : VEnv} {Fs2 : Nat → List Nat}, OutS (tgK t && keeps0 b) S1 (fun l => A l ∨ l ∈ F1) r s1 Fs1 S2 r2 s2 Fs2 → OutS (tgK t && keeps0 b) S A r (frzS s B) (minusF Fs B) S2 r2 s2 Fs2 := fun o2 =>
    o1.trans ⟨o2.fr, o2.inv.move (W := fun _ => False) Fr.refl (fun _ z => z.elim) (fun l _ z => .inl z) (fun l z => o2.inv.old l (.inl z)), o2.n2, o2.kp⟩
  revert h
  show SimS (tgK t && keeps0 b) _ _ _ _ _ _ _ → SimS (tgK t && keeps0 b) _ _ _ _ _ _ _
  cases f with
  | bad => exact fun _ => trivial
  | nx s2 => rintro ⟨r2, S2, Fs2, e2, o2⟩; exact ⟨r2, S2, Fs2, e2, wk o2⟩
  | ct s2 => rintro ⟨r2, S2, Fs2, e2, o2⟩; exact ⟨r2, S2, Fs2, e2, wk o2⟩
  | bk s2 => rintro ⟨r2, S2, Fs2, e2, o2⟩; exact ⟨r2, S2, Fs2, e2, wk o2⟩
  | exc c s2 => rintro ⟨r2, S2, Fs2, e2, o2⟩; exact ⟨r2, S2, Fs2, e2, wk o2⟩
  | rt w s2 =>
    rintro ⟨v, r2, S2, Fs2, Fo, e2, o2, R2⟩
    refine ⟨v, r2, S2, Fs2, Fo, e2, o1.transR ⟨o2.fr, o2.inv.move (W := fun _ => False) Fr.refl (fun _ z => z.elim) (fun l _ z => ?_) (fun l z => ?_), o2.n2, o2.kp, o2.nd, fun l z w => o2.av l z (.inl w), o2.n1⟩, R2.weak fun l z => ?_⟩
    · rcases z with z | z
      · exact .inl (.inl z)
      · exact .inr z
    · rcases z with z | z
      · exact o2.inv.old l (.inl (.inl z))
      · exact o2.inv.old l (.inr z)
    · rcases z with (z | z) | z
      · exact .inl (.inl (.inl z))
      · exact .inl (.inr z)
      · exact .inr z
theorem frzAll_eq (s : VEnv) : frzAll s = s.map (fun x => x.map fun o => .sh (frz o)) := by
  apply List.ext_getElem?
  intro j
  have g : ∀ t : VEnv, j < t.length → t[j]? = some (slotO t j) := fun t ht => by
    unfold slotO
    rw [List.getElem?_eq_getElem ht]
    rfl
  by_cases h : j < s.length
  · rw [g _ (by unfold frzAll; rw [frzS_len]; exact h)]
    unfold frzAll
    rw [frzS_slot, if_pos (List.mem_range.mpr h), List.getElem?_map, g s h]
    rfl
  · rw [List.getElem?_eq_none (by unfold frzAll; rw [frzS_len]; omega), List.getElem?_eq_none (by rw [List.length_map]; omega)]
/-! ### rules -/
@[irreducible] def WR (T : Tx) (clh : Nat → List Va → Sto → Res Va) (b : Sm) (s : VEnv) (P : VFl → Prop) : Prop := ∃ f, HS T clh b s f ∧ P f
/-- the end of a part: on with the rest, or returned -/
def OnR (K : VEnv → Prop) (P : VFl → Prop) : VFl → Prop
  | .nx s1 => K s1
  | .rt o s1 => P (.rt o s1)
  | _ => False
variable {P : VFl → Prop} {x y z rest a : Sm}
theorem HS.skipR {f : VFl} (h : HS T clh (.seq a .skip) s f) : HS T clh a s f := fun {S A r Fs} I => by
  have h := h I
  have e : evS T clh (.seq a .skip) r S = evS T clh a r S := by
    simp only [evS]
    cases evS T clh a r S <;> rfl
  rw [e] at h
  exact h.weakK fun q => by show (keeps0 a && true) = true; rw [q]; rfl
theorem r_of (hc : ∀ f, CallOk (clv f) (clh f)) (k : WS T clv a s P) : WR T clh a s P := by
  unfold WS at k
  unfold WR
  exact ⟨_, HS.of hc a s, k⟩
theorem r_seq (k : WR T clh a s (OnR (fun s1 => WR T clh rest s1 P) P)) : WR T clh (.seq a rest) s P := by
  unfold WR at k ⊢
  obtain ⟨f, h1, h2⟩ := k
  cases f with
  | nx s1 =>
    obtain ⟨f2, h3, h4⟩ := (show ∃ f, HS T clh rest s1 f ∧ P f from h2)
    exact ⟨f2, h1.seq h3, h4⟩
  | rt o s1 => exact ⟨_, h1.seqR, h2⟩
  | bk s1 => exact h2.elim
  | ct s1 => exact h2.elim
  | exc c s1 => exact h2.elim
  | bad => exact h2.elim
/-- one statement by the evaluator by values -/
theorem r_cut (hc : ∀ f, CallOk (clv f) (clh f)) (k : WS T clv (.seq x .skip) s (OnR (fun s1 => WR T clh rest s1 P) P)) : WR T clh (.seq x rest) s P := by
  refine r_seq ?_
  have := r_of hc k
  unfold WR at this ⊢
  obtain ⟨f, h1, h2⟩ := this
  exact ⟨f, h1.skipR, h2⟩
/-- a part that looks: all is frozen in it, and behind it as before, but for the slots that it stores -/
theorem r_look (hc : ∀ f, CallOk (clv f) (clh f)) (k : WS T clv (.seq x .skip) (frzAll s) (OnR (fun _ => WR T clh rest (wipeV s (asgd x)) P) P)) : WR T clh (.seq x rest) s P := by
  refine r_seq ?_
  have := r_of hc k
  unfold WR at this ⊢
  obtain ⟨f, h1, h2⟩ := this
  have h1 : HS T clh x (frzAll s) f := h1.skipR
  cases f with
  | nx s1 => exact ⟨_, h1.look, h2⟩
  | rt o s1 => exact ⟨_, HS.frz _ h1, h2⟩
  | bk s1 => exact h2.elim
  | ct s1 => exact h2.elim
  | exc c s1 => exact h2.elim
  | bad => exact h2.elim
theorem r_assoc (k : WR T clh (.seq (.seq x y) z) s P) : WR T clh (.seq x (.seq y z)) s P := by
  unfold WR at k ⊢
  obtain ⟨f, h, h2⟩ := k
  refine ⟨f, fun {S A r Fs} I => ?_, h2⟩
  have h := h I
  have e : evS T clh (.seq (.seq x y) z) r S = evS T clh (.seq x (.seq y z)) r S := by
    simp only [evS]
    cases evS T clh x r S <;> rfl
  rw [e] at h
  exact h.weakK fun q => by
    have q : (keeps0 x && (keeps0 y && keeps0 z)) = true := q
    show ((keeps0 x && keeps0 y) && keeps0 z) = true
    rw [Bool.and_assoc]
    exact q
theorem r_end (k : P (.nx s)) : WR T clh .skip s P := by
  unfold WR
  refine ⟨.nx s, fun {S A r Fs} I => ?_, k⟩
  simp only [evS]
  exact ⟨r, S, Fs, rfl, OutS.refl I⟩
theorem r_for (hc : ∀ f, CallOk (clv f) (clh f)) {t : Tg} {it : E} (J : List D → VEnv → Prop) (k : WI T clv it (frzI it s) fun xs fl s1 => fl = false ∧ J xs s1) (hs : ∀ z zs s, J (z :: zs) s → ∃ s1, asgV t z s = some s1 ∧ WR T clh x s1 (OnR (fun s2 => J zs s2) P)) (he : ∀ s, J [] s → WR T clh rest s P) : WR T clh (.seq (.for_ t it x) rest) s P := by
  obtain ⟨p, s1, h1, h2, h3⟩ := k
  have key : ∀ (xs : List D) (s1 : VEnv), J xs s1 → ∃ f, HFor T clh t x xs s1 f ∧ ((∃ s2, f = .nx s2 ∧ J [] s2) ∨ (∃ o s2, f = .rt o s2 ∧ P (.rt o s2))) := by
    intro xs
    induction xs with
    | nil => intro s1 h; exact ⟨_, HFor.nil, .inl ⟨s1, rfl, h⟩⟩
    | cons z zs ih =>
      intro s1 h
      obtain ⟨s2, g1, g2⟩ := hs z zs s1 h
      unfold WR at g2
      obtain ⟨f, g3, g4⟩ := g2
      cases f with
      | nx s3 =>
        obtain ⟨f2, k1, k2⟩ := ih s3 g4
        exact ⟨f2, HFor.step g1 g3 (.inl ⟨s3, rfl, k1⟩), k2⟩
      | rt o s3 => exact ⟨_, HFor.step g1 g3 (.inr ⟨o, s3, rfl, rfl⟩), .inr ⟨o, s3, rfl, g4⟩⟩
      | bk s3 => exact g4.elim
      | ct s3 => exact g4.elim
      | exc c s3 => exact g4.elim
      | bad => exact g4.elim
  obtain ⟨f, k1, k2⟩ := key _ _ h3
  have hF : HS T clh (.for_ t it x) s f := HS.for_ hc h1 h2 k1
  refine r_seq ?_
  unfold WR
  refine ⟨f, hF, ?_⟩
  rcases k2 with ⟨s2, rfl, k2⟩ | ⟨o, s2, rfl, k2⟩
  · have := he s2 k2
    unfold WR at this
    exact this
  · exact k2
/-! ### a call -/
theorem body_hs {n : Nat} {b : Sm} {os : List Ow} {o0 : Ow} {s2 : VEnv} (hb : HS T clh b (vstart n os) (.rt o0 s2)) {vs : List Va} {S : Sto} {A : Set'} {F : List Nat} (ci : CIn S A vs os F) : COk S A vs F (.ok o0 none) (match evS T clh b (Ev.start n vs) S with
      | .nx _ S1 => .ok .non S1
      | .rt v S1 => .ok v S1
      | .exc c S1 => .exc c S1
      | _ => .bad) := by
  obtain ⟨Fs, h1, h2, h3, h4⟩ := RepA.places ci.rep ci.nd
  have hown : ∀ l, Own (vstart n os) Fs l → l ∈ F := fun l z => by
    obtain ⟨i, o, e, k⟩ := z
    exact (h2 i o (vstart_slot e)).2 l k
  have I : Inv S A (Ev.start n vs) (vstart n os) Fs := by
    refine ⟨by simp [Ev.start, vstart, ci.rep.lens], fun i o e => ?_, fun i o e => (h2 i o (vstart_slot e)).1, fun i j o o' ne e1 e2 => h3 i j o o' ne (vstart_slot e1) (vstart_slot e2), fun l z => ci.av l (hown l z), ci.old⟩
    obtain ⟨v, k1, k2⟩ := h1 i o (vstart_slot e)
    refine ⟨v, start_in k1, k2.weak fun l z => ?_⟩
    rcases z with z | z
    · exact .inl z
    · exact .inr (hown l z)
  obtain ⟨v, r2, S2, Fs2, Fo, e2, o, R⟩ := hb I
  rw [e2]
  refine ⟨v, S2, Fo, [], rfl, ⟨o.fr.mono fun l _ z => hown l z, by simpa using o.nd, fun l z => ?_⟩, R.weak fun l z => ?_, rfl⟩
  · rcases o.n1 l (by simpa using z) with w | w
    · exact .inl (hown l w)
    · exact .inr w
  · rcases z with z | z | z
    · exact .inl (.inl z)
    · exact .inl (.inr z)
    · cases z
/-- what a call of f gives -/
def RtF (Q : Ow → Prop) : VFl → Prop
  | .rt o _ => Q o
  | _ => False
theorem call_hs {d f np n : Nat} {b : Sm} (hf : T.fn f = some (np, n, b)) {Pre : List Ow → Prop} {o0 : Ow} (hl : ∀ os, Pre os → os.length = np) (k : ∀ os, Pre os → WR T (Ev.run T d) b (vstart n os) (RtF fun o => o = o0)) {g : List Ow → CRes} (hg : ∀ os, g os = .bad ∨ (Pre os ∧ g os = .ok o0 none)) : CallOk g (Ev.run T (d + 1) f) := fun {os vs S A F} ci => by
  rcases hg os with e | ⟨hp, e⟩
  · rw [e]; trivial
  · rw [e]
    have h := k os hp
    unfold WR at h
    obtain ⟨fl, h1, h2⟩ := h
    cases fl with
    | rt o s2 =>
      have h2 : o = o0 := h2
      subst h2
      have := body_hs h1 ci
      unfold Ev.run
      rw [hf]
      dsimp only
      rw [if_pos (by rw [ci.rep.lens]; exact hl os hp)]
      exact this
    | nx s1 => exact h2.elim
    | bk s1 => exact h2.elim
    | ct s1 => exact h2.elim
    | exc c s1 => exact h2.elim
    | bad => exact h2.elim
/-- .. as a function of its arguments -/
noncomputable def gOf (Pre : List Ow → Prop) (o0 : Ow) (os : List Ow) : CRes := @ite _ (Pre os) (Classical.propDecidable _) (.ok o0 none) .bad
theorem gOf_is {Pre : List Ow → Prop} {o0 : Ow} (os : List Ow) : gOf Pre o0 os = .bad ∨ (Pre os ∧ gOf Pre o0 os = .ok o0 none) := by
  unfold gOf
  by_cases h : Pre os
  · exact .inr ⟨h, if_pos h⟩
  · exact .inl (if_neg h)
theorem gOf_ok {Pre : List Ow → Prop} {o0 : Ow} {os : List Ow} (h : Pre os) : gOf Pre o0 os = .ok o0 none := if_pos h
/-- a law's end -/
theorem law_hs {d f n : Nat} {b : Sm} {ns : List Int} (hf : T.fn f = some (1, n, b)) (k : WR T (Ev.run T d) b (vstart n [.sh (.scr ns)]) (RtF fun o => o = .sh (.bl true))) : ∃ S, Ev.run T (d + 1) f [.scr ns] [] = .ok (.bl true) S := by
  have h := call_hs (T := T) (d := d) (f := f) hf (Pre := fun os => os = [.sh (.scr ns)]) (o0 := .sh (.bl true)) (fun os e => by rw [e]; rfl) (fun os e => by rw [e]; exact k) (g := gOf (fun os => os = [.sh (.scr ns)]) (.sh (.bl true))) gOf_is (os := [.sh (.scr ns)]) (vs := [.scr ns]) (S := []) (A := fun _ => False) (F := []) ⟨.cons (F1 := []) (F2 := []) (.sh .scr) .nil, .nil, by simp, fun l z => z.elim⟩
  rw [gOf_ok (Pre := fun os => os = [.sh (.scr ns)]) rfl] at h
  obtain ⟨v, S', Fo, Fm, e, _, R, _⟩ := h
  obtain ⟨_, k⟩ := RepO.sh_nil R
  cases k
  exact ⟨S', e⟩
end
end Vl
end

section
set_option linter.all false
/-! Vs2: tests by what they do to the store; a def that tries a lambda on things, all of which are refused. -/
namespace Vl
open PySem Ev
section
variable {T : Tx} {clv : Nat → List Ow → CRes} {clh : Nat → List Va → Sto → Res Va} {S S1 S2 S' : Sto} {A : Set'} {r r1 r2 : Rho} {s s1 s2 : VEnv} {Fs Fs1 Fs2 : Nat → List Nat} {e a b : E} {P : VFl → Prop} {x y rest : Sm}
/-- e, a test, run from slots s, is w and leaves slots s1 -/
def HB (T : Tx) (clh : Nat → List Va → Sto → Res Va) (e : E) (s : VEnv) (w : Bool) (s1 : VEnv) : Prop := ∀ {S : Sto} {A : Set'} {r : Rho} {Fs : Nat → List Nat}, Inv S A r s Fs → ∃ S1 Fs1, evE T clh e r S = .ok (.bl w) S1 ∧ OutS true S A r s Fs S1 r s1 Fs1
theorem HB.of (hc : ∀ f, CallOk (clv f) (clh f)) {w : Bool} (h : vE T clv e s = .ok (.sh (.bl w)) s1) : HB T clh e s w s1 := fun {S A r Fs} I => by
  have k := (e_ok (T := T) hc e).1 I
  rw [h] at k
  obtain ⟨v, S1, Fs1, F1, e1, o, R⟩ := k
  obtain ⟨_, R1⟩ := RepO.sh_nil R
  cases R1
  exact ⟨S1, Fs1, e1, o.toS⟩
theorem HB.not {w : Bool} (h : HB T clh a s w s1) : HB T clh (.not a) s (!w) s1 := fun {S A r Fs} I => by
  obtain ⟨S1, Fs1, e1, o⟩ := h I
  exact ⟨S1, Fs1, by simp [evE, e1, Res.bind], o⟩
theorem HB.orT (h : HB T clh a s true s1) : HB T clh (.or a b) s true s1 := fun {S A r Fs} I => by
  obtain ⟨S1, Fs1, e1, o⟩ := h I
  exact ⟨S1, Fs1, by simp [evE, e1, Res.bind], o⟩
theorem HB.orF {w : Bool} (h : HB T clh a s false s1) (h2 : HB T clh b s1 w s2) : HB T clh (.or a b) s w s2 := fun {S A r Fs} I => by
  obtain ⟨S1, Fs1, e1, o⟩ := h I
  obtain ⟨S2, Fs2, e2, o2⟩ := h2 o.inv
  exact ⟨S2, Fs2, by simp [evE, e1, e2, Res.bind], o.trans o2⟩
theorem HB.andF (h : HB T clh a s false s1) : HB T clh (.and a b) s false s1 := fun {S A r Fs} I => by
  obtain ⟨S1, Fs1, e1, o⟩ := h I
  exact ⟨S1, Fs1, by simp [evE, e1, Res.bind], o⟩
theorem HB.andT {w : Bool} (h : HB T clh a s true s1) (h2 : HB T clh b s1 w s2) : HB T clh (.and a b) s w s2 := fun {S A r Fs} I => by
  obtain ⟨S1, Fs1, e1, o⟩ := h I
  obtain ⟨S2, Fs2, e2, o2⟩ := h2 o.inv
  exact ⟨S2, Fs2, by simp [evE, e1, e2, Res.bind], o.trans o2⟩
theorem OutS.weakK {k0 : Bool} (o : OutS true S A r s Fs S1 r1 s1 Fs1) : OutS k0 S A r s Fs S1 r1 s1 Fs1 := ⟨o.fr, o.inv, o.n2, fun _ => o.kp rfl⟩
theorem r_iteB {c : E} {w : Bool} (h : HB T clh c s w s1) (ht : w = true → WR T clh (.seq x rest) s1 P) (hf : w = false → WR T clh (.seq y rest) s1 P) : WR T clh (.seq (.ite c x y) rest) s P := by
  have go : ∀ {z : Sm}, WR T clh (.seq z rest) s1 P → (∀ {S r} {S1}, evE T clh c r S = .ok (.bl w) S1 → evS T clh (.ite c x y) r S = evS T clh z r S1) → ((keeps0 x && keeps0 y) = true → keeps0 z = true) → WR T clh (.seq (.ite c x y) rest) s P := fun {z} k he hk => by
    unfold WR at k ⊢
    obtain ⟨f, h1, h2⟩ := k
    refine ⟨f, fun {S A r Fs} I => ?_, h2⟩
    obtain ⟨S1, Fs1, e1, o⟩ := h I
    have h3 := (h1 o.inv).weakK (k0 := keeps0 (.seq (.ite c x y) rest)) fun q => by
      have q : ((keeps0 x && keeps0 y) && keeps0 rest) = true := q
      rw [Bool.and_eq_true] at q
      show (keeps0 z && keeps0 rest) = true
      rw [hk q.1, q.2]
      rfl
    have e2 : evS T clh (.seq (.ite c x y) rest) r S = evS T clh (.seq z rest) r S1 := by
      simp only [evS] at he ⊢
      rw [he e1]
    rw [e2]
    exact h3.after o.weakK
  cases w with
  | true => exact go (ht rfl) (fun e1 => by simp [evS, e1, thenS]) fun q => by rw [Bool.and_eq_true] at q; exact q.1
  | false => exact go (hf rfl) (fun e1 => by simp [evS, e1, thenS]) fun q => by rw [Bool.and_eq_true] at q; exact q.2
theorem r_retB {w : Bool} (h : HB T clh e s w s1) (k : P (.rt (.sh (.bl w)) s1)) : WR T clh (.seq (.ret e) rest) s P := by
  unfold WR
  refine ⟨_, fun {S A r Fs} I => ?_, k⟩
  obtain ⟨S1, Fs1, e1, o⟩ := h I
  refine ⟨.bl w, r, S1, Fs1, [], by simp [evS, e1, thenS], ⟨o.fr, o.inv.move (W := fun _ => False) Fr.refl (fun _ z => z.elim) (fun l _ z => by simpa using z) (fun l z => o.inv.old l (by simpa using z)), o.n2, fun _ => rfl, .nil, by simp, by simp⟩, .sh .bl⟩
/-! ### things refused -/
/-- the body of the def that tries its lambda on things -/
def refT (cid w : Nat) : Sm := .seq (.asg (.nm 4) (.neg (.con (.int 1)))) (.seq (.tryA 0 (.cons (.var 3) .nil) cid 5 4 w) (.seq (.ite (.cmp .ne (.var 4) (.var 2)) (.seq (.ret (.con (.bl false))) .skip) .skip) .skip))
def refB (cid w : Nat) : Sm := .seq (.for_ (.nm 3) (.seq (.var 1)) (refT cid w)) (.seq (.ret (.con (.bl true))) .skip)
/-- c: a class that is caught, and told as due -/
structure Ref1 (T : Tx) (cid w : Nat) (due : Int) (c : Nat) : Prop where
  x : T.xs c c = true
  n : T.xs c cid = true
  w : T.wh w c = some due
def StepR (h : List Va → Sto → Res Va) (ok : Nat → Prop) (cs : List Va) (A : Set') (r : Rho) (s : VEnv) (t : D) (s2 : VEnv) : Prop :=
  ∀ {S : Sto} {Fs : Nat → List Nat} {v : Va}, Inv S A r s Fs → Sh S (UA A s Fs) v t → ∃ c S' Fs', ok c ∧ h (cs ++ [v]) S = .exc c S' ∧ OutS true S A r s Fs S' r s2 Fs'
inductive ChainR (h : List Va → Sto → Res Va) (ok : Nat → Prop) (cs : List Va) (A : Set') (r : Rho) : VEnv → List D → VEnv → Prop
  | nil {s : VEnv} : ChainR h ok cs A r s [] s
  | cons {s s1 s2 : VEnv} {t : D} {ts : List D} : StepR h ok cs A r s t s1 → ChainR h ok cs A r s1 ts s2 → ChainR h ok cs A r s (t :: ts) s2
/-- the frame of that def -/
structure RefF (f : Nat) (ws : Va) (due : Int) (rg : Rho) : Prop where
  len : rg.length = 6
  s0 : rg[0]? = some (some (.clo f ws))
  s2 : rg[2]? = some (some (.int due))
theorem eq_int (S : Sto) (i : Int) : eqS S (.int i) (.int i) = some true := by
  simp [eqS, toD, PyData.canLay0, PyData.eqv]
theorem ref_turn {cid w f : Nat} {ws v : Va} {due : Int} {c : Nat} {rg : Rho} (F : RefF f ws due rg) (hv : Ev.plain v = true) (R : Ref1 T cid w due c) (hr : clh f (clist ws ++ [v]) S = .exc c S') : ∃ rg', evS T clh (refT cid w) (rg.set 3 (some v)) S = .nx rg' S' ∧ RefF f ws due rg' := by
  have l6 := F.len
  have e3 : ((rg.set 3 (some v)).set 4 (some (.int (-1))))[3]? = some (some v) := by
    rw [List.getElem?_set_ne (by decide), List.getElem?_set_self (by omega)]
  have e0 : ((rg.set 3 (some v)).set 4 (some (.int (-1))))[0]? = some (some (.clo f ws)) := by
    rw [List.getElem?_set_ne (by decide), List.getElem?_set_ne (by decide)]
    exact F.s0
  refine ⟨(((rg.set 3 (some v)).set 4 (some (.int (-1)))).set 4 (some (.int due))).set 5 none, ?_, ⟨by simp [l6], ?_, ?_⟩⟩
  · have e4 : ((((rg.set 3 (some v)).set 4 (some (Va.int (-1)))).set 4 (some (.int due))).set 5 none)[4]? = some (some (.int due)) := by
      rw [List.getElem?_set_ne (by decide), List.getElem?_set_self (by simp [l6])]
    have e2 : ((((rg.set 3 (some v)).set 4 (some (Va.int (-1)))).set 4 (some (.int due))).set 5 none)[2]? = some (some (.int due)) := by
      rw [List.getElem?_set_ne (by decide), List.getElem?_set_ne (by decide), List.getElem?_set_ne (by decide), List.getElem?_set_ne (by decide)]
      exact F.s2
    have h1 : evS T clh (.asg (.nm 4) (.neg (.con (.int 1)))) (rg.set 3 (some v)) S = .nx ((rg.set 3 (some v)).set 4 (some (.int (-1)))) S := by
      simp [evS, evE, Res.bind, thenS, asgT]
    have h2 : evS T clh (.tryA 0 (.cons (.var 3) .nil) cid 5 4 w) ((rg.set 3 (some v)).set 4 (some (.int (-1)))) S = .nx ((((rg.set 3 (some v)).set 4 (some (.int (-1)))).set 4 (some (.int due))).set 5 none) S' := by
      simp only [evS, e0, evA, evE, e3, hv, if_true, Res.bind_ok, hr, R.x, R.n, R.w]
    have h3 : evS T clh (.ite (.cmp .ne (.var 4) (.var 2)) (.seq (.ret (.con (.bl false))) .skip) .skip) ((((rg.set 3 (some v)).set 4 (some (.int (-1)))).set 4 (some (.int due))).set 5 none) S' = .nx ((((rg.set 3 (some v)).set 4 (some (.int (-1)))).set 4 (some (.int due))).set 5 none) S' := by
      simp only [evS, evE, e4, e2, Ev.plain, if_true, Res.bind_ok, cop, eq_int, thenS, Bool.not_true]
    unfold refT
    simp only [evS] at h1 h2 h3 ⊢
    rw [h1]
    dsimp only
    rw [h2]
    dsimp only
    rw [h3]
  · rw [List.getElem?_set_ne (by decide), List.getElem?_set_ne (by decide)]
    exact e0
  · rw [List.getElem?_set_ne (by decide), List.getElem?_set_ne (by decide), List.getElem?_set_ne (by decide), List.getElem?_set_ne (by decide)]
    exact F.s2
theorem ref_loop {cid w f L : Nat} {ws : Va} {due : Int} {xs0 : List D} : ∀ {s s2 : VEnv} {ts : List D}, ChainR (clh f) (Ref1 T cid w due) (clist ws) A r s ts s2 → ∀ {n i : Nat} {S : Sto} {Fs : Nat → List Nat} {rg : Rho}, xs0.drop i = ts → xs0.length - i < n → Inv S A r s Fs → SrcI S (UA A s Fs) (.lst L) xs0 → (∀ l ∈ srcs (.lst L), ¬ Own s Fs l) → RefF f ws due rg →
    ∃ rg' S' Fs', forL (.lst L) (.nm 3) (evS T clh (refT cid w)) n i rg S = .nx rg' S' ∧ OutS true S A r s Fs S' r s2 Fs' := by
  intro s s2 ts ch
  induction ch with
  | nil =>
    intro n i S Fs rg hd hn I K hq F
    cases n with
    | zero => omega
    | succ n =>
      have ex : xs0[i]? = none := by
        rw [List.getElem?_eq_none_iff]
        exact List.drop_eq_nil_iff.mp hd
      simp only [forL, K.stop ex]
      exact ⟨rg, S, Fs, rfl, OutS.refl I⟩
  | @cons s s1 s2 t ts st ch ih =>
    intro n i S Fs rg hd hn I K hq F
    cases n with
    | zero => omega
    | succ n =>
      have hO : ∀ l, UA A s Fs l → l < S.length := fun l z => by
        rcases z with z | z
        · exact I.old l z
        · exact I.lt z
      have hi : i < xs0.length := by
        rcases Nat.lt_or_ge i xs0.length with h | h
        · exact h
        · rw [List.drop_eq_nil_of_le h] at hd; cases hd
      have hd2 := hd
      rw [List.drop_eq_getElem_cons hi] at hd2
      have ex : xs0[i]? = some t := by
        rw [List.getElem?_eq_getElem hi]
        exact congrArg some (List.cons.inj hd2).1
      have hd3 : xs0.drop (i + 1) = ts := (List.cons.inj hd2).2
      obtain ⟨v, X, e1, k1⟩ := K.next hO ex
      have I0 : Inv (S ++ X) A r s Fs := Out.alloc1 (q := true) I
      obtain ⟨c, S1, Fs1, ok, hr, o1⟩ := st I0 k1
      have o0 : OutS true S A r s Fs (S ++ X) r s Fs := ⟨Fr.new, I0, fun l z => .inl z, fun _ => rfl⟩
      have o2 := o0.trans o1
      obtain ⟨rg1, g1, g2⟩ := ref_turn (T := T) (cid := cid) (w := w) F k1.plain ok hr
      simp only [forL]
      rw [e1]
      dsimp only
      simp only [asgT]
      rw [g1]
      dsimp only
      obtain ⟨rg', S', Fs', e3, o3⟩ := ih (n := n) (i := i + 1) hd3 (by omega) o2.inv (K.move o2.fr (fun l z => .inr z) (fun l hl z => by
        rcases z with z | z
        · exact .inl z
        · rcases o2.n2 l z with w | w
          · exact .inr w
          · omega) hq) (fun l hl z => by
        rcases o2.n2 l z with w | w
        · exact hq l hl w
        · have := K.lt l hl; omega) g2
      exact ⟨rg', S', Fs', e3, o2.trans o3⟩
theorem caps_some (I : Inv S A r s Fs) : ∀ {js : List Nat}, (∀ j ∈ js, (slotO s j).isSome = true) → ∃ ws, capsOf r js = some ws
  | [], _ => ⟨.vn, rfl⟩
  | j :: js, h => by
    obtain ⟨o, e⟩ := Option.isSome_iff_exists.mp (h j (by simp))
    obtain ⟨v, e1, R⟩ := I.rep j o e
    obtain ⟨ws, e2⟩ := caps_some I (js := js) fun k hk => h k (by simp [hk])
    exact ⟨.vc v ws, by simp [capsOf, e1, e2, R.plain]⟩
theorem HB.refused {d g f cid w : Nat} {js : List Nat} {as : E} {ts : List D} {due : Int} (hc : ∀ f, CallOk (clv f) (Ev.run T (d + 1) f)) (hg : T.fn g = some (3, 6, refB cid w)) (hj : ∀ j ∈ js, (slotO s j).isSome = true) (ha : vA T clv as s = .ok [.lst ts, .int due] s1)
    (ch : ∀ {S : Sto} {A : Set'} {r : Rho} {Fs : Nat → List Nat} {ws : Va}, Inv S A r s1 Fs → capsOf r js = some ws → ChainR (Ev.run T d f) (Ref1 T cid w due) (clist ws) A r s1 ts s2) : HB T (Ev.run T (d + 1)) (.callL g f js as) s true s2 := fun {S A r Fs} I => by
  obtain ⟨ws, ew⟩ := caps_some I hj
  have k := (e_ok (T := T) hc as).2.1 I
  rw [ha] at k
  obtain ⟨vs, S1, Fs1, F1, e1, o, R⟩ := k
  have hI := o.invA
  have R : ShL S1 (UB A [] s1 Fs1) vs [.lst ts, .int due] := R
  have R := R.weak (U' := UA A s1 Fs1) fun l z => by
    rcases z with z | z
    · exact .inl z
    · obtain ⟨j, z⟩ := own_has.mp z
      exact .inr ⟨j, by simp, z⟩
  cases R with
  | cons h1 h2 =>
    cases h2 with
    | cons h2 h3 =>
      cases h3
      cases h2
      cases h1 with
      | @lst L ys _ q1 q2 q3 =>
        have F : RefF f ws due (Ev.start 6 [.clo f ws, .loc L, .int due]) := ⟨rfl, rfl, rfl⟩
        obtain ⟨rg', S', Fs', e3, o3⟩ := ref_loop (T := T) (cid := cid) (w := w) (L := L) (xs0 := ts) (ch hI ew) (n := lenI (.lst L) S1 + 1) (i := 0) (S := S1) (Fs := Fs1) (rg := Ev.start 6 [.clo f ws, .loc L, .int due]) (by simp) (by have := (SrcI.lst (U := UA A s1 Fs1) q1 q3).len; omega) hI (.lst q1 q3) (fun l hl z => by
          rw [show l = L by simpa [srcs] using hl] at z
          exact q2 (.inr z)) F
        refine ⟨S', Fs', ?_, o.toS.trans o3⟩
        simp only [evE, ew, e1, Res.bind_ok]
        rw [show Ev.run T (d + 1) g [.clo f ws, .loc L, .int due] S1 = (match evS T (Ev.run T d) (refB cid w) (Ev.start 6 [.clo f ws, .loc L, .int due]) S1 with
          | .nx _ S1 => .ok .non S1
          | .rt v S1 => .ok v S1
          | .exc c S1 => .exc c S1
          | _ => .bad) by
            simp only [Ev.run, hg]
            rfl]
        have hit : evI T (Ev.run T d) (.seq (.var 1)) (Ev.start 6 [.clo f ws, .loc L, .int due]) S1 = .ok (.lst L) S1 := by
          have : (Ev.start 6 [.clo f ws, .loc L, .int due])[1]? = some (some (.loc L)) := rfl
          simp [evI, evE, this, Ev.plain, Res.bind, getL, q1]
        unfold refB
        simp only [evS, hit, thenS]
        rw [e3]
        simp [evS, evE, thenS]
/-- a lambda of an owned thing: each thing is refused, the owned is me' behind -/
inductive RefO (gf : List Ow → CRes) (ok : Nat → Prop) : Ow → List D → Ow → Prop
  | nil {me : Ow} : RefO gf ok me [] me
  | cons {c k : Nat} {fs me2 me3 : Ow} {t : D} {ts : List D} : gf [.ins c fs, .sh t] = .exc k (some me2) → ok k → RefO gf ok me2 ts me3 → RefO gf ok (.ins c fs) (t :: ts) me3
theorem chain_own (T : Tx) {h : List Va → Sto → Res Va} {gf : List Ow → CRes} {ok : Nat → Prop} {j : Nat} {ws : Va} (hf : CallOk gf h) (ew : capsOf r [j] = some ws) : ∀ {me me' : Ow} {ts : List D}, RefO gf ok me ts me' → ∀ {s : VEnv}, slotO s j = some me → ChainR h ok (clist ws) A r s ts (s.set j (some me')) := by
  intro me me' ts R
  induction R with
  | @nil me =>
    intro s e
    have : s.set j (some me) = s := by
      apply List.ext_getElem?
      intro i
      by_cases q : j = i
      · subst q
        rw [List.getElem?_set_self (slot_lt e)]
        unfold slotO at e
        cases e3 : s[j]? with
        | none => rw [e3] at e; cases e
        | some x => rw [e3] at e; exact congrArg some e.symm
      · rw [List.getElem?_set_ne q]
    rw [this]
    exact .nil
  | @cons c k fs me2 me3 t ts h1 h2 _ ih =>
    intro s e
    refine .cons (s1 := s.set j (some me2)) (fun {S Fs v} I Hv => ?_) ?_
    · obtain ⟨u, F1, G, k1, k2, k3⟩ := path_at (T := T) (cl := fun _ _ _ => .bad) I (a := .var j) (q := (j, [])) (o := .ins c fs) rfl (by unfold readP; dsimp only; rw [e]; exact getP_nil (fl := T.fl))
      have eu : clist ws = [u] := by
        obtain ⟨v0, e1, R0⟩ := I.rep j _ e
        simp only [capsOf, e1, R0.plain, if_true] at ew
        cases ew
        simp only [evE, e1, R0.plain, if_true] at k1
        cases k1
        rfl
      rw [eu]
      have m := meth_ok (T := T) (clv := fun _ => gf) (clh := fun _ => h) (f := 0) (B := []) (xs := [t]) (vs := [v]) hf I k3 k2 (by simp) (.cons (Sh.move (W := fun _ => False) Fr.refl (fun _ z => z.elim) (fun l _ z => UB_sub z) Hv) .nil)
      have hw : writeP T s (j, []) me2 = some (s.set j (some me2)) := by
        unfold writeP
        dsimp only
        rw [e]
        simp only [Option.bind]
        rw [putP_nil]
        rfl
      simp only [call1, List.map_cons, List.map_nil, h1, hw, frzS, ite_self] at m
      obtain ⟨S', Fs', e2, o⟩ := m
      exact ⟨k, S', Fs', h2, e2, o.toS⟩
    · have := ih (s := s.set j (some me2)) (by rw [slot_set, if_pos ⟨rfl, slot_lt e⟩])
      rw [List.set_set] at this
      exact this
theorem shl_snoc {U : Set'} : ∀ {us : List Va} {xs : List D} {u : Va} {x : D}, ShL S U us xs → Sh S U u x → ShL S U (us ++ [u]) (xs ++ [x])
  | _, _, _, _, .nil, hu => .cons hu .nil
  | _, _, _, _, .cons a t, hu => .cons a (shl_snoc t hu)
/-- a lambda of shared things -/
theorem caps_sh (I : Inv S A r s Fs) : ∀ {js : List Nat} {ds : List D} {ws : Va}, capsOf r js = some ws → js.map (slotO s) = ds.map (fun d => some (.sh d)) → ShL S (UA A s Fs) (clist ws) ds
  | [], ds, ws, ew, hs => by
    cases (show some Va.vn = some ws from ew)
    cases ds with
    | nil => exact .nil
    | cons d ds => cases hs
  | j :: js, ds, ws, ew, hs => by
    cases ds with
    | nil => cases hs
    | cons d ds =>
      obtain ⟨h1, h2⟩ := List.cons.inj (show slotO s j :: js.map (slotO s) = some (.sh d) :: ds.map (fun d => some (.sh d)) from hs)
      obtain ⟨v, e1, R⟩ := I.rep j _ h1
      obtain ⟨_, R1⟩ := RepO.sh_nil R
      simp only [capsOf, e1] at ew
      cases e2 : capsOf r js with
      | none => rw [e2] at ew; cases ew
      | some b =>
        rw [e2] at ew
        dsimp only at ew
        rw [if_pos R.plain] at ew
        cases ew
        exact .cons R1 (caps_sh I e2 h2)
theorem chain_sh {h : List Va → Sto → Res Va} {gf : List Ow → CRes} {ok : Nat → Prop} {js : List Nat} {ds : List D} {ws : Va} (hf : CallOk gf h) (ew : capsOf r js = some ws) (hs : js.map (slotO s) = ds.map (fun d => some (.sh d))) : ∀ {ts : List D}, (∀ t ∈ ts, ∃ k self, gf ((ds ++ [t]).map .sh) = .exc k self ∧ ok k) → ChainR h ok (clist ws) A r s ts s
  | [], _ => .nil
  | t :: ts, hk => by
    refine .cons (fun {S Fs v} I Hv => ?_) (chain_sh hf ew hs fun t ht => hk t (by simp [ht]))
    obtain ⟨k, self, h1, h2⟩ := hk t (by simp)
    have m := call0_ok (clv := fun _ => gf) (clh := fun _ => h) (f := 0) (B := []) hf I ((shl_snoc (caps_sh I ew hs) Hv).weak (U' := UB A [] s Fs) fun l z => UB_sub z)
    simp only [call0, h1] at m
    obtain ⟨S', Fs', e2, o⟩ := m
    exact ⟨k, S', Fs', h2, e2, o.toS⟩
/-- a test that is a call with an owned thing ahead, which is gone behind -/
theorem HB.callOwn {f j : Nat} {as : E} {gf : List Ow → CRes} {me : Ow} {xs : List D} {w : Bool} (hc : ∀ f, CallOk (clv f) (clh f)) (hf : CallOk gf (clh f)) (hm : slotO s j = some me) (ha : vA T clv as s = .ok xs s1) (hm1 : slotO s1 j = some me) (hg : gf (me :: xs.map .sh) = .ok (.sh (.bl w)) none) : HB T clh (.call f (.cons (.var j) as)) s w (s1.set j none) := fun {S A r Fs} I => by
  obtain ⟨v, e1, R0⟩ := I.rep j _ hm
  have k := (e_ok (T := T) hc as).2.1 I
  rw [ha] at k
  obtain ⟨vs, S1, Fs1, F1, e2, o, R⟩ := k
  have hI := o.invA
  have R : ShL S1 (UB A [] s1 Fs1) vs xs := R
  obtain ⟨v2, e3, R1⟩ := hI.rep j _ hm1
  rw [e1] at e3
  cases e3
  have ci : CIn S1 (fun l => UA A s1 Fs1 l ∧ l ∉ Fs1 j) (v :: vs) (me :: xs.map .sh) (Fs1 j) := by
    have hu : ∀ l, (UA A s1 Fs1 l ∧ l ∉ Fs1 j) ∨ l ∈ Fs1 j → UA A s1 Fs1 l := fun l z => by
      rcases z with z | z
      · exact z.1
      · exact .inr ⟨j, me, hm1, z⟩
    refine ⟨?_, hI.nd j _ hm1, fun l z w => w.2 z, fun l z => ?_⟩
    · have := RepA.cons (R1.weak hu) (RepA.shs (R.weak fun l z => by
        rcases hu l z with z | z
        · exact .inl z
        · obtain ⟨i, z⟩ := own_has.mp z
          exact .inr ⟨i, by simp, z⟩))
      rw [List.append_nil] at this
      exact this
    · rcases z.1 with z | z
      · exact hI.old l z
      · exact hI.lt z
  have k := hf ci
  rw [hg] at k
  obtain ⟨u, S2, Fo, Fm, e4, co, R2, _⟩ := k
  obtain ⟨_, R2⟩ := RepO.sh_nil R2
  cases R2
  have hw : wipeV s1 [j] = s1.set j none := rfl
  have I2 := hI.wipe (r := r) (own := [j]) (A' := fun l => A l ∨ l ∈ Fs1 j) rfl (fun _ _ => rfl) fun l z => by
    rcases z with z | z
    · exact .inl z
    · exact .inr ⟨j, by simp, by rw [hm1]; rfl, z⟩
  rw [hw] at I2
  have fr : Fr S1 S2 (fun l => l ∈ Fs1 j) := co.fr
  have I3 : Inv S2 A r (s1.set j none) Fs1 := (I2.move fr (fun l z => .inr z) (fun l _ z => z) (fun l z => by
    have := I2.old l z
    have := fr.len
    omega)).move (W := fun _ => False) Fr.refl (fun _ z => z.elim) (fun l _ z => .inl z) (fun l z => by
    have := hI.old l z
    have := fr.len
    omega)
  refine ⟨S2, Fs1, ?_, o.toS.trans ⟨fr.mono fun l _ z => ⟨j, me, hm1, z⟩, I3, fun l z => ?_, fun _ => rfl⟩⟩
  · simp only [evE, evA, e1, R0.plain, if_true, Res.bind_ok, e2, e4]
  · obtain ⟨i, z⟩ := own_has.mp z
    rw [← hw] at z
    exact .inl (own_has.mpr ⟨i, (HasF_wipe z).2⟩)
end
end Vl
end

section
set_option linter.all false
/-! Vs3: statements run by computing; refusals, all alike. -/
namespace Vl
open PySem Ev
section
variable {T : Tx} {clv : Nat → List Ow → CRes} {clh : Nat → List Va → Sto → Res Va} {s s1 s2 : VEnv} {e a b : E} {P : VFl → Prop} {x y rest : Sm}
theorem r_run (hc : ∀ f, CallOk (clv f) (clh f)) (h : vS T clv x s = .nx s1) (k : WR T clh rest s1 P) : WR T clh (.seq x rest) s P := by
  refine r_cut hc ?_
  unfold WS
  simp only [vS, h]
  exact k
theorem r_skip (k : WR T clh rest s P) : WR T clh (.seq .skip rest) s P := by
  refine r_seq ?_
  refine r_end ?_
  exact k
theorem r_ret (hc : ∀ f, CallOk (clv f) (clh f)) {o : Ow} (h : vS T clv (.ret e) s = .rt o s1) (k : P (.rt o s1)) : WR T clh (.seq (.ret e) rest) s P := by
  refine r_cut hc ?_
  unfold WS
  simp only [vS] at h ⊢
  rw [h]
  exact k
theorem HB.ofW (hc : ∀ f, CallOk (clv f) (clh f)) {w : Bool} (h : WE T clv e s fun o s2 => o = .sh (.bl w) ∧ s2 = s1) : HB T clh e s w s1 := by
  obtain ⟨o, s2, h1, rfl, rfl⟩ := h
  exact HB.of hc h1
/-- each of ts is refused by k, me stays -/
def AllR (gf : List Ow → CRes) (me : Ow) (k : Nat) : List D → Prop
  | [] => True
  | t :: ts => gf [me, .sh t] = .exc k (some me) ∧ AllR gf me k ts
theorem AllR.app {gf : List Ow → CRes} {me : Ow} {k : Nat} {ys : List D} : ∀ {xs : List D}, AllR gf me k xs → AllR gf me k ys → AllR gf me k (xs ++ ys)
  | [], _, h => h
  | x :: xs, h, h2 => ⟨h.1, AllR.app h.2 h2⟩
theorem RefO.same {gf : List Ow → CRes} {ok : Nat → Prop} {c k : Nat} {fs : Ow} (hk : ok k) : ∀ {ts : List D}, AllR gf (.ins c fs) k ts → RefO gf ok (.ins c fs) ts (.ins c fs)
  | [], _ => .nil
  | t :: ts, h => .cons h.1 hk (RefO.same hk h.2)
def AllS (gf : List Ow → CRes) (ds : List D) (k : Nat) : List D → Prop
  | [] => True
  | t :: ts => (∃ self, gf ((ds ++ [t]).map .sh) = .exc k self) ∧ AllS gf ds k ts
theorem AllS.mem {gf : List Ow → CRes} {ds : List D} {k : Nat} : ∀ {ts : List D}, AllS gf ds k ts → ∀ t ∈ ts, ∃ self, gf ((ds ++ [t]).map .sh) = .exc k self
  | [], _, _, h => by cases h
  | u :: ts, h, t, ht => by
    rcases List.mem_cons.mp ht with rfl | ht
    · exact h.1
    · exact h.2.mem t ht
theorem set_eq {j : Nat} {me : Ow} (e : slotO s j = some me) : s.set j (some me) = s := by
  apply List.ext_getElem?
  intro i
  by_cases q : j = i
  · subst q
    rw [List.getElem?_set_self (slot_lt e)]
    unfold slotO at e
    cases e3 : s[j]? with
    | none => rw [e3] at e; cases e
    | some x => rw [e3] at e; exact congrArg some e.symm
  · rw [List.getElem?_set_ne q]
section
variable {d g f cid w : Nat} {js : List Nat} {j : Nat} {as : E} {ts : List D} {due : Int} {c k : Nat} {fs : Ow} {gf : List Ow → CRes} {ds : List D}
theorem HB.refO (hc : ∀ f, CallOk (clv f) (Ev.run T (d + 1) f)) (hf : CallOk gf (Ev.run T d f)) (hg : T.fn g = some (3, 6, refB cid w)) (hs : slotO s j = some (.ins c fs)) (ha : vA T clv as s = .ok [.lst ts, .int due] s1) (hs1 : slotO s1 j = some (.ins c fs)) (hk : Ref1 T cid w due k) (ht : AllR gf (.ins c fs) k ts) : HB T (Ev.run T (d + 1)) (.callL g f [j] as) s true s1 := by
  have h : HB T (Ev.run T (d + 1)) (.callL g f [j] as) s true (s1.set j (some (.ins c fs))) := HB.refused (T := T) (clv := clv) (d := d) (g := g) (f := f) (js := [j]) (s2 := s1.set j (some (.ins c fs))) hc hg (fun i hi => by rw [List.mem_singleton.mp hi, hs]; rfl) ha fun {S A r Fs ws} I ew => chain_own T hf ew (RefO.same hk ht) hs1
  intro S A r Fs I
  obtain ⟨S1, Fs1, h1, h2⟩ := h I
  rw [set_eq hs1] at h2
  exact ⟨S1, Fs1, h1, h2⟩
theorem HB.refS (hc : ∀ f, CallOk (clv f) (Ev.run T (d + 1) f)) (hf : CallOk gf (Ev.run T d f)) (hg : T.fn g = some (3, 6, refB cid w)) (hs : js.map (slotO s) = ds.map (fun d => some (.sh d))) (ha : vA T clv as s = .ok [.lst ts, .int due] s1) (hs1 : js.map (slotO s1) = ds.map (fun d => some (.sh d))) (hk : Ref1 T cid w due k) (ht : AllS gf ds k ts) : HB T (Ev.run T (d + 1)) (.callL g f js as) s true s1 := by
  refine HB.refused (T := T) (clv := clv) (d := d) (g := g) (f := f) (js := js) (s2 := s1) hc hg (fun i hi => ?_) ha fun {S A r Fs ws} I ew => chain_sh hf ew hs1 fun t htt => ?_
  · have : slotO s i ∈ ds.map (fun d => some (Ow.sh d)) := by rw [← hs]; exact List.mem_map.mpr ⟨i, hi, rfl⟩
    obtain ⟨dd, _, e⟩ := List.mem_map.mp this
    rw [← e]; rfl
  · obtain ⟨self, h⟩ := ht.mem t htt
    exact ⟨k, self, h, hk⟩
/-- if not e: .. -/
theorem r_ifNot (h : HB T clh e s true s1) (go : WR T clh rest s1 P) : WR T clh (.seq (.ite (.not e) x .skip) rest) s P := r_iteB h.not (fun z => by cases z) fun _ => r_skip go
theorem r_ifNotOr (h : HB T clh e s true s1) (h2 : HB T clh b s1 false s2) (go : WR T clh rest s2 P) : WR T clh (.seq (.ite (.or (.not e) b) x .skip) rest) s P := r_iteB (HB.orF h.not h2) (fun z => by cases z) fun _ => r_skip go
end
end
end Vl
end

section
set_option linter.all false
/-! M0: encodings, operators on them. -/
namespace Hn
open PySem Ev Vl
/-! ### bounds -/
def Bd (N : Nat) (x : Int) : Prop := x.natAbs < 2 ^ N
theorem Bd.mono {N M : Nat} {x : Int} (h : Bd N x) (hM : N ≤ M) : Bd M x := Nat.lt_of_lt_of_le h (Nat.pow_le_pow_right (by omega) hM)
theorem Bd.add {N M : Nat} {x y : Int} (h : Bd N x) (k : Bd M y) : Bd (max N M + 1) (x + y) := by
  have h1 : Bd (max N M) x := h.mono (Nat.le_max_left _ _)
  have k1 : Bd (max N M) y := k.mono (Nat.le_max_right _ _)
  unfold Bd at *
  rw [Nat.pow_succ]
  have := Int.natAbs_add_le x y
  omega
theorem Bd.mul {N M : Nat} {x y : Int} (h : Bd N x) (k : Bd M y) : Bd (N + M) (x * y) := by
  unfold Bd at *
  rw [Int.natAbs_mul, Nat.pow_add]
  exact Nat.mul_lt_mul'' h k
theorem log2_lt {n N : Nat} (h : n < 2 ^ N) (h0 : 0 < N) : n.log2 < N := by
  by_cases e : n = 0
  · subst e; simpa using h0
  · exact (Nat.log2_lt e).mpr h
theorem fits {N M : Nat} {x y : Int} (h : Bd N x) (k : Bd M y) (hl : N + M ≤ 99999998) : mulFits x y = true := by
  unfold mulFits
  have a := log2_lt (h.mono (Nat.le_succ N)) (by omega)
  have b := log2_lt (k.mono (Nat.le_succ M)) (by omega)
  simp only [decide_eq_true_eq]
  omega
theorem Bd.lit {x : Int} (N : Nat) (h : x.natAbs < 2 ^ N) : Bd N x := h
theorem v_mul {i j : Int} (h : mulFits i j = true) : vbop .mul (.int i) (.int j) = some (.sh (.int (i * j))) := by simp [vbop, h]
theorem v_div {i j : Int} (h : 0 < j) (h2 : j < 1073741824) : vbop .fdiv (.int i) (.int j) = some (.sh (.int (i / j))) := by simp [vbop, h, h2]
theorem v_mod {i j : Int} (h : 0 < j) : vbop .mod (.int i) (.int j) = some (.sh (.int (i % j))) := by simp [vbop, h]
theorem v_cat {xs ys : List D} (h : xs.length + ys.length ≤ line) : vbop .add (.lst xs) (.lst ys) = some (.lst (xs ++ ys)) := by simp [vbop, h]
/-! ### encodings -/
abbrev dIs (ns : List Int) : List D := ns.map D.int
abbrev dBs (bs : List Bool) : List D := bs.map D.bl
theorem dInts_ints : ∀ ns : List Int, dInts (dIs ns) = some ns
  | [] => rfl
  | n :: r => by
    show (dInts (dIs r)).map (n :: ·) = _
    rw [dInts_ints r]; rfl
theorem dBls_bls : ∀ ns : List Bool, dBls (dBs ns) = some ns
  | [] => rfl
  | n :: r => by
    show (dBls (dBs r)).map (n :: ·) = _
    rw [dBls_bls r]; rfl
theorem flat_ints (ns : List Int) : (dIs ns).all dFlat = true := by induction ns with
  | nil => rfl
  | cons n r ih => simpa [dFlat] using ih
theorem in_ints {x : Int} {ns : List Int} : vcop .isin (.int x) (.lst (dIs ns)) = some (decide (x ∈ ns)) := by
  simp only [vcop, dLT, dL, Option.or]
  rw [flat_ints]
  simp only [dFlat, Bool.and_self, if_true, Option.some.injEq]
  induction ns with
  | nil => rfl
  | cons n r ih =>
    show (dEqF (.int n) (.int x) || (dIs r).any fun z => dEqF z (D.int x)) = _
    rw [ih]
    by_cases h : n = x
    · simp [dEqF, h]
    · have h2 : ¬ x = n := fun e => h e.symm
      simp [dEqF, h, h2]
theorem nin_ints {x : Int} {ns : List Int} : vcop .notin (.int x) (.lst (dIs ns)) = some (!decide (x ∈ ns)) := by
  have h := in_ints (x := x) (ns := ns)
  simp only [vcop, dLT, dL, Option.or] at h ⊢
  rw [flat_ints] at h ⊢
  simp only [dFlat, Bool.and_self, if_true, Option.some.injEq] at h ⊢
  rw [h]
/-! ### equality -/
theorem allP_some {f : D → Option PyData} {g : D → PyData} : ∀ {xs : List D}, (∀ x ∈ xs, f x = some (g x)) → allP f xs = some (xs.map g)
  | [], _ => rfl
  | x :: r, h => by
    unfold allP
    rw [h x (by simp), allP_some fun y hy => h y (by simp [hy])]
    rfl
theorem toPy_ints (n : Nat) (ns : List Int) : toPy (n + 2) (.lst (dIs ns)) = some (.list (ns.map .int)) := by
  have h : allP (toPy (n + 1)) (dIs ns) = some ((dIs ns).map fun d => match d with | .int i => .int i | _ => PyData.none) := allP_some fun x hx => by
    obtain ⟨i, _, rfl⟩ := List.mem_map.mp hx
    rfl
  show (allP (toPy (n + 1)) (dIs ns)).map PyData.list = _
  rw [h, List.map_map]
  rfl
theorem lay_ints (ns : List Int) : PyData.canLayAll0 (ns.map .int) = true := by induction ns with
  | nil => simp [PyData.canLayAll0]
  | cons n r ih => simp [PyData.canLayAll0, PyData.canLay0, ih]
theorem eqv_ints : ∀ (a b : List Int), PyData.eqvAll (a.map .int) (b.map .int) = decide (a = b)
  | [], [] => by simp [PyData.eqvAll]
  | [], y :: ys => by simp [PyData.eqvAll]
  | x :: xs, [] => by simp [PyData.eqvAll]
  | x :: xs, y :: ys => by
    rw [List.map_cons, List.map_cons, PyData.eqvAll, eqv_ints xs ys, PyData.eqv]
    by_cases h : x = y
    · by_cases h2 : xs = ys <;> simp [h, h2]
    · simp [h]
theorem deq_ints {a b : List Int} : deq (.lst (dIs a)) (.lst (dIs b)) = some (decide (a = b)) := by
  unfold deq
  rw [toPy_ints 10, toPy_ints 10]
  simp [PyData.canLay0, lay_ints, PyData.eqv, eqv_ints]
theorem deq_int {a b : Int} : deq (.int a) (.int b) = some (decide (a = b)) := by
  show some (a == b) = _
  congr 1
theorem deq_bl {a b : Bool} : deq (.bl a) (.bl b) = some (a == b) := rfl
theorem deq_pair {a b x y : Int} : deq (.tup [.int a, .int b]) (.tup [.int x, .int y]) = some (decide ((a, b) = (x, y))) := by
  show some (PyData.eqv (.tuple [.int a, .int b]) (.tuple [.int x, .int y])) = _
  simp only [PyData.eqv, PyData.eqvAll, Bool.and_true]
  by_cases h : a = x <;> by_cases h2 : b = y <;> simp [h, h2]
theorem deq_non_pair {x y : Int} : deq .non (.tup [.int x, .int y]) = some false := rfl
theorem deq_ints_nil {a : List Int} : deq (.lst (dIs a)) (.lst []) = some (decide (a = [])) := deq_ints (b := [])
theorem v_eq {x y : D} {b : Bool} (h : deq x y = some b) : vcop .eq x y = some b := h
theorem v_ne {x y : D} {b : Bool} (h : deq x y = some b) : vcop .ne x y = some (!b) := by show (deq x y).map _ = _; rw [h]; rfl
/-! ### texts of deeds -/
inductive Kd where | opn | cls | agn
  deriving DecidableEq, Inhabited
def ks : Kd → Str
  | .opn => "open"
  | .cls => "close"
  | .agn => "again"
abbrev Deed := Kd × Int
abbrev dDeed (d : Deed) : D := .tup [.str (ks d.1), .int d.2]
theorem deq_ks {k l : Kd} : deq (.str (ks k)) (.str (ks l)) = some (decide (k = l)) := by
  cases k <;> cases l <;> decide +kernel
theorem deq_open {k : Kd} : deq (.str (ks k)) (.str "open") = some (decide (k = .opn)) := deq_ks (l := .opn)
theorem deq_close {k : Kd} : deq (.str (ks k)) (.str "close") = some (decide (k = .cls)) := deq_ks (l := .cls)
theorem deq_again {k : Kd} : deq (.str (ks k)) (.str "again") = some (decide (k = .agn)) := deq_ks (l := .agn)
abbrev Sft := List Int × List Deed × List Int
abbrev dSft (x : Sft) : D := .tup [.lst (dIs x.1), .lst (x.2.1.map dDeed), .lst (dIs x.2.2)]
/-! ### notes -/
def noteF : Int → List Bool → List Int
  | _, [] => []
  | k, b :: r => if b then k :: noteF (k + 1) r else noteF (k + 1) r
abbrev noteL (h : List Bool) : List Int := noteF 0 h
theorem enumD_cons {xs : List D} : ∀ (k : Nat), ((List.range' k xs.length).zipWith (fun i x => D.tup [.int (i : Nat), x]) xs) = ((List.range' k xs.length).zipWith (fun i x => D.tup [.int (i : Nat), x]) xs) := fun _ => rfl
def enumF : Nat → List D → List D
  | _, [] => []
  | k, x :: r => .tup [.int (k : Nat), x] :: enumF (k + 1) r
theorem enumF_eq : ∀ (xs : List D) (k : Nat), (List.range' k xs.length).zipWith (fun i x => D.tup [.int (i : Nat), x]) xs = enumF k xs
  | [], _ => rfl
  | x :: r, k => by
    rw [List.length_cons, List.range'_succ, List.zipWith_cons_cons, enumF_eq r (k + 1)]
    rfl
theorem enumD_eq (xs : List D) : enumD xs = enumF 0 xs := by
  unfold enumD
  rw [List.range_eq_range']
  exact enumF_eq xs 0
theorem enumF_len : ∀ (xs : List D) (k : Nat), (enumF k xs).length = xs.length
  | [], _ => rfl
  | x :: r, k => by simp [enumF, enumF_len r]
theorem enumD_len (xs : List D) : (enumD xs).length = xs.length := by rw [enumD_eq, enumF_len]
theorem enumF_mem : ∀ {xs : List D} {k : Nat} {y : D}, y ∈ enumF k xs → ∃ (i : Nat) (x : D), y = .tup [.int i, x] ∧ k ≤ i ∧ xs[i - k]? = some x
  | [], _, _, h => by cases h
  | x :: r, k, y, h => by
    rcases List.mem_cons.mp h with h | h
    · exact ⟨k, x, h, Nat.le_refl _, by simp⟩
    · obtain ⟨i, z, h1, h2, h3⟩ := enumF_mem h
      refine ⟨i, z, h1, by omega, ?_⟩
      have : i - k = (i - (k + 1)) + 1 := by omega
      rw [this]
      simpa using h3
theorem enumD_mem {xs : List D} {y : D} (h : y ∈ enumD xs) : ∃ (i : Nat) (x : D), y = .tup [.int i, x] ∧ xs[i]? = some x := by
  rw [enumD_eq] at h
  obtain ⟨i, x, h1, _, h3⟩ := enumF_mem h
  exact ⟨i, x, h1, by simpa using h3⟩
/-- the second of a pair is true; the first -/
def p2 : D → Bool
  | .tup [_, .bl b] => b
  | _ => false
def g1 : D → D
  | .tup (x :: _) => x
  | d => d
theorem note_enum : ∀ (h : List Bool) (k : Nat), ((enumF k (dBs h)).filter p2).map g1 = dIs (noteF k h)
  | [], _ => rfl
  | b :: r, k => by
    have ih := note_enum r (k + 1)
    cases b with
    | true =>
      show ((D.tup [.int (k : Nat), .bl true] :: enumF (k + 1) (dBs r)).filter p2).map g1 = dIs ((k : Int) :: noteF ((k : Int) + 1) r)
      rw [List.filter_cons_of_pos rfl, List.map_cons, ih]
      rfl
    | false =>
      show ((D.tup [.int (k : Nat), .bl false] :: enumF (k + 1) (dBs r)).filter p2).map g1 = dIs (noteF ((k : Int) + 1) r)
      rw [List.filter_cons_of_neg (by simp [p2]), ih]
      rfl
theorem note_eq (h : List Bool) : ((enumD (dBs h)).filter p2).map g1 = dIs (noteL h) := by
  rw [enumD_eq]; exact note_enum h 0
/-! ### rising -/
def Rise (xs : List Int) : Prop := xs.Pairwise (· < ·)
theorem noteF_ge : ∀ (h : List Bool) (k : Int), ∀ x ∈ noteF k h, k ≤ x
  | [], _, x, hx => by cases hx
  | b :: r, k, x, hx => by
    unfold noteF at hx
    split at hx
    · rcases List.mem_cons.mp hx with e | e
      · omega
      · have := noteF_ge r (k + 1) x e; omega
    · have := noteF_ge r (k + 1) x hx; omega
theorem noteF_rise : ∀ (h : List Bool) (k : Int), Rise (noteF k h)
  | [], _ => .nil
  | b :: r, k => by
    unfold noteF
    split
    · exact .cons (fun x hx => by have := noteF_ge r (k + 1) x hx; omega) (noteF_rise r (k + 1))
    · exact noteF_rise r (k + 1)
theorem Rise.ext : ∀ {a b : List Int}, Rise a → Rise b → (∀ x, x ∈ a ↔ x ∈ b) → a = b
  | [], [], _, _, _ => rfl
  | [], y :: ys, _, _, h => by have := (h y).mpr (by simp); cases this
  | x :: xs, [], _, _, h => by have := (h x).mp (by simp); cases this
  | x :: xs, y :: ys, .cons ha ta, .cons hb tb, h => by
    have e : x = y := by
      rcases List.mem_cons.mp ((h x).mp (by simp)) with h1 | h1
      · exact h1
      · rcases List.mem_cons.mp ((h y).mpr (by simp)) with h2 | h2
        · exact h2.symm
        · have := hb x h1; have := ha y h2; omega
    subst e
    congr 1
    refine Rise.ext ta tb fun z => ?_
    constructor
    · intro hz
      rcases List.mem_cons.mp ((h z).mp (by simp [hz])) with h1 | h1
      · have := ha z hz; omega
      · exact h1
    · intro hz
      rcases List.mem_cons.mp ((h z).mpr (by simp [hz])) with h1 | h1
      · have := hb z hz; omega
      · exact h1
/-- what just one of two lists has -/
def diff (a b : List Int) : List Int := a.filter (fun x => !decide (x ∈ b)) ++ b.filter (fun x => !decide (x ∈ a))
theorem diff_ne {a b : List Int} (ha : Rise a) (hb : Rise b) (h : a ≠ b) : diff a b ≠ [] := by
  intro e
  apply h
  unfold diff at e
  rw [List.append_eq_nil_iff, List.filter_eq_nil_iff, List.filter_eq_nil_iff] at e
  refine ha.ext hb fun x => ⟨fun hx => ?_, fun hx => ?_⟩
  · have := e.1 x hx; simpa using this
  · have := e.2 x hx; simpa using this
def leastD (a b : List Int) : Int := match diff a b with
  | [] => 0
  | n :: r => minI n r
/-! ### deeds done -/
def doD (h : List Bool) (d : Deed) : Option (List Bool) := match d.1 with
  | .opn => if d.2 = (h.length : Int) then some (h ++ [true]) else none
  | .cls => if 0 ≤ d.2 ∧ d.2 < (h.length : Int) ∧ h[d.2.toNat]? = some true then some (h.set d.2.toNat false) else none
  | .agn => if 0 ≤ d.2 ∧ d.2 < (h.length : Int) ∧ h[d.2.toNat]? = some false then some (h.set d.2.toNat true) else none
/-- the first thing that can't, or what stands -/
def doDs : List Bool → List Deed → Sum Int (List Bool)
  | h, [] => .inr h
  | h, d :: r => match doD h d with
    | some h' => doDs h' r
    | none => .inl d.2
def wrongF : Int → List Bool → List Sft → Option (Int × Int)
  | _, _, [] => none
  | k, h, x :: r => match doDs h x.2.1 with
    | .inl t => some (k, t)
    | .inr h' => if x.2.2 = noteL h' then wrongF (k + 1) h' r else some (k, leastD x.2.2 (noteL h'))
abbrev wrongL (xs : List Sft) : Option (Int × Int) := wrongF 0 [] xs
def encW : Option (Int × Int) → D
  | none => .non
  | some (a, t) => .tup [.int a, .int t]
end Hn
end

section
set_option linter.all false
/-! M1: sorting, ranges, hands. -/
namespace Hn
open PySem Ev Vl
theorem insI_perm (x : Int) : ∀ l : List Int, (insI x l).Perm (x :: l)
  | [] => List.Perm.refl _
  | y :: r => by
    unfold insI
    split
    · exact List.Perm.refl _
    · exact ((insI_perm x r).cons y).trans (List.Perm.swap x y r)
theorem srt_perm : ∀ l : List Int, (srt l).Perm l
  | [] => List.Perm.refl _
  | x :: r => (insI_perm x (srt r)).trans ((srt_perm r).cons x)
theorem insI_le {x : Int} : ∀ {l : List Int}, l.Pairwise (· ≤ ·) → (insI x l).Pairwise (· ≤ ·)
  | [], _ => by unfold insI; simp
  | y :: r, .cons h t => by
    unfold insI
    split
    · rename_i hx
      exact .cons (fun z hz => by
        rcases List.mem_cons.mp hz with e | e
        · omega
        · have := h z e; omega) (.cons h t)
    · rename_i hx
      refine .cons (fun z hz => ?_) (insI_le t)
      rcases List.mem_cons.mp ((insI_perm x r).mem_iff.mp hz) with e | e
      · omega
      · exact h z e
theorem srt_le : ∀ l : List Int, (srt l).Pairwise (· ≤ ·)
  | [] => .nil
  | x :: r => insI_le (srt_le r)
theorem rise_of : ∀ {l : List Int}, l.Pairwise (· ≤ ·) → l.Nodup → Rise l
  | [], _, _ => .nil
  | x :: r, .cons h t, .cons n u => .cons (fun z hz => by
      have := h z hz
      have := n z hz
      omega) (rise_of t u)
theorem srt_rise {l : List Int} (h : l.Nodup) : Rise (srt l) := rise_of (srt_le l) ((srt_perm l).nodup_iff.mpr h)
theorem mem_srt {l : List Int} {x : Int} : x ∈ srt l ↔ x ∈ l := (srt_perm l).mem_iff
theorem uniq_mem : ∀ {l : List Int} {x : Int}, x ∈ uniq l ↔ x ∈ l
  | [], x => by simp [uniq]
  | y :: r, x => by
    unfold uniq
    split
    · rename_i h
      have h : y ∈ r := by simpa using h
      rw [uniq_mem]
      constructor
      · intro k; simp [k]
      · intro k
        rcases List.mem_cons.mp k with e | e
        · subst e; exact h
        · exact e
    · simp [uniq_mem (l := r)]
theorem uniq_nodup : ∀ l : List Int, (uniq l).Nodup
  | [] => by simp [uniq]
  | y :: r => by
    unfold uniq
    split
    · exact uniq_nodup r
    · rename_i h
      refine List.nodup_cons.mpr ⟨fun k => h ?_, uniq_nodup r⟩
      simpa using uniq_mem.mp k
theorem uniq_len : ∀ l : List Int, (uniq l).length ≤ l.length
  | [] => by simp [uniq]
  | y :: r => by
    unfold uniq
    have := uniq_len r
    split
    · simp; omega
    · simp; omega
theorem su_rise (l : List Int) : Rise (srt (uniq l)) := srt_rise (uniq_nodup l)
theorem mem_su {l : List Int} {x : Int} : x ∈ srt (uniq l) ↔ x ∈ l := mem_srt.trans uniq_mem
theorem Rise.sub {l m : List Int} (h : Rise m) (k : l.Sublist m) : Rise l := List.Pairwise.sublist k h
theorem cut_sub {α : Type} (xs : List α) (lo hi : Option Int) : (cut xs lo hi).Sublist xs := by
  unfold cut
  exact (List.take_sublist _ _).trans (List.drop_sublist _ _)
theorem cut_map {α β : Type} (f : α → β) (xs : List α) (lo hi : Option Int) : cut (xs.map f) lo hi = (cut xs lo hi).map f := by
  unfold cut
  rw [List.length_map, List.map_take, List.map_drop]
theorem set_cut {α : Type} {xs : List α} {i : Int} {x : α} (h0 : 0 ≤ i) (h1 : i < xs.length) : xs.set i.toNat x = cut xs none (some i) ++ [x] ++ cut xs (some (i + 1)) none := by
  unfold cut sIx
  have e1 : ¬ i < 0 := by omega
  have e2 : ¬ i + 1 < 0 := by omega
  simp only [e1, e2, if_false]
  have a1 : min i.toNat xs.length = i.toNat := by omega
  have a2 : min (i + 1).toNat xs.length = i.toNat + 1 := by omega
  rw [a1, a2]
  simp only [Nat.sub_zero, List.drop_zero]
  rw [List.set_eq_take_append_cons_drop, if_pos (by omega)]
  have : (xs.drop (i.toNat + 1)).take (xs.length - (i.toNat + 1)) = xs.drop (i.toNat + 1) := List.take_of_length_le (by simp)
  rw [this]
  simp
theorem Rise.cut {l : List Int} (h : Rise l) (lo hi : Option Int) : Rise (Ev.cut l lo hi) := h.sub (cut_sub l lo hi)
theorem pick_map {α β : Type} (f : α → β) (xs : List α) (lo st : Int) : pick (xs.map f) lo st = (pick xs lo st).map f := by
  unfold pick
  rw [List.length_map, List.map_filterMap]
  simp only [List.getElem?_map]
theorem pick_mem {α : Type} {xs : List α} {lo st : Int} {x : α} (h : x ∈ pick xs lo st) : x ∈ xs := by
  unfold pick at h
  obtain ⟨i, _, h⟩ := List.mem_filterMap.mp h
  exact List.mem_of_getElem? h
theorem len_sub : ∀ {l m : List Int}, l.Nodup → (∀ x ∈ l, x ∈ m) → l.length ≤ m.length
  | [], m, _, _ => by simp
  | x :: r, m, .cons n u, h => by
    have hx : x ∈ m := h x (by simp)
    have := len_sub (l := r) (m := m.erase x) u fun y hy => (List.mem_erase_of_ne (fun e => n y hy e.symm)).mpr (h y (by simp [hy]))
    rw [List.length_erase_of_mem hx] at this
    have : 0 < m.length := List.length_pos_of_mem hx
    simp; omega
theorem dIs_snoc {xs : List Int} {x : Int} : dIs (xs ++ [x]) = dIs xs ++ [.int x] := List.map_append
theorem dBs_snoc {xs : List Bool} {x : Bool} : dBs (xs ++ [x]) = dBs xs ++ [.bl x] := List.map_append
theorem dDs_snoc {xs : List Deed} {x : Deed} : (xs ++ [x]).map dDeed = xs.map dDeed ++ [dDeed x] := List.map_append
theorem dSs_snoc {xs : List Sft} {x : Sft} : (xs ++ [x]).map dSft = xs.map dSft ++ [dSft x] := List.map_append
/-! ### ranges -/
def ranF : Int → Nat → List D
  | _, 0 => []
  | k, n + 1 => .int k :: ranF (k + 1) n
theorem ranF_eq' (lo : Int) : ∀ (n j : Nat), (List.range' j n).map (fun i => D.int (lo + (i : Nat) * 1)) = ranF (lo + j) n
  | 0, _ => rfl
  | n + 1, j => by
    rw [List.range'_succ, List.map_cons, ranF_eq' lo n (j + 1)]
    have : lo + ((j + 1 : Nat) : Int) = lo + (j : Int) + 1 := by omega
    rw [this]
    show _ = D.int (lo + j) :: ranF (lo + j + 1) n
    simp
theorem ranI_1 (lo : Int) (n : Nat) : ranI lo 1 n = ranF lo n := by
  unfold ranI
  rw [List.range_eq_range', ranF_eq' lo n 0]
  simp
theorem ranF_len : ∀ (n : Nat) (k : Int), (ranF k n).length = n
  | 0, _ => rfl
  | n + 1, k => by simp [ranF, ranF_len n]
theorem ranF_cons {k : Int} {n : Nat} {z : D} {zs : List D} (h : z :: zs = ranF k n) : ∃ m, n = m + 1 ∧ z = .int k ∧ zs = ranF (k + 1) m := by
  cases n with
  | zero => cases h
  | succ m => cases h; exact ⟨m, rfl, rfl, rfl⟩
theorem ranF_nil {k : Int} {n : Nat} (h : [] = ranF k n) : n = 0 := by
  cases n with
  | zero => rfl
  | succ m => cases h
/-! ### hands -/
structure Hands (hs : List Int) : Prop where
  rise : Rise hs
  lo : ∀ x ∈ hs, 0 ≤ x
  hi : ∀ x ∈ hs, x ≤ 5
  ge : 1 ≤ hs.length
  le : hs.length ≤ 4
theorem free_hand {fs : List Int} (hl : fs.length < 6) (h : Int) : ∃ j : Nat, j < 6 ∧ (h + j) % 6 ∉ fs := by
  apply Classical.byContradiction
  intro hn
  have key : ∀ j : Nat, j < 6 → (h + j) % 6 ∈ fs := fun j hj => Classical.byContradiction fun k => hn ⟨j, hj, k⟩
  have : [0, 1, 2, 3, 4, 5].length ≤ fs.length := len_sub (l := [0, 1, 2, 3, 4, 5]) (by decide) fun x hx => by
    have hx2 : 0 ≤ x ∧ x < 6 := by
      simp at hx; omega
    have := key ((x - h) % 6).toNat (by omega)
    have e : (h + (((x - h) % 6).toNat : Nat)) % 6 = x := by omega
    rw [e] at this
    exact this
  simp at this
  omega
theorem atI_nat {α : Type} {xs : List α} {i : Int} {x : α} (h0 : 0 ≤ i) (h : xs[i.toNat]? = some x) : atI xs i = some x := by
  have hl := (List.getElem?_eq_some_iff.mp h).1
  unfold atI ixN
  rw [if_pos h0, if_pos (by omega)]
  exact h
theorem mod_cases (n m : Int) (h : 0 < m) : 0 ≤ n % m ∧ n % m < m := ⟨Int.emod_nonneg n (by omega), Int.emod_lt_of_pos n h⟩
theorem pick5 (n : Int) (a b c d e : Int) : ∃ x, vidx (.tup [.int a, .int b, .int c, .int d, .int e]) (.int (n % 5)) = some (.int x) ∧ (x = a ∨ x = b ∨ x = c ∨ x = d ∨ x = e) := by
  have h := mod_cases n 5 (by decide)
  generalize n % 5 = r at h
  have : r = 0 ∨ r = 1 ∨ r = 2 ∨ r = 3 ∨ r = 4 := by omega
  rcases this with rfl | rfl | rfl | rfl | rfl
  · exact ⟨a, rfl, by simp⟩
  · exact ⟨b, rfl, by simp⟩
  · exact ⟨c, rfl, by simp⟩
  · exact ⟨d, rfl, by simp⟩
  · exact ⟨e, rfl, by simp⟩
theorem pick4 (r : Int) (h0 : 0 ≤ r) (h1 : r < 4) (a b c d : Int) : ∃ x, vidx (.tup [.int a, .int b, .int c, .int d]) (.int r) = some (.int x) ∧ (x = a ∨ x = b ∨ x = c ∨ x = d) := by
  have : r = 0 ∨ r = 1 ∨ r = 2 ∨ r = 3 := by omega
  rcases this with rfl | rfl | rfl | rfl
  · exact ⟨a, rfl, by simp⟩
  · exact ⟨b, rfl, by simp⟩
  · exact ⟨c, rfl, by simp⟩
  · exact ⟨d, rfl, by simp⟩
theorem pick6 (r : Int) (h0 : 0 ≤ r) (h1 : r < 6) (a b c d e f : Int) : ∃ x, vidx (.tup [.int a, .int b, .int c, .int d, .int e, .int f]) (.int r) = some (.int x) ∧ (x = a ∨ x = b ∨ x = c ∨ x = d ∨ x = e ∨ x = f) := by
  have : r = 0 ∨ r = 1 ∨ r = 2 ∨ r = 3 ∨ r = 4 ∨ r = 5 := by omega
  rcases this with rfl | rfl | rfl | rfl | rfl | rfl
  · exact ⟨a, rfl, by simp⟩
  · exact ⟨b, rfl, by simp⟩
  · exact ⟨c, rfl, by simp⟩
  · exact ⟨d, rfl, by simp⟩
  · exact ⟨e, rfl, by simp⟩
  · exact ⟨f, rfl, by simp⟩
theorem v_sorted {ns : List Int} : vbi .sorted [.lst (dIs ns)] = some (.lst (dIs (srt ns))) := by
  simp only [vbi, d1L, dL, Option.bind, dInts_ints, Option.map]
theorem v_sortedSet {ns : List Int} (h : ns.length ≤ 4000) : vbi .sortedSet [.lst (dIs ns)] = some (.lst (dIs (srt (uniq ns)))) := by
  simp only [vbi, d1L, dL, Option.bind, dInts_ints, h, if_true]
theorem v_lenM {α : Type} {f : α → D} {xs : List α} : vbi .len [.lst (xs.map f)] = some (.sh (.int xs.length)) := by
  show some (Ow.sh (.int ((xs.map f).length : Nat))) = _
  rw [List.length_map]
theorem v_len {xs : List D} : vbi .len [.lst xs] = some (.sh (.int xs.length)) := rfl
theorem v_min {ns : List Int} (h : ns ≠ []) : vbi .min [.lst (dIs ns)] = some (.sh (.int (match ns with | [] => 0 | n :: r => minI n r))) := by
  cases ns with
  | nil => exact absurd rfl h
  | cons n r =>
    simp only [vbi, d1L, dL, Option.bind]
    rw [dInts_ints]
theorem v_app {xs : List D} {v : D} (h : xs.length < line) : vlm .append xs [v] = some (.non, xs ++ [v]) := by simp only [vlm, h, if_true]
end Hn
end

section
set_option linter.all false
set_option maxRecDepth 100000
set_option maxHeartbeats 0
namespace K
open PySem Ev Vl Hn
def ir_is_whole : Sm := (.seq (.ret (.and (.isTy .int (.var 0)) (.not (.isTy .bool (.var 0)))))
  .skip)
def ir_is_between : Sm := (.seq (.ret (.and (.call 0 (.cons (.var 0) .nil)) (.chain .le .le (.var 1) (.var 0) (.var 2))))
  .skip)
def ir_are_rising : Sm := (.seq (.ret (.not (.bi .any (.cons (.comp [1, 2] (.tup (.cons (.nm 1) (.cons (.nm 2) .nil))) (.zip (.var 0) (.sl (.var 0) (.con (.int (1))) .nil)) (.con (.bl true)) (.cmp .ge (.var 1) (.var 2))) .nil))))
  .skip)
def ir_are_hands : Sm := (.seq (.ite (.or (.not (.isTy .list (.var 0))) (.not (.chain .le .le (.con (.int (1))) (.bi .len (.cons (.var 0) .nil)) (.con (.int (4)))))) (.seq (.ret (.con (.bl false)))
  .skip) .skip)
  (.seq (.ret (.and (.bi .all (.cons (.comp [1] (.nm 1) (.seq (.var 0)) (.con (.bl true)) (.call 1 (.cons (.var 1) (.cons (.con (.int (0))) (.cons (.con (.int (5))) .nil))))) .nil)) (.call 2 (.cons (.var 0) .nil))))
  .skip))
def ir_Things_init : Sm := (.seq (.setf (.var 0) 7 (.con (.int (0))))
  (.seq (.setf (.var 0) 13 (.lst .nil))
  .skip))
def ir_Things_can : Sm := (.seq (.asg (.tup (.cons (.nm 2) (.cons (.nm 3) .nil))) (.var 1))
  (.seq (.ite (.cmp .eq (.var 2) (.con (.str "open"))) (.seq (.ret (.cmp .eq (.var 3) (.fld (.var 0) 7)))
  .skip) .skip)
  (.seq (.ite (.not (.chain .le .lt (.con (.int (0))) (.var 3) (.fld (.var 0) 7))) (.seq (.ret (.con (.bl false)))
  .skip) .skip)
  (.seq (.ret (.cmp .eq (.cmp .isin (.var 3) (.fld (.var 0) 13)) (.cmp .eq (.var 2) (.con (.str "close")))))
  .skip))))
def ir_Things_do : Sm := (.seq (.asg (.tup (.cons (.nm 2) (.cons (.nm 3) .nil))) (.var 1))
  (.seq (.ite (.cmp .eq (.var 2) (.con (.str "close"))) (.seq (.ex (.lm .remove (.fld (.var 0) 13) (.cons (.var 3) .nil)))
  (.seq (.ret (.con .non))
  .skip)) .skip)
  (.seq (.ite (.cmp .eq (.var 2) (.con (.str "open"))) (.seq (.augf (.var 0) 7 (1))
  .skip) .skip)
  (.seq (.setf (.var 0) 13 (.bi .sorted (.cons (.bin .add (.fld (.var 0) 13) (.lst (.cons (.var 3) .nil))) .nil)))
  .skip))))
def ir_last_change : Sm := (.seq (.asg (.nm 2) (.comp [3, 4, 5, 6] (.tup (.cons (.nm 3) (.cons (.tup (.cons (.nm 4) (.cons (.nm 5) (.cons (.nm 6) .nil)))) .nil))) (.enum (.var 0)) (.cmp .isin (.var 1) (.comp [7] (.nm 7) (.seq (.var 5)) (.con (.bl true)) (.idx (.var 7) (.con (.int (1)))))) (.var 3)))
  (.seq (.ret (.ite (.cmp .ne (.var 2) (.lst .nil)) (.idx (.var 2) (.neg (.con (.int (1))))) (.con .non)))
  .skip))
def ir_hands_from : Sm := (.seq (.asg (.nm 2) (.lst .nil))
  (.seq (.for_ (.tup (.cons (.nm 3) (.cons (.nm 4) (.cons (.nm 5) .nil)))) (.seq (.sl (.var 0) (.var 1) .nil)) (.seq (.ex (.lm .extend (.var 2) (.cons (.comp [6] (.nm 6) (.seq (.var 3)) (.cmp .notin (.var 6) (.var 2)) (.var 6)) .nil)))
  .skip))
  (.seq (.ret (.bi .sorted (.cons (.var 2) .nil)))
  .skip)))
def ir_Book_init : Sm := (.seq (.setf (.var 0) 12 (.lst .nil))
  (.seq (.setf (.var 0) 14 (.make 10 .nil))
  .skip))
def ir_Book_begin : Sm := (.seq (.ite (.not (.call 3 (.cons (.var 1) .nil))) (.seq (.raise 5)
  .skip) .skip)
  (.seq (.ite (.cmp .eq (.bi .len (.cons (.fld (.var 0) 12) .nil)) (.con (.int (40)))) (.seq (.raise 9)
  .skip) .skip)
  (.seq (.ex (.lm .append (.fld (.var 0) 12) (.cons (.tup (.cons (.bi .list (.cons (.var 1) .nil)) (.cons (.lst .nil) (.cons (.bi .list (.cons (.fld (.fld (.var 0) 14) 13) .nil)) .nil)))) .nil)))
  (.seq (.ret (.bin .sub (.bi .len (.cons (.fld (.var 0) 12) .nil)) (.con (.int (1)))))
  .skip))))
def ir_Book_check_room : Sm := (.seq (.ite (.cmp .eq (.fld (.var 0) 12) (.lst .nil)) (.seq (.raise 8)
  .skip) .skip)
  .skip)
def ir_Book_write : Sm := (.seq (.ite (.cmp .eq (.bi .len (.cons (.idx (.idx (.fld (.var 0) 12) (.neg (.con (.int (1))))) (.con (.int (1)))) .nil)) (.con (.int (6)))) (.seq (.raise 9)
  .skip) .skip)
  (.seq (.ex (.meth (.fld (.var 0) 14) 6 (.cons (.tup (.cons (.var 1) (.cons (.var 2) .nil))) .nil)))
  (.seq (.asg (.tup (.cons (.nm 3) (.cons (.nm 4) (.cons (.nm 5) .nil)))) (.idx (.fld (.var 0) 12) (.neg (.con (.int (1))))))
  (.seq (.seti (.fld (.var 0) 12) (.neg (.con (.int (1)))) (.tup (.cons (.var 3) (.cons (.bin .add (.var 4) (.lst (.cons (.tup (.cons (.var 1) (.cons (.var 2) .nil))) .nil))) (.cons (.bi .list (.cons (.fld (.fld (.var 0) 14) 13) .nil)) .nil)))))
  .skip))))
def ir_Book_bring : Sm := (.seq (.ex (.meth (.var 0) 3 .nil))
  (.seq (.ex (.meth (.var 0) 15 (.cons (.con (.str "open")) (.cons (.fld (.fld (.var 0) 14) 7) .nil))))
  (.seq (.ret (.bin .sub (.fld (.fld (.var 0) 14) 7) (.con (.int (1)))))
  .skip)))
def ir_Book_check_thing : Sm := (.seq (.ex (.meth (.var 0) 3 .nil))
  (.seq (.ite (.or (.not (.call 1 (.cons (.var 2) (.cons (.con (.int (0))) (.cons (.bin .sub (.fld (.fld (.var 0) 14) 7) (.con (.int (1)))) .nil))))) (.not (.meth (.fld (.var 0) 14) 2 (.cons (.tup (.cons (.var 1) (.cons (.var 2) .nil))) .nil)))) (.seq (.raise 6)
  .skip) .skip)
  .skip))
def ir_Book_close : Sm := (.seq (.ex (.meth (.var 0) 4 (.cons (.con (.str "close")) (.cons (.var 1) .nil))))
  (.seq (.ex (.meth (.var 0) 15 (.cons (.con (.str "close")) (.cons (.var 1) .nil))))
  (.seq (.ret (.bi .len (.cons (.fld (.fld (.var 0) 14) 13) .nil)))
  .skip)))
def ir_Book_reopen : Sm := (.seq (.ex (.meth (.var 0) 4 (.cons (.con (.str "again")) (.cons (.var 1) .nil))))
  (.seq (.ex (.meth (.var 0) 15 (.cons (.con (.str "again")) (.cons (.var 1) .nil))))
  (.seq (.ret (.bi .len (.cons (.fld (.fld (.var 0) 14) 13) .nil)))
  .skip)))
def ir_Book_note : Sm := (.seq (.ret (.bi .list (.cons (.fld (.fld (.var 0) 14) 13) .nil)))
  .skip)
def ir_Book_seen : Sm := (.seq (.ite (.not (.call 1 (.cons (.var 1) (.cons (.con (.int (0))) (.cons (.bin .sub (.fld (.fld (.var 0) 14) 7) (.con (.int (1)))) .nil))))) (.seq (.raise 6)
  .skip) .skip)
  (.seq (.ret (.call 8 (.cons (.fld (.var 0) 12) (.cons (.call 7 (.cons (.fld (.var 0) 12) (.cons (.var 1) .nil))) .nil))))
  .skip))
def ir_Book_record : Sm := (.seq (.ret (.comp [1, 2, 3] (.tup (.cons (.nm 1) (.cons (.nm 2) (.cons (.nm 3) .nil)))) (.seq (.fld (.var 0) 12)) (.con (.bl true)) (.tup (.cons (.bi .list (.cons (.var 1) .nil)) (.cons (.bi .list (.cons (.var 2) .nil)) (.cons (.bi .list (.cons (.var 3) .nil)) .nil))))))
  .skip)
def ir_law_which : Sm := (.ret .nil)
def ir_law_refused : Sm := (.seq (.for_ (.nm 3) (.seq (.var 1)) (.seq (.asg (.nm 4) (.neg (.con (.int (1)))))
  (.seq (.tryA 0 (.cons (.var 3) .nil) 0 5 4 20)
  (.seq (.ite (.cmp .ne (.var 4) (.var 2)) (.seq (.ret (.con (.bl false)))
  .skip) .skip)
  .skip))))
  (.seq (.ret (.con (.bl true)))
  .skip))
def ir_law_no_numbers : Sm := (.seq (.ret (.lst (.cons (.con .non) (.cons (.con (.str "1")) (.cons (.con (.bl true)) (.cons (.con (.bl false)) (.cons (.lst (.cons (.con (.int (1))) .nil)) (.cons (.tup (.cons (.con (.int (1))) .nil)) (.cons .dnew (.cons (.neg (.con (.int (1)))) (.cons (.bin .sub (.neg (.con (.int (1)))) (.var 0)) .nil)))))))))))
  .skip)
def ir_law_empty_right : Sm := (.seq (.asg (.nm 1) (.make 11 .nil))
  (.seq (.ite (.not (.callL 21 26 [1] (.cons (.lst (.cons (.con (.int (0))) (.cons (.con .non) (.cons (.var 0) .nil)))) (.cons (.con (.int (7))) .nil)))) (.seq (.ret (.con (.bl false)))
  .skip) .skip)
  (.seq (.ite (.not (.callL 21 27 [1] (.cons (.lst (.cons (.con (.int (0))) (.cons (.con .non) (.cons (.var 0) .nil)))) (.cons (.con (.int (7))) .nil)))) (.seq (.ret (.con (.bl false)))
  .skip) .skip)
  (.seq (.ite (.not (.callL 21 28 [1] (.cons (.lst (.cons (.con (.int (0))) .nil)) (.cons (.con (.int (7))) .nil)))) (.seq (.ret (.con (.bl false)))
  .skip) .skip)
  (.seq (.ite (.not (.callL 21 29 [1] (.cons (.bin .add (.call 22 (.cons (.var 0) .nil)) (.lst (.cons (.con (.int (0))) (.cons (.var 0) .nil)))) (.cons (.con (.int (5))) .nil)))) (.seq (.ret (.con (.bl false)))
  .skip) .skip)
  (.seq (.ret (.and (.cmp .eq (.meth (.var 1) 8 .nil) (.lst .nil)) (.cmp .eq (.meth (.var 1) 9 .nil) (.lst .nil))))
  .skip))))))
def ir_law_forty_right : Sm := (.seq (.for_ (.nm 1) (.rng2 (.con (.int (1))) (.con (.int (40)))) (.seq (.ite (.cmp .ne (.meth (.var 0) 0 (.cons (.lst (.cons (.bin .mod (.var 1) (.con (.int (6)))) .nil)) .nil)) (.var 1)) (.seq (.ret (.con (.bl false)))
  .skip) .skip)
  .skip))
  (.seq (.ite (.not (.callL 21 30 [0] (.cons (.lst (.cons (.lst (.cons (.con (.int (0))) .nil)) (.cons (.lst (.cons (.con (.int (1))) (.cons (.con (.int (2))) .nil))) .nil))) (.cons (.con (.int (8))) .nil)))) (.seq (.ret (.con (.bl false)))
  .skip) .skip)
  (.seq (.ite (.or (.not (.callL 21 31 [0] (.cons (.lst (.cons (.lst .nil) (.cons (.con .non) .nil))) (.cons (.con (.int (4))) .nil)))) (.cmp .ne (.meth (.var 0) 5 (.cons (.con (.int (1))) .nil)) (.con (.int (1))))) (.seq (.ret (.con (.bl false)))
  .skip) .skip)
  (.seq (.ret (.and (.cmp .eq (.meth (.var 0) 11 (.cons (.con (.int (1))) .nil)) (.lst (.cons (.con (.int (3))) .nil))) (.and (.cmp .eq (.meth (.var 0) 11 (.cons (.con (.int (0))) .nil)) (.lst (.cons (.con (.int (0))) (.cons (.con (.int (1))) (.cons (.con (.int (2))) (.cons (.con (.int (3))) (.cons (.con (.int (4))) (.cons (.con (.int (5))) .nil)))))))) (.cmp .eq (.bi .len (.cons (.meth (.var 0) 9 .nil) .nil)) (.con (.int (40)))))))
  .skip))))
def ir_law : Sm := (.seq (.for_ (.nm 1) (.seq (.bin .add (.sl (.var 0) .nil (.con (.int (3)))) (.lst (.cons (.bi .len (.cons (.var 0) .nil)) .nil)))) (.seq (.asg (.tup (.cons (.nm 6) (.cons (.nm 7) .nil))) (.tup (.cons (.bin .mod (.bi .abs (.cons (.var 1) .nil)) (.bin .pow (.con (.int (10))) (.con (.int (20))))) (.cons (.make 11 .nil) .nil))))
  (.seq (.ite (.not (.call 23 (.cons (.var 6) .nil))) (.seq (.ret (.con (.bl false)))
  .skip) .skip)
  (.seq (.ite (.cmp .ne (.lst (.cons (.meth (.var 7) 0 (.cons (.lst (.cons (.con (.int (0))) (.cons (.con (.int (5))) .nil))) .nil)) (.cons (.meth (.var 7) 1 .nil) (.cons (.meth (.var 7) 1 .nil) (.cons (.meth (.var 7) 5 (.cons (.con (.int (1))) .nil)) .nil))))) (.lst (.cons (.con (.int (0))) (.cons (.con (.int (0))) (.cons (.con (.int (1))) (.cons (.con (.int (1))) .nil)))))) (.seq (.ret (.con (.bl false)))
  .skip) .skip)
  (.seq (.asg (.nm 2) (.meth (.var 7) 9 .nil))
  (.seq (.asg (.nm 3) (.lst (.cons (.con .non) (.cons (.con (.int (5))) (.cons (.con (.str "01")) (.cons (.tup .nil) (.cons (.tup (.cons (.con (.int (0))) (.cons (.con (.int (1))) .nil))) (.cons .dnew (.cons (.lst .nil) (.cons (.lst (.cons (.con (.int (0))) (.cons (.con (.int (1))) (.cons (.con (.int (2))) (.cons (.con (.int (3))) (.cons (.con (.int (4))) .nil)))))) (.cons (.lst (.cons (.con (.int (1))) (.cons (.con (.int (0))) .nil))) (.cons (.lst (.cons (.con (.int (2))) (.cons (.con (.int (2))) .nil))) (.cons (.lst (.cons (.con (.int (6))) .nil)) (.cons (.lst (.cons (.con (.int (0))) (.cons (.bin .add (.con (.int (6))) (.var 6)) .nil))) .nil))))))))))))))
  (.seq (.for_ (.nm 4) (.seq (.call 22 (.cons (.var 6) .nil))) (.seq (.asg (.nm 3) (.bin .add (.var 3) (.lst (.cons (.lst (.cons (.var 4) .nil)) (.cons (.lst (.cons (.con (.int (0))) (.cons (.var 4) .nil))) .nil)))))
  .skip))
  (.seq (.ite (.not (.callL 21 32 [7] (.cons (.var 3) (.cons (.con (.int (4))) .nil)))) (.seq (.ret (.con (.bl false)))
  .skip) .skip)
  (.seq (.asg (.nm 5) (.bin .add (.call 22 (.cons (.var 6) .nil)) (.lst (.cons (.con (.int (2))) (.cons (.bin .add (.con (.int (2))) (.var 6)) .nil)))))
  (.seq (.ite (.not (.callL 21 33 [7] (.cons (.bin .add (.var 5) (.lst (.cons (.con (.int (1))) .nil))) (.cons (.con (.int (5))) .nil)))) (.seq (.ret (.con (.bl false)))
  .skip) .skip)
  (.seq (.ite (.not (.callL 21 34 [7] (.cons (.bin .add (.var 5) (.lst (.cons (.con (.int (0))) .nil))) (.cons (.con (.int (5))) .nil)))) (.seq (.ret (.con (.bl false)))
  .skip) .skip)
  (.seq (.ite (.or (.not (.callL 21 38 [7] (.cons (.var 5) (.cons (.con (.int (5))) .nil)))) (.cmp .ne (.meth (.var 7) 9 .nil) (.var 2))) (.seq (.ret (.con (.bl false)))
  .skip) .skip)
  (.seq (.ite (.cmp .ne (.lst (.cons (.meth (.var 7) 10 (.cons (.con (.int (1))) .nil)) (.cons (.meth (.var 7) 5 (.cons (.con (.int (0))) .nil)) (.cons (.meth (.var 7) 10 (.cons (.con (.int (0))) .nil)) .nil)))) (.lst (.cons (.con (.int (2))) (.cons (.con (.int (1))) (.cons (.con (.int (2))) .nil))))) (.seq (.ret (.con (.bl false)))
  .skip) .skip)
  (.seq (.ite (.not (.callL 21 35 [7] (.cons (.lst (.cons (.con (.int (0))) .nil)) (.cons (.con (.int (8))) .nil)))) (.seq (.ret (.con (.bl false)))
  .skip) .skip)
  (.seq (.ite (.not (.callL 21 36 [7] (.cons (.lst (.cons (.con (.int (0))) (.cons (.con (.int (1))) .nil))) (.cons (.con (.int (8))) .nil)))) (.seq (.ret (.con (.bl false)))
  .skip) .skip)
  (.seq (.ite (.not (.callL 21 37 [7] (.cons (.lst (.cons (.con (.int (2))) (.cons (.con .non) .nil))) (.cons (.con (.int (5))) .nil)))) (.seq (.ret (.con (.bl false)))
  .skip) .skip)
  (.seq (.ite (.or (.not (.callL 21 39 [7] (.cons (.lst (.cons (.con (.int (0))) (.cons (.con (.int (1))) (.cons (.con .non) .nil)))) (.cons (.con (.int (5))) .nil)))) (.cmp .ne (.meth (.var 7) 8 .nil) (.lst (.cons (.con (.int (0))) (.cons (.con (.int (1))) .nil))))) (.seq (.ret (.con (.bl false)))
  .skip) .skip)
  (.seq (.ite (.not (.call 24 (.cons (.var 7) .nil))) (.seq (.ret (.con (.bl false)))
  .skip) .skip)
  .skip))))))))))))))))))
  (.seq (.ret (.con (.bl true)))
  .skip))
def irs0 : List (Nat × Nat × Sm) := [(1, 1, ir_is_whole), (3, 3, ir_is_between), (1, 3, ir_are_rising), (1, 2, ir_are_hands), (1, 1, ir_Things_init), (2, 4, ir_Things_can), (2, 4, ir_Things_do), (2, 8, ir_last_change), (2, 7, ir_hands_from), (1, 1, ir_Book_init)]
def irs1 : List (Nat × Nat × Sm) := [(2, 2, ir_Book_begin), (1, 1, ir_Book_check_room), (3, 6, ir_Book_write), (1, 1, ir_Book_bring), (3, 3, ir_Book_check_thing), (2, 2, ir_Book_close), (2, 2, ir_Book_reopen), (1, 1, ir_Book_note), (2, 2, ir_Book_seen), (1, 4, ir_Book_record)]
def irs2 : List (Nat × Nat × Sm) := [(1, 2, ir_law_which), (3, 6, ir_law_refused), (1, 1, ir_law_no_numbers), (1, 2, ir_law_empty_right), (1, 2, ir_law_forty_right), (1, 8, ir_law)]
def irs : List (Nat × Nat × Sm) := irs0 ++ irs1 ++ irs2
def kls0 : List (Kls) := [⟨"NoteError", true, none, [], [], [0]⟩, ⟨"BadShifts", true, none, [], [], [1, 0]⟩, ⟨"BadRosters", true, none, [], [], [2, 0]⟩, ⟨"BadLost", true, none, [], [], [3, 0]⟩, ⟨"BadShift", true, none, [], [], [4, 0]⟩, ⟨"BadHands", true, none, [], [], [5, 0]⟩, ⟨"BadThing", true, none, [], [], [6, 0]⟩, ⟨"Unfit", true, none, [], [], [7, 0]⟩]
def kls1 : List (Kls) := [⟨"NoShift", true, none, [], [], [8, 0]⟩, ⟨"TooMany", true, none, [], [], [9, 0]⟩, ⟨"Things", false, some 4, [(2, 5), (6, 6)], [7, 13], [10]⟩, ⟨"Book", false, some 9, [(0, 10), (3, 11), (15, 12), (1, 13), (4, 14), (5, 15), (10, 16), (8, 17), (11, 18), (9, 19)], [12, 14], [11]⟩]
def kls : List (Kls) := kls0 ++ kls1
def lam_26 : Sm := .ret (.meth (.var 0) 5 (.cons (.var 1) .nil))
def lam_27 : Sm := .ret (.meth (.var 0) 10 (.cons (.var 1) .nil))
def lam_28 : Sm := .ret (.meth (.var 0) 1 .nil)
def lam_29 : Sm := .ret (.meth (.var 0) 11 (.cons (.var 1) .nil))
def lam_30 : Sm := .ret (.meth (.var 0) 0 (.cons (.var 1) .nil))
def lam_31 : Sm := .ret (.meth (.var 0) 0 (.cons (.var 1) .nil))
def lam_32 : Sm := .ret (.meth (.var 0) 0 (.cons (.var 1) .nil))
def lam_33 : Sm := .ret (.meth (.var 0) 5 (.cons (.var 1) .nil))
def lam_34 : Sm := .ret (.meth (.var 0) 10 (.cons (.var 1) .nil))
def lam_35 : Sm := .ret (.meth (.var 0) 1 .nil)
def lam_36 : Sm := .ret (.meth (.var 0) 5 (.cons (.var 1) .nil))
def lam_37 : Sm := .ret (.meth (.var 0) 5 (.cons (.var 1) .nil))
def lam_38 : Sm := .ret (.meth (.var 0) 11 (.cons (.var 1) .nil))
def lam_39 : Sm := .ret (.meth (.var 0) 10 (.cons (.var 1) .nil))
def lms0 : List (Nat × Nat × Sm) := [(2, 2, lam_26), (2, 2, lam_27), (2, 2, lam_28), (2, 2, lam_29), (2, 2, lam_30), (2, 2, lam_31), (2, 2, lam_32), (2, 2, lam_33), (2, 2, lam_34), (2, 2, lam_35)]
def lms1 : List (Nat × Nat × Sm) := [(2, 2, lam_36), (2, 2, lam_37), (2, 2, lam_38), (2, 2, lam_39)]
def lms : List (Nat × Nat × Sm) := lms0 ++ lms1
def whs : List (Nat × List Nat) := [(20, [1, 2, 3, 4, 5, 6, 7, 8, 9])]
def tx : Tx := txOf irs kls whs lms
abbrev R (d : Nat) : Nat → List Ow → CRes := vrun tx (fun _ _ => none) d
theorem R_ok (d f : Nat) : CallOk (R d f) (Ev.run tx d f) := vrun_ok (T := tx) (ov := fun _ _ => none) (fun d f g h => by cases h) d f
/-- books by what was done -/
abbrev bk (L : List D) (n : Int) (st : List D) : Ow := .ins 11 (.cons 12 (.lst L) (.cons 14 (.ins 10 (.cons 7 (.sh (.int n)) (.cons 13 (.lst st) .nil))) .nil))
abbrev bk0 : Ow := bk [] 0 []
abbrev dd (x : Str) (i : Int) : D := .tup [.str x, .int i]
abbrev shA : D := .tup [.lst [.int 0, .int 5], .lst [dd "open" 0, dd "open" 1, dd "close" 1], .lst [.int 0]]
abbrev bkA : Ow := bk [shA] 2 [.int 0]
abbrev shB : D := .tup [.lst [.int 0, .int 5], .lst [dd "open" 0, dd "open" 1, dd "close" 1, dd "again" 1, dd "close" 0, dd "again" 0], .lst [.int 0, .int 1]]
abbrev bkB : Ow := bk [shB] 2 [.int 0, .int 1]
abbrev sh6 (i : Int) : D := .tup [.lst [.int i], .lst [], .lst [.int 0, .int 1]]
abbrev six : List D := [sh6 0, sh6 1, sh6 2, sh6 3, sh6 4, sh6 5]
abbrev bk40 : Ow := bk (shB :: [sh6 1, sh6 2, sh6 3, sh6 4, sh6 5] ++ six ++ six ++ six ++ six ++ six ++ [sh6 0, sh6 1, sh6 2, sh6 3]) 2 [.int 0, .int 1]
abbrev noN (m : Nat) : List D := [.non, .str "1", .bl true, .bl false, .lst [.int 1], .tup [.int 1], .dct [], .int (-1), .int (-1 - (m : Int))]
theorem neg_m (m : Nat) : (-1 - (m : Int)) = Int.negSucc m := by omega
theorem add_m (m : Nat) (i : Nat) : ((i : Nat) : Int) + (m : Int) = ((m + i : Nat) : Int) := by omega
abbrev bk41 : Ow := bk (shB :: [sh6 1, sh6 2, sh6 3, sh6 4, sh6 5] ++ six ++ six ++ six ++ six ++ six ++ [sh6 0, sh6 1, sh6 2, .tup [.lst [.int 3], .lst [dd "close" 1], .lst [.int 0]]]) 2 [.int 0]
theorem forty_wr {d : Nat} : WR tx (Ev.run tx (d + 9)) ir_law_forty_right (vstart 2 [bkB]) (RtF fun o => o = .sh (.bl true)) := by
  unfold ir_law_forty_right
  refine r_run (clv := R (d + 9)) (s1 := [some bk40, some (.sh (.int 39))]) (fun f => R_ok _ f) (by kernel_rfl) ?_
  refine r_ifNot (HB.refO (clv := R (d + 9)) (gf := R (d + 8) 30) (ts := [.lst [.int 0], .lst [.int 1, .int 2]]) (due := 8) (k := 9) (s1 := [some bk40, some (.sh (.int 39))]) (fun f => R_ok _ f) (R_ok _ _) rfl rfl rfl rfl ⟨rfl, rfl, rfl⟩ ⟨by kernel_rfl, by kernel_rfl, trivial⟩) ?_
  refine r_ifNotOr (HB.refO (clv := R (d + 9)) (gf := R (d + 8) 31) (ts := [.lst [], .non]) (due := 4) (k := 5) (s1 := [some bk40, some (.sh (.int 39))]) (fun f => R_ok _ f) (R_ok _ _) rfl rfl rfl rfl ⟨rfl, rfl, rfl⟩ ⟨by kernel_rfl, by kernel_rfl, trivial⟩) (s2 := [some bk41, some (.sh (.int 39))]) (HB.of (clv := R (d + 9)) (fun f => R_ok _ f) (by kernel_rfl)) ?_
  exact r_ret (clv := R (d + 9)) (s1 := [some bk41, some (.sh (.int 39))]) (o := .sh (.bl true)) (fun f => R_ok _ f) (by kernel_rfl) rfl
theorem empty_wr {d m : Nat} : WR tx (Ev.run tx (d + 9)) ir_law_empty_right (vstart 2 [.sh (.int (m : Int))]) (RtF fun o => o = .sh (.bl true)) := by
  unfold ir_law_empty_right
  refine r_run (clv := R (d + 9)) (s1 := [some (.sh (.int (m : Int))), some bk0]) (fun f => R_ok _ f) (by kernel_rfl) ?_
  refine r_ifNot (HB.refO (clv := R (d + 9)) (gf := R (d + 8) 26) (ts := [.int 0, .non, .int (m : Int)]) (due := 7) (k := 8) (s1 := [some (.sh (.int (m : Int))), some bk0]) (fun f => R_ok _ f) (R_ok _ _) rfl rfl rfl rfl ⟨rfl, rfl, rfl⟩ ⟨by kernel_rfl, by kernel_rfl, by kernel_rfl, trivial⟩) ?_
  refine r_ifNot (HB.refO (clv := R (d + 9)) (gf := R (d + 8) 27) (ts := [.int 0, .non, .int (m : Int)]) (due := 7) (k := 8) (s1 := [some (.sh (.int (m : Int))), some bk0]) (fun f => R_ok _ f) (R_ok _ _) rfl rfl rfl rfl ⟨rfl, rfl, rfl⟩ ⟨by kernel_rfl, by kernel_rfl, by kernel_rfl, trivial⟩) ?_
  refine r_ifNot (HB.refO (clv := R (d + 9)) (gf := R (d + 8) 28) (ts := [.int 0]) (due := 7) (k := 8) (s1 := [some (.sh (.int (m : Int))), some bk0]) (fun f => R_ok _ f) (R_ok _ _) rfl rfl rfl rfl ⟨rfl, rfl, rfl⟩ ⟨by kernel_rfl, trivial⟩) ?_
  refine r_ifNot (HB.refO (clv := R (d + 9)) (gf := R (d + 8) 29) (ts := [.non, .str "1", .bl true, .bl false, .lst [.int 1], .tup [.int 1], .dct [], .int (-1), .int (-1 - (m : Int)), .int 0, .int (m : Int)]) (due := 5) (k := 6) (s1 := [some (.sh (.int (m : Int))), some bk0]) (fun f => R_ok _ f) (R_ok _ _) rfl rfl rfl rfl ⟨rfl, rfl, rfl⟩ ⟨by kernel_rfl, by kernel_rfl, by kernel_rfl, by kernel_rfl, by kernel_rfl, by kernel_rfl, by kernel_rfl, by kernel_rfl, by rw [neg_m]; kernel_rfl, by kernel_rfl, by cases m <;> kernel_rfl, trivial⟩) ?_
  exact r_ret (clv := R (d + 9)) (s1 := [some (.sh (.int (m : Int))), some bk0]) (o := .sh (.bl true)) (fun f => R_ok _ f) (by kernel_rfl) rfl
def Pre23 (os : List Ow) : Prop := ∃ m : Nat, os = [.sh (.int (m : Int))]
def Pre24 (os : List Ow) : Prop := os = [bkB]
theorem g23_ok {d : Nat} : CallOk (gOf Pre23 (.sh (.bl true))) (Ev.run tx (d + 10) 23) := call_hs (T := tx) (d := d + 9) (f := 23) (np := 1) (n := 2) (b := ir_law_empty_right) rfl (Pre := Pre23) (o0 := .sh (.bl true)) (fun os hp => by obtain ⟨m, rfl⟩ := hp; rfl) (fun os hp => by obtain ⟨m, rfl⟩ := hp; exact empty_wr) gOf_is
theorem g24_ok {d : Nat} : CallOk (gOf Pre24 (.sh (.bl true))) (Ev.run tx (d + 10) 24) := call_hs (T := tx) (d := d + 9) (f := 24) (np := 1) (n := 2) (b := ir_law_forty_right) rfl (Pre := Pre24) (o0 := .sh (.bl true)) (fun os hp => by cases hp; rfl) (fun os hp => by cases hp; exact forty_wr) gOf_is
noncomputable def cl23 (d : Nat) : Nat → List Ow → CRes := fun f => if f = 23 then gOf Pre23 (.sh (.bl true)) else R (d + 10) f
theorem cl23_eq {d : Nat} : cl23 d 23 = gOf Pre23 (.sh (.bl true)) := if_pos rfl
theorem cl23_ok {d : Nat} (f : Nat) : CallOk (cl23 d f) (Ev.run tx (d + 10) f) := by
  unfold cl23
  by_cases h : f = 23
  · rw [if_pos h, h]; exact g23_ok
  · rw [if_neg h]; exact R_ok _ f
abbrev hdA (m : Nat) : List D := [.non, .int 5, .str "01", .tup [], .tup [.int 0, .int 1], .dct [], .lst [], .lst [.int 0, .int 1, .int 2, .int 3, .int 4], .lst [.int 1, .int 0], .lst [.int 2, .int 2], .lst [.int 6], .lst [.int 0, .int (6 + (m : Int))]]
abbrev two (x : D) : List D := [.lst [x], .lst [.int 0, x]]
abbrev hdB (m : Nat) : List D := hdA m ++ two .non ++ two (.str "1") ++ two (.bl true) ++ two (.bl false) ++ two (.lst [.int 1]) ++ two (.tup [.int 1]) ++ two (.dct []) ++ two (.int (-1)) ++ two (.int (-1 - (m : Int)))
abbrev thA (m : Nat) : List D := noN m ++ [.int 2, .int (2 + (m : Int))]
abbrev sA (ns : List Int) (z : D) (x2 x3 x4 x5 : Option Ow) (m : Nat) (b : Ow) : VEnv := [some (.sh (.scr ns)), some (.sh z), x2, x3, x4, x5, some (.sh (.int (m : Int))), some b]
theorem six_m (m : Nat) : (6 + (m : Int)) = ((m + 6 : Nat) : Int) := by omega
theorem two_m (m : Nat) : (2 + (m : Int)) = ((m + 2 : Nat) : Int) := by omega
theorem hdB_R {d m : Nat} : AllR (R (d + 9) 32) bkA 5 (hdB m) :=
  .app (.app (.app (.app (.app (.app (.app (.app (.app ⟨by kernel_rfl, by kernel_rfl, by kernel_rfl, by kernel_rfl, by kernel_rfl, by kernel_rfl, by kernel_rfl, by kernel_rfl, by kernel_rfl, by kernel_rfl, by kernel_rfl, by rw [six_m]; kernel_rfl, trivial⟩ ⟨by kernel_rfl, by kernel_rfl, trivial⟩) ⟨by kernel_rfl, by kernel_rfl, trivial⟩) ⟨by kernel_rfl, by kernel_rfl, trivial⟩) ⟨by kernel_rfl, by kernel_rfl, trivial⟩) ⟨by kernel_rfl, by kernel_rfl, trivial⟩) ⟨by kernel_rfl, by kernel_rfl, trivial⟩) ⟨by kernel_rfl, by kernel_rfl, trivial⟩) ⟨by kernel_rfl, by kernel_rfl, trivial⟩) ⟨by rw [neg_m]; kernel_rfl, by rw [neg_m]; kernel_rfl, trivial⟩
theorem thA_33 {d m : Nat} : AllR (R (d + 9) 33) bkA 6 (thA m) := .app ⟨by kernel_rfl, by kernel_rfl, by kernel_rfl, by kernel_rfl, by kernel_rfl, by kernel_rfl, by kernel_rfl, by kernel_rfl, by rw [neg_m]; kernel_rfl, trivial⟩ ⟨by kernel_rfl, by rw [two_m]; kernel_rfl, trivial⟩
theorem thA_34 {d m : Nat} : AllR (R (d + 9) 34) bkA 6 (thA m) := .app ⟨by kernel_rfl, by kernel_rfl, by kernel_rfl, by kernel_rfl, by kernel_rfl, by kernel_rfl, by kernel_rfl, by kernel_rfl, by rw [neg_m]; kernel_rfl, trivial⟩ ⟨by kernel_rfl, by rw [two_m]; kernel_rfl, trivial⟩
theorem thA_38 {d m : Nat} : AllR (R (d + 9) 38) bkA 6 (thA m) := .app ⟨by kernel_rfl, by kernel_rfl, by kernel_rfl, by kernel_rfl, by kernel_rfl, by kernel_rfl, by kernel_rfl, by kernel_rfl, by rw [neg_m]; kernel_rfl, trivial⟩ ⟨by kernel_rfl, by rw [two_m]; kernel_rfl, trivial⟩
theorem turn_wr {d : Nat} {ns : List Int} {i : Int} {x2 x3 x4 x5 x6 x7 : Option Ow} {P : VFl → Prop} (k : ∀ y2 y3 y4 y5 y6, P (.nx [some (.sh (.scr ns)), some (.sh (.int i)), y2, y3, y4, y5, y6, none])) :
    WR tx (Ev.run tx (d + 10)) (match ir_law with | .seq (.for_ _ _ b) _ => b | _ => .skip) [some (.sh (.scr ns)), some (.sh (.int i)), x2, x3, x4, x5, x6, x7] P := by
  unfold ir_law
  dsimp only
  obtain ⟨m, hm⟩ : ∃ m : Nat, (if i < 0 then -i else i) % 100000000000000000000 = (m : Int) := ⟨((if i < 0 then -i else i) % 100000000000000000000).toNat, (Int.toNat_of_nonneg (Int.emod_nonneg _ (by decide))).symm⟩
  refine r_run (clv := R (d + 10)) (s1 := sA ns (.int i) x2 x3 x4 x5 m bk0) (fun f => R_ok _ f) ?_ ?_
  · unfold sA
    rw [← hm]
    kernel_rfl
  refine r_ifNot (HB.ofW (clv := cl23 d) (s1 := sA ns (.int i) x2 x3 x4 x5 m bk0) cl23_ok (w_call (c_cons rfl (b_var rfl (c_nil ⟨.sh (.bl true), none, by rw [cl23_eq]; exact gOf_ok ⟨m, rfl⟩, rfl, rfl⟩))))) ?_
  refine r_run (clv := R (d + 10)) (s1 := sA ns (.int i) x2 x3 x4 x5 m bkA) (fun f => R_ok _ f) (by kernel_rfl) ?_
  refine r_run (clv := R (d + 10)) (s1 := sA ns (.int i) (some (.lst [shA])) x3 x4 x5 m bkA) (fun f => R_ok _ f) (by kernel_rfl) ?_
  refine r_run (clv := R (d + 10)) (s1 := sA ns (.int i) (some (.lst [shA])) (some (.lst (hdA m))) x4 x5 m bkA) (fun f => R_ok _ f) (by kernel_rfl) ?_
  refine r_run (clv := R (d + 10)) (s1 := sA ns (.int i) (some (.lst [shA])) (some (.lst (hdB m))) (some (.sh (.int (-1 - (m : Int))))) x5 m bkA) (fun f => R_ok _ f) (by kernel_rfl) ?_
  refine r_ifNot (HB.refO (clv := R (d + 10)) (gf := R (d + 9) 32) (ts := hdB m) (due := 4) (k := 5) (s1 := sA ns (.int i) (some (.lst [shA])) (some (.sh (.lst (hdB m)))) (some (.sh (.int (-1 - (m : Int))))) x5 m bkA) (fun f => R_ok _ f) (R_ok _ _) rfl rfl (by kernel_rfl) rfl ⟨rfl, rfl, rfl⟩ (hdB_R (d := d))) ?_
  refine r_run (clv := R (d + 10)) (s1 := sA ns (.int i) (some (.lst [shA])) (some (.sh (.lst (hdB m)))) (some (.sh (.int (-1 - (m : Int))))) (some (.lst (thA m))) m bkA) (fun f => R_ok _ f) (by kernel_rfl) ?_
  refine r_ifNot (HB.refO (clv := R (d + 10)) (gf := R (d + 9) 33) (ts := thA m ++ [.int 1]) (due := 5) (k := 6) (s1 := sA ns (.int i) (some (.lst [shA])) (some (.sh (.lst (hdB m)))) (some (.sh (.int (-1 - (m : Int))))) (some (.lst (thA m))) m bkA) (fun f => R_ok _ f) (R_ok _ _) rfl rfl (by kernel_rfl) rfl ⟨rfl, rfl, rfl⟩ (AllR.app (thA_33 (d := d)) ⟨by kernel_rfl, trivial⟩)) ?_
  refine r_ifNot (HB.refO (clv := R (d + 10)) (gf := R (d + 9) 34) (ts := thA m ++ [.int 0]) (due := 5) (k := 6) (s1 := sA ns (.int i) (some (.lst [shA])) (some (.sh (.lst (hdB m)))) (some (.sh (.int (-1 - (m : Int))))) (some (.lst (thA m))) m bkA) (fun f => R_ok _ f) (R_ok _ _) rfl rfl (by kernel_rfl) rfl ⟨rfl, rfl, rfl⟩ (AllR.app (thA_34 (d := d)) ⟨by kernel_rfl, trivial⟩)) ?_
  refine r_ifNotOr (HB.refO (clv := R (d + 10)) (gf := R (d + 9) 38) (ts := thA m) (due := 5) (k := 6) (s1 := sA ns (.int i) (some (.lst [shA])) (some (.sh (.lst (hdB m)))) (some (.sh (.int (-1 - (m : Int))))) (some (.sh (.lst (thA m)))) m bkA) (fun f => R_ok _ f) (R_ok _ _) rfl rfl (by kernel_rfl) rfl ⟨rfl, rfl, rfl⟩ (thA_38 (d := d))) (s2 := sA ns (.int i) (some (.lst [shA])) (some (.sh (.lst (hdB m)))) (some (.sh (.int (-1 - (m : Int))))) (some (.sh (.lst (thA m)))) m bkA) (HB.of (clv := R (d + 10)) (fun f => R_ok _ f) (by kernel_rfl)) ?_
  refine r_run (clv := R (d + 10)) (s1 := sA ns (.int i) (some (.lst [shA])) (some (.sh (.lst (hdB m)))) (some (.sh (.int (-1 - (m : Int))))) (some (.sh (.lst (thA m)))) m bkB) (fun f => R_ok _ f) (by kernel_rfl) ?_
  refine r_ifNot (HB.refO (clv := R (d + 10)) (gf := R (d + 9) 35) (ts := [.int 0]) (due := 8) (k := 9) (s1 := sA ns (.int i) (some (.lst [shA])) (some (.sh (.lst (hdB m)))) (some (.sh (.int (-1 - (m : Int))))) (some (.sh (.lst (thA m)))) m bkB) (fun f => R_ok _ f) (R_ok _ _) rfl rfl (by kernel_rfl) rfl ⟨rfl, rfl, rfl⟩ ⟨by kernel_rfl, trivial⟩) ?_
  refine r_ifNot (HB.refO (clv := R (d + 10)) (gf := R (d + 9) 36) (ts := [.int 0, .int 1]) (due := 8) (k := 9) (s1 := sA ns (.int i) (some (.lst [shA])) (some (.sh (.lst (hdB m)))) (some (.sh (.int (-1 - (m : Int))))) (some (.sh (.lst (thA m)))) m bkB) (fun f => R_ok _ f) (R_ok _ _) rfl rfl (by kernel_rfl) rfl ⟨rfl, rfl, rfl⟩ ⟨by kernel_rfl, by kernel_rfl, trivial⟩) ?_
  refine r_ifNot (HB.refO (clv := R (d + 10)) (gf := R (d + 9) 37) (ts := [.int 2, .non]) (due := 5) (k := 6) (s1 := sA ns (.int i) (some (.lst [shA])) (some (.sh (.lst (hdB m)))) (some (.sh (.int (-1 - (m : Int))))) (some (.sh (.lst (thA m)))) m bkB) (fun f => R_ok _ f) (R_ok _ _) rfl rfl (by kernel_rfl) rfl ⟨rfl, rfl, rfl⟩ ⟨by kernel_rfl, by kernel_rfl, trivial⟩) ?_
  refine r_ifNotOr (HB.refO (clv := R (d + 10)) (gf := R (d + 9) 39) (ts := [.int 0, .int 1, .non]) (due := 5) (k := 6) (s1 := sA ns (.int i) (some (.lst [shA])) (some (.sh (.lst (hdB m)))) (some (.sh (.int (-1 - (m : Int))))) (some (.sh (.lst (thA m)))) m bkB) (fun f => R_ok _ f) (R_ok _ _) rfl rfl (by kernel_rfl) rfl ⟨rfl, rfl, rfl⟩ ⟨by kernel_rfl, by kernel_rfl, by kernel_rfl, trivial⟩) (s2 := sA ns (.int i) (some (.lst [shA])) (some (.sh (.lst (hdB m)))) (some (.sh (.int (-1 - (m : Int))))) (some (.sh (.lst (thA m)))) m bkB) (HB.of (clv := R (d + 10)) (fun f => R_ok _ f) (by kernel_rfl)) ?_
  refine r_ifNot (HB.callOwn (clv := R (d + 10)) (gf := gOf Pre24 (.sh (.bl true))) (me := bkB) (xs := []) (s1 := sA ns (.int i) (some (.lst [shA])) (some (.sh (.lst (hdB m)))) (some (.sh (.int (-1 - (m : Int))))) (some (.sh (.lst (thA m)))) m bkB) (fun f => R_ok _ f) g24_ok rfl rfl rfl (gOf_ok rfl)) ?_
  exact r_end (k _ _ _ _ _)
theorem law_wr {d : Nat} {ns : List Int} : WR tx (Ev.run tx (d + 10)) ir_law (vstart 8 [.sh (.scr ns)]) (RtF fun o => o = .sh (.bl true)) := by
  unfold ir_law
  refine r_for (clv := R (d + 10)) (fun f => R_ok _ f) (fun zs s => ∃ (is : List Int) (x1 x2 x3 x4 x5 x6 x7 : Option Ow), zs = is.map D.int ∧ s = [some (.sh (.scr ns)), x1, x2, x3, x4, x5, x6, x7]) ?_ ?_ ?_
  · have hcut : cut (ns.map D.int) none (some 3) = (cut ns none (some 3)).map D.int := cut_map _ _ _ _
    have hlen : (cut ns none (some 3)).length ≤ 3 := by
      unfold cut
      rw [List.length_take]
      refine Nat.le_trans (Nat.min_le_left _ _) ?_
      simp [sIx]
      omega
    refine i_seq (b_of rfl (w_bin rfl (b_of rfl (w_sl rfl (b_var rfl (p_nil (p_int rfl (w_con rfl ⟨_, rfl, ns.map D.int, rfl, ?_⟩))))))))
    refine b_of rfl (w_lst (a_cons (w_bi (c_cons rfl (b_var rfl (c_nil ⟨.sh (.int ((ns.map D.int).length : Nat)), rfl, a_nil ⟨Nat.le_of_ble_eq_true rfl, .lst (cut (ns.map D.int) none (some 3) ++ [.int ((ns.map D.int).length : Nat)]), ?_, ?_⟩⟩))))))
    · show (if _ then _ else _) = _
      rw [if_pos]
      rw [hcut, List.length_map]
      show (cut ns none (some 3)).length + 1 ≤ 16777216
      omega
    · exact .inl ⟨_, rfl, rfl, cut ns none (some 3) ++ [(((ns.map D.int).length : Nat) : Int)], none, none, none, none, none, none, none, by rw [List.map_append, ← hcut]; rfl, rfl⟩
  · rintro z zs s ⟨is, x1, x2, x3, x4, x5, x6, x7, hz, rfl⟩
    cases is with
    | nil => cases hz
    | cons i is =>
      cases hz
      refine ⟨_, rfl, ?_⟩
      have h := turn_wr (d := d) (ns := ns) (i := i) (x2 := x2) (x3 := x3) (x4 := x4) (x5 := x5) (x6 := x6) (x7 := x7) (P := OnR (fun s2 => ∃ (js : List Int) (x1 x2 x3 x4 x5 x6 x7 : Option Ow), is.map D.int = js.map D.int ∧ s2 = [some (.sh (.scr ns)), x1, x2, x3, x4, x5, x6, x7]) (RtF fun o => o = .sh (.bl true))) fun y2 y3 y4 y5 y6 => ⟨is, _, y2, y3, y4, y5, y6, none, rfl, rfl⟩
      exact h
  · rintro s ⟨is, x1, x2, x3, x4, x5, x6, x7, hz, rfl⟩
    exact r_ret (clv := R (d + 10)) (o := .sh (.bl true)) (s1 := [some (.sh (.scr ns)), x1, x2, x3, x4, x5, x6, x7]) (fun f => R_ok _ f) rfl rfl
theorem hvE {d : Nat} {ns : List Int} (hns : ∀ c ∈ ns, Bd 1048576 c) : ∃ S, Ev.run tx (d + 11) 25 [.scr ns] [] = .ok (.bl true) S := law_hs (T := tx) (d := d + 10) (f := 25) (n := 8) (b := ir_law) rfl law_wr
end K
end

section
set_option Elab.async false
set_option linter.all false
set_option maxRecDepth 100000
/-! Ev1: the evaluator's store and the hand layer's heap. -/
namespace Ev
open PySem PySem.Spec PyProof.Rows L2

/-! ### names of fields and methods -/
/-- what stands fixed: the program, the written part, the defs' and classes' addresses -/
structure GE where
  P : Program
  w : World
  K : PySem.W.Frag
  mg : Str → Option Value
  base : Heap
  fA : Nat → Addr
  cA : Nat → Addr
  nm : Nat → Str
  nmI : ∀ i j, nm i = nm j → i = j
  T : Tx
  sA : Addr
  sN : List Int
  /-- the lambda handed to the running def: where it stands, what it captured -/
  hd : Nat → Option (Addr × List V)
  /-- the tables of the defs that make lambdas; the code objects of the handed ones -/
  tabs : List (Addr × Str)
  cods : List (Addr × Str)

section
variable (G : GE) (μ : List Addr)
def VR : Va → V → Prop
  | .non, v => v = .non
  | .bl b, v => v = .bl b
  | .int i, v => v = .int i
  | .str x, v => v = .str x
  | .loc l, v => ∃ a, μ[l]? = some a ∧ v = .ref a
  | .fn f, v => v = .ref (G.fA f)
  | .scr ns, v => v = .ref G.sA ∧ ns = G.sN
  | .clo _ _, _ => False
  | .vn, _ => False
  | .vc _ _, _ => False
abbrev VRs : List Va → List V → Prop := Paired (VR G μ)
def FR (p : Nat × Va) (q : Str × V) : Prop := q.1 = G.nm p.1 ∧ VR G μ p.2 q.2
def DR (p : Int × Va) (q : Key × V) : Prop := q.1 = Sum.inl p.1 ∧ VR G μ p.2 q.2
def OAt (H : Hp) (a : Addr) : Ob → Prop
  | .lst xs => ∃ ys, H a = some (.lst ys) ∧ VRs G μ xs ys
  | .tup xs => ∃ ys, H a = some (.tup ys) ∧ VRs G μ xs ys
  | .dct kvs => ∃ ws, H a = some (.dK ws) ∧ Paired (DR G μ) kvs ws
  | .ins c dx fs => ∃ d ws, H a = some (.ins (G.cA c) d ws) ∧ μ[dx]? = some d ∧ Paired (FR G μ) fs ws
  | .own x => ∃ b, H a = some (.own b) ∧ μ[x]? = some b
end
/-- the script can be read -/
def ScrOk (G : GE) (H : Hp) : Prop := (∃ o, H G.sA = some (.frz o (.lst (G.sN.map V.int)))) ∨ ∀ H', SqL G.K H' G.sA (G.sN.map V.int)
/-- objects that no store holds -/
def hardO : HO → Bool
  | .tbl _ => true
  | .ext _ => true
  | _ => false
def TabOk (G : GE) (μ : List Addr) (H : Hp) : Prop := LamX.Tabs G.tabs H ∧ ∀ p ∈ G.tabs, p.1 ∉ μ
def CodOk (G : GE) (μ : List Addr) (H : Hp) : Prop := ∀ p ∈ G.cods, H p.1 = some (LamX.CodeO p.1 p.2) ∧ p.1 ∉ μ
structure Rel (G : GE) (μ : List Addr) (S : Sto) (H : Hp) : Prop where
  len : μ.length = S.length
  at_ : ∀ (l : Nat) (o : Ob), S[l]? = some o → ∃ a, μ[l]? = some a ∧ OAt G μ H a o
  inj : ∀ (l m : Nat) (a : Addr), μ[l]? = some a → μ[m]? = some a → l = m
  scr : ScrOk G H
  tab : TabOk G μ H
  cod : CodOk G μ H
structure Stp (μ : List Addr) (H : Hp) (μ' : List Addr) (H' : Hp) : Prop where
  ext : ∃ ν, μ' = μ ++ ν ∧ ∀ a ∈ ν, H a = none
  mono : ∀ a, H a ≠ none → H' a ≠ none
  fr : ∀ a o, a ∉ μ → H a = some o → (∀ ps, o ≠ .tbl ps) → H' a = some o

/-! ### values -/
section
variable {G : GE} {μ μ' : List Addr}
theorem at_app {ν : List Addr} {l : Nat} {a : Addr} (h : μ[l]? = some a) : (μ ++ ν)[l]? = some a := by
  rw [List.getElem?_append_left (List.getElem?_eq_some_iff.mp h).1]
  exact h
theorem VR.app {ν : List Addr} : ∀ {v : Va} {x : V}, VR G μ v x → VR G (μ ++ ν) v x
  | .non, _, h => h
  | .bl _, _, h => h
  | .int _, _, h => h
  | .str _, _, h => h
  | .loc _, _, ⟨a, h, e⟩ => ⟨a, at_app h, e⟩
  | .fn _, _, h => h
  | .scr _, _, h => h
  | .clo _ _, _, h => h
  | .vn, _, h => h
  | .vc _ _, _, h => h
theorem pr_imp {α β : Type} {F F' : α → β → Prop} (f : ∀ a b, F a b → F' a b) : ∀ {xs : List α} {ys : List β}, Paired F xs ys → Paired F' xs ys
  | _, _, .nil => .nil
  | _, _, .cons r t => .cons (f _ _ r) (pr_imp f t)
theorem pr_len {α β : Type} {F : α → β → Prop} : ∀ {xs : List α} {ys : List β}, Paired F xs ys → xs.length = ys.length
  | _, _, .nil => rfl
  | _, _, .cons _ t => by rw [List.length_cons, List.length_cons, pr_len t]
theorem pr_get {α β : Type} {F : α → β → Prop} : ∀ {xs : List α} {ys : List β} {i : Nat} {x : α}, Paired F xs ys → xs[i]? = some x → ∃ y, ys[i]? = some y ∧ F x y
  | _, _, _, _, .nil, e => by simp at e
  | _, _, 0, _, .cons r _, e => by simp at e; subst e; exact ⟨_, rfl, r⟩
  | _, _, i + 1, x, .cons _ t, e => by
    obtain ⟨u, h1, h2⟩ := pr_get (i := i) (x := x) t (by simpa using e)
    exact ⟨u, by simpa using h1, h2⟩
theorem pr_get' {α β : Type} {F : α → β → Prop} : ∀ {xs : List α} {ys : List β} {i : Nat} {y : β}, Paired F xs ys → ys[i]? = some y → ∃ x, xs[i]? = some x ∧ F x y
  | _, _, _, _, .nil, e => by simp at e
  | _, _, 0, _, .cons r _, e => by simp at e; subst e; exact ⟨_, rfl, r⟩
  | _, _, i + 1, x, .cons _ t, e => by
    obtain ⟨u, h1, h2⟩ := pr_get' (i := i) (y := x) t (by simpa using e)
    exact ⟨u, by simpa using h1, h2⟩
theorem pr_app {α β : Type} {F : α → β → Prop} : ∀ {xs xs' : List α} {ys ys' : List β}, Paired F xs ys → Paired F xs' ys' → Paired F (xs ++ xs') (ys ++ ys')
  | _, _, _, _, .nil, h => h
  | _, _, _, _, .cons r t, h => .cons r (pr_app t h)
theorem pr_set {α β : Type} {F : α → β → Prop} {x : α} {y : β} (r : F x y) : ∀ {xs : List α} {ys : List β} (i : Nat), Paired F xs ys → Paired F (xs.set i x) (ys.set i y)
  | _, _, _, .nil => .nil
  | _, _, 0, .cons _ t => .cons r t
  | _, _, i + 1, .cons q t => .cons q (pr_set r i t)
theorem pr_drop {α β : Type} {F : α → β → Prop} : ∀ {xs : List α} {ys : List β} (n : Nat), Paired F xs ys → Paired F (xs.drop n) (ys.drop n)
  | _, _, 0, r => r
  | _, _, _ + 1, .nil => .nil
  | _, _, n + 1, .cons _ t => pr_drop n t
theorem pr_take {α β : Type} {F : α → β → Prop} : ∀ {xs : List α} {ys : List β} (n : Nat), Paired F xs ys → Paired F (xs.take n) (ys.take n)
  | _, _, 0, _ => .nil
  | _, _, _ + 1, .nil => .nil
  | _, _, n + 1, .cons r t => .cons r (pr_take n t)
theorem pr_rev {α β : Type} {F : α → β → Prop} : ∀ {xs : List α} {ys : List β}, Paired F xs ys → Paired F xs.reverse ys.reverse
  | _, _, .nil => .nil
  | _, _, .cons r t => by
    rw [List.reverse_cons, List.reverse_cons]
    exact pr_app (pr_rev t) (.cons r .nil)
theorem VRs.app {ν : List Addr} {xs : List Va} {ys : List V} (h : VRs G μ xs ys) : VRs G (μ ++ ν) xs ys := pr_imp (fun _ _ => VR.app) h
/-- a value of the store has its value -/
theorem VR.fn {v : Va} {x y : V} (h : VR G μ v x) (h' : VR G μ v y) : x = y := by
  cases v with
  | non => rw [show x = .non from h, show y = .non from h']
  | bl b => rw [show x = .bl b from h, show y = .bl b from h']
  | int b => rw [show x = .int b from h, show y = .int b from h']
  | str b => rw [show x = .str b from h, show y = .str b from h']
  | loc l =>
    obtain ⟨a, e, rfl⟩ := h
    obtain ⟨b, e', rfl⟩ := h'
    rw [e] at e'
    cases e'
    rfl
  | fn b => rw [show x = .ref (G.fA b) from h, show y = .ref (G.fA b) from h']
  | scr ns => rw [h.1, h'.1]
  | clo f ws => exact h.elim
  | vn => exact h.elim
  | vc a b => exact h.elim
theorem VR.plain {v : Va} {x : V} (h : VR G μ v x) : Ev.plain v = true := by
  cases v <;> first | rfl | exact h.elim
theorem OAt.app {H : Hp} {a : Addr} {ν : List Addr} : ∀ {o : Ob}, OAt G μ H a o → OAt G (μ ++ ν) H a o
  | .lst _, ⟨ys, h, r⟩ => ⟨ys, h, VRs.app r⟩
  | .tup _, ⟨ys, h, r⟩ => ⟨ys, h, VRs.app r⟩
  | .dct _, ⟨ws, h, r⟩ => ⟨ws, h, pr_imp (fun _ _ q => ⟨q.1, q.2.app⟩) r⟩
  | .ins _ _ _, ⟨d, ws, h, e, r⟩ => ⟨d, ws, h, at_app e, pr_imp (fun _ _ q => ⟨q.1, q.2.app⟩) r⟩
  | .own _, ⟨b, h, e⟩ => ⟨b, h, at_app e⟩
/-- it hangs on its own address -/
theorem OAt.keep {H H' : Hp} {a : Addr} {o : Ob} (h : OAt G μ H a o) (e : ∀ u, H a = some u → H' a = some u) : OAt G μ H' a o := by
  cases o with
  | lst xs => obtain ⟨ys, h, r⟩ := h; exact ⟨ys, e _ h, r⟩
  | tup xs => obtain ⟨ys, h, r⟩ := h; exact ⟨ys, e _ h, r⟩
  | dct kvs => obtain ⟨ws, h, r⟩ := h; exact ⟨ws, e _ h, r⟩
  | ins c dx fs => obtain ⟨d, ws, h, q, r⟩ := h; exact ⟨d, ws, e _ h, q, r⟩
  | own x => obtain ⟨b, h, q⟩ := h; exact ⟨b, e _ h, q⟩
theorem OAt.soft {H : Hp} {a : Addr} {o : Ob} {u : HO} (h : OAt G μ H a o) (e : H a = some u) : hardO u = false := by
  cases o with
  | lst xs => obtain ⟨ys, h, r⟩ := h; rw [h] at e; cases e; rfl
  | tup xs => obtain ⟨ys, h, r⟩ := h; rw [h] at e; cases e; rfl
  | dct kvs => obtain ⟨ws, h, r⟩ := h; rw [h] at e; cases e; rfl
  | ins c dx fs => obtain ⟨d, ws, h, q, r⟩ := h; rw [h] at e; cases e; rfl
  | own x => obtain ⟨b, h, q⟩ := h; rw [h] at e; cases e; rfl
theorem OAt.some {H : Hp} {a : Addr} {o : Ob} (h : OAt G μ H a o) : H a ≠ none := by
  cases o with
  | lst xs => obtain ⟨ys, h, r⟩ := h; rw [h]; simp
  | tup xs => obtain ⟨ys, h, r⟩ := h; rw [h]; simp
  | dct kvs => obtain ⟨ws, h, r⟩ := h; rw [h]; simp
  | ins c dx fs => obtain ⟨d, ws, h, q, r⟩ := h; rw [h]; simp
  | own x => obtain ⟨b, h, q⟩ := h; rw [h]; simp
end

/-! ### steps -/
section
variable {G : GE} {μ μ' μ2 : List Addr} {H H' H2 : Hp} {S : Sto}
theorem Stp.refl : Stp μ H μ H := ⟨⟨[], by simp, by simp⟩, fun _ h => h, fun _ _ _ h _ => h⟩
theorem Stp.trans (a : Stp μ H μ' H') (b : Stp μ' H' μ2 H2) : Stp μ H μ2 H2 := by
  obtain ⟨ν, rfl, hν⟩ := a.ext
  obtain ⟨ν', rfl, hν'⟩ := b.ext
  refine ⟨⟨ν ++ ν', by rw [List.append_assoc], fun c hc => ?_⟩, fun c h => b.mono c (a.mono c h), fun c o hc h nt => ?_⟩
  · rcases List.mem_append.mp hc with hc | hc
    · exact hν c hc
    · cases e : H c with
      | none => rfl
      | some o => exact absurd (hν' c hc) (a.mono c (by rw [e]; simp))
  · have h1 := a.fr c o hc h nt
    refine b.fr c o (fun hm => ?_) h1 nt
    rcases List.mem_append.mp hm with hm | hm
    · exact hc hm
    · rw [hν c hm] at h
      cases h
theorem Stp.new {p : Addr} {o : HO} (hp : H p = none) : Stp μ H (μ ++ [p]) (upd H p o) := by
  refine ⟨⟨[p], rfl, fun a ha => ?_⟩, fun a h => ?_, fun a u _ h _ => ?_⟩
  · rw [List.mem_singleton.mp ha]; exact hp
  · unfold upd; split
    · simp
    · exact h
  · rw [upd_ne (ne_of_none h hp)]; exact h
theorem Stp.set {l : Nat} {a : Addr} {o : HO} (ha : μ[l]? = some a) : Stp μ H μ (upd H a o) := by
  refine ⟨⟨[], by simp, by simp⟩, fun b h => ?_, fun b u hb h _ => ?_⟩
  · unfold upd; split
    · simp
    · exact h
  · rw [upd_ne (fun e => hb (by rw [e]; exact List.mem_of_getElem? ha))]; exact h
theorem VR.stp {v : Va} {x : V} (h : VR G μ v x) (s : Stp μ H μ' H') : VR G μ' v x := by
  obtain ⟨ν, rfl, _⟩ := s.ext
  exact h.app
theorem VRs.stp {v : List Va} {x : List V} (h : VRs G μ v x) (s : Stp μ H μ' H') : VRs G μ' v x := by
  obtain ⟨ν, rfl, _⟩ := s.ext
  exact VRs.app h
theorem ScrOk.keep (h : ScrOk G H) (e : ∀ o, H G.sA = some o → (∃ ob u, o = .frz ob u) → H' G.sA = some o) : ScrOk G H' := by
  rcases h with ⟨ob, h⟩ | h
  · exact .inl ⟨ob, e _ h ⟨_, _, rfl⟩⟩
  · exact .inr h
theorem tabs_keep {T : List (Addr × Str)} (h : LamX.Tabs T H) (k : ∀ b o, H b = some o → hardO o = true → H' b = some o) : LamX.Tabs T H' := fun p hp => by
  obtain ⟨ps, h1, h2, h3⟩ := h p hp
  refine ⟨ps, k _ _ h1 rfl, h2, fun pos cv hc => ?_⟩
  obtain ⟨c, e1, e2⟩ := h3 pos cv hc
  exact ⟨c, e1, k _ _ e2 rfl⟩
theorem TabOk.keep (h : TabOk G μ H) (k : ∀ b o, H b = some o → hardO o = true → H' b = some o) (hm : ∀ a ∈ μ', a ∈ μ ∨ H a = none) : TabOk G μ' H' := by
  refine ⟨tabs_keep h.1 k, fun p hp z => ?_⟩
  rcases hm _ z with z | z
  · exact h.2 p hp z
  · obtain ⟨ps, h1, _⟩ := h.1 p hp
    rw [h1] at z
    cases z
theorem CodOk.keep (h : CodOk G μ H) (k : ∀ b o, H b = some o → hardO o = true → H' b = some o) (hm : ∀ a ∈ μ', a ∈ μ ∨ H a = none) : CodOk G μ' H' := fun p hp => by
  obtain ⟨h1, h2⟩ := h p hp
  refine ⟨k _ _ h1 rfl, fun z => ?_⟩
  rcases hm _ z with z | z
  · exact h2 z
  · rw [h1] at z
    cases z
/-- several new objects -/
theorem Rel.ext {ν : List Addr} {T : List Ob} {H' : Hp} (R : Rel G μ S H) (hl : ν.length = T.length) (hk : ∀ a o, H a = some o → H' a = some o) (nd : ν.Nodup)
    (h : ∀ (i : Nat) (a : Addr) (o : Ob), ν[i]? = some a → T[i]? = some o → OAt G (μ ++ ν) H' a o ∧ H a = none) : Rel G (μ ++ ν) (S ++ T) H' := by
  have cs : ∀ {l : Nat} {u : Ob}, (S ++ T)[l]? = some u → (S[l]? = some u) ∨ (S.length ≤ l ∧ T[l - S.length]? = some u) := fun {l u} e => by
    by_cases hl : l < S.length
    · rw [List.getElem?_append_left hl] at e; exact .inl e
    · rw [List.getElem?_append_right (Nat.le_of_not_lt hl)] at e
      exact .inr ⟨Nat.le_of_not_lt hl, e⟩
  have cm : ∀ {l : Nat} {a : Addr}, (μ ++ ν)[l]? = some a → (μ[l]? = some a ∧ H a ≠ none) ∨ (S.length ≤ l ∧ ν[l - S.length]? = some a ∧ H a = none) := fun {l a} e => by
    by_cases hl' : l < μ.length
    · rw [List.getElem?_append_left hl'] at e
      have hs : l < S.length := by rw [← R.len]; exact hl'
      obtain ⟨b, q1, q2⟩ := R.at_ l S[l] (List.getElem?_eq_getElem hs)
      rw [e] at q1
      cases q1
      exact .inl ⟨e, q2.some⟩
    · rw [List.getElem?_append_right (Nat.le_of_not_lt hl'), R.len] at e
      have hlt : l - S.length < T.length := by rw [← hl]; exact (List.getElem?_eq_some_iff.mp e).1
      exact .inr ⟨by rw [← R.len]; exact Nat.le_of_not_lt hl', e, (h _ _ _ e (List.getElem?_eq_getElem hlt)).2⟩
  have hmm : ∀ a ∈ μ ++ ν, a ∈ μ ∨ H a = none := fun a ha => by
    rcases List.mem_append.mp ha with z | z
    · exact .inl z
    · obtain ⟨i, hi⟩ := List.mem_iff_getElem?.mp z
      have hlt : i < T.length := by rw [← hl]; exact (List.getElem?_eq_some_iff.mp hi).1
      exact .inr (h _ _ _ hi (List.getElem?_eq_getElem hlt)).2
  refine ⟨by rw [List.length_append, List.length_append, R.len, hl], fun l u e => ?_, fun l m a h1 h2 => ?_, R.scr.keep fun o e _ => hk _ _ e, R.tab.keep (fun b o e _ => hk b o e) hmm, R.cod.keep (fun b o e _ => hk b o e) hmm⟩
  · rcases cs e with e | ⟨hle, e⟩
    · obtain ⟨a, q1, q2⟩ := R.at_ l u e
      exact ⟨a, at_app q1, q2.app.keep fun z hz => hk _ _ hz⟩
    · have hlt : l - S.length < ν.length := by rw [hl]; exact (List.getElem?_eq_some_iff.mp e).1
      refine ⟨ν[l - S.length], ?_, (h _ _ _ (List.getElem?_eq_getElem hlt) e).1⟩
      rw [List.getElem?_append_right (by rw [R.len]; exact hle), R.len]
      exact List.getElem?_eq_getElem hlt
  · rcases cm h1 with ⟨q1, n1⟩ | ⟨hl1, q1, n1⟩
    · rcases cm h2 with ⟨q2, n2⟩ | ⟨hl2, q2, n2⟩
      · exact R.inj l m a q1 q2
      · exact absurd n2 n1
    · rcases cm h2 with ⟨q2, n2⟩ | ⟨hl2, q2, n2⟩
      · exact absurd n1 n2
      · have hz : l - S.length = m - S.length := by
          obtain ⟨l1, e3⟩ := List.getElem?_eq_some_iff.mp q1
          obtain ⟨l2, e4⟩ := List.getElem?_eq_some_iff.mp q2
          exact (List.getElem_inj nd).mp (e3.trans e4.symm)
        omega
theorem Rel.new {p : Addr} {o : Ob} {O : HO} (R : Rel G μ S H) (hp : H p = none) (h : OAt G (μ ++ [p]) (upd H p O) p o) : Rel G (μ ++ [p]) (S ++ [o]) (upd H p O) := by
  refine R.ext rfl (fun a u e => by rw [upd_ne (ne_of_none e hp)]; exact e) (by simp) fun i a u e1 e2 => ?_
  match i, e1, e2 with
  | 0, e1, e2 =>
    cases (show some p = some a from e1)
    cases (show some o = some u from e2)
    exact ⟨h, hp⟩
  | n + 1, e1, e2 => cases e1
/-- an address of the store holds something -/
theorem Rel.held (R : Rel G μ S H) {a : Addr} (ha : a ∈ μ) : H a ≠ none := by
  obtain ⟨l, hl, e⟩ := List.getElem_of_mem ha
  have hs : l < S.length := by rw [← R.len]; exact hl
  obtain ⟨b, q1, q2⟩ := R.at_ l S[l] (List.getElem?_eq_getElem hs)
  rw [List.getElem?_eq_getElem hl, e] at q1
  cases q1
  exact q2.some
/-- what is tracked beside the store may be -/
theorem Rel.beside {D : Addr} {O : HO} (R : Rel G μ S H) (hD : D ∉ μ) (hf : ∀ ob u, H D ≠ some (.frz ob u)) (hs : ∀ u, H D = some u → hardO u = false) : Rel G μ S (upd H D O) := by
  have hk : ∀ b o, H b = some o → hardO o = true → upd H D O b = some o := fun b o e ho => by
    rw [upd_ne (fun q => by rw [q] at e; rw [hs _ e] at ho; cases ho)]
    exact e
  refine ⟨R.len, fun l o e => ?_, R.inj, R.scr.keep fun o e hz => ?_, R.tab.keep hk fun a z => .inl z, R.cod.keep hk fun a z => .inl z⟩
  · obtain ⟨a, q1, q2⟩ := R.at_ l o e
    refine ⟨a, q1, q2.keep fun z hz => ?_⟩
    rw [upd_ne (fun q => hD (by rw [← q]; exact List.mem_of_getElem? q1))]
    exact hz
  · obtain ⟨ob, u, rfl⟩ := hz
    rw [upd_ne (fun q => hf ob u (by rw [← q]; exact e))]
    exact e
/-- an object is changed -/
theorem Rel.set {l : Nat} {a : Addr} {o u : Ob} {O : HO} (R : Rel G μ S H) (e : S[l]? = some u) (ha : μ[l]? = some a) (hf : ∀ ob x, H a ≠ some (.frz ob x)) (h : OAt G μ (upd H a O) a o) : Rel G μ (S.set l o) (upd H a O) := by
  have hl : l < S.length := (List.getElem?_eq_some_iff.mp e).1
  have hk : ∀ b o, H b = some o → hardO o = true → upd H a O b = some o := fun b o q ho => by
    rw [upd_ne (fun z => ?_)]
    · exact q
    · obtain ⟨a', e1, r⟩ := R.at_ l u e
      rw [ha] at e1
      cases e1
      rw [z] at q
      rw [r.soft q] at ho
      cases ho
  refine ⟨by simp [R.len], fun m v q => ?_, R.inj, R.scr.keep fun z hz hq => ?_, R.tab.keep hk fun a z => .inl z, R.cod.keep hk fun a z => .inl z⟩
  · by_cases hm : m = l
    · subst hm
      rw [List.getElem?_set_self hl] at q
      cases q
      exact ⟨a, ha, h⟩
    · rw [List.getElem?_set_ne (Ne.symm hm)] at q
      obtain ⟨b, e1, r⟩ := R.at_ m v q
      refine ⟨b, e1, r.keep fun z hz => ?_⟩
      rw [upd_ne (fun q2 => hm (R.inj m l a (by rw [← q2]; exact e1) ha))]
      exact hz
  · obtain ⟨ob, x, rfl⟩ := hq
    rw [upd_ne (fun q => hf ob x (by rw [← q]; exact hz))]
    exact hz
end

/-! ### what the store has, in the heap -/
section
variable {G : GE} {μ : List Addr} {S : Sto} {H : Hp}
theorem Rel.getL (R : Rel G μ S H) {v : Va} {x : V} {xs : List Va} (e : getL S v = some xs) (r : VR G μ v x) : ∃ a ys, x = .ref a ∧ SqL G.K H a ys ∧ VRs G μ xs ys := by
  cases v with
  | loc l =>
    obtain ⟨a, ha, rfl⟩ := r
    simp only [Ev.getL] at e
    cases q : S[l]? with
    | none => rw [q] at e; cases e
    | some o =>
      rw [q] at e
      obtain ⟨b, hb, k⟩ := R.at_ l o q
      rw [ha] at hb
      cases hb
      cases o with
      | lst zs =>
        cases (show some zs = some xs from e)
        obtain ⟨ys, k, r⟩ := k
        exact ⟨a, ys, rfl, .of k, r⟩
      | _ => cases e
  | scr ns =>
    cases (show some (ns.map Va.int) = some xs from e)
    obtain ⟨rfl, rfl⟩ := r
    refine ⟨G.sA, G.sN.map V.int, rfl, ?_, ?_⟩
    · rcases R.scr with ⟨ob, k⟩ | k
      · exact .inl (.inr ⟨ob, k⟩)
      · exact k H
    · generalize G.sN = ns
      induction ns with
      | nil => exact .nil
      | cons n r ih => exact .cons rfl ih
  | _ => cases e
theorem Rel.getT (R : Rel G μ S H) {v : Va} {x : V} {xs : List Va} (e : getT S v = some xs) (r : VR G μ v x) : ∃ a ys, x = .ref a ∧ H a = some (.tup ys) ∧ VRs G μ xs ys := by
  cases v with
  | loc l =>
    obtain ⟨a, ha, rfl⟩ := r
    simp only [Ev.getT] at e
    cases q : S[l]? with
    | none => rw [q] at e; cases e
    | some o =>
      rw [q] at e
      obtain ⟨b, hb, k⟩ := R.at_ l o q
      rw [ha] at hb
      cases hb
      cases o with
      | tup zs =>
        cases (show some zs = some xs from e)
        obtain ⟨ys, k, r⟩ := k
        exact ⟨a, ys, rfl, k, r⟩
      | _ => cases e
  | _ => cases e
theorem Rel.getW (R : Rel G μ S H) {v : Va} {x : V} {l : Nat} {xs : List Va} (e : getW S v = some (l, xs)) (r : VR G μ v x) : v = .loc l ∧ S[l]? = some (.lst xs) ∧ ∃ a ys, μ[l]? = some a ∧ x = .ref a ∧ H a = some (.lst ys) ∧ VRs G μ xs ys := by
  cases v with
  | loc m =>
    obtain ⟨a, ha, rfl⟩ := r
    simp only [Ev.getW] at e
    cases q : S[m]? with
    | none => rw [q] at e; cases e
    | some o =>
      rw [q] at e
      obtain ⟨b, hb, k⟩ := R.at_ m o q
      rw [ha] at hb
      cases hb
      cases o with
      | lst zs =>
        cases (show some (m, zs) = some (l, xs) from e)
        obtain ⟨ys, k, r⟩ := k
        exact ⟨rfl, q, a, ys, ha, rfl, k, r⟩
      | _ => cases e
  | _ => cases e
/-- a changed list -/
theorem Rel.setL (R : Rel G μ S H) {l : Nat} {a : Addr} {xs zs : List Va} {ys ws : List V} (e : S[l]? = some (.lst xs)) (ha : μ[l]? = some a) (hH : H a = some (.lst ys)) (r : VRs G μ zs ws) : Rel G μ (S.set l (.lst zs)) (upd H a (.lst ws)) :=
  R.set e ha (fun ob x q => by rw [hH] at q; cases q) ⟨ws, upd_same, r⟩
theorem Rel.newL (R : Rel G μ S H) {p : Addr} {xs : List Va} {ys : List V} (hp : H p = none) (r : VRs G μ xs ys) : Rel G (μ ++ [p]) (S ++ [.lst xs]) (upd H p (.lst ys)) := R.new hp ⟨ys, upd_same, VRs.app r⟩
theorem Rel.newT (R : Rel G μ S H) {p : Addr} {xs : List Va} {ys : List V} (hp : H p = none) (r : VRs G μ xs ys) : Rel G (μ ++ [p]) (S ++ [.tup xs]) (upd H p (.tup ys)) := R.new hp ⟨ys, upd_same, VRs.app r⟩
theorem Rel.last (R : Rel G μ S H) (p : Addr) : VR G (μ ++ [p]) (.loc S.length) (.ref p) := ⟨p, by rw [← R.len]; simp, rfl⟩
end

/-! ### ends of the evaluator -/
section
variable (G : GE) (μ : List Addr) (H : Hp)
def Wr {α : Type} (r : Res α) (W : Nat → Hp → Prop) (k : α → List Addr → Hp → Prop) : Prop := match r with
  | .ok a S => ∀ μ' H', Stp μ H μ' H' → Rel G μ' S H' → k a μ' H'
  | .exc c S => ∀ μ' H', Stp μ H μ' H' → Rel G μ' S H' → W c H'
  | .bad => False
end
section
variable {G : GE} {μ μ' : List Addr} {H H' : Hp} {α β : Type} {W : Nat → Hp → Prop}
theorem Wr.stp {r : Res α} {k : α → List Addr → Hp → Prop} (h : Wr G μ H r W k) (s : Stp μ H μ' H') : Wr G μ' H' r W k := by
  cases r with
  | ok a S => exact fun m h' s' R => h m h' (s.trans s') R
  | exc c S => exact fun m h' s' R => h m h' (s.trans s') R
  | bad => exact h
theorem Wr.bind {r : Res α} {f : α → Sto → Res β} {k : β → List Addr → Hp → Prop} (h : Wr G μ H (r.bind f) W k) : Wr G μ H r W (fun a μ' H' => ∃ S', Rel G μ' S' H' ∧ Stp μ H μ' H' ∧ Wr G μ' H' (f a S') W k) := by
  cases r with
  | ok a S => exact fun m h' s' R => ⟨S, R, s', Wr.stp (r := f a S) h s'⟩
  | exc c S => exact h
  | bad => exact h
theorem Wr.imp {r : Res α} {k k' : α → List Addr → Hp → Prop} (h : Wr G μ H r W k) (f : ∀ a μ' H', k a μ' H' → k' a μ' H') : Wr G μ H r W k' := by
  cases r with
  | ok a S => exact fun m h' s' R => f _ _ _ (h m h' s' R)
  | exc c S => exact h
  | bad => exact h
theorem Wr.ok {a : α} {S : Sto} {k : α → List Addr → Hp → Prop} (h : Wr G μ H (.ok a S) W k) (R : Rel G μ S H) : k a μ H := h μ H Stp.refl R
end

/-- slots -/
def SR (G : GE) (μ : List Addr) (a : Option Va) (b : Option V) : Prop := match a with
  | none => b = none
  | some (.clo f ws) => ∃ a wsV, b = some (.ref a) ∧ G.hd f = some (a, wsV) ∧ VRs G μ (clist ws) wsV
  | some v => ∃ x, b = some x ∧ VR G μ v x
theorem SR.of {G : GE} {μ : List Addr} {v : Va} {x : V} (h : VR G μ v x) : SR G μ (some v) (some x) := by
  cases v <;> first | exact ⟨_, rfl, h⟩ | exact h.elim
theorem SR.to {G : GE} {μ : List Addr} {v : Va} {b : Option V} (p : plain v = true) (h : SR G μ (some v) b) : ∃ x, b = some x ∧ VR G μ v x := by
  cases v <;> first | exact h | cases p
abbrev Env (G : GE) (μ : List Addr) : Rho → L2.St → Prop := Paired (SR G μ)
theorem SR.app {G : GE} {μ ν : List Addr} {a : Option Va} {b : Option V} (h : SR G μ a b) : SR G (μ ++ ν) a b := by
  cases a with
  | none => exact h
  | some v => cases v <;> first
    | (obtain ⟨x, e, r⟩ := h; exact ⟨x, e, r.app⟩)
    | (obtain ⟨x, wsV, e, q, r⟩ := h; exact ⟨x, wsV, e, q, VRs.app r⟩)
theorem Env.stp {G : GE} {μ μ' : List Addr} {H H' : Hp} {r : Rho} {σ : L2.St} (h : Env G μ r σ) (s : Stp μ H μ' H') : Env G μ' r σ := by
  obtain ⟨ν, rfl, _⟩ := s.ext
  exact pr_imp (fun _ _ => SR.app) h
theorem Env.set {G : GE} {μ : List Addr} {r : Rho} {σ : L2.St} {v : Va} {x : V} (h : Env G μ r σ) (i : Nat) (q : VR G μ v x) : Env G μ (r.set i (some v)) (σ.set i (some x)) := pr_set (F := SR G μ) (x := some v) (y := some x) (SR.of q) i h
theorem Env.wipe {G : GE} {μ : List Addr} {r : Rho} {σ : L2.St} (h : Env G μ r σ) : ∀ vs : List Nat, Env G μ (wipeR r vs) (wipe σ vs)
  | [] => h
  | v :: vs => pr_set (F := SR G μ) (x := none) (y := none) rfl v (Env.wipe h vs)

/-- what an exception of the class number c wishes -/
abbrev WC := Nat → Hp → Prop
def tE (G : GE) (W : WC) (f : Rho → Sto → Res Va) : TE := fun σ H Q => ∃ μ r S, Env G μ r σ ∧ Rel G μ S H ∧ Wr G μ H (f r S) W (fun v μ' H' => ∀ x, VR G μ' v x → Q x H')
def tA (G : GE) (W : WC) (f : Rho → Sto → Res (List Va)) : TA := fun σ H Q => ∃ μ r S, Env G μ r σ ∧ Rel G μ S H ∧ Wr G μ H (f r S) W (fun v μ' H' => ∀ x, VRs G μ' v x → Q x H')
/-- a test: its value is a bool -/
def tT (G : GE) (W : WC) (f : Rho → Sto → Res Va) : TT := fun σ H Q => ∃ μ r S, Env G μ r σ ∧ Rel G μ S H ∧ Wr G μ H (f r S) W (fun v μ' H' => ∃ b, v = .bl b ∧ Q b H')
theorem PE.weak {X : Cx} {e : Expr} {t t' : TE} (h : PE X e t) (f : ∀ σ H Q, t' σ H Q → t σ H Q) : PE X e t' := ⟨fun pins s σ H Q I q => h.run pins s σ H Q I (f σ H Q q)⟩
theorem PT.weak {X : Cx} {e : Expr} {t t' : TT} (h : PT X e t) (f : ∀ σ H Q, t' σ H Q → t σ H Q) : PT X e t' := ⟨fun pins s σ H Q I q => h.run pins s σ H Q I (f σ H Q q)⟩
theorem PW.weak {X : Cx} {e : Expr} {t t' : TT} (h : PW X e t) (f : ∀ σ H Q, t' σ H Q → t σ H Q) : PW X e t' := ⟨fun wh pins s σ H Q I q => h.run wh pins s σ H Q I (f σ H Q q)⟩
theorem PA.weak {X : Cx} {e : List Expr} {t t' : TA} (h : PA X e t) (f : ∀ σ H Q, t' σ H Q → t σ H Q) : PA X e t' := ⟨fun pos pins s σ H Q I q => h.run pos pins s σ H Q I (f σ H Q q)⟩
theorem PS.weak {X : Cx} {e : Stmt} {t t' : TS} (h : PS X e t) (f : ∀ D σ H, t' D σ H → t D σ H) : PS X e t' := ⟨fun pins s σ H D I q => h.run pins s σ H D I (f D σ H q)⟩
theorem PSs.weak {X : Cx} {e : List Stmt} {t t' : TS} (h : PSs X e t) (f : ∀ D σ H, t' D σ H → t D σ H) : PSs X e t' := ⟨fun pins s σ H D I q => h.run pins s σ H D I (f D σ H q)⟩
end Ev
end

section
set_option Elab.async false
set_option linter.all false
set_option maxRecDepth 100000
/-! Ev2: the evaluator's operators by values. -/
namespace Ev
open PySem PySem.Spec PyProof.Rows L2

structure Cxt (G : GE) (X : Cx) : Prop where
  prog : X.prog = G.P
  w : X.w = G.w
  K : X.K = G.K
  mg : X.mg = G.mg
  base : X.base = G.base
  calm : X.calm = true
  un : X.A.units + 66 < cLine

def r1 (G : GE) (g : Va → Sto → Res Va) : V → Hp → VK → Prop := fun x H Q => ∃ μ S v W, Rel G μ S H ∧ VR G μ v x ∧ Wr G μ H (g v S) W (fun z μ' H' => ∀ Z, VR G μ' z Z → Q Z H')
def r2 (G : GE) (g : Va → Va → Sto → Res Va) : R2 := fun x y H Q => ∃ μ S v u W, Rel G μ S H ∧ VR G μ v x ∧ VR G μ u y ∧ Wr G μ H (g v u S) W (fun z μ' H' => ∀ Z, VR G μ' z Z → Q Z H')
def rN (G : GE) (g : List Va → Sto → Res Va) : List V → Hp → VK → Prop := fun xs H Q => ∃ μ S vs W, Rel G μ S H ∧ VRs G μ vs xs ∧ Wr G μ H (g vs S) W (fun z μ' H' => ∀ Z, VR G μ' z Z → Q Z H')
def rM (G : GE) (g : Va → List Va → Sto → Res Va) : V → List V → Hp → VK → Prop := fun x xs H Q => ∃ μ S v vs W, Rel G μ S H ∧ VR G μ v x ∧ VRs G μ vs xs ∧ Wr G μ H (g v vs S) W (fun z μ' H' => ∀ Z, VR G μ' z Z → Q Z H')
theorem line_eq : line = sizeLine := by decide

section
variable {G : GE} {X : Cx} {μ : List Addr} {S : Sto} {H : Hp} {W : Nat → Hp → Prop} {Q : VK}
/-- a new object is handed on -/
theorem fin_new {o : Ob} {O : HO} {p : Addr} (R : Rel G μ S H) (h : Wr G μ H (new o S) W (fun z μ' H' => ∀ Z, VR G μ' z Z → Q Z H')) (hp : H p = none) (ho : OAt G (μ ++ [p]) (upd H p O) p o) : Q (.ref p) (upd H p O) :=
  h (μ ++ [p]) (upd H p O) (Stp.new hp) (R.new hp ho) _ (R.last p)
theorem fin_newL {xs : List Va} {ys : List V} {p : Addr} (R : Rel G μ S H) (h : Wr G μ H (new (.lst xs) S) W (fun z μ' H' => ∀ Z, VR G μ' z Z → Q Z H')) (r : VRs G μ xs ys) (hp : H p = none) : Q (.ref p) (upd H p (.lst ys)) :=
  fin_new R h hp ⟨ys, upd_same, VRs.app r⟩
theorem fin_newT {xs : List Va} {ys : List V} {p : Addr} (R : Rel G μ S H) (h : Wr G μ H (new (.tup xs) S) W (fun z μ' H' => ∀ Z, VR G μ' z Z → Q Z H')) (r : VRs G μ xs ys) (hp : H p = none) : Q (.ref p) (upd H p (.tup ys)) :=
  fin_new R h hp ⟨ys, upd_same, VRs.app r⟩
theorem fin_ok {v : Va} {x : V} (R : Rel G μ S H) (h : Wr G μ H (.ok v S) W (fun z μ' H' => ∀ Z, VR G μ' z Z → Q Z H')) (r : VR G μ v x) : Q x H := h μ H Stp.refl R x r
/-- a list is changed -/
theorem fin_set {v : Va} {x : V} {l : Nat} {a : Addr} {xs zs : List Va} {ys ws : List V} (R : Rel G μ S H) (h : Wr G μ H (.ok v (S.set l (.lst zs))) W (fun z μ' H' => ∀ Z, VR G μ' z Z → Q Z H')) (r : VR G μ v x)
    (e : S[l]? = some (.lst xs)) (ha : μ[l]? = some a) (hH : H a = some (.lst ys)) (rz : VRs G μ zs ws) : Q x (upd H a (.lst ws)) := h μ _ (Stp.set ha) (R.setL e ha hH rz) x r
theorem mulOk {i j : Int} (h : mulFits i j = true) : IntMulOk i j := by
  have b : ∀ x : Int, Builtin.Int.intBits x ≤ x.natAbs.log2 + 1 := fun x => by
    unfold Builtin.Int.intBits
    split <;> omega
  have h1 := b i
  have h2 := b j
  have h3 : i.natAbs.log2 + j.natAbs.log2 < 100000000 := of_decide_eq_true h
  have e : bitsLine = 134217728 := by decide
  unfold IntMulOk
  intro z
  rw [Bool.and_eq_true] at z
  have z2 := z.2
  unfold Builtin.Int.intTooBig at z2
  have z3 := of_decide_eq_true z2
  rw [e] at z3
  omega
theorem op_mulB : OpR X (binaryOp .Mult) (rI (fun i j => mulFits i j = true) fun i j => .int (i * j)) := opI fun _ _ _ _ _ _ _ hc q => mul_int q (mulOk hc)
theorem vrs_rep {xs : List Va} {ys : List V} (r : VRs G μ xs ys) : ∀ n : Nat, VRs G μ (List.replicate n xs).flatten (List.replicate n ys).flatten
  | 0 => .nil
  | n + 1 => by
    rw [List.replicate_succ, List.replicate_succ, List.flatten_cons, List.flatten_cons]
    exact pr_app r (vrs_rep r n)
def opOf : Bop → Operator
  | .add => .Add
  | .sub => .Sub
  | .mul => .Mult
  | .fdiv => .FloorDiv
  | .mod => .Mod
  | .pow => .Pow
theorem op_bop (C : Cxt G X) (o : Bop) : OpR X (binaryOp (opOf o)) (r2 G (bop o)) := by
  intro pins s σ H x y v u Q I rx ry ⟨μ, S, a, b, W, R, va, vb, h⟩
  cases o <;> cases a <;> cases b <;> try exact (show False from h).elim
  case add.int.int i j =>
    obtain rfl : x = .int i := va
    obtain rfl : y = .int j := vb
    exact op_add pins s σ H _ _ v u Q I rx ry ⟨i, j, rfl, rfl, fin_ok R h rfl⟩
  case add.loc.loc l m =>
    simp only [bop] at h
    cases e1 : getW S (.loc l) with
    | none => rw [e1] at h; exact (show False from h).elim
    | some p =>
      obtain ⟨l', xs⟩ := p
      cases e2 : getW S (.loc m) with
      | none => rw [e1, e2] at h; exact (show False from h).elim
      | some p =>
        obtain ⟨m', ys⟩ := p
        rw [e1, e2] at h
        dsimp only at h
        obtain ⟨_, _, a1, zs, _, rfl, h1, r1⟩ := R.getW e1 va
        obtain ⟨_, _, a2, ws, _, rfl, h2, r2⟩ := R.getW e2 vb
        split at h
        · rename_i hl
          rw [pr_len r1, pr_len r2, line_eq] at hl
          exact op_cat pins s σ H _ _ v u Q I rx ry ⟨a1, a2, zs, ws, rfl, rfl, h1, h2, hl, fun p hp => fin_newL R h (pr_app r1 r2) hp⟩
        · exact (show False from h).elim
  case sub.int.int i j =>
    obtain rfl : x = .int i := va
    obtain rfl : y = .int j := vb
    exact op_sub pins s σ H _ _ v u Q I rx ry ⟨i, j, rfl, rfl, fin_ok R h rfl⟩
  case mul.int.int i j =>
    obtain rfl : x = .int i := va
    obtain rfl : y = .int j := vb
    simp only [bop] at h
    split at h
    · rename_i hm
      exact op_mulB pins s σ H _ _ v u Q I rx ry ⟨i, j, rfl, rfl, hm, fin_ok R h rfl⟩
    · exact (show False from h).elim
  case mul.loc.int l k =>
    obtain rfl : y = .int k := vb
    simp only [bop] at h
    cases e1 : getW S (.loc l) with
    | none => rw [e1] at h; exact (show False from h).elim
    | some p =>
      obtain ⟨l', xs⟩ := p
      rw [e1] at h
      dsimp only at h
      obtain ⟨_, _, a1, zs, _, rfl, h1, r1⟩ := R.getW e1 va
      split at h
      · rename_i hk
        obtain ⟨k1, k2, k3⟩ := hk
        rw [pr_len r1, line_eq] at k3
        exact op_rep pins s σ H _ _ v u Q I rx ry ⟨a1, k, zs, rfl, rfl, h1, k1, k2, k3, fun p hp => fin_newL R h (vrs_rep r1 _) hp⟩
      · exact (show False from h).elim
  case fdiv.int.int i j =>
    obtain rfl : x = .int i := va
    obtain rfl : y = .int j := vb
    simp only [bop] at h
    split at h
    · rename_i hm
      exact op_fdiv pins s σ H _ _ v u Q I rx ry ⟨i, j, rfl, rfl, hm, fin_ok R h rfl⟩
    · exact (show False from h).elim
  case mod.int.int i j =>
    obtain rfl : x = .int i := va
    obtain rfl : y = .int j := vb
    simp only [bop] at h
    split at h
    · rename_i hm
      exact op_mod pins s σ H _ _ v u Q I rx ry ⟨i, j, rfl, rfl, hm, fin_ok R h rfl⟩
    · exact (show False from h).elim
  case pow.int.int i j =>
    obtain rfl : x = .int i := va
    obtain rfl : y = .int j := vb
    simp only [bop] at h
    split at h
    · rename_i hm
      exact op_pow pins s σ H _ _ v u Q I rx ry ⟨i, j, rfl, rfl, ⟨hm.1, Int.le_trans hm.2.1 (by decide), hm.2.2⟩, fin_ok R h rfl⟩
    · exact (show False from h).elim

/-! ### data -/
mutual
theorem allD_ok (R : Rel G μ S H) (n : Nat) : ∀ {vs : List Va} {xs : List V} {ds : List PyData}, allD (toD S n) vs = some ds → VRs G μ vs xs → DpAll G.K H xs ds
  | [], _, ds, e, r => by
    cases r
    cases (show some [] = some ds from e)
    exact .nil
  | v :: vs, _, ds, e, r => by
    cases r with
    | cons r1 r2 =>
      simp only [allD] at e
      cases e1 : toD S n v with
      | none => rw [e1] at e; simp at e
      | some d =>
        cases e2 : allD (toD S n) vs with
        | none => rw [e1, e2] at e; simp at e
        | some ds' =>
          rw [e1, e2] at e
          cases (show some (d :: ds') = some ds from e)
          exact .cons (toD_ok R n e1 r1) (allD_ok R n e2 r2)
  termination_by vs => (n, 1 + vs.length)
theorem toD_ok (R : Rel G μ S H) : ∀ (n : Nat) {v : Va} {x : V} {d : PyData}, toD S n v = some d → VR G μ v x → Dp G.K H x d
  | n, .non, x, d, e, r => by
    obtain rfl : x = .non := r
    cases n <;> (cases (show some PyData.none = some d from e); exact .non)
  | n, .bl b, x, d, e, r => by
    obtain rfl : x = .bl b := r
    cases n <;> (cases (show some (PyData.bool b) = some d from e); exact .bl b)
  | n, .int b, x, d, e, r => by
    obtain rfl : x = .int b := r
    cases n <;> (cases (show some (PyData.int b) = some d from e); exact .int b)
  | n, .str b, x, d, e, r => by
    obtain rfl : x = .str b := r
    cases n <;> (cases (show some (PyData.str b) = some d from e); exact .str b)
  | n, .fn b, x, d, e, r => by
    cases n <;> cases e
  | 0, .scr ns, x, d, e, r => by cases e
  | n + 1, .scr ns, x, d, e, r => by
    cases (show some (PyData.list (ns.map .int)) = some d from e)
    obtain ⟨a, ys, rfl, h1, h2⟩ := R.getL (v := .scr ns) (xs := ns.map .int) rfl r
    refine .lst h1 ?_
    obtain ⟨_, en⟩ := r
    clear h1 e en
    induction ns generalizing ys with
    | nil => cases h2; exact .nil
    | cons k ks ih =>
      cases h2 with
      | cons h2 h3 =>
        rw [show _ = V.int k from h2]
        exact .cons (.int k) (ih _ h3)
  | 0, .loc l, x, d, e, r => by cases e
  | n + 1, .loc l, x, d, e, r => by
    simp only [toD] at e
    cases q : S[l]? with
    | none => rw [q] at e; cases e
    | some o =>
      rw [q] at e
      cases o with
      | lst xs =>
        obtain ⟨ds, e1, e2⟩ := Option.map_eq_some_iff.mp (show (allD (toD S n) xs).map PyData.list = some d from e)
        subst e2
        obtain ⟨a, ys, rfl, h1, h2⟩ := R.getL (v := .loc l) (xs := xs) (by simp only [Ev.getL, q]) r
        exact .lst h1 (allD_ok R n e1 h2)
      | tup xs =>
        obtain ⟨ds, e1, e2⟩ := Option.map_eq_some_iff.mp (show (allD (toD S n) xs).map PyData.tuple = some d from e)
        subst e2
        obtain ⟨a, ys, rfl, h1, h2⟩ := R.getT (v := .loc l) (xs := xs) (by simp only [Ev.getT, q]) r
        exact .tup (.of h1) (allD_ok R n e1 h2)
      | _ => cases e
  termination_by n v => (n, 0)
end

mutual
theorem depth_ok (n : Nat) : ∀ {vs : List Va} {ds : List PyData}, allD (toD S n) vs = some ds → PyData.depthAll ds ≤ n
  | [], ds, e => by
    cases (show some [] = some ds from e)
    simp only [PyData.depthAll]
    exact Nat.zero_le _
  | v :: vs, ds, e => by
    simp only [allD] at e
    cases e1 : toD S n v with
    | none => rw [e1] at e; simp at e
    | some d =>
      cases e2 : allD (toD S n) vs with
      | none => rw [e1, e2] at e; simp at e
      | some ds' =>
        rw [e1, e2] at e
        cases (show some (d :: ds') = some ds from e)
        simp only [PyData.depthAll]
        exact Nat.max_le.mpr ⟨depth1_ok n e1, depth_ok n e2⟩
  termination_by vs => (n, 1 + vs.length)
theorem depth1_ok : ∀ (n : Nat) {v : Va} {d : PyData}, toD S n v = some d → PyData.depth d ≤ n
  | n, .non, d, e => by
    cases n <;> (cases (show some PyData.none = some d from e); simp only [PyData.depth]; exact Nat.zero_le _)
  | n, .bl b, d, e => by
    cases n <;> (cases (show some (PyData.bool b) = some d from e); simp only [PyData.depth]; exact Nat.zero_le _)
  | n, .int b, d, e => by
    cases n <;> (cases (show some (PyData.int b) = some d from e); simp only [PyData.depth]; exact Nat.zero_le _)
  | n, .str b, d, e => by
    cases n <;> (cases (show some (PyData.str b) = some d from e); simp only [PyData.depth]; exact Nat.zero_le _)
  | n, .fn b, d, e => by
    cases n <;> cases e
  | n, .clo _ _, d, e => by
    cases n <;> cases e
  | n, .vn, d, e => by
    cases n <;> cases e
  | n, .vc _ _, d, e => by
    cases n <;> cases e
  | 0, .scr ns, d, e => by cases e
  | n + 1, .scr ns, d, e => by
    cases (show some (PyData.list (ns.map .int)) = some d from e)
    have : PyData.depthAll (ns.map PyData.int) = 0 := by
      clear e
      induction ns with
      | nil => rfl
      | cons k ks ih =>
        rw [List.map_cons]
        simp only [PyData.depthAll, PyData.depth, ih]
        rfl
    simp only [PyData.depth, this]
    omega
  | 0, .loc l, d, e => by cases e
  | n + 1, .loc l, d, e => by
    simp only [toD] at e
    cases q : S[l]? with
    | none => rw [q] at e; cases e
    | some o =>
      rw [q] at e
      cases o with
      | lst xs =>
        obtain ⟨ds, e1, e2⟩ := Option.map_eq_some_iff.mp (show (allD (toD S n) xs).map PyData.list = some d from e)
        subst e2
        simp only [PyData.depth]
        exact Nat.succ_le_succ (depth_ok n e1)
      | tup xs =>
        obtain ⟨ds, e1, e2⟩ := Option.map_eq_some_iff.mp (show (allD (toD S n) xs).map PyData.tuple = some d from e)
        subst e2
        simp only [PyData.depth]
        exact Nat.succ_le_succ (depth_ok n e1)
      | _ => cases e
  termination_by n v => (n, 0)
end
theorem eqS_ok (R : Rel G μ S H) {a b : Va} {x y : V} {k : Bool} (e : eqS S a b = some k) (va : VR G μ a x) (vb : VR G μ b y) : ∃ d d', Dp G.K H x d ∧ Dp G.K H y d' ∧ SeqAt.shaped d = true ∧ SeqAt.shaped d' = true ∧ k = PyData.eqv d d' := by
  unfold eqS at e
  cases e1 : toD S 12 a with
  | none => rw [e1] at e; simp at e
  | some d =>
    cases e2 : toD S 12 b with
    | none => rw [e1, e2] at e; simp at e
    | some d' =>
      rw [e1, e2] at e
      dsimp only at e
      split at e
      · rename_i hc
        obtain ⟨c1, c2⟩ := Bool.and_eq_true_iff.mp hc
        refine ⟨d, d', toD_ok R 12 e1 va, toD_ok R 12 e2 vb, ?_, ?_, (Option.some.inj e).symm⟩
        · unfold SeqAt.shaped
          rw [c1, decide_eq_true (Nat.le_trans (depth1_ok 12 e1) (by decide))]
          rfl
        · unfold SeqAt.shaped
          rw [c2, decide_eq_true (Nat.le_trans (depth1_ok 12 e2) (by decide))]
          rfl
      · cases e
theorem flat_ok {v : Va} {x : V} (f : flat v = true) (r : VR G μ v x) : flatV x = true := by
  cases v with
  | non => rw [show x = .non from r]; rfl
  | bl b => rw [show x = .bl b from r]; rfl
  | int b => rw [show x = .int b from r]; rfl
  | str b => rw [show x = .str b from r]; rfl
  | loc l => cases f
  | fn l => cases f
  | scr l => cases f
  | clo l w => cases f
  | vn => cases f
  | vc a b => cases f
theorem flats_ok : ∀ {vs : List Va} {xs : List V}, vs.all flat = true → VRs G μ vs xs → xs.all flatV = true
  | _, _, _, .nil => rfl
  | _, _, f, .cons r t => by
    rw [List.all_cons, Bool.and_eq_true] at f
    rw [List.all_cons, flat_ok f.1 r, flats_ok f.2 t]
    rfl
theorem eqF_ok {v u : Va} {x y : V} (r : VR G μ v x) (t : VR G μ u y) (f : flat v = true) (g : flat u = true) : eqV x y = eqF v u := by
  cases v with
  | loc l => cases f
  | fn l => cases f
  | scr l => cases f
  | clo l w => cases f
  | vn => cases f
  | vc a b => cases f
  | non =>
    rw [show x = .non from r]
    cases u with
    | loc l => cases g
    | fn l => cases g
    | scr l => cases g
    | clo l w => cases g
    | vn => cases g
    | vc a b => cases g
    | non => rw [show y = .non from t]; rfl
    | bl b => rw [show y = .bl b from t]; rfl
    | int b => rw [show y = .int b from t]; rfl
    | str b => rw [show y = .str b from t]; rfl
  | bl c =>
    rw [show x = .bl c from r]
    cases u with
    | loc l => cases g
    | fn l => cases g
    | scr l => cases g
    | clo l w => cases g
    | vn => cases g
    | vc a b => cases g
    | non => rw [show y = .non from t]; rfl
    | bl b => rw [show y = .bl b from t]; rfl
    | int b => rw [show y = .int b from t]; rfl
    | str b => rw [show y = .str b from t]; rfl
  | int c =>
    rw [show x = .int c from r]
    cases u with
    | loc l => cases g
    | fn l => cases g
    | scr l => cases g
    | clo l w => cases g
    | vn => cases g
    | vc a b => cases g
    | non => rw [show y = .non from t]; rfl
    | bl b => rw [show y = .bl b from t]; rfl
    | int b => rw [show y = .int b from t]; rfl
    | str b => rw [show y = .str b from t]; rfl
  | str c =>
    rw [show x = .str c from r]
    cases u with
    | loc l => cases g
    | fn l => cases g
    | scr l => cases g
    | clo l w => cases g
    | vn => cases g
    | vc a b => cases g
    | non => rw [show y = .non from t]; rfl
    | bl b => rw [show y = .bl b from t]; rfl
    | int b => rw [show y = .int b from t]; rfl
    | str b => rw [show y = .str b from t]; rfl
theorem inV_ok {u : Va} {y : V} (t : VR G μ u y) (g : flat u = true) : ∀ {vs : List Va} {xs : List V}, vs.all flat = true → VRs G μ vs xs → inV y xs = vs.any fun z => eqF z u
  | _, _, _, .nil => rfl
  | _, _, f, .cons r q => by
    rw [List.all_cons, Bool.and_eq_true] at f
    have ih := inV_ok t g f.2 q
    unfold inV at ih ⊢
    rw [List.any_cons, List.any_cons, ih, eqF_ok r t f.1 g]
/-- a list or a tuple that is read -/
theorem getS_ok (R : Rel G μ S H) {v : Va} {x : V} {xs : List Va} (e : (getL S v).or (getT S v) = some xs) (r : VR G μ v x) : ∃ a ys, x = .ref a ∧ (SqL G.K H a ys ∨ SqT G.K H a ys) ∧ VRs G μ xs ys := by
  cases e1 : getL S v with
  | some zs =>
    rw [e1] at e
    cases (show some zs = some xs from e)
    obtain ⟨a, ys, h1, h2, h3⟩ := R.getL e1 r
    exact ⟨a, ys, h1, .inl h2, h3⟩
  | none =>
    rw [e1] at e
    obtain ⟨a, ys, h1, h2, h3⟩ := R.getT (show getT S v = some xs by simpa using e) r
    exact ⟨a, ys, h1, .inr (.of h2), h3⟩
def cmpOf : Cop → CmpOp
  | .lt => .Lt
  | .le => .LtE
  | .gt => .Gt
  | .ge => .GtE
  | .eq => .Eq
  | .ne => .NotEq
  | .isin => .In
  | .notin => .NotIn
theorem op_cop (C : Cxt G X) (o : Cop) : OpR X (compareOp (cmpOf o)) (r2 G (cop o)) := by
  have hu : X.A.units + 64 < cLine := by have := C.un; omega
  intro pins s σ H x y v u Q I rx ry ⟨μ, S, a, b, W, R, va, vb, h⟩
  cases o
  case lt =>
    cases a <;> cases b <;> try exact (show False from h).elim
    rename_i i j
    obtain rfl : x = .int i := va
    obtain rfl : y = .int j := vb
    exact op_lt pins s σ H _ _ v u Q I rx ry ⟨i, j, rfl, rfl, fin_ok R h rfl⟩
  case le =>
    cases a <;> cases b <;> try exact (show False from h).elim
    rename_i i j
    obtain rfl : x = .int i := va
    obtain rfl : y = .int j := vb
    exact op_le pins s σ H _ _ v u Q I rx ry ⟨i, j, rfl, rfl, fin_ok R h rfl⟩
  case gt =>
    cases a <;> cases b <;> try exact (show False from h).elim
    rename_i i j
    obtain rfl : x = .int i := va
    obtain rfl : y = .int j := vb
    exact op_gt pins s σ H _ _ v u Q I rx ry ⟨i, j, rfl, rfl, fin_ok R h rfl⟩
  case ge =>
    cases a <;> cases b <;> try exact (show False from h).elim
    rename_i i j
    obtain rfl : x = .int i := va
    obtain rfl : y = .int j := vb
    exact op_ge pins s σ H _ _ v u Q I rx ry ⟨i, j, rfl, rfl, fin_ok R h rfl⟩
  case eq =>
    simp only [cop] at h
    cases e : eqS S a b with
    | none => rw [e] at h; exact (show False from h).elim
    | some k =>
      rw [e] at h
      obtain ⟨d, d', h1, h2, h3, h4, rfl⟩ := eqS_ok R e va vb
      exact op_eqD hu pins s σ H _ _ v u Q I rx ry ⟨d, d', by rw [C.K]; exact h1, by rw [C.K]; exact h2, h3, h4, fin_ok R h rfl⟩
  case ne =>
    simp only [cop] at h
    cases e : eqS S a b with
    | none => rw [e] at h; exact (show False from h).elim
    | some k =>
      rw [e] at h
      obtain ⟨d, d', h1, h2, h3, h4, rfl⟩ := eqS_ok R e va vb
      exact op_neD hu pins s σ H _ _ v u Q I rx ry ⟨d, d', by rw [C.K]; exact h1, by rw [C.K]; exact h2, h3, h4, fin_ok R h rfl⟩
  case isin =>
    simp only [cop] at h
    cases e : (getL S b).or (getT S b) with
    | none => rw [e] at h; exact (show False from h).elim
    | some ys =>
      rw [e] at h
      dsimp only at h
      split at h
      · rename_i hf
        obtain ⟨f1, f2⟩ := Bool.and_eq_true_iff.mp hf
        obtain ⟨p, zs, rfl, h1, h2⟩ := getS_ok R e vb
        refine op_in_seq pins s σ H _ _ v u Q I rx ry ⟨p, zs, rfl, by rw [C.K]; exact h1, flat_ok f1 va, flats_ok f2 h2, ?_⟩
        rw [if_neg (by decide), inV_ok va f1 f2 h2]
        exact fin_ok R h rfl
      · exact (show False from h).elim
  case notin =>
    simp only [cop] at h
    cases e : (getL S b).or (getT S b) with
    | none => rw [e] at h; exact (show False from h).elim
    | some ys =>
      rw [e] at h
      dsimp only at h
      split at h
      · rename_i hf
        obtain ⟨f1, f2⟩ := Bool.and_eq_true_iff.mp hf
        obtain ⟨p, zs, rfl, h1, h2⟩ := getS_ok R e vb
        refine op_notIn_seq pins s σ H _ _ v u Q I rx ry ⟨p, zs, rfl, by rw [C.K]; exact h1, flat_ok f1 va, flats_ok f2 h2, ?_⟩
        rw [if_pos rfl, inV_ok va f1 f2 h2]
        exact fin_ok R h rfl
      · exact (show False from h).elim
end
end Ev
end

section
set_option Elab.async false
set_option linter.all false
set_option maxRecDepth 100000
set_option maxHeartbeats 1000000
/-! EvT: min of two tuples of ints. -/
namespace Ev
open PySem PySem.W PySem.Spec PyProof.Rows L2
section
variable {prog : Program} {w : World} {A : Around} {E : Value → Shared → Prop} {s : Shared}
/-- min(a, b) over what a heap H holds -/
theorem min_twoH {a b : Value} {Q : Value → Shared → Prop}
    (h : wpAny (model prog w) A.in1 (pyIter (.ref s.heap.objs.size)) (fun it s₂ => ∃ I fp wr G n P St H bt, it = .ref I ∧ WalksS prog w A.in1 I fp wr G n P St ∧ St 0 s₂ ∧ (∀ b ∈ fp, b < s₂.heap.objs.size) ∧ 0 < n ∧
      (∀ b o, H.get? b = some o → b ∉ wr) ∧ (∀ b o, H.get? b = some o → s₂.heap.get? b = some o) ∧ CmpIn prog w A.in1 .Lt H P bt ∧ ∀ v s', P (argBest bt (n - 1)) v → Moved wr G s₂ s' → Q v s') E
      { s with heap := s.heap.push { cls := .type "tuple", data := .seq #[a, b] } }) :
    wpAny (model prog w) A (call (.builtin "min") [a, b]) Q E s := by
  have hn0 : (toString "min" ++ toString ".loop" : String) = "min.loop" := by decide
  refine call_function_tree F.kind_min F.plain_min F.entry_min (F.args_min2 _ _) ?_
  show wpAny _ A.in1 (Builtin.Builtins.bindParams "min" ["key", "default"] 0 ⟨[], []⟩ >>= _) _ _ s
  refine wpAny_bind (wpAny_of_eq (show Builtin.Builtins.bindParams "min" ["key", "default"] 0 ⟨[], []⟩ = pure [none, none] from rfl) ?_)
  show wpAny _ A.in1 (newTuple [a, b] >>= _) _ _ s
  refine wpAny_bind (wpAny_newObj_type ?_)
  refine wpAny_bind (wpAny_mono h (fun it s₂ h₂ => ?_) fun _ _ e => e)
  obtain ⟨I, fp, wr, G, n, P, St, H, bt, rfl, W, hst, hfp, hn, hw, hkeep, hcmp, hQ⟩ := h₂
  refine wpAny_bind (wpAny_newObj_type ?_)
  have hS : s₂.heap.objs.size ∉ fp := fun hm => Nat.lt_irrefl _ (hfp _ hm)
  rw [hn0]
  refine wpAny_pure ⟨plainId_quiet F.plain_min_loop _, codeAny_min_loop_firstH W H hw bt hcmp s₂.heap.objs.size hS (fresh_in hkeep) _ hn (fun b o e => Heap.get?_push_of_some _ (hkeep b o e)) (W.frame 0 s₂ _ s₂.toks hst (Nat.le_refl _) fun b _ o e => Heap.get?_push_of_some _ e) (Heap.get?_push_size _ rfl) fun v s' hP hm => ?_⟩
  exact hQ v s' hP (Moved.drop_new (tk := s₂.toks) hm (Nat.le_refl _))
theorem min_two_tups {a b : Addr} {xs ys : Array Value} {ns ms : List Int} {Q : Value → Shared → Prop} (hh : A.handled = none) (ha : IsTup s.heap a xs) (hb : IsTup s.heap b ys) (hi : IntsAre xs.toList ns) (hj : IntsAre ys.toList ms) (hu : A.units + 1 < cLine)
    (h : ∀ h' tk, (∀ c o, s.heap.get? c = some o → h'.get? c = some o) → Q (if HT.lexLt ms ns then .ref b else .ref a) { s with heap := h', toks := tk }) :
    wpAny (model prog w) A (call (.builtin "min") [.ref a, .ref b]) Q E s := by
  have hT : (s.heap.push { cls := .type "tuple", data := .seq #[.ref a, .ref b] }).IsTuple s.heap.objs.size #[.ref a, .ref b] := ⟨_, Heap.get?_push_size _ rfl, rfl, 0, rfl⟩
  refine min_twoH (iter_tupleW (A := A.in1) hh hT fun s₂ e W st hfp hw hk => ?_)
  have old : ∀ c o, s.heap.get? c = some o → (s.heap.push { cls := .type "tuple", data := .seq #[.ref a, .ref b] }).get? c = some o := fun c o q => Heap.get?_push_of_some _ q
  refine ⟨_, _, _, _, _, _, _, (s.heap.push { cls := .type "tuple", data := .seq #[.ref a, .ref b] }), (fun i j => HT.lexLt (if i = 0 then ns else ms) (if j = 0 then ns else ms)), rfl, W, st, hfp, Nat.zero_lt_succ 1, hw, hk, ?_, fun v s' hP m => ?_⟩
  · intro i j vi vj s1 Q1 E1 hk1 hvi hvj hQ
    have tup : ∀ (i : Nat) (v : Value), (#[Value.ref a, Value.ref b])[i]? = some v → ∃ l zs, v = .ref l ∧ IsTup s1.heap l zs ∧ IntsAre zs.toList (if i = 0 then ns else ms) := fun i v hv => by
      match i, hv with
      | 0, hv => cases hv; exact ⟨a, xs, rfl, ha.keeps fun c o q => hk1 c o (old c o q), hi⟩
      | 1, hv => cases hv; exact ⟨b, ys, rfl, hb.keeps fun c o q => hk1 c o (old c o q), hj⟩
      | i + 2, hv => simp at hv
    obtain ⟨l, zs, rfl, t1, i1⟩ := tup i vi hvi
    obtain ⟨l2, zs2, rfl, t2, i2⟩ := tup j vj hvj
    exact HT.lt_tupInts t1 t2 i1 i2 (by show A.units + 1 < cLine; exact hu) hQ
  · obtain ⟨h', tk, rfl, hk'⟩ := moved_old e rfl m
    have hv : v = if HT.lexLt ms ns then .ref b else .ref a := by
      by_cases hl : HT.lexLt ms ns = true
      · have e2 : argBest (fun i j => HT.lexLt (if i = 0 then ns else ms) (if j = 0 then ns else ms)) 1 = 1 := by simp [argBest, hl]
        have hP' : (#[Value.ref a, Value.ref b])[argBest (fun i j => HT.lexLt (if i = 0 then ns else ms) (if j = 0 then ns else ms)) 1]? = some v := hP
        rw [e2] at hP'
        rw [if_pos hl]
        simpa using hP'.symm
      · have e2 : argBest (fun i j => HT.lexLt (if i = 0 then ns else ms) (if j = 0 then ns else ms)) 1 = 0 := by simp [argBest, hl]
        have hP' : (#[Value.ref a, Value.ref b])[argBest (fun i j => HT.lexLt (if i = 0 then ns else ms) (if j = 0 then ns else ms)) 1]? = some v := hP
        rw [e2] at hP'
        rw [if_neg hl]
        simpa using hP'.symm
    rw [hv]
    exact h h' tk fun c o q => hk' c o (old c o q)
end
end Ev
end

section
set_option Elab.async false
set_option linter.all false
set_option maxRecDepth 100000
/-! Ev3: items, slices, built-ins, list methods by values. -/
namespace Ev
open PySem PySem.Spec PyProof.Rows L2
section
variable {G : GE} {X : Cx} {μ : List Addr} {S : Sto} {H : Hp} {W : Nat → Hp → Prop} {Q : VK}
theorem atI_ok {xs : List Va} {ys : List V} {i : Int} {v : Va} (r : VRs G μ xs ys) (e : Ev.atI xs i = some v) : ∃ y, L2.atI ys i = some y ∧ VR G μ v y := by
  unfold Ev.atI at e
  cases q : Ev.ixN xs.length i with
  | none => rw [q] at e; cases e
  | some j =>
    rw [q] at e
    obtain ⟨y, h1, h2⟩ := pr_get r (show xs[j]? = some v from e)
    refine ⟨y, ?_, h2⟩
    unfold L2.atI
    rw [← pr_len r]
    have q' : L2.ixN xs.length i = some j := q
    rw [q']
    exact h1
/-- xs[i], t[i] -/
def idxS (x y : Va) (S : Sto) : Res Va := match y with
  | .int i => match getL S x with
    | some xs => match Ev.atI xs i with | some v => .ok v S | none => .bad
    | none => match getT S x with
      | some xs => match Ev.atI xs i with | some v => .ok v S | none => .bad
      | none => .bad
  | _ => .bad
theorem ix_seqE (C : Cxt G X) : IxR X (r2 G idxS) := by
  intro value slice pins s σ H x y v u Q I rx ry ⟨μ, S, a, b, W, R, va, vb, h⟩ hs
  cases b <;> try exact (show False from h).elim
  rename_i i
  obtain rfl : y = .int i := vb
  simp only [idxS] at h
  cases e : getL S a with
  | some xs =>
    rw [e] at h
    dsimp only at h
    cases e1 : Ev.atI xs i with
    | none => rw [e1] at h; exact (show False from h).elim
    | some z =>
      rw [e1] at h
      obtain ⟨p, ys, rfl, h1, h2⟩ := R.getL e va
      obtain ⟨w, h3, h4⟩ := atI_ok h2 e1
      exact ix_list value slice pins s σ H _ _ v u Q I rx ry ⟨p, ys, i, w, rfl, rfl, by rw [C.K]; exact h1, h3, fin_ok R h h4⟩ hs
  | none =>
    rw [e] at h
    dsimp only at h
    cases e0 : getT S a with
    | none => rw [e0] at h; exact (show False from h).elim
    | some xs =>
      rw [e0] at h
      dsimp only at h
      cases e1 : Ev.atI xs i with
      | none => rw [e1] at h; exact (show False from h).elim
      | some z =>
        rw [e1] at h
        obtain ⟨p, ys, rfl, h1, h2⟩ := R.getT e0 va
        obtain ⟨w, h3, h4⟩ := atI_ok h2 e1
        exact ix_tup value slice pins s σ H _ _ v u Q I rx ry ⟨p, ys, i, w, rfl, rfl, .of h1, h3, fin_ok R h h4⟩ hs
theorem isC_none (C : Cxt G X) : OpR X (compareOp .Is) (fun x y H Q => y = .non ∧ r1 G (isC .non false) x H Q) := by
  intro pins s σ H x y v u Q I rx ry ⟨ey, μ, S, a, W, R, va, h⟩
  refine op_isN pins s σ H x y v u Q I rx ry ⟨ey, ?_⟩
  have e : decide (x = .non) = decide (a = .non) := by
    cases a with
    | non => rw [show x = .non from va]; rfl
    | bl b => rw [show x = .bl b from va]; rfl
    | int b => rw [show x = .int b from va]; rfl
    | str b => rw [show x = .str b from va]; rfl
    | loc l => obtain ⟨p, _, rfl⟩ := va; rfl
    | fn f => rw [show x = .ref (G.fA f) from va]; rfl
    | scr ns => rw [va.1]; rfl
    | clo f ws => exact va.elim
    | vn => exact va.elim
    | vc a b => exact va.elim
  rw [e]
  have h2 := fin_ok R h (x := .bl (false != decide (a = .non))) rfl
  simpa using h2
theorem isC_nnone (C : Cxt G X) : OpR X (compareOp .IsNot) (fun x y H Q => y = .non ∧ r1 G (isC .non true) x H Q) := by
  intro pins s σ H x y v u Q I rx ry ⟨ey, μ, S, a, W, R, va, h⟩
  refine op_notN pins s σ H x y v u Q I rx ry ⟨ey, ?_⟩
  have e : decide (x = .non) = decide (a = .non) := by
    cases a with
    | non => rw [show x = .non from va]; rfl
    | bl b => rw [show x = .bl b from va]; rfl
    | int b => rw [show x = .int b from va]; rfl
    | str b => rw [show x = .str b from va]; rfl
    | loc l => obtain ⟨p, _, rfl⟩ := va; rfl
    | fn f => rw [show x = .ref (G.fA f) from va]; rfl
    | scr ns => rw [va.1]; rfl
    | clo f ws => exact va.elim
    | vn => exact va.elim
    | vc a b => exact va.elim
  rw [e]
  have h2 := fin_ok R h (x := .bl (true != decide (a = .non))) rfl
  simpa using h2
theorem isC_bl (C : Cxt G X) (b : Bool) : OpR X (compareOp .Is) (fun x y H Q => y = .bl b ∧ r1 G (isC (.bl b) false) x H Q) := by
  intro pins s σ H x y v u Q I rx ry ⟨ey, μ, S, a, W, R, va, h⟩
  cases a <;> try exact (show False from h).elim
  rename_i c
  obtain rfl : x = .bl c := va
  refine op_isBl pins s σ H _ y v u Q I rx ry ⟨c, b, rfl, ey, ?_⟩
  have h2 := fin_ok R h (x := .bl (false != decide (c = b))) rfl
  simpa using h2
theorem isC_nbl (C : Cxt G X) (b : Bool) : OpR X (compareOp .IsNot) (fun x y H Q => y = .bl b ∧ r1 G (isC (.bl b) true) x H Q) := by
  intro pins s σ H x y v u Q I rx ry ⟨ey, μ, S, a, W, R, va, h⟩
  cases a <;> try exact (show False from h).elim
  rename_i c
  obtain rfl : x = .bl c := va
  refine op_notBl pins s σ H _ y v u Q I rx ry ⟨c, b, rfl, ey, ?_⟩
  have h2 := fin_ok R h (x := .bl (true != decide (c = b))) rfl
  simpa using h2

/-! ### slices -/
theorem cut_ok {xs : List Va} {ys : List V} (r : VRs G μ xs ys) (lo hi : Option Int) : VRs G μ (cut xs lo hi) (cutV ys lo hi) := by
  unfold cut cutV
  rw [← pr_len r]
  exact pr_take _ (pr_drop _ r)
theorem pr_pick {α β : Type} {F : α → β → Prop} {xs : List α} {ys : List β} (r : Paired F xs ys) : ∀ is : List Nat, Paired F (is.filterMap fun i => xs[i]?) (is.filterMap fun i => ys[i]?)
  | [] => .nil
  | i :: is => by
    rw [List.filterMap_cons, List.filterMap_cons]
    cases e : xs[i]? with
    | some x =>
      obtain ⟨y, h1, h2⟩ := pr_get r e
      rw [h1]
      exact .cons h2 (pr_pick r is)
    | none =>
      have e2 : ys[i]? = none := by
        rw [List.getElem?_eq_none_iff] at e ⊢
        rw [← pr_len r]
        exact e
      rw [e2]
      exact pr_pick r is
theorem pick_ok {xs : List Va} {ys : List V} (r : VRs G μ xs ys) (lo st : Int) : VRs G μ (pick xs lo st) (pick ys lo st) := by
  unfold pick
  rw [← pr_len r]
  exact pr_pick r _
/-- xs[lo::st] -/
def tStep (K : PySem.W.Frag) (te tl ts : TE) : TE := fun σ H Q => te σ H fun x H1 => tl σ H1 fun l H2 => ∃ i, l = .int i ∧ ts σ H2 fun z H3 => ∃ k, z = .int k ∧ k ≠ 0 ∧ ∃ a xs, x = .ref a ∧ SqL K H3 a xs ∧ ∀ p, H3 p = none → Q (.ref p) (upd H3 p (.lst (pick xs i k)))
theorem pe_step {e lo st : Expr} {te tl ts : TE} {p3 pos : Pos} (he : PE X e te) (hl : PE X lo tl) (hs : PE X st ts) (hp : subscripted (.Slice (some lo) none (some st) p3) false = fun o i => operate [o, i] (getItem o i)) : PE X (.Subscript e (.Slice (some lo) none (some st) p3) pos) (tStep X.K te tl ts) := by
  refine ⟨fun pins s σ H Q I h => ?_⟩
  refine Subscript_ (thn (he.run pins s σ H _ I h) fun v s1 ⟨x, H1, I1, r1, q1⟩ => ?_)
  refine wpAny_Slice (thn ((po_some hl).run pins s1 σ H1 (fun o H2 => match o with | some i => ts σ H2 fun z H3 => ∃ k, z = .int k ∧ k ≠ 0 ∧ ∃ a xs, x = .ref a ∧ SqL X.K H3 a xs ∧ ∀ p, H3 p = none → Q (.ref p) (upd H3 p (.lst (pick xs i k))) | none => False) I1 ?_) fun vl s2 ⟨l, H2, I2, pl, q2⟩ => ?_)
  · exact (show tPart tl σ H1 _ from q1)
  obtain ⟨i, el⟩ : ∃ i, l = some i := by
    cases l with
    | none => exact q2.elim
    | some i => exact ⟨i, rfl⟩
  subst el
  dsimp only at q2
  refine thn (po_none.run pins s2 σ H2 (fun o H3 => o = none ∧ H3 = H2) I2 ⟨rfl, rfl⟩) fun vu s3 ⟨u, H3, I3, pu, eu, e3⟩ => ?_
  subst eu e3
  refine thn ((po_some hs).run pins s3 σ H3 (fun o H4 => match o with | some k => k ≠ 0 ∧ ∃ a xs, x = .ref a ∧ SqL X.K H4 a xs ∧ ∀ p, H4 p = none → Q (.ref p) (upd H4 p (.lst (pick xs i k))) | none => False) I3 ?_) fun vs s4 ⟨o, H4, I4, ps, q3⟩ => ?_
  · exact (show tPart ts σ H3 _ from q2)
  obtain ⟨k, eo⟩ : ∃ k, o = some k := by
    cases o with
    | none => exact q3.elim
    | some i => exact ⟨i, rfl⟩
  subst eo
  dsimp only at q3
  obtain ⟨k0, a, xs, ex, hx, q⟩ := q3
  subst ex
  cases r1
  have I5 : Inv X pins σ H4 { s4 with heap := s4.heap.push { cls := .type "slice", data := .fields #[vl, vu, vs] } } := I4.kept (t' := s4.toks) fun b ob q => Heap.get?_push_of_some _ q
  obtain ⟨its, r, ht, hz⟩ := I5.list hx
  have hlen := r.length
  show wpAny (model X.prog X.w) X.A (subscriptTail e (.Slice (some lo) none (some st) p3) (.ref a) (.ref s4.heap.objs.size)) (EP X pins σ Q) X.xe { s4 with heap := s4.heap.push { cls := .type "slice", data := .fields #[vl, vu, vs] } }
  refine tail_any (ops := [.ref a, .ref s4.heap.objs.size]) ht.isList.typeIs (PySem.slot_list_getitem.lookup) ?_ (by rw [hp])
  refine wpAny_getItem_list_slice ht.isList (Heap.IsSliceOf.new _ vl vu vs) pl pu ps (by intro z; cases z; exact k0 rfl) ?_ (by rw [List.size_toArray]; omega)
  have ep : slicePick its.toArray (some i) none (some k) = (pick its i k).toArray := by
    unfold slicePick pick
    simp
  rw [ep]
  have rp : Vals (pick xs i k) (pick its i k) := by
    unfold pick
    rw [← hlen]
    exact pr_pick r _
  have le : (pick xs i k).length ≤ xs.length := by
    rw [rp.length]
    have := slicePick_size_le its.toArray (some i) none (some k)
    rw [ep] at this
    simp at this
    omega
  refine ⟨.ref _, _, I5.laid (t' := s4.toks) (o := .lst (pick xs i k)) (fun b ob q => Heap.get?_push_of_some _ q) (Nat.le_refl _) ?_, rfl, q _ (I5.hok.fresh (Nat.le_refl _))⟩
  exact ⟨Nat.le_trans le hz, _, 0, rp, Heap.get?_push_size _ rfl⟩
end
end Ev
end

section
set_option Elab.async false
set_option linter.all false
set_option maxRecDepth 100000
/-! Ev4: built-ins and list methods by values. -/
namespace Ev
open PySem PySem.Spec PyProof.Rows L2
/-! ### mathematics of the lists -/
theorem insI_perm (x : Int) : ∀ l : List Int, (insI x l).Perm (x :: l)
  | [] => List.Perm.refl _
  | y :: r => by
    unfold insI
    split
    · exact List.Perm.refl _
    · exact ((insI_perm x r).cons y).trans (List.Perm.swap x y r)
theorem srt_perm : ∀ l : List Int, (srt l).Perm l
  | [] => List.Perm.refl _
  | x :: r => (insI_perm x (srt r)).trans ((srt_perm r).cons x)
theorem insI_sorted (x : Int) : ∀ {l : List Int}, l.Pairwise (· ≤ ·) → (insI x l).Pairwise (· ≤ ·)
  | [], _ => List.pairwise_singleton _ _
  | y :: r, h => by
    unfold insI
    obtain ⟨h1, h2⟩ := List.pairwise_cons.mp h
    split
    · rename_i hx
      refine List.pairwise_cons.mpr ⟨fun z hz => ?_, h⟩
      rcases List.mem_cons.mp hz with rfl | hz
      · exact hx
      · exact Int.le_trans hx (h1 z hz)
    · rename_i hx
      refine List.pairwise_cons.mpr ⟨fun z hz => ?_, insI_sorted x h2⟩
      rcases List.mem_cons.mp ((insI_perm x r).mem_iff.mp hz) with rfl | hz
      · omega
      · exact h1 z hz
theorem srt_sorted : ∀ l : List Int, (srt l).Pairwise (· ≤ ·)
  | [] => List.Pairwise.nil
  | x :: r => insI_sorted x (srt_sorted r)
theorem srt_of {l l' : List Int} (hp : l'.Perm l) (hs : l'.Pairwise (· ≤ ·)) : l' = srt l := PySem.W.ksm_same (hp.trans (srt_perm l).symm) hs (srt_sorted l)
theorem minI_le : ∀ (l : List Int) (m : Int), minI m l ≤ m ∧ ∀ y ∈ l, minI m l ≤ y
  | [], m => ⟨Int.le_refl _, fun y hy => by cases hy⟩
  | x :: r, m => by
    unfold minI
    obtain ⟨h1, h2⟩ := minI_le r (if x < m then x else m)
    refine ⟨Int.le_trans h1 (by split <;> omega), fun y hy => ?_⟩
    rcases List.mem_cons.mp hy with rfl | hy
    · exact Int.le_trans h1 (by split <;> omega)
    · exact h2 y hy
theorem minI_mem : ∀ (l : List Int) (m : Int), minI m l ∈ m :: l
  | [], m => List.mem_cons_self
  | x :: r, m => by
    unfold minI
    rcases List.mem_cons.mp (minI_mem r (if x < m then x else m)) with h | h
    · rw [h]
      split
      · exact List.mem_cons_of_mem _ List.mem_cons_self
      · exact List.mem_cons_self
    · exact List.mem_cons_of_mem _ (List.mem_cons_of_mem _ h)
section
variable {G : GE} {X : Cx} {μ : List Addr} {S : Sto} {H : Hp} {W : Nat → Hp → Prop} {Q : VK}
theorem intsOf_ok : ∀ {xs : List Va} {ys : List V} {ns : List Int}, intsOf xs = some ns → VRs G μ xs ys → ys = ns.map V.int
  | [], _, ns, e, r => by
    cases r
    cases (show some [] = some ns from e)
    rfl
  | v :: vs, _, ns, e, r => by
    cases r with
    | cons r1 r2 =>
      cases v with
      | int i =>
        obtain ⟨ms, e1, e2⟩ := Option.map_eq_some_iff.mp (show (intsOf vs).map (i :: ·) = some ns from e)
        subst e2
        rw [intsOf_ok e1 r2, show _ = V.int i from r1]
        rfl
      | _ => cases e
theorem blsOf_ok : ∀ {xs : List Va} {ys : List V} {ns : List Bool}, blsOf xs = some ns → VRs G μ xs ys → ys = ns.map V.bl
  | [], _, ns, e, r => by
    cases r
    cases (show some [] = some ns from e)
    rfl
  | v :: vs, _, ns, e, r => by
    cases r with
    | cons r1 r2 =>
      cases v with
      | bl i =>
        obtain ⟨ms, e1, e2⟩ := Option.map_eq_some_iff.mp (show (blsOf vs).map (i :: ·) = some ns from e)
        subst e2
        rw [blsOf_ok e1 r2, show _ = V.bl i from r1]
        rfl
      | _ => cases e
theorem vrs_ints (ns : List Int) : VRs G μ (ns.map Va.int) (ns.map V.int) := by
  induction ns with
  | nil => exact .nil
  | cons n r ih => exact .cons rfl ih
theorem intsL_ok (R : Rel G μ S H) {v : Va} {x : V} {ns : List Int} (e : (getL S v).bind intsOf = some ns) (r : VR G μ v x) : ∃ a, x = .ref a ∧ SqL G.K H a (ns.map V.int) := by
  obtain ⟨xs, e1, e2⟩ := Option.bind_eq_some_iff.mp e
  obtain ⟨a, ys, rfl, h1, h2⟩ := R.getL e1 r
  rw [intsOf_ok e2 h2] at h1
  exact ⟨a, rfl, h1⟩
theorem blsL_ok (R : Rel G μ S H) {v : Va} {x : V} {ns : List Bool} (e : (getL S v).bind blsOf = some ns) (r : VR G μ v x) : ∃ a, x = .ref a ∧ SqL G.K H a (ns.map V.bl) := by
  obtain ⟨xs, e1, e2⟩ := Option.bind_eq_some_iff.mp e
  obtain ⟨a, ys, rfl, h1, h2⟩ := R.getL e1 r
  rw [blsOf_ok e2 h2] at h1
  exact ⟨a, rfl, h1⟩

/-! ### built-ins -/
theorem one_of {vs : List Va} {xs : List V} {v : Va} (e : vs = [v]) (va : VRs G μ vs xs) : ∃ x, xs = [x] ∧ VR G μ v x := by
  subst e
  cases va with
  | cons a b => cases b; exact ⟨_, rfl, a⟩
theorem two_of {vs : List Va} {xs : List V} {v u : Va} (e : vs = [v, u]) (va : VRs G μ vs xs) : ∃ x y, xs = [x, y] ∧ VR G μ v x ∧ VR G μ u y := by
  subst e
  cases va with
  | cons a b =>
    cases b with
    | cons b c => cases c; exact ⟨_, _, rfl, a, b⟩
theorem biLT_of {f : List Va → Sto → Res Va} {vs : List Va} {xs : List V} {k : Va → List Addr → Hp → Prop} (R : Rel G μ S H) (va : VRs G μ vs xs) (h : Wr G μ H (biLT f vs S) W k) :
    ∃ a zs ys, xs = [.ref a] ∧ (SqL G.K H a ys ∨ SqT G.K H a ys) ∧ VRs G μ zs ys ∧ Wr G μ H (f zs S) W k := by
  unfold biLT at h
  split at h
  · rename_i v
    obtain ⟨x, rfl, v1⟩ := one_of rfl va
    cases e : (getL S v).or (getT S v) with
    | none => rw [e] at h; exact (show False from h).elim
    | some zs =>
      rw [e] at h
      obtain ⟨a, ys, rfl, h1, h2⟩ := getS_ok R e v1
      exact ⟨a, zs, ys, rfl, h1, h2, h⟩
  · exact (show False from h).elim
theorem biL_of {f : List Va → Sto → Res Va} {vs : List Va} {xs : List V} {k : Va → List Addr → Hp → Prop} (R : Rel G μ S H) (va : VRs G μ vs xs) (h : Wr G μ H (biL f vs S) W k) :
    ∃ a zs ys, xs = [.ref a] ∧ SqL G.K H a ys ∧ VRs G μ zs ys ∧ Wr G μ H (f zs S) W k := by
  unfold biL at h
  split at h
  · rename_i v
    obtain ⟨x, rfl, v1⟩ := one_of rfl va
    cases e : getL S v with
    | none => rw [e] at h; exact (show False from h).elim
    | some zs =>
      rw [e] at h
      obtain ⟨a, ys, rfl, h1, h2⟩ := R.getL e v1
      exact ⟨a, zs, ys, rfl, h1, h2, h⟩
  · exact (show False from h).elim
theorem biI_of {f : List Int → Sto → Res Va} {vs : List Va} {xs : List V} {k : Va → List Addr → Hp → Prop} (R : Rel G μ S H) (va : VRs G μ vs xs) (h : Wr G μ H (biI f vs S) W k) :
    ∃ a ns, xs = [.ref a] ∧ SqL G.K H a (ns.map V.int) ∧ Wr G μ H (f ns S) W k := by
  unfold biI at h
  split at h
  · rename_i v
    obtain ⟨x, rfl, v1⟩ := one_of rfl va
    cases e : (getL S v).bind intsOf with
    | none => rw [e] at h; exact (show False from h).elim
    | some zs =>
      rw [e] at h
      obtain ⟨a, rfl, h1⟩ := intsL_ok R e v1
      exact ⟨a, zs, rfl, h1, h⟩
  · exact (show False from h).elim
theorem biB_of {f : List Bool → Sto → Res Va} {vs : List Va} {xs : List V} {k : Va → List Addr → Hp → Prop} (R : Rel G μ S H) (va : VRs G μ vs xs) (h : Wr G μ H (biB f vs S) W k) :
    ∃ a ns, xs = [.ref a] ∧ SqL G.K H a (ns.map V.bl) ∧ Wr G μ H (f ns S) W k := by
  unfold biB at h
  split at h
  · rename_i v
    obtain ⟨x, rfl, v1⟩ := one_of rfl va
    cases e : (getL S v).bind blsOf with
    | none => rw [e] at h; exact (show False from h).elim
    | some zs =>
      rw [e] at h
      obtain ⟨a, rfl, h1⟩ := blsL_ok R e v1
      exact ⟨a, zs, rfl, h1, h⟩
  · exact (show False from h).elim
theorem cb_len (C : Cxt G X) : CallR X (.builtin "len") (rN G (bi .len)) := by
  intro pins s σ H xs us Q I r ⟨μ, S, vs, W, R, va, h⟩
  obtain ⟨a, zs, ys, rfl, h1, h2, h⟩ := biLT_of R va h
  refine call_len_seq pins s σ H _ us Q I r ⟨a, ys, rfl, by rw [C.K]; exact h1, ?_⟩
  rw [← pr_len h2]
  exact fin_ok R h rfl
theorem cb_sum (C : Cxt G X) : CallR X (.builtin "sum") (rN G (bi .sum)) := by
  intro pins s σ H xs us Q I r ⟨μ, S, vs, W, R, va, h⟩
  obtain ⟨a, zs, rfl, h1, h⟩ := biI_of R va h
  exact cr_sum C.calm pins s σ H _ us Q I r ⟨a, zs, rfl, by rw [C.K]; exact h1, fin_ok R h rfl⟩
theorem cb_abs (C : Cxt G X) : CallR X (.builtin "abs") (rN G (bi .abs)) := by
  intro pins s σ H xs us Q I r ⟨μ, S, vs, W, R, va, h⟩
  simp only [bi, biAbs] at h
  split at h
  · rename_i i
    obtain ⟨x, rfl, v1⟩ := one_of rfl va
    cases (show x = V.int i from v1)
    exact call_abs pins s σ H _ us Q I r ⟨i, rfl, fin_ok R h rfl⟩
  · exact (show False from h).elim
theorem call_minT (C : Cxt G X) : CallR X (.builtin "min") (fun xs H Q => ∃ a b is js, xs = [V.ref a, V.ref b] ∧ H a = some (.tup (is.map V.int)) ∧ H b = some (.tup (js.map V.int)) ∧ Q (if lexLt js is then .ref b else .ref a) H) := by
  intro pins s σ H xs us Q I r h
  obtain ⟨a, b, is, js, rfl, ha, hb, q⟩ := h
  obtain ⟨u, w', rfl, r1, r2⟩ := vals2 r
  cases r1
  cases r2
  obtain ⟨its, v1, p1, _⟩ := I.tuple (.of ha)
  obtain ⟨its2, v2, p2, _⟩ := I.tuple (.of hb)
  have i1 : IntsAre its.toArray.toList is := intsAre_of v1
  have i2 : IntsAre its2.toArray.toList js := intsAre_of v2
  have el : ∀ x y : List Int, HT.lexLt x y = lexLt x y := by
    intro x
    induction x with
    | nil => intro y; cases y <;> rfl
    | cons n r ih =>
      intro y
      cases y with
      | nil => rfl
      | cons m z => simp only [HT.lexLt, lexLt, ih]
  refine min_two_tups (I.ok.hd C.calm) p1 p2 i1 i2 (by have := C.un; omega) fun h' tk k => ⟨_, H, I.kept k, ?_, q⟩
  rw [el]
  by_cases hl : lexLt js is = true
  · rw [if_pos hl, if_pos hl]; rfl
  · rw [if_neg hl, if_neg hl]; rfl
theorem cb_min2 (C : Cxt G X) : CallR X (.builtin "min") (rN G (bi .min2)) := by
  have hT := call_minT C
  intro pins s σ H xs us Q I r ⟨μ, S, vs, W, R, va, h⟩
  simp only [bi, biMin2] at h
  split at h
  · rename_i v u
    obtain ⟨x, y, rfl, v1, v2⟩ := two_of rfl va
    split at h
    · rename_i i j
      cases (show x = V.int i from v1)
      cases (show y = V.int j from v2)
      exact call_min2 C.calm pins s σ H _ us Q I r ⟨i, j, rfl, fin_ok R h rfl⟩
    · rename_i l m
      split at h
      · rename_i is js e1 e2
        obtain ⟨zs, e1, e3⟩ := Option.bind_eq_some_iff.mp e1
        obtain ⟨ws, e2, e4⟩ := Option.bind_eq_some_iff.mp e2
        obtain ⟨a, ys, rfl, h1, h2⟩ := R.getT e1 v1
        obtain ⟨b, ys', rfl, h3, h4⟩ := R.getT e2 v2
        rw [intsOf_ok e3 h2] at h1
        rw [intsOf_ok e4 h4] at h3
        refine hT pins s σ H _ us Q I r ⟨a, b, is, js, rfl, h1, h3, ?_⟩
        split at h
        · rename_i hl
          rw [if_pos hl]
          exact fin_ok R h v2
        · rename_i hl
          rw [if_neg hl]
          exact fin_ok R h v1
      · exact (show False from h).elim
    · exact (show False from h).elim
  · exact (show False from h).elim
theorem cb_min (C : Cxt G X) : CallR X (.builtin "min") (rN G (bi .min)) := by
  intro pins s σ H xs us Q I r ⟨μ, S, vs, W, R, va, h⟩
  simp only [bi, biMin] at h
  split at h
  · rename_i v
    obtain ⟨x, rfl, v1⟩ := one_of rfl va
    split at h
    · rename_i n ns e
      obtain ⟨a, rfl, h1⟩ := intsL_ok R e v1
      refine cr_min C.calm pins s σ H _ us Q I r ⟨a, n :: ns, rfl, by rw [C.K]; exact h1, by simp, fun m hm hle => ?_⟩
      have em : m = minI n ns := by
        obtain ⟨k1, k2⟩ := minI_le ns n
        have k3 := hle _ (minI_mem ns n)
        rcases List.mem_cons.mp hm with z | z
        · omega
        · have := k2 m z
          omega
      rw [em]
      exact fin_ok R h rfl
    · exact (show False from h).elim
  · exact cb_min2 C pins s σ H xs us Q I r ⟨μ, S, _, W, R, va, h⟩
  · exact (show False from h).elim
theorem cb_max2 (C : Cxt G X) : CallR X (.builtin "max") (rN G (bi .max)) := by
  intro pins s σ H xs us Q I r ⟨μ, S, vs, W, R, va, h⟩
  simp only [bi, biMax] at h
  split at h
  · rename_i i j
    obtain ⟨x, y, rfl, v1, v2⟩ := two_of rfl va
    cases (show x = V.int i from v1)
    cases (show y = V.int j from v2)
    exact call_max2 C.calm pins s σ H _ us Q I r ⟨i, j, rfl, fin_ok R h rfl⟩
  · exact (show False from h).elim
theorem cb_sorted (C : Cxt G X) : CallR X (.builtin "sorted") (rN G (bi .sorted)) := by
  intro pins s σ H xs us Q I r ⟨μ, S, vs, W, R, va, h⟩
  obtain ⟨a, zs, rfl, h1, h⟩ := biI_of R va h
  refine cr_sortedI pins s σ H _ us Q I r ⟨a, zs, rfl, by rw [C.K]; exact h1, fun ns' p hp hs hn => ?_⟩
  rw [srt_of hp hs]
  exact fin_newL R h (vrs_ints _) hn
theorem cb_list (C : Cxt G X) : CallR X (.type "list") (rN G (bi .list)) := by
  intro pins s σ H xs us Q I r ⟨μ, S, vs, W, R, va, h⟩
  obtain ⟨a, zs, ys, rfl, h1, h2, h⟩ := biLT_of R va h
  exact call_list_of pins s σ H _ us Q I r ⟨a, ys, rfl, by rw [C.K]; exact h1, fun l hl => fin_newL R h h2 hl⟩
theorem cb_tuple (C : Cxt G X) : CallR X (.type "tuple") (rN G (bi .tuple)) := by
  intro pins s σ H xs us Q I r ⟨μ, S, vs, W, R, va, h⟩
  obtain ⟨a, zs, ys, rfl, h1, h2, h⟩ := biL_of R va h
  exact call_tuple_of pins s σ H _ us Q I r ⟨a, ys, rfl, .inl ⟨by rw [C.K]; exact h1, fun l hl => fin_newT R h h2 hl⟩⟩
theorem cb_any (C : Cxt G X) : CallR X (.builtin "any") (rN G (bi .any)) := by
  intro pins s σ H xs us Q I r ⟨μ, S, vs, W, R, va, h⟩
  obtain ⟨a, zs, rfl, h1, h⟩ := biB_of R va h
  exact cr_any C.calm pins s σ H _ us Q I r ⟨a, zs, rfl, by rw [C.K]; exact h1, fin_ok R h rfl⟩
theorem cb_all (C : Cxt G X) : CallR X (.builtin "all") (rN G (bi .all)) := by
  intro pins s σ H xs us Q I r ⟨μ, S, vs, W, R, va, h⟩
  obtain ⟨a, zs, rfl, h1, h⟩ := biB_of R va h
  exact cr_all C.calm pins s σ H _ us Q I r ⟨a, zs, rfl, by rw [C.K]; exact h1, fin_ok R h rfl⟩
theorem cb_int (C : Cxt G X) : CallR X (.type "int") (rN G (bi .int)) := by
  intro pins s σ H xs us Q I r ⟨μ, S, vs, W, R, va, h⟩
  simp only [bi, biInt] at h
  split at h
  · rename_i i
    obtain ⟨x, rfl, v1⟩ := one_of rfl va
    cases (show x = V.bl i from v1)
    exact call_int1 pins s σ H _ us Q I r (.inr ⟨i, rfl, fin_ok R h rfl⟩)
  · exact (show False from h).elim

/-! ### methods of a list -/
def lmL (f : Nat → List Va → List Va → Sto → Res Va) (x : Va) (as : List Va) (S : Sto) : Res Va := match getW S x with
  | none => .bad
  | some (l, xs) => f l xs as S
theorem lmL_of {f : Nat → List Va → List Va → Sto → Res Va} {v : Va} {vs : List Va} {x : V} {k : Va → List Addr → Hp → Prop} (R : Rel G μ S H) (v1 : VR G μ v x) (h : Wr G μ H (lmL f v vs S) W k) :
    ∃ l zs a ys, S[l]? = some (.lst zs) ∧ μ[l]? = some a ∧ x = .ref a ∧ H a = some (.lst ys) ∧ VRs G μ zs ys ∧ Wr G μ H (f l zs vs S) W k := by
  unfold lmL at h
  cases e : getW S v with
  | none => rw [e] at h; exact (show False from h).elim
  | some p =>
    obtain ⟨l, xs⟩ := p
    rw [e] at h
    obtain ⟨_, q, a, ys, h1, h2, h3, h4⟩ := R.getW e v1
    exact ⟨l, xs, a, ys, q, h1, h2, h3, h4, h⟩
theorem ml_append (C : Cxt G X) : MtR X "list.append" (rM G (lm .append)) := by
  intro pins s σ H x xs v us Q I rx rxs ⟨μ, S, a, vs, W, R, va, vb, h⟩
  obtain ⟨l, zs, p, ys, q, h1, rfl, h3, h4, h⟩ := lmL_of (f := fun l xs as S => lmAppend l xs as S) R va h
  simp only [lmAppend] at h
  split at h
  · rename_i b
    obtain ⟨y, rfl, v1⟩ := one_of rfl vb
    split at h
    · rename_i hl
      rw [pr_len h4, line_eq] at hl
      exact mt_append pins s σ H _ _ v us Q I rx rxs ⟨p, ys, y, rfl, rfl, h3, hl, fin_set R h rfl q h1 h3 (pr_app h4 (.cons v1 .nil))⟩
    · exact (show False from h).elim
  · exact (show False from h).elim
theorem ml_extend (C : Cxt G X) : MtR X "list.extend" (rM G (lm .extend)) := by
  intro pins s σ H x xs v us Q I rx rxs ⟨μ, S, a, vs, W, R, va, vb, h⟩
  obtain ⟨l, zs, p, ys, q, h1, rfl, h3, h4, h⟩ := lmL_of (f := fun l xs as S => lmExtend l xs as S) R va h
  simp only [lmExtend] at h
  split at h
  · rename_i b
    obtain ⟨y, rfl, v1⟩ := one_of rfl vb
    split at h
    · rename_i m ws e
      obtain ⟨_, _, p2, ys2, _, rfl, h5, h6⟩ := R.getW e v1
      split at h
      · rename_i hl
        rw [pr_len h4, pr_len h6, line_eq] at hl
        exact mt_extend pins s σ H _ _ v us Q I rx rxs ⟨p, p2, ys, ys2, rfl, rfl, h3, h5, hl, fin_set R h rfl q h1 h3 (pr_app h4 h6)⟩
      · exact (show False from h).elim
    · exact (show False from h).elim
  · exact (show False from h).elim
theorem erase_ix : ∀ {ns : List Int} {k : Int}, k ∈ ns → ∃ j : Nat, ns[j]? = some k ∧ (∀ m : Nat, m < j → ns[m]? ≠ some k) ∧ ns.eraseIdx j = ns.erase k
  | [], k, h => by cases h
  | n :: r, k, h => by
    by_cases e : n = k
    · subst e
      exact ⟨0, rfl, fun m hm => by omega, by simp⟩
    · rcases List.mem_cons.mp h with z | z
      · exact absurd z.symm e
      · obtain ⟨j, h1, h2, h3⟩ := erase_ix z
        refine ⟨j + 1, by simpa using h1, fun m hm => ?_, ?_⟩
        · cases m with
          | zero => simpa using e
          | succ m => simpa using h2 m (by omega)
        · rw [List.eraseIdx_cons_succ, h3, List.erase_cons_tail (by simpa using e)]
theorem ml_remove (C : Cxt G X) : MtR X "list.remove" (rM G (lm .remove)) := by
  intro pins s σ H x xs v us Q I rx rxs ⟨μ, S, a, vs, W, R, va, vb, h⟩
  obtain ⟨l, zs, p, ys, q, h1, rfl, h3, h4, h⟩ := lmL_of (f := fun l xs as S => lmRemove l xs as S) R va h
  simp only [lmRemove] at h
  split at h
  · rename_i k h0
    obtain ⟨y, rfl, v1⟩ := one_of rfl vb
    cases (show y = V.int k from v1)
    split at h
    · rename_i ns e
      split at h
      · rename_i hc
        obtain ⟨j, k1, k2, k3⟩ := erase_ix (by simpa using hc)
        have e2 := intsOf_ok e h4
        refine mt_remove pins s σ H _ _ v us Q I rx rxs ⟨p, ns, k, j, rfl, rfl, by rw [h3, e2], k1, k2, ?_⟩
        rw [k3]
        exact fin_set R h rfl q h1 h3 (vrs_ints _)
      · exact (show False from h).elim
    · exact (show False from h).elim
  · exact (show False from h).elim
theorem ml_reverse (C : Cxt G X) : MtR X "list.reverse" (rM G (lm .reverse)) := by
  intro pins s σ H x xs v us Q I rx rxs ⟨μ, S, a, vs, W, R, va, vb, h⟩
  obtain ⟨l, zs, p, ys, q, h1, rfl, h3, h4, h⟩ := lmL_of (f := fun l xs as S => lm0 l xs.reverse as S) R va h
  simp only [lm0] at h
  split at h
  · cases vb
    exact mt_reverse pins s σ H _ _ v us Q I rx rxs ⟨p, ys, rfl, rfl, h3, fin_set R h rfl q h1 h3 (pr_rev h4)⟩
  · exact (show False from h).elim
theorem ml_clear (C : Cxt G X) : MtR X "list.clear" (rM G (lm .clear)) := by
  intro pins s σ H x xs v us Q I rx rxs ⟨μ, S, a, vs, W, R, va, vb, h⟩
  obtain ⟨l, zs, p, ys, q, h1, rfl, h3, h4, h⟩ := lmL_of (f := fun l xs as S => lm0 l [] as S) R va h
  simp only [lm0] at h
  split at h
  · cases vb
    exact mt_clear pins s σ H _ _ v us Q I rx rxs ⟨p, ys, rfl, rfl, h3, fin_set R h rfl q h1 h3 .nil⟩
  · exact (show False from h).elim
theorem pr_dropLast {α β : Type} {F : α → β → Prop} {xs : List α} {ys : List β} (r : Paired F xs ys) : Paired F xs.dropLast ys.dropLast := by
  rw [List.dropLast_eq_take, List.dropLast_eq_take, ← pr_len r]
  exact pr_take _ r
theorem ml_pop (C : Cxt G X) : MtR X "list.pop" (rM G (lm .pop)) := by
  intro pins s σ H x xs v us Q I rx rxs ⟨μ, S, a, vs, W, R, va, vb, h⟩
  obtain ⟨l, zs, p, ys, q, h1, rfl, h3, h4, h⟩ := lmL_of (f := fun l xs as S => lmPop l xs as S) R va h
  simp only [lmPop] at h
  split at h
  · cases vb
    split at h
    · rename_i z e
      obtain ⟨y, e1, r1⟩ := pr_get h4 e
      rw [pr_len h4] at e1
      exact mt_pop pins s σ H _ _ v us Q I rx rxs ⟨p, ys, y, rfl, rfl, h3, e1, fin_set R h r1 q h1 h3 (pr_dropLast h4)⟩
    · exact (show False from h).elim
  · exact (show False from h).elim
theorem idxB_ok : ∀ {bs : List Bool} {b : Bool} {n : Nat}, idxB bs b = some n → bs[n]? = some b ∧ ∀ m : Nat, m < n → ∀ z, bs[m]? = some z → z ≠ b
  | [], b, n, e => by cases e
  | a :: r, b, n, e => by
    unfold idxB at e
    split at e
    · rename_i q
      cases e
      exact ⟨by rw [q]; rfl, fun m hm => by omega⟩
    · rename_i q
      obtain ⟨k, e1, e2⟩ := Option.map_eq_some_iff.mp e
      subst e2
      obtain ⟨h1, h2⟩ := idxB_ok e1
      refine ⟨by simpa using h1, fun m hm z hz => ?_⟩
      cases m with
      | zero =>
        have : a = z := by simpa using hz
        rw [← this]
        exact q
      | succ m => exact h2 m (by omega) z (by simpa using hz)
theorem intsB_eq {xs : List Va} {ys : List V} {ns : List Bool} (e : blsOf xs = some ns) (r : VRs G μ xs ys) : ys = ns.map V.bl := blsOf_ok e r
theorem bls_at {bs : List Bool} {m : Nat} {z : V} (h : (bs.map V.bl)[m]? = some z) : ∃ b, bs[m]? = some b ∧ z = .bl b := by
  rw [List.getElem?_map] at h
  cases e : bs[m]? with
  | none => rw [e] at h; cases h
  | some b => rw [e] at h; exact ⟨b, rfl, (Option.some.inj h).symm⟩
theorem ml_index (C : Cxt G X) : MtR X "list.index" (rM G (lm .index)) := by
  intro pins s σ H x xs v us Q I rx rxs ⟨μ, S, a, vs, W, R, va, vb, h⟩
  obtain ⟨l, zs, p, ys, q, h1, rfl, h3, h4, h⟩ := lmL_of (f := fun l xs as S => lmB idxB xs as S) R va h
  simp only [lmB] at h
  split at h
  · rename_i b h0
    obtain ⟨y, rfl, v1⟩ := one_of rfl vb
    cases (show y = V.bl b from v1)
    split at h
    · rename_i bs e
      split at h
      · rename_i n e1
        have e2 := intsB_eq e h4
        obtain ⟨k1, k2⟩ := idxB_ok e1
        refine mt_index pins s σ H _ _ v us Q I rx rxs ⟨p, bs.map V.bl, .bl b, n, .bl b, rfl, rfl, .of (by rw [h3, e2]), rfl, ?_, by rw [List.getElem?_map, k1]; rfl, by simp [eqV], fun m z hm hz => ?_, fin_ok R h rfl⟩
        · rw [List.all_eq_true]
          intro z hz
          obtain ⟨c, _, rfl⟩ := List.mem_map.mp hz
          rfl
        · obtain ⟨c, hc, rfl⟩ := bls_at hz
          have := k2 m hm c hc
          simpa [eqV] using this
      · exact (show False from h).elim
    · exact (show False from h).elim
  · exact (show False from h).elim
end
end Ev
end

section
set_option Elab.async false
set_option linter.all false
set_option maxRecDepth 100000
/-! Ev5: expressions. -/
namespace Ev
open PySem PySem.Spec PyProof.Rows L2
section
variable {G : GE} {X : Cx} {W : WC} {μ : List Addr} {H : Hp} {S : Sto} {r : Rho} {σ : L2.St} {Q : VK} {a b c e : Expr} {fa fb fc : Rho → Sto → Res Va} {fas : Rho → Sto → Res (List Va)} {es : List Expr} {pos : Pos}
theorem thenE {α : Type} {k : Va → Sto → Res α} {P : α → List Addr → Hp → Prop} {R : V → Hp → Prop} (en : Env G μ r σ) (re : Rel G μ S H) (h : Wr G μ H ((fb r S).bind k) W P)
    (f : ∀ μ2 H2 S2 u y, Stp μ H μ2 H2 → Rel G μ2 S2 H2 → VR G μ2 u y → Wr G μ2 H2 (k u S2) W P → R y H2) : tE G W fb σ H R :=
  ⟨μ, r, S, en, re, (Wr.bind h).imp fun u μ2 H2 ⟨S2, re2, st, h2⟩ y vy => f μ2 H2 S2 u y st re2 vy h2⟩
theorem thenA {α : Type} {k : List Va → Sto → Res α} {P : α → List Addr → Hp → Prop} {R : List V → Hp → Prop} (en : Env G μ r σ) (re : Rel G μ S H) (h : Wr G μ H ((fas r S).bind k) W P)
    (f : ∀ μ2 H2 S2 u y, Stp μ H μ2 H2 → Rel G μ2 S2 H2 → VRs G μ2 u y → Wr G μ2 H2 (k u S2) W P → R y H2) : tA G W fas σ H R :=
  ⟨μ, r, S, en, re, (Wr.bind h).imp fun u μ2 H2 ⟨S2, re2, st, h2⟩ y vy => f μ2 H2 S2 u y st re2 vy h2⟩
theorem thenT {α : Type} {k : Va → Sto → Res α} {P : α → List Addr → Hp → Prop} {R : Bool → Hp → Prop} (en : Env G μ r σ) (re : Rel G μ S H) (h : Wr G μ H ((fb r S).bind k) W P) (hb : ∀ v S', (∀ b, v ≠ .bl b) → k v S' = .bad)
    (f : ∀ μ2 H2 S2 b, Stp μ H μ2 H2 → Rel G μ2 S2 H2 → Wr G μ2 H2 (k (.bl b) S2) W P → R b H2) : tT G W fb σ H R := by
  refine ⟨μ, r, S, en, re, (Wr.bind h).imp fun u μ2 H2 ⟨S2, re2, st, h2⟩ => ?_⟩
  cases u with
  | bl b => exact ⟨b, rfl, f μ2 H2 S2 b st re2 h2⟩
  | _ => rw [hb _ _ (fun b z => by cases z)] at h2; exact (show False from h2).elim
/-- a test by its value -/
theorem sT_of (h : PE X e (tE G W fa)) (he : ∀ whole, isTrue e X.env whole = (do let v ← whole; standAt e.pos; holding [v] (truthy v))) : PT X e (tT G W fa) := by
  refine PT.weak (pt_val h he) fun σ H Q ⟨μ, r, S, en, re, h⟩ => ⟨μ, r, S, en, re, Wr.imp h fun v μ' H' ⟨b, e, q⟩ x vx => ?_⟩
  subst e
  exact ⟨b, vx, q⟩

/-! ### names, constants -/
theorem sE_var {i : Nat} {x : Str} (hN : X.N[i]? = some x) (hv : Vis X.env.scope x) (hd : (x == ("__debug__" : Str)) = false) (hcd : (x == ("__classdict__" : Str)) = false) :
    PE X (.Name x pos) (tE G W fun r S => match r[i]? with | some (some v) => if plain v then .ok v S else .bad | _ => .bad) := by
  refine PE.weak (pe_var hN hv hd hcd) fun σ H Q ⟨μ, r, S, en, re, h⟩ => ?_
  cases q : r[i]? with
  | none => simp only [q] at h; exact (show False from h).elim
  | some o =>
    cases o with
    | none => simp only [q] at h; exact (show False from h).elim
    | some v =>
      simp only [q] at h
      split at h
      · rename_i hp
        obtain ⟨y, h1, h3⟩ := pr_get en q
        obtain ⟨x, rfl, h2⟩ := SR.to hp h3
        exact ⟨x, h1, fin_ok re h h2⟩
      · exact (show False from h).elim
theorem sE_con {v : Va} {x : V} (h : PE X e (tC x)) (hv : ∀ μ, VR G μ v x) : PE X e (tE G W fun _ S => .ok v S) :=
  PE.weak h fun σ H Q ⟨μ, r, S, en, re, h⟩ => fin_ok re h (hv μ)

/-! ### operators -/
theorem sE_bin (C : Cxt G X) (o : Bop) (ha : PE X a (tE G W fa)) (hb : PE X b (tE G W fb)) : PE X (.BinOp a (opOf o) b pos) (tE G W fun r S => (fa r S).bind fun x S1 => (fb r S1).bind fun y S2 => bop o x y S2) :=
  PE.weak (pe_op (op_bop C o) ha hb) fun σ H Q ⟨μ, r, S, en, re, h⟩ => thenE en re h fun μ1 H1 S1 v x st re1 vx h1 => thenE (en.stp st) re1 h1 fun μ2 H2 S2 u y st2 re2 vy h2 => ⟨μ2, S2, v, u, W, re2, vx.stp st2, vy, h2⟩
theorem sE_cmp (C : Cxt G X) (o : Cop) (ha : PE X a (tE G W fa)) (hb : PE X b (tE G W fb)) (hm : behindInMarks (cmpOf o) b = false) : PE X (.Compare a [cmpOf o] [b] pos) (tE G W fun r S => (fa r S).bind fun x S1 => (fb r S1).bind fun y S2 => cop o x y S2) :=
  PE.weak (pe_cmpR (op_cop C o) ha hb hm) fun σ H Q ⟨μ, r, S, en, re, h⟩ => thenE en re h fun μ1 H1 S1 v x st re1 vx h1 => thenE (en.stp st) re1 h1 fun μ2 H2 S2 u y st2 re2 vy h2 => ⟨μ2, S2, v, u, W, re2, vx.stp st2, vy, h2⟩
theorem cop_bl {o : Cop} {x y : Va} {S S' : Sto} {z : Va} (h : cop o x y S = .ok z S') : ∃ b, z = .bl b := by
  unfold cop at h
  cases o <;> dsimp only at h <;> (repeat' split at h) <;> first | (cases h; exact ⟨_, rfl⟩) | cases h
theorem sT_cmp (C : Cxt G X) (o : Cop) (ha : PE X a (tE G W fa)) (hb : PE X b (tE G W fb)) (hm : behindInMarks (cmpOf o) b = false) : PT X (.Compare a [cmpOf o] [b] pos) (tT G W fun r S => (fa r S).bind fun x S1 => (fb r S1).bind fun y S2 => cop o x y S2) := by
  refine PT.weak (pt_cmpR (op_cop C o) ha hb hm) fun σ H Q ⟨μ, r, S, en, re, h⟩ => thenE en re h fun μ1 H1 S1 v x st re1 vx h1 => thenE (en.stp st) re1 h1 fun μ2 H2 S2 u y st2 re2 vy h2 => ⟨μ2, S2, v, u, W, re2, vx.stp st2, vy, ?_⟩
  exact Wr.imp h2 fun v μ' H' ⟨b, e, q⟩ Z vz => by subst e; exact ⟨b, vz, q⟩
theorem sE_neg (ha : PE X a (tE G W fa)) : PE X (.UnaryOp .USub a pos) (tE G W fun r S => (fa r S).bind fun x S1 => match x with | .int i => .ok (.int (-i)) S1 | _ => .bad) := by
  refine PE.weak (pe_un un_neg ha) fun σ H Q ⟨μ, r, S, en, re, h⟩ => thenE en re h fun μ1 H1 S1 v x st re1 vx h1 => ?_
  cases v <;> try exact (show False from h1).elim
  rename_i i
  exact ⟨i, vx, fin_ok re1 h1 rfl⟩
theorem sE_not (ha : PE X a (tE G W fa)) : PE X (.UnaryOp .Not a pos) (tE G W fun r S => (fa r S).bind fun x S1 => match x with | .bl i => .ok (.bl !i) S1 | _ => .bad) := by
  refine PE.weak (pe_not ha) fun σ H Q ⟨μ, r, S, en, re, h⟩ => thenE en re h fun μ1 H1 S1 v x st re1 vx h1 => ?_
  cases v <;> try exact (show False from h1).elim
  rename_i i
  exact ⟨i, vx, fin_ok re1 h1 rfl⟩
theorem sT_not (ha : PT X a (tT G W fa)) : PT X (.UnaryOp .Not a pos) (tT G W fun r S => (fa r S).bind fun x S1 => match x with | .bl i => .ok (.bl !i) S1 | _ => .bad) := by
  refine PT.weak (pt_not ha) fun σ H Q ⟨μ, r, S, en, re, h⟩ => thenT en re h (fun v S' hv => by cases v <;> first | rfl | exact absurd rfl (hv _)) fun μ1 H1 S1 b st re1 h1 => ?_
  obtain ⟨d, e, q⟩ := Wr.ok h1 re1
  cases e
  exact q
theorem sE_and {rest : List Expr} (ha : PE X a (tE G W fa)) (hb : PE X (.BoolOp .And (b :: rest) pos) (tE G W fb)) : PE X (.BoolOp .And (a :: b :: rest) pos) (tE G W fun r S => (fa r S).bind fun x S1 => match x with | .bl true => fb r S1 | .bl false => .ok (.bl false) S1 | _ => .bad) := by
  refine PE.weak (pe_and ha hb) fun σ H Q ⟨μ, r, S, en, re, h⟩ => thenE en re h fun μ1 H1 S1 v x st re1 vx h1 => ?_
  cases v <;> try exact (show False from h1).elim
  rename_i i
  refine ⟨i, vx, ?_⟩
  cases i with
  | true => rw [if_pos rfl]; exact ⟨μ1, r, S1, en.stp st, re1, h1⟩
  | false => rw [if_neg (by decide)]; exact fin_ok re1 h1 rfl
theorem sE_or {rest : List Expr} (ha : PE X a (tE G W fa)) (hb : PE X (.BoolOp .Or (b :: rest) pos) (tE G W fb)) : PE X (.BoolOp .Or (a :: b :: rest) pos) (tE G W fun r S => (fa r S).bind fun x S1 => match x with | .bl true => .ok (.bl true) S1 | .bl false => fb r S1 | _ => .bad) := by
  refine PE.weak (pe_or ha hb) fun σ H Q ⟨μ, r, S, en, re, h⟩ => thenE en re h fun μ1 H1 S1 v x st re1 vx h1 => ?_
  cases v <;> try exact (show False from h1).elim
  rename_i i
  refine ⟨i, vx, ?_⟩
  cases i with
  | true => rw [if_pos rfl]; exact fin_ok re1 h1 rfl
  | false => rw [if_neg (by decide)]; exact ⟨μ1, r, S1, en.stp st, re1, h1⟩
theorem sW_and {rest : List Expr} (ha : PT X a (tT G W fa)) (hb : PW X (.BoolOp .And (b :: rest) pos) (tT G W fb)) : PW X (.BoolOp .And (a :: b :: rest) pos) (tT G W fun r S => (fa r S).bind fun x S1 => match x with | .bl true => fb r S1 | .bl false => .ok (.bl false) S1 | _ => .bad) := by
  refine PW.weak (pw_and ha hb) fun σ H Q ⟨μ, r, S, en, re, h⟩ => thenT en re h (fun v S' hv => by cases v <;> first | rfl | exact absurd rfl (hv _)) fun μ1 H1 S1 i st re1 h1 => ?_
  cases i with
  | true => rw [if_pos rfl]; exact ⟨μ1, r, S1, en.stp st, re1, h1⟩
  | false =>
    rw [if_neg (by decide)]
    obtain ⟨d, e, q⟩ := Wr.ok h1 re1
    cases e
    exact q
theorem sW_or {rest : List Expr} (ha : PT X a (tT G W fa)) (hb : PW X (.BoolOp .Or (b :: rest) pos) (tT G W fb)) : PW X (.BoolOp .Or (a :: b :: rest) pos) (tT G W fun r S => (fa r S).bind fun x S1 => match x with | .bl true => .ok (.bl true) S1 | .bl false => fb r S1 | _ => .bad) := by
  refine PW.weak (pw_or ha hb) fun σ H Q ⟨μ, r, S, en, re, h⟩ => thenT en re h (fun v S' hv => by cases v <;> first | rfl | exact absurd rfl (hv _)) fun μ1 H1 S1 i st re1 h1 => ?_
  cases i with
  | true =>
    rw [if_pos rfl]
    obtain ⟨d, e, q⟩ := Wr.ok h1 re1
    cases e
    exact q
  | false => rw [if_neg (by decide)]; exact ⟨μ1, r, S1, en.stp st, re1, h1⟩
theorem sE_ite (hc : PT X c (tT G W fc)) (ha : PE X a (tE G W fa)) (hb : PE X b (tE G W fb)) : PE X (.IfExp c a b pos) (tE G W fun r S => (fc r S).bind fun x S1 => match x with | .bl true => fa r S1 | .bl false => fb r S1 | _ => .bad) := by
  refine PE.weak (pe_ifExp hc ha hb) fun σ H Q ⟨μ, r, S, en, re, h⟩ => thenT en re h (fun v S' hv => by cases v <;> first | rfl | exact absurd rfl (hv _)) fun μ1 H1 S1 i st re1 h1 => ?_
  cases i with
  | true => rw [if_pos rfl]; exact ⟨μ1, r, S1, en.stp st, re1, h1⟩
  | false => rw [if_neg (by decide)]; exact ⟨μ1, r, S1, en.stp st, re1, h1⟩
theorem chain_of {o p : Cop} {R : V → Hp → Prop} (C : Cxt G X) (h : tE G W (fun r S => (fa r S).bind fun x S1 => (fb r S1).bind fun y S2 => (cop o x y S2).bind fun z S3 => match z with
    | .bl true => (fc r S3).bind fun u S4 => cop p y u S4
    | .bl false => .ok (.bl false) S3
    | _ => .bad) σ H R) : tChain (r2 G (cop o)) (r2 G (cop p)) (tE G W fa) (tE G W fb) (tE G W fc) σ H R := by
  obtain ⟨μ, r, S, en, re, h⟩ := h
  refine thenE en re h fun μ1 H1 S1 v x st re1 vx h1 => thenE (en.stp st) re1 h1 fun μ2 H2 S2 u y st2 re2 vy h2 => ⟨μ2, S2, v, u, W, re2, vx.stp st2, vy, (Wr.bind h2).imp fun z μ3 H3 ⟨S3, re3, st3, h3⟩ Z vz => ?_⟩
  cases z <;> try exact (show False from h3).elim
  rename_i i _
  refine ⟨i, vz, ?_⟩
  cases i with
  | true =>
    rw [if_pos rfl]
    exact thenE ((en.stp st).stp (st2.trans st3)) re3 h3 fun μ4 H4 S4 t T st4 re4 vt h4 => ⟨μ4, S4, u, t, W, re4, (vy.stp st3).stp st4, vt, h4⟩
  | false => rw [if_neg (by decide)]; exact fin_ok re3 h3 rfl
theorem sE_chain (C : Cxt G X) (o p : Cop) (ha : PE X a (tE G W fa)) (hb : PE X b (tE G W fb)) (hc : PE X c (tE G W fc)) (hm : lastMarks [cmpOf o, cmpOf p] [b, c] = false) : PE X (.Compare a [cmpOf o, cmpOf p] [b, c] pos) (tE G W (fun r S => (fa r S).bind fun x S1 => (fb r S1).bind fun y S2 => (cop o x y S2).bind fun z S3 => match z with
    | .bl true => (fc r S3).bind fun u S4 => cop p y u S4
    | .bl false => .ok (.bl false) S3
    | _ => .bad)) := PE.weak (pe_chain (op_cop C o) (op_cop C p) ha hb hc hm) fun σ H Q h => chain_of C h
theorem sT_chain (C : Cxt G X) (o p : Cop) (ha : PE X a (tE G W fa)) (hb : PE X b (tE G W fb)) (hc : PE X c (tE G W fc)) (hm : lastMarks [cmpOf o, cmpOf p] [b, c] = false) : PT X (.Compare a [cmpOf o, cmpOf p] [b, c] pos) (tT G W (fun r S => (fa r S).bind fun x S1 => (fb r S1).bind fun y S2 => (cop o x y S2).bind fun z S3 => match z with
    | .bl true => (fc r S3).bind fun u S4 => cop p y u S4
    | .bl false => .ok (.bl false) S3
    | _ => .bad)) := by
  refine PT.weak (pt_chain (op_cop C o) (op_cop C p) ha hb hc hm) fun σ H Q ⟨μ, r, S, en, re, h⟩ => chain_of C ⟨μ, r, S, en, re, Wr.imp h fun v μ' H' ⟨b, e, q⟩ Z vz => ?_⟩
  subst e
  exact ⟨b, vz, q⟩
/-- is None, is True .. -/
theorem sE_isC (C : Cxt G X) {v : Va} {neg : Bool} {cv : Const} {k : Nat} {p : Pos} {op : CmpOp} (ha : PE X a (tE G W fa))
    (hop : (op = .Is ∧ neg = false) ∨ (op = .IsNot ∧ neg = true)) (hcv : (v = .non ∧ cv = .none) ∨ ∃ b, v = .bl b ∧ cv = .bool b) : PE X (.Compare a [op] [.Constant cv k p] pos) (tE G W fun r S => (fa r S).bind fun x S1 => isC v neg x S1) := by
  rcases hop with ⟨rfl, rfl⟩ | ⟨rfl, rfl⟩
  · rcases hcv with ⟨rfl, rfl⟩ | ⟨b, rfl, rfl⟩
    · exact PE.weak (pe_cmpR (isC_none C) ha pe_non (nomark _)) fun σ H Q ⟨μ, r, S, en, re, h⟩ => thenE en re h fun μ1 H1 S1 v x st re1 vx h1 => ⟨rfl, μ1, S1, v, W, re1, vx, h1⟩
    · exact PE.weak (pe_cmpR (isC_bl C b) ha pe_bl (nomark _)) fun σ H Q ⟨μ, r, S, en, re, h⟩ => thenE en re h fun μ1 H1 S1 v x st re1 vx h1 => ⟨rfl, μ1, S1, v, W, re1, vx, h1⟩
  · rcases hcv with ⟨rfl, rfl⟩ | ⟨b, rfl, rfl⟩
    · exact PE.weak (pe_cmpR (isC_nnone C) ha pe_non (nomark _)) fun σ H Q ⟨μ, r, S, en, re, h⟩ => thenE en re h fun μ1 H1 S1 v x st re1 vx h1 => ⟨rfl, μ1, S1, v, W, re1, vx, h1⟩
    · exact PE.weak (pe_cmpR (isC_nbl C b) ha pe_bl (nomark _)) fun σ H Q ⟨μ, r, S, en, re, h⟩ => thenE en re h fun μ1 H1 S1 v x st re1 vx h1 => ⟨rfl, μ1, S1, v, W, re1, vx, h1⟩
theorem sT_isC (C : Cxt G X) {v : Va} {neg : Bool} {cv : Const} {k : Nat} {p : Pos} {op : CmpOp} (ha : PE X a (tE G W fa))
    (hop : (op = .Is ∧ neg = false) ∨ (op = .IsNot ∧ neg = true)) (hcv : (v = .non ∧ cv = .none) ∨ ∃ b, v = .bl b ∧ cv = .bool b) : PT X (.Compare a [op] [.Constant cv k p] pos) (tT G W fun r S => (fa r S).bind fun x S1 => isC v neg x S1) := by
  have fin : ∀ {v : Va} {S : Sto} {μ : List Addr} {H : Hp} {Q : Bool → Hp → Prop} {x : Va}, Wr G μ H (isC v neg x S) W (fun v μ' H' => ∃ b, v = .bl b ∧ Q b H') → Wr G μ H (isC v neg x S) W (fun z μ' H' => ∀ Z, VR G μ' z Z → ∃ k, Z = .bl k ∧ Q k H') := fun h => Wr.imp h fun v μ' H' ⟨b, e, q⟩ Z vz => by subst e; exact ⟨b, vz, q⟩
  rcases hop with ⟨rfl, rfl⟩ | ⟨rfl, rfl⟩
  · rcases hcv with ⟨rfl, rfl⟩ | ⟨b, rfl, rfl⟩
    · exact PT.weak (pt_cmpR (isC_none C) ha pe_non (nomark _)) fun σ H Q ⟨μ, r, S, en, re, h⟩ => thenE en re h fun μ1 H1 S1 v x st re1 vx h1 => ⟨rfl, μ1, S1, v, W, re1, vx, fin h1⟩
    · exact PT.weak (pt_cmpR (isC_bl C b) ha pe_bl (nomark _)) fun σ H Q ⟨μ, r, S, en, re, h⟩ => thenE en re h fun μ1 H1 S1 v x st re1 vx h1 => ⟨rfl, μ1, S1, v, W, re1, vx, fin h1⟩
  · rcases hcv with ⟨rfl, rfl⟩ | ⟨b, rfl, rfl⟩
    · exact PT.weak (pt_cmpR (isC_nnone C) ha pe_non (nomark _)) fun σ H Q ⟨μ, r, S, en, re, h⟩ => thenE en re h fun μ1 H1 S1 v x st re1 vx h1 => ⟨rfl, μ1, S1, v, W, re1, vx, fin h1⟩
    · exact PT.weak (pt_cmpR (isC_nbl C b) ha pe_bl (nomark _)) fun σ H Q ⟨μ, r, S, en, re, h⟩ => thenE en re h fun μ1 H1 S1 v x st re1 vx h1 => ⟨rfl, μ1, S1, v, W, re1, vx, fin h1⟩

/-! ### displays, arguments -/
theorem sA_nil : PA X [] (tA G W fun _ S => .ok [] S) := PA.weak pa_nil fun σ H Q ⟨μ, r, S, en, re, h⟩ => Wr.ok h re [] .nil
theorem sA_cons (ha : PE X a (tE G W fa)) (hb : PA X es (tA G W fas)) (hs : starEach (a :: es) X.env = (false, eval a X.env) :: starEach es X.env) : PA X (a :: es) (tA G W fun r S => (fa r S).bind fun x S1 => (fas r S1).bind fun xs S2 => .ok (x :: xs) S2) :=
  PA.weak (pa_cons ha hb hs) fun σ H Q ⟨μ, r, S, en, re, h⟩ => thenE en re h fun μ1 H1 S1 v x st re1 vx h1 => thenA (en.stp st) re1 h1 fun μ2 H2 S2 u y st2 re2 vy h2 => Wr.ok h2 re2 _ (.cons (vx.stp st2) vy)
theorem sE_lst (h : PA X es (tA G W fas)) : PE X (.List es pos) (tE G W fun r S => (fas r S).bind fun xs S1 => if xs.length ≤ line then new (.lst xs) S1 else .bad) := by
  refine PE.weak (pe_lst h) fun σ H Q ⟨μ, r, S, en, re, h⟩ => thenA en re h fun μ1 H1 S1 v x st re1 vx h1 => ?_
  split at h1
  · rename_i hl
    rw [pr_len vx, line_eq] at hl
    exact ⟨hl, fun p hp => fin_newL re1 h1 vx hp⟩
  · exact (show False from h1).elim
theorem sE_tup {k : Nat} (h : PA X es (tA G W fas)) : PE X (.Tuple es k pos) (tE G W fun r S => (fas r S).bind fun xs S1 => if xs.length ≤ line then new (.tup xs) S1 else .bad) := by
  refine PE.weak (pe_tup h) fun σ H Q ⟨μ, r, S, en, re, h⟩ => thenA en re h fun μ1 H1 S1 v x st re1 vx h1 => ?_
  split at h1
  · rename_i hl
    rw [pr_len vx, line_eq] at hl
    exact ⟨hl, fun p hp => fin_newT re1 h1 vx hp⟩
  · exact (show False from h1).elim
theorem sE_dnew : PE X (.Dict [] [] pos) (tE G W fun _ S => new (.dct []) S) :=
  PE.weak pe_dnewK fun σ H Q ⟨μ, r, S, en, re, h⟩ p hp => fin_new re h hp ⟨[], upd_same, .nil⟩

/-! ### items and slices -/
theorem look_ok {k : Int} : ∀ {kvs : List (Int × Va)} {ws : List (Key × V)} {v : Va}, look k kvs = some v → Paired (DR G μ) kvs ws → ∃ x, valV ws (Sum.inl k) = some x ∧ VR G μ v x
  | [], _, _, e, _ => by cases e
  | (j, u) :: r, _, v, e, p => by
    cases p with
    | @cons _ q _ ws h t =>
      obtain ⟨h1, h2⟩ := h
      obtain ⟨q1, q2⟩ := q
      have h1 : q1 = Sum.inl j := h1
      subst h1
      unfold look at e
      unfold valV
      split at e
      · rename_i ej
        cases e
        rw [List.find?_cons_of_pos (by simp [ej])]
        exact ⟨_, rfl, h2⟩
      · rename_i ej
        rw [List.find?_cons_of_neg (by simp [ej])]
        exact look_ok e t
theorem sE_idx (C : Cxt G X) (ha : PE X a (tE G W fa)) (hb : PE X b (tE G W fb)) (hs : PlainIx b) : PE X (.Subscript a b pos) (tE G W fun r S => (fa r S).bind fun x S1 => (fb r S1).bind fun y S2 => idx x y S2) := by
  have k1 := pe_ix (pos := pos) (ix_seqE C) ha hb hs
  have hu : X.A.units + 1 < cLine := by have := C.un; omega
  have k2 := pe_dget (pos := pos) hu ha hb hs
  refine ⟨fun pins s σ H Q I ⟨μ, r, S, en, re, h⟩ => ?_⟩
  by_cases hd : ∃ x S1 y S2 l kvs, fa r S = .ok x S1 ∧ fb r S1 = .ok y S2 ∧ x = .loc l ∧ S2[l]? = some (.dct kvs)
  · refine k2.run pins s σ H Q I ?_
    obtain ⟨x, S1, y, S2, l, kvs, e1, e2, rfl, e3⟩ := hd
    dsimp only at h
    rw [e1] at h
    simp only [Res.bind_ok, e2] at h
    refine ⟨μ, r, S, en, re, ?_⟩
    rw [e1]
    intro μ1 H1 st1 re1 x1 vx1
    refine ⟨μ1, r, S1, en.stp st1, re1, ?_⟩
    rw [e2]
    intro μ2 H2 st2 re2 y1 vy1
    have h2 := Wr.stp (Wr.stp h st1) st2
    unfold idx at h2
    cases y <;> try exact (show False from h2).elim
    rename_i i
    have g1 : getL S2 (.loc l) = none := by simp only [Ev.getL, e3]
    have g2 : getT S2 (.loc l) = none := by simp only [Ev.getT, e3]
    dsimp only at h2
    rw [g1, g2, e3] at h2
    dsimp only at h2
    cases q : look i kvs with
    | none => rw [q] at h2; exact (show False from h2).elim
    | some v =>
      rw [q] at h2
      obtain ⟨p, hp, ho⟩ := re2.at_ l _ e3
      obtain ⟨ws, hw, hr⟩ := ho
      obtain ⟨z, hz, vz⟩ := look_ok q hr
      obtain ⟨p', hp', rfl⟩ := vx1.stp st2
      rw [hp] at hp'
      cases hp'
      obtain rfl : y1 = .int i := vy1
      refine ⟨p, z, rfl, ?_, fin_ok re2 h2 vz⟩
      have := DGet.k (k := Sum.inl i) hw
      rw [hz] at this
      exact this
  · refine k1.run pins s σ H Q I ?_
    dsimp only at h
    refine ⟨μ, r, S, en, re, ?_⟩
    cases e1 : fa r S with
    | bad => rw [e1] at h; exact h
    | exc c S' => rw [e1] at h; exact h
    | ok x S1 =>
      rw [e1] at h
      simp only [Res.bind_ok] at h
      intro μ1 H1 st1 re1 x1 vx1
      refine ⟨μ1, r, S1, en.stp st1, re1, ?_⟩
      cases e2 : fb r S1 with
      | bad => rw [e2] at h; exact h
      | exc c S' => rw [e2] at h; exact Wr.stp (r := (Res.exc c S' : Res Va)) (k := fun v μ' H' => ∀ x, VR G μ' v x → Q x H') h st1
      | ok y S2 =>
        rw [e2] at h
        simp only [Res.bind_ok] at h
        intro μ2 H2 st2 re2 y1 vy1
        refine ⟨μ2, S2, x, y, W, re2, vx1.stp st2, vy1, ?_⟩
        have h2 := Wr.stp (Wr.stp h st1) st2
        have ei : idx x y S2 = idxS x y S2 := by
          unfold idx idxS
          cases y <;> try rfl
          rename_i i
          dsimp only
          cases q1 : getL S2 x with
          | some xs => rfl
          | none =>
            dsimp only
            cases q2 : getT S2 x with
            | some xs => rfl
            | none =>
              dsimp only
              cases x <;> try rfl
              rename_i l
              dsimp only
              cases q3 : S2[l]? with
              | none => rfl
              | some o =>
                cases o with
                | dct kvs => exact absurd ⟨_, S1, _, S2, l, kvs, e1, e2, rfl, q3⟩ hd
                | _ => rfl
        rw [ei] at h2
        exact h2
end
end Ev
end

section
set_option Elab.async false
set_option linter.all false
set_option maxRecDepth 100000
/-! Ev6: slices, fields, calls. -/
namespace Ev
open PySem PySem.Spec PyProof.Rows L2
/-! ### the trees of a call -/
def notStar : Expr → Bool
  | .Starred _ _ => false
  | _ => true
theorem star_ok {e : Expr} (h : notStar e = true) (es : List Expr) (env : PySem.Env) : starEach (e :: es) env = (false, eval e env) :: starEach es env := by
  cases e <;> first | rfl | cases h
theorem star_all : ∀ {es : List Expr} (pos : Pos) (env : PySem.Env), es.all notStar = true → (backTo pos (starEach es env)).any (·.1) = false
  | [], _, _, _ => rfl
  | e :: es, pos, env, h => by
    rw [List.all_cons, Bool.and_eq_true] at h
    rw [star_ok h.1]
    show ((false : Bool) || (backTo pos (starEach es env)).any (·.1)) = false
    rw [star_all pos env h.2]
    rfl
theorem star_few : ∀ {es : List Expr} (pos : Pos) (env : PySem.Env), es.all notStar = true → (backTo pos (starEach es env)).all (fun x => !x.1) = true
  | [], _, _, _ => rfl
  | e :: es, pos, env, h => by
    rw [List.all_cons, Bool.and_eq_true] at h
    rw [star_ok h.1]
    show ((true : Bool) && (backTo pos (starEach es env)).all (fun x => !x.1)) = true
    rw [star_few pos env h.2]
    rfl
theorem few_ok {es : List Expr} {pos : Pos} {env : PySem.Env} (h : es.all notStar = true) (hl : es.length < 29) : ((backTo pos (starEach es env)).all (fun x => !x.1) && (backToKw pos (keywordEach [] env)).all (fun x => x.1.isSome)
      && decide (es.length + ([] : List Keyword).length + (if ([] : List Keyword).isEmpty then 0 else 1) < 30)) = true := by
  rw [star_few pos env h]
  have : decide (es.length + ([] : List Keyword).length + (if ([] : List Keyword).isEmpty then 0 else 1) < 30) = true := decide_eq_true (by simp; omega)
  rw [this]
  rfl
/-- no super() -/
def baseOk : Expr → Bool
  | .Call (.Name id _) [] [] _ => !(id == ("super" : Str))
  | _ => true
theorem base_ok {o : Expr} {attr : Str} {env : PySem.Env} {whole : Sem Value} (h : baseOk o = true) : attributeBase o attr env whole = whole := by
  unfold attributeBase
  split
  · rename_i id p q
    have h1 : (!(id == ("super" : Str))) = true := h
    have h2 : (id != ("super" : Str)) = true := h1
    rw [h2]
    simp
  · rfl
theorem meth_eq {o : Expr} {m : Str} {apos pos : Pos} {args : List Expr} {env : PySem.Env} (hb : baseOk o = true) (hs : args.all notStar = true) (hl : args.length < 29) (hline : (apos.endLine == pos.line) = true) :
    eval (.Call (.Attribute o m apos) args [] pos) env = (do
      let ov ← eval o env
      standAt apos.atName
      let (f, first) ← holding [ov] (getMethod ov m (do return (← importBound o env).getD true))
      callWith pos f first (backTo pos (starEach args env)) (backToKw pos (keywordEach [] env))) := by
  have hform : methodCallForm (args.length + ([] : List Keyword).length) (backTo pos (starEach args env)) (backToKw pos (keywordEach [] env)) = true := few_ok hs hl
  have hpos : methodCallPos true o env apos pos = pure pos := by unfold methodCallPos; simp [hline]
  rw [arm_eval_Call, base_ok hb]
  unfold methodCall
  rw [hform, hpos]
  rfl

/-! ### levels, promises -/
def lvl (d : Nat) : Nat := 2 * d + 1
def EW (G : GE) (W : WC) : XK := fun cls d H => ∃ c, cls = .ref (G.cA c) ∧ d = none ∧ W c H
def spF (G : GE) (d f : Nat) : Sp := fun vs H Q E => ∃ μ as S W, VRs G μ as vs ∧ Rel G μ S H ∧ Wr G μ H (run G.T d f as S) W (fun v μ' H' => ∀ x, VR G μ' v x → Q x H') ∧ ∀ c H', W c H' → E (.ref (G.cA c)) none H'
/-- the def number f keeps its promise, d calls deep -/
def FnAt (G : GE) (d f : Nat) : Prop := ∃ fd ps, FnOk G.P G.w G.K G.mg G.base (L2N.CX G.P G.w) (lvl d) (G.fA f) fd ps (spF G d f) ∧ Binds G.K fd ps [] ∧ PySem.W.keepIn G.K (.ref (G.fA f)) = true
/-- C() without an own __init__ -/
structure Mk0 (K : PySem.W.Frag) (C : Addr) : Prop where
  makes : PySem.W.makesIn K C = true
  init : PySem.W.findIn K (.ref C) "__init__" = some (some (.builtin "object.__init__"))
  kp : PySem.W.keepIn K (.ref C) = true
  top : PySem.W.mroIn K C (.type "object") = some true
/-- what isinstance asks of a class -/
structure InsF (K : PySem.W.Frag) (C : Addr) : Prop where
  cl : Cls K C
  ha : PySem.W.findIn K (.ref C) "__class__" = some (some (.builtin "object.__class__"))
  hn : PySem.W.specialIn K (.builtin "object.__class__") "__get__" = some (some (.builtin "getset_descriptor.__get__"))
  htk : PySem.W.takesIn K (.builtin "object.__class__") = some true
  hm : PySem.W.mroIn K C (.type "object") = some true
def tyN : Ty → String
  | .int => "int"
  | .bool => "bool"
  | .list => "list"
  | .tuple => "tuple"
  | .str => "str"
  | .dict => "dict"
structure GF (G : GE) : Prop where
  fl : ∀ c f, G.T.fl c f = true → Cls G.K (G.cA c) ∧ NoAttr G.K (G.cA c) (G.nm f)
  mth : ∀ c m f, G.T.mth c m = some f → Cls G.K (G.cA c) ∧ Meth G.K (G.cA c) (G.nm m) (G.fA f)
  ini : ∀ c f, G.T.ini c = some (some f) → Mk G.K (G.cA c) (G.fA f)
  ini0 : ∀ c, G.T.ini c = some none → Mk0 G.K (G.cA c)
  sub : ∀ c c' b, G.T.sub c c' = some b → InsF G.K (G.cA c) ∧ PySem.W.kitOne G.K (.ref (G.cA c)) (.ref (G.cA c')) = some b
  subT : ∀ c c' b, G.T.sub c c' = some b → ∀ t ∈ ["NoneType", "bool", "int", "str", "list", "tuple", "dict"], PySem.W.kitOne G.K (.type t) (.ref (G.cA c')) = some false
  insT : ∀ c t, (G.T.sub c c).isSome = true → PySem.W.kitOne G.K (.ref (G.cA c)) (.type (tyN t)) = some false

section
variable {G : GE} {X : Cx} {W : WC} {μ : List Addr} {H : Hp} {S : Sto} {r : Rho} {σ : L2.St} {Q : VK} {a b c e : Expr} {fa fb fc : Rho → Sto → Res Va} {fas : Rho → Sto → Res (List Va)} {es : List Expr} {pos : Pos}

/-! ### slices -/
def tP (G : GE) (W : WC) (f : Rho → Sto → Res (Option Int)) : TO := fun σ H Q => ∃ μ r S, Env G μ r σ ∧ Rel G μ S H ∧ Wr G μ H (f r S) W (fun v μ' H' => Q v H')
theorem PO.weak {e : Option Expr} {t t' : TO} (h : PO X e t) (f : ∀ σ H Q, t' σ H Q → t σ H Q) : PO X e t' := ⟨fun pins s σ H Q I q => h.run pins s σ H Q I (f σ H Q q)⟩
theorem sP_none : PO X none (tP G W (prt true fa)) := PO.weak po_none fun σ H Q ⟨μ, r, S, en, re, h⟩ => Wr.ok h re
theorem sP_some (ha : PE X a (tE G W fa)) : PO X (some a) (tP G W (prt false fa)) := by
  refine PO.weak (po_some ha) fun σ H Q ⟨μ, r, S, en, re, h⟩ => thenE en re h fun μ1 H1 S1 v x st re1 vx h1 => ?_
  cases v <;> try exact (show False from h1).elim
  rename_i i
  exact ⟨i, vx, Wr.ok h1 re1⟩
theorem thenP {α : Type} {fp : Rho → Sto → Res (Option Int)} {k : Option Int → Sto → Res α} {P : α → List Addr → Hp → Prop} {R : Option Int → Hp → Prop} (en : Env G μ r σ) (re : Rel G μ S H) (h : Wr G μ H ((fp r S).bind k) W P)
    (f : ∀ μ2 H2 S2 u, Stp μ H μ2 H2 → Rel G μ2 S2 H2 → Wr G μ2 H2 (k u S2) W P → R u H2) : tP G W fp σ H R :=
  ⟨μ, r, S, en, re, (Wr.bind h).imp fun u μ2 H2 ⟨S2, re2, st, h2⟩ => f μ2 H2 S2 u st re2 h2⟩
theorem sE_sl (C : Cxt G X) {lo hi : Option Expr} {p2 : Pos} {fl fh : Rho → Sto → Res (Option Int)} (ha : PE X a (tE G W fa)) (hl : PO X lo (tP G W fl)) (hh : PO X hi (tP G W fh)) :
    PE X (.Subscript a (.Slice lo hi none p2) pos) (tE G W fun r S => (fa r S).bind fun x S1 => (fl r S1).bind fun l S2 => (fh r S2).bind fun h S3 => sl x l h S3) := by
  refine PE.weak (pe_slice sl_list ha hl hh) fun σ H Q ⟨μ, r, S, en, re, h⟩ => thenE en re h fun μ1 H1 S1 v x st re1 vx h1 => thenP (en.stp st) re1 h1 fun μ2 H2 S2 l st2 re2 h2 => thenP ((en.stp st).stp st2) re2 h2 fun μ3 H3 S3 u st3 re3 h3 => ?_
  unfold sl at h3
  cases e : getL S3 v with
  | none => rw [e] at h3; exact (show False from h3).elim
  | some xs =>
    rw [e] at h3
    obtain ⟨p, ys, rfl, k1, k2⟩ := re3.getL e ((vx.stp st2).stp st3)
    exact ⟨p, ys, rfl, by rw [C.K]; exact k1, fun p hp => fin_newL re3 h3 (cut_ok k2 _ _) hp⟩
theorem sE_rev (C : Cxt G X) {k : Nat} {p1 p2 p3 : Pos} (ha : PE X a (tE G W fa)) : PE X (.Subscript a (.Slice none none (some (.UnaryOp .USub (.Constant (.int 1) k p1) p2)) p3) pos) (tE G W fun r S => (fa r S).bind fun x S1 => rev x S1) := by
  refine PE.weak (pe_revL ha) fun σ H Q ⟨μ, r, S, en, re, h⟩ => thenE en re h fun μ1 H1 S1 v x st re1 vx h1 => ?_
  unfold rev at h1
  cases e : getL S1 v with
  | none => rw [e] at h1; exact (show False from h1).elim
  | some xs =>
    rw [e] at h1
    obtain ⟨p, ys, rfl, k1, k2⟩ := re1.getL e vx
    exact ⟨p, ys, rfl, by rw [C.K]; exact k1, fun p hp => fin_newL re1 h1 (pr_rev k2) hp⟩
theorem thenI {α : Type} {k : Option Int → Sto → Res α} {P : α → List Addr → Hp → Prop} {R : V → Hp → Prop} (en : Env G μ r σ) (re : Rel G μ S H) (h : Wr G μ H ((prt false fb r S).bind k) W P)
    (f : ∀ μ2 H2 S2 i, Stp μ H μ2 H2 → Rel G μ2 S2 H2 → Wr G μ2 H2 (k (some i) S2) W P → R (.int i) H2) : tE G W fb σ H R := by
  have h' : Wr G μ H ((fb r S).bind fun v S1 => (asI v S1).bind k) W P := by
    have e : (prt false fb r S).bind k = (fb r S).bind fun v S1 => (asI v S1).bind k := by
      show ((fb r S).bind asI).bind k = _
      cases fb r S <;> rfl
    rw [← e]
    exact h
  refine thenE en re h' fun μ2 H2 S2 u y st re2 vy h2 => ?_
  cases u <;> try exact (show False from h2).elim
  rename_i i
  rw [show y = V.int i from vy]
  exact f μ2 H2 S2 i st re2 h2
theorem sE_sls (C : Cxt G X) {lo st : Expr} {p3 : Pos} {fl fs : Rho → Sto → Res Va} (ha : PE X a (tE G W fa)) (hl : PE X lo (tE G W fl)) (hs : PE X st (tE G W fs)) :
    PE X (.Subscript a (.Slice (some lo) none (some st) p3) pos) (tE G W fun r S => (fa r S).bind fun x S1 => (prt false fl r S1).bind fun l S2 => (prt false fs r S2).bind fun h S3 => sls x l h S3) := by
  refine PE.weak (pe_step ha hl hs (by funext o i; rfl)) fun σ H Q ⟨μ, r, S, en, re, h⟩ => thenE en re h fun μ1 H1 S1 v x st re1 vx h1 => thenI (en.stp st) re1 h1 fun μ2 H2 S2 i st2 re2 h2 => ⟨i, rfl, thenI ((en.stp st).stp st2) re2 h2 fun μ3 H3 S3 k st3 re3 h3 => ?_⟩
  unfold sls at h3
  cases e : getL S3 v with
  | none => rw [e] at h3; exact (show False from h3).elim
  | some xs =>
    rw [e] at h3
    dsimp only at h3
    split at h3
    · rename_i k0
      obtain ⟨p, ys, rfl, k1, k2⟩ := re3.getL e ((vx.stp st2).stp st3)
      exact ⟨k, rfl, k0, p, ys, rfl, by rw [C.K]; exact k1, fun p hp => fin_newL re3 h3 (pick_ok k2 _ _) hp⟩
    · exact (show False from h3).elim

/-! ### fields -/
theorem lookF_ok {f : Nat} : ∀ {fs : List (Nat × Va)} {ws : List (Str × V)} {v : Va}, lookF f fs = some v → Paired (FR G μ) fs ws → ∃ x, ws.lookup (G.nm f) = some x ∧ VR G μ v x
  | [], _, _, e, _ => by cases e
  | (j, u) :: r, _, v, e, p => by
    cases p with
    | @cons _ q _ ws h t =>
      obtain ⟨h1, h2⟩ := h
      obtain ⟨q1, q2⟩ := q
      have h1 : q1 = G.nm j := h1
      subst h1
      unfold lookF at e
      rw [List.lookup_cons]
      split at e
      · rename_i ej
        cases e
        rw [ej, beq_self_eq_true]
        exact ⟨_, rfl, h2⟩
      · rename_i ej
        have : (G.nm f == G.nm j) = false := beq_eq_false_iff_ne.mpr fun z => ej (G.nmI _ _ z).symm
        rw [this]
        exact lookF_ok e t
theorem lookF_none {f : Nat} : ∀ {fs : List (Nat × Va)} {ws : List (Str × V)}, lookF f fs = none → Paired (FR G μ) fs ws → ws.lookup (G.nm f) = none
  | [], _, _, p => by cases p; rfl
  | (j, u) :: r, _, e, p => by
    cases p with
    | @cons _ q _ ws h t =>
      obtain ⟨h1, h2⟩ := h
      obtain ⟨q1, q2⟩ := q
      have h1 : q1 = G.nm j := h1
      subst h1
      unfold lookF at e
      rw [List.lookup_cons]
      split at e
      · cases e
      · rename_i ej
        have : (G.nm f == G.nm j) = false := beq_eq_false_iff_ne.mpr fun z => ej (G.nmI _ _ z).symm
        rw [this]
        exact lookF_none e t
theorem putF_ok {f : Nat} {v : Va} {x : V} (hv : VR G μ v x) : ∀ {fs : List (Nat × Va)} {ws : List (Str × V)}, Paired (FR G μ) fs ws → Paired (FR G μ) (putF f v fs) (L2.putF (G.nm f) x ws)
  | [], _, .nil => .cons ⟨rfl, hv⟩ .nil
  | (j, u) :: r, _, p => by
    cases p with
    | @cons _ q _ ws h t =>
      obtain ⟨h1, h2⟩ := h
      obtain ⟨q1, q2⟩ := q
      have h1 : q1 = G.nm j := h1
      subst h1
      unfold putF L2.putF
      by_cases ej : j = f
      · subst ej
        rw [if_pos rfl, if_pos rfl]
        exact .cons ⟨rfl, hv⟩ t
      · rw [if_neg ej, if_neg fun z => ej (G.nmI _ _ z)]
        exact .cons ⟨rfl, h2⟩ (putF_ok hv t)
theorem sE_fld (C : Cxt G X) (F : GF G) {f : Nat} {m : Str} (hm : G.nm f = m) (ha : PE X a (tE G W fa)) (hb : baseOk a = true) : PE X (.Attribute a m pos) (tE G W fun r S => (fa r S).bind fun x S1 => fld G.T x f S1) := by
  refine PE.weak (pe_fld ha (base_ok hb)) fun σ H Q ⟨μ, r, S, en, re, h⟩ => thenE en re h fun μ1 H1 S1 v x st re1 vx h1 => ?_
  unfold fld at h1
  cases v <;> try exact (show False from h1).elim
  rename_i l
  dsimp only at h1
  cases q : S1[l]? with
  | none => rw [q] at h1; exact (show False from h1).elim
  | some o =>
    rw [q] at h1
    cases o <;> try exact (show False from h1).elim
    rename_i c dx fs
    dsimp only at h1
    split at h1
    · rename_i hf
      cases e : lookF f fs with
      | none => rw [e] at h1; exact (show False from h1).elim
      | some z =>
        rw [e] at h1
        obtain ⟨p, hp, d, ws, k1, k2, k3⟩ := re1.at_ l _ q
        obtain ⟨p', hp', rfl⟩ := vx
        rw [hp] at hp'
        cases hp'
        obtain ⟨y, k4, k5⟩ := lookF_ok e k3
        obtain ⟨g1, g2⟩ := F.fl c f hf
        refine ⟨p, G.cA c, d, ws, y, rfl, k1, by rw [C.K]; exact g1, by rw [C.K, ← hm]; exact g2, by rw [← hm]; exact k4, fin_ok re1 h1 k5⟩
    · exact (show False from h1).elim

/-! ### calls -/
theorem FnAt.ok {d f : Nat} (C : Cxt G X) (F : FnAt G d f) : ∃ fd ps, FnOk X.prog X.w X.K X.mg X.base (L2N.CX X.prog X.w) (lvl d) (G.fA f) fd ps (spF G d f) ∧ Binds X.K fd ps [] ∧ PySem.W.keepIn X.K (.ref (G.fA f)) = true := by
  rw [C.prog, C.w, C.K, C.mg, C.base]
  exact F
theorem sE_call {a0 : Expr} (C : Cxt G X) {d f : Nat} {x : Str} {p : Pos} (F : FnAt G d f) (hr : Room (lvl d) X.A) (hg : Gl X x) (hm : X.mg x = some (.ref (G.fA f))) (hd : (x == ("__debug__" : Str)) = false) (hx : Passes (L2N.CX X.prog X.w) X (EW G W)) (ha : PA X (a0 :: es) (tA G W fas)) (hs : (a0 :: es).all notStar = true) :
    PE X (.Call (.Name x p) (a0 :: es) [] pos) (tE G W fun r S => (fas r S).bind fun xs S1 => run G.T d f xs S1) := by
  obtain ⟨fd, ps, k1, k2, k3⟩ := F.ok C
  rw [List.all_cons, Bool.and_eq_true] at hs
  refine PE.weak (pe_call k1 hr hg hm k3 k2 .nil hx ha hd (star_ok hs.1 _ _) (star_all _ _ hs.2)) fun σ H Q ⟨μ, r, S, en, re, h⟩ => thenA en re h fun μ1 H1 S1 v x st re1 vx h1 => ?_
  rw [List.append_nil]
  exact ⟨μ1, v, S1, W, vx, re1, h1, fun c H' w => ⟨c, rfl, rfl, w⟩⟩
theorem sE_call0 (C : Cxt G X) {d f : Nat} {x : Str} {p : Pos} (F : FnAt G d f) (hr : Room (lvl d) X.A) (hg : Gl X x) (hm : X.mg x = some (.ref (G.fA f))) (hd : (x == ("__debug__" : Str)) = false) (hx : Passes (L2N.CX X.prog X.w) X (EW G W)) :
    PE X (.Call (.Name x p) [] [] pos) (tE G W fun r S => run G.T d f [] S) := by
  obtain ⟨fd, ps, k1, k2, k3⟩ := F.ok C
  exact PE.weak (pe_call0 k1 hr hg hm k3 k2 .nil hx hd) fun σ H Q ⟨μ, r, S, en, re, h⟩ => ⟨μ, [], S, W, .nil, re, h, fun c H' w => ⟨c, rfl, rfl, w⟩⟩
theorem made_ok {c : Nat} {x dx : Addr} (R : Rel G μ S H) (hx : H x = none) (hd : H dx = none) (ne : dx ≠ x) :
    Stp μ H (μ ++ [dx, x]) (upd (upd H dx (.own x)) x (.ins (G.cA c) dx [])) ∧ Rel G (μ ++ [dx, x]) (S ++ [.own (S.length + 1), .ins c S.length []]) (upd (upd H dx (.own x)) x (.ins (G.cA c) dx [])) ∧ VR G (μ ++ [dx, x]) (.loc (S.length + 1)) (.ref x) := by
  have i1 : (μ ++ [dx, x])[S.length]? = some dx := by rw [← R.len]; simp
  have i2 : (μ ++ [dx, x])[S.length + 1]? = some x := by rw [← R.len, List.getElem?_append_right (by omega)]; simp
  have hk : ∀ a o, H a = some o → upd (upd H dx (.own x)) x (.ins (G.cA c) dx []) a = some o := fun a o e => by
    rw [upd_ne (ne_of_none e hx), upd_ne (ne_of_none e hd)]
    exact e
  refine ⟨⟨⟨[dx, x], rfl, fun a ha => ?_⟩, fun a h => ?_, fun a o _ h _ => hk a o h⟩, R.ext rfl hk (by simp [ne]) fun i a o e1 e2 => ?_, ⟨x, i2, rfl⟩⟩
  · rcases List.mem_cons.mp ha with rfl | ha
    · exact hd
    · rw [List.mem_singleton.mp ha]; exact hx
  · cases e : H a with
    | none => exact absurd e h
    | some o => rw [hk a o e]; simp
  · match i, e1, e2 with
    | 0, e1, e2 =>
      cases (show some dx = some a from e1)
      cases (show some (Ob.own (S.length + 1)) = some o from e2)
      exact ⟨⟨x, by rw [upd_ne ne, upd_same], i2⟩, hd⟩
    | 1, e1, e2 =>
      cases (show some x = some a from e1)
      cases (show some (Ob.ins c S.length []) = some o from e2)
      exact ⟨⟨dx, [], upd_same, i1, .nil⟩, hx⟩
    | n + 2, e1, e2 => cases e1
/-- what a class's maker does -/
def mkF (T : Tx) (cl : Nat → List Va → Sto → Res Va) (c : Nat) (xs : List Va) (S1 : Sto) : Res Va := match T.ini c with
    | some (some f) => (cl f (.loc (S1.length + 1) :: xs) (S1 ++ [.own (S1.length + 1), .ins c S1.length []])).bind fun v S2 => match v with
      | .non => .ok (.loc (S1.length + 1)) S2
      | _ => .bad
    | some none => match xs with
      | [] => .ok (.loc (S1.length + 1)) (S1 ++ [.own (S1.length + 1), .ins c S1.length []])
      | _ => .bad
    | none => .bad
theorem make_of {d c f : Nat} {vs : List Va} {ys : List V} (hi : G.T.ini c = some (some f)) (re : Rel G μ S H) (vx : VRs G μ vs ys) (h : Wr G μ H (mkF G.T (run G.T d) c vs S) W (fun v μ' H' => ∀ x, VR G μ' v x → Q x H')) :
    ∀ x dx, H x = none → H dx = none → dx ≠ x → spF G d f (.ref x :: (ys ++ [])) (upd (upd H dx (.own x)) x (.ins (G.cA c) dx [])) (fun v H2 => v = .non ∧ Q (.ref x) H2) (EW G W) := by
  intro x dx hx hd ne
  rw [List.append_nil]
  obtain ⟨k1, k2, k3⟩ := made_ok (c := c) re hx hd ne
  refine ⟨_, .loc (S.length + 1) :: vs, _, W, .cons k3 (VRs.stp vx k1), k2, ?_, fun c H' w => ⟨c, rfl, rfl, w⟩⟩
  unfold mkF at h
  rw [hi] at h
  dsimp only at h
  have h2 := Wr.bind (Wr.stp h k1)
  refine Wr.imp h2 fun v μ2 H2 ⟨S2, re2, st2, h3⟩ y vy => ?_
  cases v <;> try exact (show False from h3).elim
  exact ⟨vy, fin_ok re2 h3 (k3.stp st2)⟩
theorem sE_make {a0 : Expr} (C : Cxt G X) (F : GF G) {d c f : Nat} {x : Str} {p : Pos} (hi : G.T.ini c = some (some f)) (Fn : FnAt G d f) (hr : Room (lvl d + 1) X.A) (hg : Gl X x) (hm : X.mg x = some (.ref (G.cA c))) (hd : (x == ("__debug__" : Str)) = false) (hx : Passes (L2N.CX X.prog X.w) X (EW G W)) (ha : PA X (a0 :: es) (tA G W fas)) (hs : (a0 :: es).all notStar = true) :
    PE X (.Call (.Name x p) (a0 :: es) [] pos) (tE G W fun r S => (fas r S).bind fun xs S1 => mkF G.T (run G.T d) c xs S1) := by
  obtain ⟨fd, ps, k1, k2, k3⟩ := Fn.ok C
  rw [List.all_cons, Bool.and_eq_true] at hs
  exact PE.weak (pe_make (by rw [C.K]; exact F.ini c f hi) k1 hr hg hm k2 .nil hx ha hd (star_ok hs.1 _ _) (star_all _ _ hs.2)) fun σ H Q ⟨μ, r, S, en, re, h⟩ => thenA en re h fun μ1 H1 S1 v x st re1 vx h1 => make_of hi re1 vx h1
theorem sE_make0 (C : Cxt G X) (F : GF G) {d c f : Nat} {x : Str} {p : Pos} (hi : G.T.ini c = some (some f)) (Fn : FnAt G d f) (hr : Room (lvl d + 1) X.A) (hg : Gl X x) (hm : X.mg x = some (.ref (G.cA c))) (hd : (x == ("__debug__" : Str)) = false) (hx : Passes (L2N.CX X.prog X.w) X (EW G W)) :
    PE X (.Call (.Name x p) [] [] pos) (tE G W fun r S => mkF G.T (run G.T d) c [] S) := by
  obtain ⟨fd, ps, k1, k2, k3⟩ := Fn.ok C
  exact PE.weak (pe_make0 (by rw [C.K]; exact F.ini c f hi) k1 hr hg hm k2 .nil hx hd) fun σ H Q ⟨μ, r, S, en, re, h⟩ => make_of (ys := []) hi re .nil h
/-- what a method's call does, from the receiver on -/
def mtF (T : Tx) (cl : Nat → List Va → Sto → Res Va) (m : Nat) (ga : Rho → Sto → Res (List Va)) (r : Rho) (x : Va) (S1 : Sto) : Res Va := match x with
    | .loc l => match S1[l]? with
      | some (.ins c _ fs) => match T.mth c m, lookF m fs with
        | some f, none => (ga r S1).bind fun xs S2 => cl f (.loc l :: xs) S2
        | _, _ => .bad
      | _ => .bad
    | _ => .bad
theorem meth_of {d m : Nat} {v : Va} {x : V} {ga : Rho → Sto → Res (List Va)} {P : Va → List Addr → Hp → Prop} (re : Rel G μ S H) (vx : VR G μ v x) (h : Wr G μ H (mtF G.T (run G.T d) m ga r v S) W P) :
    ∃ l c dx fs f a dx' ws, v = .loc l ∧ S[l]? = some (.ins c dx fs) ∧ G.T.mth c m = some f ∧ x = .ref a ∧ H a = some (.ins (G.cA c) dx' ws) ∧ ws.lookup (G.nm m) = none ∧ Wr G μ H ((ga r S).bind fun xs S2 => run G.T d f (.loc l :: xs) S2) W P := by
  unfold mtF at h
  cases v <;> try exact (show False from h).elim
  rename_i l
  dsimp only at h
  cases q : S[l]? with
  | none => rw [q] at h; exact (show False from h).elim
  | some o =>
    rw [q] at h
    cases o <;> try exact (show False from h).elim
    rename_i c dx fs
    dsimp only at h
    cases e1 : G.T.mth c m with
    | none => rw [e1] at h; exact (show False from h).elim
    | some f =>
      cases e2 : lookF m fs with
      | some z => rw [e1, e2] at h; exact (show False from h).elim
      | none =>
        rw [e1, e2] at h
        obtain ⟨p, hp, d', ws, k1, k2, k3⟩ := re.at_ l _ q
        obtain ⟨p', hp', rfl⟩ := vx
        rw [hp] at hp'
        cases hp'
        exact ⟨l, c, dx, fs, f, p, d', ws, rfl, q, e1, rfl, k1, lookF_none e2 k3, h⟩
theorem sE_meth {a0 : Expr} (C : Cxt G X) (F : GF G) {d m : Nat} {n : Str} {apos : Pos} (hn : G.nm m = n) (Fn : ∀ f, (∃ c, G.T.mth c m = some f) → FnAt G d f) (hr : Room (lvl d) X.A) (hx : Passes (L2N.CX X.prog X.w) X (EW G W)) (ho : PE X a (tE G W fa)) (ha : PA X (a0 :: es) (tA G W fas)) (hs : (a0 :: es).all notStar = true) (hlen : (a0 :: es).length < 29) (hb : baseOk a = true) (hline : (apos.endLine == pos.line) = true) :
    PE X (.Call (.Attribute a n apos) (a0 :: es) [] pos) (tE G W fun r S => (fa r S).bind fun x S1 => mtF G.T (run G.T d) m fas r x S1) := by
  have hs0 := hs
  rw [List.all_cons, Bool.and_eq_true] at hs
  refine ⟨fun pins s σ H Q I ⟨μ, r, S, en, re, h⟩ => ?_⟩
  refine PySem.W.methodCall_KW (thn (ho.run pins s σ H (fun x H1 => ∃ μ1 S1 v, Stp μ H μ1 H1 ∧ Rel G μ1 S1 H1 ∧ VR G μ1 v x ∧ Wr G μ1 H1 (mtF G.T (run G.T d) m fas r v S1) W (fun v μ' H' => ∀ x, VR G μ' v x → Q x H')) I (thenE en re h fun μ1 H1 S1 v x st re1 vx h1 => ⟨μ1, S1, v, st, re1, vx, h1⟩))
    fun u s1 ⟨x, H1, I1, rx, μ1, S1, v, st, re1, vx, h1⟩ => ?_) (meth_eq hb hs0 hlen hline)
  obtain ⟨l, c, dx, fs, f, p, dx', ws, rfl, q, em, rfl, ea, l0, h2⟩ := meth_of re1 vx h1
  obtain rfl : u = Value.ref p := rx
  obtain ⟨g1, g2⟩ := F.mth c m f em
  rw [hn] at g2 l0
  obtain ⟨fd, ps, k1, k2, k3⟩ := (Fn f ⟨c, em⟩).ok C
  refine getmeth_ok I1 ea (by rw [C.K]; exact g1) (by rw [C.K]; exact g2) l0 ?_
  refine PySem.W.callWith_K (first := [.ref p]) (h₀ := X.base) I.ok.mod.kin k3 (thn (ha.run pos pins s1 σ H1 (fun vs H2 => spF G d f (.ref p :: (vs ++ [])) H2 Q (EW G W)) I1 (thenA (en.stp st) re1 h2 fun μ2 H2 S2 ys zs st2 re2 vz h3 => ?_)) fun us s2 ⟨vs, H2, I2, r2, q2⟩ => ⟨I2.kIn, ?_⟩) (star_ok hs.1 _ _) (star_all _ _ hs.2)
  · rw [List.append_nil]
    exact ⟨μ2, .loc l :: ys, S2, W, .cons (vx.stp st2) vz, re2, h3, fun c H' w => ⟨c, rfl, rfl, w⟩⟩
  · exact run_fn (us := .ref p :: us) (vs := .ref p :: vs) k1 hr k2 .nil hx I2 (.cons rfl r2) q2
theorem sE_meth0 (C : Cxt G X) (F : GF G) {d m : Nat} {n : Str} {apos : Pos} (hn : G.nm m = n) (Fn : ∀ f, (∃ c, G.T.mth c m = some f) → FnAt G d f) (hr : Room (lvl d) X.A) (hx : Passes (L2N.CX X.prog X.w) X (EW G W)) (ho : PE X a (tE G W fa)) (hb : baseOk a = true) (hline : (apos.endLine == pos.line) = true) :
    PE X (.Call (.Attribute a n apos) [] [] pos) (tE G W fun r S => (fa r S).bind fun x S1 => mtF G.T (run G.T d) m (fun _ S => .ok [] S) r x S1) := by
  refine ⟨fun pins s σ H Q I ⟨μ, r, S, en, re, h⟩ => ?_⟩
  refine PySem.W.methodCall_KW (thn (ho.run pins s σ H (fun x H1 => ∃ μ1 S1 v, Stp μ H μ1 H1 ∧ Rel G μ1 S1 H1 ∧ VR G μ1 v x ∧ Wr G μ1 H1 (mtF G.T (run G.T d) m (fun _ S => .ok [] S) r v S1) W (fun v μ' H' => ∀ x, VR G μ' v x → Q x H')) I (thenE en re h fun μ1 H1 S1 v x st re1 vx h1 => ⟨μ1, S1, v, st, re1, vx, h1⟩))
    fun u s1 ⟨x, H1, I1, rx, μ1, S1, v, st, re1, vx, h1⟩ => ?_) (meth_eq hb rfl (by simp) hline)
  obtain ⟨l, c, dx, fs, f, p, dx', ws, rfl, q, em, rfl, ea, l0, h2⟩ := meth_of re1 vx h1
  obtain rfl : u = Value.ref p := rx
  obtain ⟨g1, g2⟩ := F.mth c m f em
  rw [hn] at g2 l0
  obtain ⟨fd, ps, k1, k2, k3⟩ := (Fn f ⟨c, em⟩).ok C
  refine getmeth_ok I1 ea (by rw [C.K]; exact g1) (by rw [C.K]; exact g2) l0 ?_
  refine PySem.W.callWith_K0 (first := [.ref p]) I1.kIn k3 ?_
  exact run_fn (us := [.ref p]) (vs := [.ref p]) k1 hr k2 .nil hx I1 (.cons rfl .nil) ⟨μ1, [.loc l], S1, W, .cons vx .nil, re1, h2, fun c H' w => ⟨c, rfl, rfl, w⟩⟩
end
end Ev
end

section
set_option Elab.async false
set_option linter.all false
set_option maxRecDepth 100000
/-! Ev7: methods of lists, built-ins, isinstance, what is walked, comprehensions. -/
namespace Ev
open PySem PySem.Spec PyProof.Rows L2
section
variable {G : GE} {X : Cx} {W : WC} {μ : List Addr} {H : Hp} {S : Sto} {r : Rho} {σ : L2.St} {Q : VK} {a b c e a0 : Expr} {fa fb fc : Rho → Sto → Res Va} {fas : Rho → Sto → Res (List Va)} {es : List Expr} {pos : Pos}
/-- a list at the receiver: tyV -/
theorem lm_list {m : Lm} {v : Va} {x : V} {vs : List Va} {k : Va → List Addr → Hp → Prop} (re : Rel G μ S H) (vx : VR G μ v x) (h : Wr G μ H (lm m v vs S) W k) : ∃ l xs, getW S v = some (l, xs) := by
  unfold lm at h
  cases e : getW S v with
  | none => rw [e] at h; exact (show False from h).elim
  | some p => exact ⟨p.1, p.2, rfl⟩
/-- x.m(..), x a list as it stands behind its own evaluation -/
def lmF (m : Lm) (ga : Rho → Sto → Res (List Va)) (r : Rho) (x : Va) (S1 : Sto) : Res Va := match getW S1 x with
  | none => .bad
  | some _ => (ga r S1).bind fun xs S2 => lm m x xs S2
theorem sE_lm (C : Cxt G X) {m : Lm} {name : Str} {id : String} {apos : Pos} (slot : Slot "list" name id) (hty : typeOf (.builtin id) = pure (.type "method_descriptor")) (hm : MtR X id (rM G (lm m)))
    (ho : PE X a (tE G W fa)) (ha : PA X (a0 :: es) (tA G W fas)) (hs : (a0 :: es).all notStar = true) (hlen : (a0 :: es).length < 29) (hb : baseOk a = true) (hline : (apos.endLine == pos.line) = true) :
    PE X (.Call (.Attribute a name apos) (a0 :: es) [] pos) (tE G W fun r S => (fa r S).bind fun x S1 => lmF m fas r x S1) := by
  have hs0 := hs
  rw [List.all_cons, Bool.and_eq_true] at hs
  refine PE.weak (pe_bm PySem.F.plainAttrs_list slot hty hm ho ha (base_ok hb) (few_ok hs0 hlen) hline (star_ok hs.1 _ _) (star_all _ _ hs.2)) fun σ H Q ⟨μ, r, S, en, re, h⟩ => thenE en re h fun μ1 H1 S1 v x st re1 vx h1 => ?_
  unfold lmF at h1
  cases e : getW S1 v with
  | none => rw [e] at h1; exact (show False from h1).elim
  | some p =>
    rw [e] at h1
    obtain ⟨_, _, p1, ys, _, rfl, k1, _⟩ := re1.getW (l := p.1) (xs := p.2) e vx
    exact ⟨.inl ⟨rfl, ys, .of k1⟩, thenA (en.stp st) re1 h1 fun μ2 H2 S2 u y st2 re2 vy h2 => ⟨μ2, S2, v, u, W, re2, vx.stp st2, vy, h2⟩⟩
theorem sE_lm0 (C : Cxt G X) {m : Lm} {name : Str} {id : String} {apos : Pos} (slot : Slot "list" name id) (hty : typeOf (.builtin id) = pure (.type "method_descriptor")) (hm : MtR X id (rM G (lm m)))
    (ho : PE X a (tE G W fa)) (hb : baseOk a = true) (hline : (apos.endLine == pos.line) = true) :
    PE X (.Call (.Attribute a name apos) [] [] pos) (tE G W fun r S => (fa r S).bind fun x S1 => lmF m (fun _ S => .ok [] S) r x S1) := by
  refine PE.weak (pe_bm0 PySem.F.plainAttrs_list slot hty hm ho (base_ok hb) hline) fun σ H Q ⟨μ, r, S, en, re, h⟩ => thenE en re h fun μ1 H1 S1 v x st re1 vx h1 => ?_
  unfold lmF at h1
  cases e : getW S1 v with
  | none => rw [e] at h1; exact (show False from h1).elim
  | some p =>
    rw [e] at h1
    obtain ⟨_, _, p1, ys, _, rfl, k1, _⟩ := re1.getW (l := p.1) (xs := p.2) e vx
    exact ⟨.inl ⟨rfl, ys, .of k1⟩, ⟨μ1, S1, v, [], W, re1, vx, .nil, h1⟩⟩
theorem sE_bi (C : Cxt G X) {b : Bi} {x : Str} {id : String} {p : Pos} (hc : CallR X (.builtin id) (rN G (bi b))) (hg : Gl X x) (hm : X.mg x = none) (hv : bootBuiltins x = some (.builtin id)) (hn : x ≠ "__name__") (hdb : (x == ("__debug__" : Str)) = false)
    (ha : PA X (a0 :: es) (tA G W fas)) (hs : (a0 :: es).all notStar = true) : PE X (.Call (.Name x p) (a0 :: es) [] pos) (tE G W fun r S => (fas r S).bind fun xs S1 => bi b xs S1) := by
  rw [List.all_cons, Bool.and_eq_true] at hs
  exact PE.weak (pe_callB hc hg hm hv ha hn hdb (star_ok hs.1 _ _) (star_all _ _ hs.2)) fun σ H Q ⟨μ, r, S, en, re, h⟩ => thenA en re h fun μ1 H1 S1 v x st re1 vx h1 => ⟨μ1, S1, v, W, re1, vx, h1⟩
theorem sE_biT (C : Cxt G X) {b : Bi} {x : Str} {T : String} {p : Pos} (hc : CallR X (.type T) (rN G (bi b))) (hg : Gl X x) (hm : X.mg x = none) (hv : bootBuiltins x = some (.type T)) (hn : x ≠ "__name__") (hdb : (x == ("__debug__" : Str)) = false)
    (ha : PA X (a0 :: es) (tA G W fas)) (hs : (a0 :: es).all notStar = true) : PE X (.Call (.Name x p) (a0 :: es) [] pos) (tE G W fun r S => (fas r S).bind fun xs S1 => bi b xs S1) := by
  rw [List.all_cons, Bool.and_eq_true] at hs
  exact PE.weak (pe_callTy hc hg hm hv ha hn hdb (star_ok hs.1 _ _) (star_all _ _ hs.2)) fun σ H Q ⟨μ, r, S, en, re, h⟩ => thenA en re h fun μ1 H1 S1 v x st re1 vx h1 => ⟨μ1, S1, v, W, re1, vx, h1⟩

/-! ### isinstance -/
theorem ty_kit (K : PySem.W.Frag) (u t : Ty) : PySem.W.kitOne K (.type (tyN u)) (.type (tyN t)) = some (decide (u = t) || (decide (u = .bool) && decide (t = .int))) := by
  cases u <;> cases t <;> exact kit_ty (by decide +kernel)
theorem ty_kitN (K : PySem.W.Frag) (t : Ty) : PySem.W.kitOne K (.type "NoneType") (.type (tyN t)) = some false := by
  cases t <;> exact kit_ty (by decide +kernel)
theorem tyOf_ok (R : Rel G μ S H) {v : Va} {x : V} {u : Ty} (e : tyOf S v = some u) (r : VR G μ v x) : TyX G.K H x (.type (tyN u)) := by
  cases v with
  | non => cases e
  | fn f => cases e
  | clo f ws => cases e
  | vn => cases e
  | vc a b => cases e
  | bl b => cases (show some Ty.bool = some u from e); rw [show x = .bl b from r]; exact .base (.bl b)
  | int b => cases (show some Ty.int = some u from e); rw [show x = .int b from r]; exact .base (.int b)
  | str b => cases (show some Ty.str = some u from e); rw [show x = .str b from r]; exact .base (.str b)
  | scr ns =>
    cases (show some Ty.list = some u from e)
    obtain ⟨rfl, _⟩ := r
    rcases R.scr with ⟨ob, k⟩ | k
    · exact .base (.frz k)
    · rcases k (fun _ => none) with (h | ⟨o, h⟩) | ⟨o, its, n, h1, h2, _⟩
      · cases h
      · cases h
      · exact .kList h1 h2
  | loc l =>
    obtain ⟨p, hp, rfl⟩ := r
    simp only [tyOf] at e
    cases q : S[l]? with
    | none => rw [q] at e; cases e
    | some o =>
      rw [q] at e
      obtain ⟨p', hp', k⟩ := R.at_ l o q
      rw [hp] at hp'
      cases hp'
      cases o with
      | lst xs =>
        cases (show some Ty.list = some u from e)
        obtain ⟨ys, k, _⟩ := k
        exact .base (.lst k)
      | tup xs =>
        cases (show some Ty.tuple = some u from e)
        obtain ⟨ys, k, _⟩ := k
        exact .base (.tup k)
      | dct kvs =>
        cases (show some Ty.dict = some u from e)
        obtain ⟨ws, k, _⟩ := k
        exact .base (.dK k)
      | _ => cases e
theorem tyOf_kit (R : Rel G μ S H) {v : Va} {x : V} {u t : Ty} (e : tyOf S v = some u) (r : VR G μ v x) : ∃ T, TyX G.K H x T ∧ PySem.W.kitOne G.K T (.type (tyN t)) = some (decide (u = t) || (decide (u = .bool) && decide (t = .int))) :=
  ⟨_, tyOf_ok R e r, ty_kit _ _ _⟩
theorem isTy_ok (F : GF G) (R : Rel G μ S H) {v : Va} {x : V} {t : Ty} {k : Va → List Addr → Hp → Prop} (r : VR G μ v x) (h : Wr G μ H (isTy G.T t v S) W k) : ∃ T b, TyX G.K H x T ∧ PySem.W.kitOne G.K T (.type (tyN t)) = some b ∧ Wr G μ H (.ok (.bl b) S) W k := by
  unfold isTy at h
  cases v with
  | non => rw [show x = .non from r]; exact ⟨_, false, .base .non, ty_kitN _ _, h⟩
  | fn f => exact (show False from h).elim
  | clo f ws => exact r.elim
  | vn => exact r.elim
  | vc a b => exact r.elim
  | bl b =>
    dsimp only at h
    obtain ⟨T, h1, h2⟩ := tyOf_kit (t := t) (u := .bool) R rfl r
    exact ⟨T, _, h1, h2, h⟩
  | int b =>
    dsimp only at h
    obtain ⟨T, h1, h2⟩ := tyOf_kit (t := t) (u := .int) R rfl r
    exact ⟨T, _, h1, h2, h⟩
  | str b =>
    dsimp only at h
    obtain ⟨T, h1, h2⟩ := tyOf_kit (t := t) (u := .str) R rfl r
    exact ⟨T, _, h1, h2, h⟩
  | scr b =>
    dsimp only at h
    obtain ⟨T, h1, h2⟩ := tyOf_kit (t := t) (u := .list) R rfl r
    exact ⟨T, _, h1, h2, h⟩
  | loc l =>
    dsimp only at h
    cases q : S[l]? with
    | none => rw [q] at h; simp only [tyOf, q] at h; exact (show False from h).elim
    | some o =>
      rw [q] at h
      cases o with
      | ins c dx fs =>
        dsimp only at h
        split at h
        · rename_i hc
          obtain ⟨p, hp, d, ws, k1, _, _⟩ := R.at_ l _ q
          obtain ⟨p', hp', rfl⟩ := r
          rw [hp] at hp'
          cases hp'
          obtain ⟨b, hb⟩ := Option.isSome_iff_exists.mp hc
          have g := (F.sub c c b hb).1
          exact ⟨_, false, .base (.ins k1 g.cl g.ha g.hn g.htk g.hm), F.insT c t hc, h⟩
        · exact (show False from h).elim
      | own x => exact (show False from h).elim
      | lst xs =>
        dsimp only at h
        simp only [tyOf, q] at h
        obtain ⟨T, h1, h2⟩ := tyOf_kit (t := t) (u := .list) R (by simp only [tyOf, q]) r
        rw [show (decide (Ty.list = Ty.bool) && decide (t = Ty.int)) = false by rfl, Bool.or_false] at h2
        exact ⟨T, _, h1, h2, h⟩
      | tup xs =>
        dsimp only at h
        simp only [tyOf, q] at h
        obtain ⟨T, h1, h2⟩ := tyOf_kit (t := t) (u := .tuple) R (by simp only [tyOf, q]) r
        rw [show (decide (Ty.tuple = Ty.bool) && decide (t = Ty.int)) = false by rfl, Bool.or_false] at h2
        exact ⟨T, _, h1, h2, h⟩
      | dct xs =>
        dsimp only at h
        simp only [tyOf, q] at h
        obtain ⟨T, h1, h2⟩ := tyOf_kit (t := t) (u := .dict) R (by simp only [tyOf, q]) r
        rw [show (decide (Ty.dict = Ty.bool) && decide (t = Ty.int)) = false by rfl, Bool.or_false] at h2
        exact ⟨T, _, h1, h2, h⟩
theorem tyV_of {x : Str} {T : String} {p : Pos} (hg : Gl X x) (hm : X.mg x = none) (hv : bootBuiltins x = some (.type T)) (hn : x ≠ "__name__") (hd : (x == ("__debug__" : Str)) = false) : PE X (.Name x p) (tC (.ty T)) := pe_bltn hg hm hv rfl hn hd
/-- isinstance(a, T), T a built-in class -/
theorem sE_isTy (C : Cxt G X) (F : GF G) {t : Ty} {x : Str} {p p2 : Pos} (hi : Gl X "isinstance") (hmi : X.mg "isinstance" = none) (hg : Gl X x) (hm : X.mg x = none) (hv : bootBuiltins x = some (.type (tyN t))) (hn : x ≠ "__name__") (hd : (x == ("__debug__" : Str)) = false)
    (ha : PE X a (tE G W fa)) (hs : notStar a = true) : PE X (.Call (.Name "isinstance" p) [a, .Name x p2] [] pos) (tE G W fun r S => (fa r S).bind fun v S1 => isTy G.T t v S1) := by
  refine PE.weak (pe_callB call_isi hi hmi (by decide +kernel) (pa_cons ha (pa_cons (tyV_of hg hm hv hn hd) pa_nil (star_ok rfl _ _)) (star_ok hs _ _)) (by decide) (by decide) (star_ok hs _ _) (star_all _ _ rfl)) fun σ H Q ⟨μ, r, S, en, re, h⟩ => thenE en re h fun μ1 H1 S1 v x st re1 vx h1 => ?_
  obtain ⟨T, b, h2, h3, h4⟩ := isTy_ok F re1 vx h1
  exact ⟨x, .ty (tyN t), T, .type (tyN t), b, rfl, .ty _, by rw [C.K]; exact h2, by rw [C.K]; exact h3, fin_ok re1 h4 rfl⟩
theorem isCls_ok (F : GF G) (R : Rel G μ S H) {v : Va} {x : V} {c : Nat} {k : Va → List Addr → Hp → Prop} (r : VR G μ v x) (hc : ∃ d b, G.T.sub d c = some b) (h : Wr G μ H (isCls G.T c v S) W k) : ∃ T b, TyX G.K H x T ∧ PySem.W.kitOne G.K T (.ref (G.cA c)) = some b ∧ Wr G μ H (.ok (.bl b) S) W k := by
  obtain ⟨d0, b0, hd0⟩ := hc
  have sT := F.subT d0 c b0 hd0
  unfold isCls at h
  cases v with
  | non => rw [show x = .non from r]; exact ⟨_, false, .base .non, sT "NoneType" (by simp), h⟩
  | fn f => exact (show False from h).elim
  | clo f ws => exact r.elim
  | vn => exact r.elim
  | vc a b => exact r.elim
  | bl b => exact ⟨_, false, tyOf_ok (u := .bool) R rfl r, sT "bool" (by simp), h⟩
  | int b => exact ⟨_, false, tyOf_ok (u := .int) R rfl r, sT "int" (by simp), h⟩
  | str b => exact ⟨_, false, tyOf_ok (u := .str) R rfl r, sT "str" (by simp), h⟩
  | scr b => exact ⟨_, false, tyOf_ok (u := .list) R rfl r, sT "list" (by simp), h⟩
  | loc l =>
    dsimp only at h
    cases q : S[l]? with
    | none => rw [q] at h; exact (show False from h).elim
    | some o =>
      rw [q] at h
      cases o with
      | ins d dx fs =>
        dsimp only at h
        cases e : G.T.sub d c with
        | none => rw [e] at h; exact (show False from h).elim
        | some b =>
          rw [e] at h
          obtain ⟨p, hp, dd, ws, k1, _, _⟩ := R.at_ l _ q
          obtain ⟨p', hp', rfl⟩ := r
          rw [hp] at hp'
          cases hp'
          obtain ⟨g, g2⟩ := F.sub d c b e
          exact ⟨_, b, .base (.ins k1 g.cl g.ha g.hn g.htk g.hm), g2, h⟩
      | own x => exact (show False from h).elim
      | lst xs => exact ⟨_, false, tyOf_ok (u := .list) R (by simp only [tyOf, q]) r, sT "list" (by simp), h⟩
      | tup xs => exact ⟨_, false, tyOf_ok (u := .tuple) R (by simp only [tyOf, q]) r, sT "tuple" (by simp), h⟩
      | dct xs => exact ⟨_, false, tyOf_ok (u := .dict) R (by simp only [tyOf, q]) r, sT "dict" (by simp), h⟩
theorem sE_isCls (C : Cxt G X) (F : GF G) {c : Nat} {x : Str} {p p2 : Pos} (hi : Gl X "isinstance") (hmi : X.mg "isinstance" = none) (hg : Gl X x) (hm : X.mg x = some (.ref (G.cA c))) (hd : (x == ("__debug__" : Str)) = false) (hc : ∃ d b, G.T.sub d c = some b)
    (ha : PE X a (tE G W fa)) (hs : notStar a = true) : PE X (.Call (.Name "isinstance" p) [a, .Name x p2] [] pos) (tE G W fun r S => (fa r S).bind fun v S1 => isCls G.T c v S1) := by
  refine PE.weak (pe_callB call_isi hi hmi (by decide +kernel) (pa_cons ha (pa_cons (pe_glob hg hm (v := .ref (G.cA c)) rfl hd) pa_nil (star_ok rfl _ _)) (star_ok hs _ _)) (by decide) (by decide) (star_ok hs _ _) (star_all _ _ rfl)) fun σ H Q ⟨μ, r, S, en, re, h⟩ => thenE en re h fun μ1 H1 S1 v x st re1 vx h1 => ?_
  obtain ⟨T, b, h2, h3, h4⟩ := isCls_ok F re1 vx hc h1
  exact ⟨x, .ref (G.cA c), T, .ref (G.cA c), b, rfl, .own _, by rw [C.K]; exact h2, by rw [C.K]; exact h3, fin_ok re1 h4 rfl⟩
end
end Ev
end

section
set_option Elab.async false
set_option linter.all false
set_option maxRecDepth 100000
/-! Ev8: what is walked, comprehensions. -/
namespace Ev
open PySem PySem.Spec PyProof.Rows L2
/-- an iterator of the store and of the layer -/
def JR (G : GE) (K : PySem.W.Frag) (μ : List Addr) : Iter → It → Prop
  | .lst l, J => ∃ a, μ[l]? = some a ∧ J = Itl K a
  | .tup l, J => ∃ a, μ[l]? = some a ∧ J = Itt K a
  | .rng lo st n, J => (st = 1 ∧ J = Itr lo n) ∨ J = Itc lo st n
  | .enum l, J => ∃ a, μ[l]? = some a ∧ J = Ite K a
  | .zip l m, J => ∃ a b, μ[l]? = some a ∧ μ[m]? = some b ∧ J = Itz K a b
def tI (G : GE) (K : PySem.W.Frag) (W : WC) (f : Rho → Sto → Res Iter) : TI := fun σ H R => ∃ μ r S, Env G μ r σ ∧ Rel G μ S H ∧ Wr G μ H (f r S) W (fun J μ' H' => ∀ Jt, JR G K μ' J Jt → R Jt H')
section
variable {G : GE} {X : Cx} {W : WC} {μ μ' : List Addr} {H H' : Hp} {S : Sto} {r : Rho} {σ : L2.St} {Q : VK} {a b c e a0 tg : Expr} {fa fb fc : Rho → Sto → Res Va} {fas : Rho → Sto → Res (List Va)} {es : List Expr} {pos : Pos} {K : PySem.W.Frag}
theorem PI.weak {it : Expr} {t t' : TI} (h : PI X tg it t) (f : ∀ σ H Q, t' σ H Q → t σ H Q) : PI X tg it t' := ⟨fun pins s σ H Q I q => h.run pins s σ H Q I (f σ H Q q)⟩
theorem JR.stp {J : Iter} {Jt : It} (h : JR G K μ J Jt) (s : Stp μ H μ' H') : JR G K μ' J Jt := by
  obtain ⟨ν, rfl, _⟩ := s.ext
  cases J with
  | lst l => obtain ⟨a, h1, h2⟩ := h; exact ⟨a, at_app h1, h2⟩
  | tup l => obtain ⟨a, h1, h2⟩ := h; exact ⟨a, at_app h1, h2⟩
  | rng lo st n => exact h
  | enum l => obtain ⟨a, h1, h2⟩ := h; exact ⟨a, at_app h1, h2⟩
  | zip l m => obtain ⟨a, b, h1, h2, h3⟩ := h; exact ⟨a, b, at_app h1, at_app h2, h3⟩
/-- a list of the store by its place -/
theorem getL_at (R : Rel G μ S H) {l : Nat} {a : Addr} {xs : List Va} (e : getL S (.loc l) = some xs) (h : μ[l]? = some a) : ∃ ys, H a = some (.lst ys) ∧ VRs G μ xs ys := by
  simp only [getL] at e
  cases q : S[l]? with
  | none => rw [q] at e; cases e
  | some o =>
    rw [q] at e
    obtain ⟨b, hb, k⟩ := R.at_ l o q
    rw [h] at hb
    cases hb
    cases o with
    | lst zs =>
      cases (show some zs = some xs from e)
      exact k
    | _ => cases e
theorem getT_at (R : Rel G μ S H) {l : Nat} {a : Addr} {xs : List Va} (e : getT S (.loc l) = some xs) (h : μ[l]? = some a) : ∃ ys, H a = some (.tup ys) ∧ VRs G μ xs ys := by
  obtain ⟨a', ys, e1, h1, h2⟩ := R.getT e ⟨a, h, rfl⟩
  cases e1
  exact ⟨ys, h1, h2⟩
theorem next_stop (R : Rel G μ S H) {J : Iter} {Jt : It} {i : Nat} (j : JR G K μ J Jt) (e : nextI J i S = some none) : Jt.stop i H := by
  cases J with
  | lst l =>
    obtain ⟨a, h1, rfl⟩ := j
    simp only [nextI] at e
    cases q : getL S (.loc l) with
    | none => rw [q] at e; cases e
    | some xs =>
      rw [q] at e
      dsimp only at e
      cases q2 : xs[i]? with
      | some v => rw [q2] at e; cases e
      | none =>
        obtain ⟨ys, k1, k2⟩ := getL_at R q h1
        exact ⟨ys, .of k1, by rw [← pr_len k2]; exact List.getElem?_eq_none_iff.mp q2⟩
  | tup l =>
    obtain ⟨a, h1, rfl⟩ := j
    simp only [nextI] at e
    cases q : getT S (.loc l) with
    | none => rw [q] at e; cases e
    | some xs =>
      rw [q] at e
      dsimp only at e
      cases q2 : xs[i]? with
      | some v => rw [q2] at e; cases e
      | none =>
        obtain ⟨ys, k1, k2⟩ := getT_at R q h1
        exact ⟨ys, .of k1, by rw [← pr_len k2]; exact List.getElem?_eq_none_iff.mp q2⟩
  | rng lo st n =>
    simp only [nextI] at e
    split at e
    · cases e
    · rename_i hi
      rcases j with ⟨_, rfl⟩ | rfl
      · exact Nat.le_of_not_lt hi
      · exact Nat.le_of_not_lt hi
  | enum l =>
    obtain ⟨a, h1, rfl⟩ := j
    simp only [nextI] at e
    cases q : getL S (.loc l) with
    | none => rw [q] at e; cases e
    | some xs =>
      rw [q] at e
      dsimp only at e
      cases q2 : xs[i]? with
      | some v => rw [q2] at e; cases e
      | none =>
        obtain ⟨ys, k1, k2⟩ := getL_at R q h1
        exact ⟨ys, .of k1, by rw [← pr_len k2]; exact List.getElem?_eq_none_iff.mp q2⟩
  | zip l m =>
    obtain ⟨a, b, h1, h2, rfl⟩ := j
    simp only [nextI] at e
    cases q : getL S (.loc l) with
    | none => rw [q] at e; cases e
    | some xs =>
      cases p : getL S (.loc m) with
      | none => rw [q, p] at e; cases e
      | some zs =>
        rw [q, p] at e
        dsimp only at e
        obtain ⟨ys, k1, k2⟩ := getL_at R q h1
        obtain ⟨ws, k3, k4⟩ := getL_at R p h2
        refine ⟨ys, ws, .of k1, .of k3, ?_⟩
        cases q2 : xs[i]? with
        | none => exact .inl (by rw [← pr_len k2]; exact List.getElem?_eq_none_iff.mp q2)
        | some v =>
          cases q3 : zs[i]? with
          | none => exact .inr (by rw [← pr_len k4]; exact List.getElem?_eq_none_iff.mp q3)
          | some u => rw [q2, q3] at e; cases e
theorem next_go (R : Rel G μ S H) {J : Iter} {Jt : It} {i : Nat} {v : Va} {S1 : Sto} (j : JR G K μ J Jt) (e : nextI J i S = some (some (v, S1))) :
    Jt.go i H ∧ ∀ x H', Jt.yld i H x H' → ∃ μ', Stp μ H μ' H' ∧ Rel G μ' S1 H' ∧ VR G μ' v x := by
  cases J with
  | lst l =>
    obtain ⟨a, h1, rfl⟩ := j
    simp only [nextI] at e
    cases q : getL S (.loc l) with
    | none => rw [q] at e; cases e
    | some xs =>
      rw [q] at e
      dsimp only at e
      cases q2 : xs[i]? with
      | none => rw [q2] at e; cases e
      | some u =>
        rw [q2] at e
        cases e
        obtain ⟨ys, k1, k2⟩ := getL_at R q h1
        obtain ⟨y, k3, k4⟩ := pr_get k2 q2
        refine ⟨⟨ys, y, .of k1, k3⟩, fun x H' ⟨e1, e2⟩ => ?_⟩
        subst e1
        have := e2 ys (.of k1)
        rw [k3] at this
        cases this
        exact ⟨μ, Stp.refl, R, k4⟩
  | tup l =>
    obtain ⟨a, h1, rfl⟩ := j
    simp only [nextI] at e
    cases q : getT S (.loc l) with
    | none => rw [q] at e; cases e
    | some xs =>
      rw [q] at e
      dsimp only at e
      cases q2 : xs[i]? with
      | none => rw [q2] at e; cases e
      | some u =>
        rw [q2] at e
        cases e
        obtain ⟨ys, k1, k2⟩ := getT_at R q h1
        obtain ⟨y, k3, k4⟩ := pr_get k2 q2
        refine ⟨⟨ys, y, .of k1, k3⟩, fun x H' ⟨e1, e2⟩ => ?_⟩
        subst e1
        have := e2 ys (.of k1)
        rw [k3] at this
        cases this
        exact ⟨μ, Stp.refl, R, k4⟩
  | rng lo st n =>
    simp only [nextI] at e
    split at e
    · rename_i hi
      cases e
      rcases j with ⟨rfl, rfl⟩ | rfl
      · refine ⟨hi, fun x H' ⟨e1, e2⟩ => ?_⟩
        subst e1
        subst e2
        exact ⟨μ, Stp.refl, R, by show V.int (lo + i) = V.int (lo + i * 1); rw [Int.mul_one]⟩
      · refine ⟨hi, fun x H' ⟨e1, e2⟩ => ?_⟩
        subst e1
        subst e2
        exact ⟨μ, Stp.refl, R, rfl⟩
    · cases e
  | enum l =>
    obtain ⟨a, h1, rfl⟩ := j
    simp only [nextI] at e
    cases q : getL S (.loc l) with
    | none => rw [q] at e; cases e
    | some xs =>
      rw [q] at e
      dsimp only at e
      cases q2 : xs[i]? with
      | none => rw [q2] at e; cases e
      | some u =>
        rw [q2] at e
        cases e
        obtain ⟨ys, k1, k2⟩ := getL_at R q h1
        obtain ⟨y, k3, k4⟩ := pr_get k2 q2
        refine ⟨⟨ys, y, .of k1, k3⟩, fun x H' ⟨T, x0, e0, hT, e1, e2⟩ => ?_⟩
        have := e2 ys (.of k1)
        rw [k3] at this
        cases this
        subst e0
        subst e1
        exact ⟨μ ++ [T], Stp.new hT, R.newT hT (.cons rfl (.cons k4 .nil)), R.last T⟩
  | zip l m =>
    obtain ⟨a, b, h1, h2, rfl⟩ := j
    simp only [nextI] at e
    cases q : getL S (.loc l) with
    | none => rw [q] at e; cases e
    | some xs =>
      cases p : getL S (.loc m) with
      | none => rw [q, p] at e; cases e
      | some zs =>
        rw [q, p] at e
        dsimp only at e
        obtain ⟨ys, k1, k2⟩ := getL_at R q h1
        obtain ⟨ws, k3, k4⟩ := getL_at R p h2
        cases q2 : xs[i]? with
        | none => rw [q2] at e; cases e
        | some u =>
          cases q3 : zs[i]? with
          | none => rw [q2, q3] at e; cases e
          | some u2 =>
            rw [q2, q3] at e
            cases e
            obtain ⟨y, k5, k6⟩ := pr_get k2 q2
            obtain ⟨y2, k7, k8⟩ := pr_get k4 q3
            refine ⟨⟨ys, ws, y, y2, .of k1, .of k3, k5, k7⟩, fun x H' ⟨T, x0, x1, e0, hT, e1, e2, e3⟩ => ?_⟩
            have z1 := e2 ys (.of k1)
            rw [k5] at z1
            cases z1
            have z2 := e3 ws (.of k3)
            rw [k7] at z2
            cases z2
            subst e0
            subst e1
            exact ⟨μ ++ [T], Stp.new hT, R.newT hT (.cons k6 (.cons k8 .nil)), R.last T⟩

/-! ### what is walked -/
theorem sI_seq (C : Cxt G X) (ha : PE X a (tE G W fa)) : PI X tg a (tI G X.K W fun r S => (fa r S).bind fun x S1 => match x with
    | .loc l => match getL S1 x with
      | some _ => .ok (.lst l) S1
      | none => match getT S1 x with
        | some _ => .ok (.tup l) S1
        | none => .bad
    | _ => .bad) := by
  have k1 := pi_list (tg := tg) ha
  have k2 := pi_tup (tg := tg) ha
  refine ⟨fun pins s σ H R I ⟨μ, r, S, en, re, h⟩ => ?_⟩
  dsimp only at h
  by_cases ht : ∃ x S1 xs, fa r S = .ok x S1 ∧ getL S1 x = none ∧ getT S1 x = some xs
  · obtain ⟨x, S1, xs, e1, e2, e3⟩ := ht
    refine k2.run pins s σ H R I ⟨μ, r, S, en, re, ?_⟩
    rw [e1] at h ⊢
    simp only [Res.bind_ok] at h
    intro μ1 H1 st1 re1 y vy
    cases x <;> try cases e3
    rename_i l
    rw [e2, e3] at h
    obtain ⟨p, hp, rfl⟩ := vy
    obtain ⟨ys, g1, g2⟩ := getT_at re1 e3 hp
    exact ⟨p, rfl, ⟨ys, .of g1⟩, h μ1 H1 st1 re1 _ ⟨p, hp, rfl⟩⟩
  · refine k1.run pins s σ H R I ⟨μ, r, S, en, re, ?_⟩
    cases e1 : fa r S with
    | bad => rw [e1] at h; exact h
    | exc c S' => rw [e1] at h; exact h
    | ok x S1 =>
      rw [e1] at h
      simp only [Res.bind_ok] at h
      intro μ1 H1 st1 re1 y vy
      cases x <;> try exact (show False from h).elim
      rename_i l
      dsimp only at h
      cases e2 : getL S1 (.loc l) with
      | none =>
        rw [e2] at h
        dsimp only at h
        cases e3 : getT S1 (.loc l) with
        | none => rw [e3] at h; exact (show False from h).elim
        | some xs => exact absurd ⟨_, S1, xs, e1, e2, e3⟩ ht
      | some xs =>
        rw [e2] at h
        obtain ⟨p, hp, rfl⟩ := vy
        obtain ⟨ys, g1, g2⟩ := getL_at re1 e2 hp
        exact ⟨p, rfl, ⟨ys, .of g1⟩, h μ1 H1 st1 re1 _ ⟨p, hp, rfl⟩⟩
theorem sI_rng1 (C : Cxt G X) {p : Pos} (hg : Gl X "range") (hm : X.mg "range" = none) (ha : PE X a (tE G W fa)) (hs : notStar a = true) : PI X tg (.Call (.Name "range" p) [a] [] pos) (tI G X.K W fun r S => (fa r S).bind fun x S1 => match x with
    | .int j => if -(2 ^ 62) ≤ j ∧ j < 2 ^ 62 then .ok (.rng 0 1 j.toNat) S1 else .bad
    | _ => .bad) := by
  refine PI.weak (pi_range1 hg hm (pa_cons ha pa_nil (star_ok hs _ _)) (star_ok hs _ _)) fun σ H R ⟨μ, r, S, en, re, h⟩ => thenE en re h fun μ1 H1 S1 v x st re1 vx h1 => ?_
  cases v <;> try exact (show False from h1).elim
  rename_i j
  dsimp only at h1
  split at h1
  · rename_i hj
    exact ⟨j, by rw [show x = V.int j from vx], hj.1, hj.2, Wr.ok h1 re1 _ (.inl ⟨rfl, rfl⟩)⟩
  · exact (show False from h1).elim
theorem sI_rng2 (C : Cxt G X) {p : Pos} (hg : Gl X "range") (hm : X.mg "range" = none) (ha : PE X a (tE G W fa)) (hb : PE X b (tE G W fb)) (hs : notStar a = true) (hs2 : notStar b = true) : PI X tg (.Call (.Name "range" p) [a, b] [] pos) (tI G X.K W fun r S => (fa r S).bind fun x S1 => (fb r S1).bind fun y S2 => match x, y with
    | .int i, .int j => if -(2 ^ 62) ≤ i ∧ i < 2 ^ 62 ∧ -(2 ^ 62) ≤ j ∧ j < 2 ^ 62 then .ok (.rng i 1 (j - i).toNat) S2 else .bad
    | _, _ => .bad) := by
  refine PI.weak (pi_range2 hg hm (pa_cons ha (pa_cons hb pa_nil (star_ok hs2 _ _)) (star_ok hs _ _)) (by rw [star_ok hs, star_ok hs2]; rfl) (star_ok hs2 _ _)) fun σ H R ⟨μ, r, S, en, re, h⟩ => thenE en re h fun μ1 H1 S1 v x st re1 vx h1 => thenE (en.stp st) re1 h1 fun μ2 H2 S2 u y st2 re2 vy h2 => ?_
  cases v <;> cases u <;> try exact (show False from h2).elim
  rename_i i j
  dsimp only at h2
  split at h2
  · rename_i hj
    refine ⟨i, j, by rw [show x = V.int i from vx, show y = V.int j from vy], hj, Wr.ok h2 re2 _ (.inl ⟨rfl, rfl⟩)⟩
  · exact (show False from h2).elim
theorem rgC_up {i j k : Int} (h : 0 ≤ i ∧ i < 2 ^ 30 ∧ 0 ≤ j ∧ j < 2 ^ 30 ∧ 0 < k ∧ k < 2 ^ 30) : RgC i j k ((j - i + k - 1) / k).toNat := by
  obtain ⟨h1, h2, h3, h4, h5, h6⟩ := h
  have hk : k ≥ 1 := h5
  have e30 : (2 : Int) ^ 30 = 1073741824 := by decide
  rw [e30] at h2 h4 h6
  refine ⟨by omega, by omega, ?_, ?_⟩
  · have hn : 0 ≤ Builtin.Range.rangeSize i j k ∧ Builtin.Range.rangeSize i j k ≤ 1073741825 := by
      unfold Builtin.Range.rangeSize
      rw [if_pos (show k > 0 from h5)]
      split
      · have a1 : (j - i - 1) / k ≥ 0 := Int.ediv_nonneg (by omega) (by omega)
        have a2 : (j - i - 1) / k ≤ j - i - 1 := Int.ediv_le_self _ (by omega)
        omega
      · omega
    unfold Builtin.Range.small
    generalize Builtin.Range.rangeSize i j k = n at hn
    simp only [Builtin.Range.rangeFitsLong, Bool.and_eq_true, Bool.or_eq_true, decide_eq_true_eq, beq_iff_eq, show k > 0 from h5, if_true]
    omega
  · unfold Builtin.Range.rangeSize
    rw [if_pos (show k > 0 from h5)]
    split
    · rename_i hl
      have e : j - i + k - 1 = (j - i - 1) + k := by omega
      have : (j - i - 1) / k ≥ 0 := Int.ediv_nonneg (by omega) (by omega)
      rw [e, Int.add_ediv_of_dvd_right (Int.dvd_refl k), Int.ediv_self (by omega)]
      omega
    · rename_i hl
      have : (j - i + k - 1) / k ≤ 0 := by
        have : (j - i + k - 1) / k < 1 := Int.ediv_lt_of_lt_mul h5 (by omega)
        omega
      omega
theorem sI_rng3 (C : Cxt G X) {p : Pos} {c : Expr} {fc : Rho → Sto → Res Va} (hg : Gl X "range") (hm : X.mg "range" = none) (ha : PE X a (tE G W fa)) (hb : PE X b (tE G W fb)) (hc : PE X c (tE G W fc)) (hs : notStar a = true) (hs2 : notStar b = true) (hs3 : notStar c = true) : PI X tg (.Call (.Name "range" p) [a, b, c] [] pos) (tI G X.K W fun r S => (fa r S).bind fun x S1 => (fb r S1).bind fun y S2 => (fc r S2).bind fun z S3 => match x, y, z with
    | .int i, .int j, .int k => if 0 ≤ i ∧ i < 2 ^ 30 ∧ 0 ≤ j ∧ j < 2 ^ 30 ∧ 0 < k ∧ k < 2 ^ 30 then .ok (.rng i k ((j - i + k - 1) / k).toNat) S3 else .bad
    | _, _, _ => .bad) := by
  refine PI.weak (pi_range3 hg hm (pa_cons ha (pa_cons hb (pa_cons hc pa_nil (star_ok hs3 _ _)) (star_ok hs2 _ _)) (star_ok hs _ _)) (by rw [star_ok hs]) (by rw [star_ok hs2, star_ok hs3]; rfl)) fun σ H R ⟨μ, r, S, en, re, h⟩ => thenE en re h fun μ1 H1 S1 v x st re1 vx h1 => thenE (en.stp st) re1 h1 fun μ2 H2 S2 u y st2 re2 vy h2 => thenE ((en.stp st).stp st2) re2 h2 fun μ3 H3 S3 t z st3 re3 vz h3 => ?_
  cases v <;> cases u <;> try exact (show False from h3).elim
  cases t <;> try exact (show False from h3).elim
  rename_i i j k
  dsimp only at h3
  split at h3
  · rename_i hj
    refine ⟨i, j, k, _, by rw [show x = V.int i from vx, show y = V.int j from vy, show z = V.int k from vz], rgC_up hj, Wr.ok h3 re3 _ (.inr rfl)⟩
  · exact (show False from h3).elim
theorem sI_enum (C : Cxt G X) {p tpos : Pos} {elts : List Expr} {kk : Nat} (hg : Gl X "enumerate") (hm : X.mg "enumerate" = none) (ha : PE X a (tE G W fa)) (hs : notStar a = true) : PI X (.Tuple elts kk tpos) (.Call (.Name "enumerate" p) [a] [] pos) (tI G X.K W fun r S => (fa r S).bind fun x S1 => match x with
    | .loc l => match getL S1 x with
      | some _ => .ok (.enum l) S1
      | none => .bad
    | _ => .bad) := by
  refine PI.weak (pi_enum hg hm (pa_cons ha pa_nil (star_ok hs _ _)) (star_ok hs _ _)) fun σ H R ⟨μ, r, S, en, re, h⟩ => thenE en re h fun μ1 H1 S1 v x st re1 vx h1 => ?_
  cases v <;> try exact (show False from h1).elim
  rename_i l
  dsimp only at h1
  cases e2 : getL S1 (.loc l) with
  | none => rw [e2] at h1; exact (show False from h1).elim
  | some xs =>
    rw [e2] at h1
    obtain ⟨p, hp, rfl⟩ := vx
    obtain ⟨ys, g1, g2⟩ := getL_at re1 e2 hp
    exact ⟨p, ys, rfl, .of g1, Wr.ok h1 re1 _ ⟨p, hp, rfl⟩⟩
theorem sI_zip (C : Cxt G X) {p tpos : Pos} {elts : List Expr} {kk : Nat} (hg : Gl X "zip") (hm : X.mg "zip" = none) (ha : PE X a (tE G W fa)) (hb : PE X b (tE G W fb)) (hs : notStar a = true) (hs2 : notStar b = true) : PI X (.Tuple elts kk tpos) (.Call (.Name "zip" p) [a, b] [] pos) (tI G X.K W fun r S => (fa r S).bind fun x S1 => (fb r S1).bind fun y S2 => match x, y with
    | .loc l, .loc m => match getL S2 x, getL S2 y with
      | some _, some _ => .ok (.zip l m) S2
      | _, _ => .bad
    | _, _ => .bad) := by
  refine PI.weak (pi_zip hg hm (pa_cons ha (pa_cons hb pa_nil (star_ok hs2 _ _)) (star_ok hs _ _)) (star_ok hs _ _) (star_all _ _ (by simp [hs2]))) fun σ H R ⟨μ, r, S, en, re, h⟩ => thenE en re h fun μ1 H1 S1 v x st re1 vx h1 => thenE (en.stp st) re1 h1 fun μ2 H2 S2 u y st2 re2 vy h2 => ?_
  cases v <;> cases u <;> try exact (show False from h2).elim
  rename_i l m
  dsimp only at h2
  cases e2 : getL S2 (.loc l) with
  | none => rw [e2] at h2; exact (show False from h2).elim
  | some xs =>
    cases e3 : getL S2 (.loc m) with
    | none => rw [e2, e3] at h2; exact (show False from h2).elim
    | some zs =>
      rw [e2, e3] at h2
      obtain ⟨p, hp, rfl⟩ := vx.stp st2
      obtain ⟨q, hq, rfl⟩ := vy
      obtain ⟨ys, g1, g2⟩ := getL_at re2 e2 hp
      obtain ⟨ws, g3, g4⟩ := getL_at re2 e3 hq
      exact ⟨p, q, ys, ws, rfl, .of g1, .of g3, Wr.ok h2 re2 _ ⟨p, q, hp, hq, rfl⟩⟩
end
end Ev
namespace Ev
open PySem PySem.Spec PyProof.Rows L2
/-! ### targets -/
mutual
/-- the slots of a target -/
def tgS : Tg → List Nat
  | .nm i => [i]
  | .tup ts => tgSs ts
  | .nil => []
  | .cons _ _ => []
def tgSs : Tg → List Nat
  | .cons t ts => tgS t ++ tgSs ts
  | .nil => []
  | .nm _ => []
  | .tup _ => []
end
theorem wipeR_get (r : Rho) (j : Nat) : ∀ vs : List Nat, (wipeR r vs)[j]? = if j ∈ vs then (if j < r.length then some none else none) else r[j]?
  | [] => by simp [wipeR]
  | v :: vs => by
    have hl : (wipeR r vs).length = r.length := by
      clear j
      induction vs with
      | nil => rfl
      | cons v vs ih => simp [wipeR, ih]
    unfold wipeR
    by_cases e : v = j
    · subst e
      rw [if_pos List.mem_cons_self]
      by_cases hj : v < r.length
      · rw [List.getElem?_set_self (by rw [hl]; exact hj), if_pos hj]
      · rw [if_neg hj, List.getElem?_eq_none_iff]
        rw [List.length_set, hl]
        omega
    · rw [List.getElem?_set_ne e, wipeR_get r j vs]
      by_cases hm : j ∈ vs
      · rw [if_pos hm, if_pos (List.mem_cons_of_mem _ hm)]
      · rw [if_neg hm, if_neg (by simp [hm, Ne.symm e])]
theorem wipeR_ext {r r' : Rho} {vs : List Nat} (hl : r.length = r'.length) (h : ∀ j, j ∉ vs → r[j]? = r'[j]?) : wipeR r vs = wipeR r' vs := by
  apply List.ext_getElem?
  intro j
  rw [wipeR_get, wipeR_get, hl]
  by_cases hm : j ∈ vs
  · rw [if_pos hm, if_pos hm]
  · rw [if_neg hm, if_neg hm]
    exact h j hm
theorem wipeR_len (r : Rho) : ∀ vs : List Nat, (wipeR r vs).length = r.length
  | [] => rfl
  | v :: vs => by simp [wipeR, wipeR_len r vs]
theorem wipeR_idem (r : Rho) (vs : List Nat) : wipeR (wipeR r vs) vs = wipeR r vs := by
  refine wipeR_ext (wipeR_len r vs) fun j hj => ?_
  rw [wipeR_get, if_neg hj]
mutual
theorem asgT_out {S : Sto} : ∀ {t : Tg} {v : Va} {r r' : Rho}, asgT S t v r = some r' → r'.length = r.length ∧ ∀ j, j ∉ tgS t → r'[j]? = r[j]?
  | .nm i, v, r, r', e => by
    cases (show some (r.set i (some v)) = some r' from e)
    exact ⟨by simp, fun j hj => List.getElem?_set_ne (fun q => hj (by rw [q]; exact List.mem_cons_self))⟩
  | .tup ts, v, r, r', e => by
    simp only [asgT] at e
    cases q : getT S v with
    | none => rw [q] at e; cases e
    | some xs => rw [q] at e; exact asgTs_out (t := ts) e
  | .nil, _, _, _, e => by simp [asgT] at e
  | .cons _ _, _, _, _, e => by simp [asgT] at e
theorem asgTs_out {S : Sto} : ∀ {t : Tg} {xs : List Va} {r r' : Rho}, asgTs S t xs r = some r' → r'.length = r.length ∧ ∀ j, j ∉ tgSs t → r'[j]? = r[j]?
  | .nil, [], r, r', e => by
    cases (show some r = some r' from by simpa [asgTs] using e)
    exact ⟨rfl, fun _ _ => rfl⟩
  | .nil, _ :: _, _, _, e => by simp [asgTs] at e
  | .cons t ts, [], _, _, e => by simp [asgTs] at e
  | .cons t ts, x :: xs, r, r', e => by
    simp only [asgTs] at e
    cases q : asgT S t x r with
    | none => rw [q] at e; cases e
    | some r1 =>
      rw [q] at e
      obtain ⟨h1, h2⟩ := asgT_out q
      obtain ⟨h3, h4⟩ := asgTs_out (t := ts) e
      refine ⟨h3.trans h1, fun j hj => ?_⟩
      simp only [tgSs, List.mem_append, not_or] at hj
      rw [h4 j hj.2, h2 j hj.1]
  | .nm _, _, _, _, e => by simp [asgTs] at e
  | .tup _, _, _, _, e => by simp [asgTs] at e
end
def gT (G : GE) (t : Tg) : TG := fun v σ H Q => ∃ μ r S u, Env G μ r σ ∧ Rel G μ S H ∧ VR G μ u v ∧ ∃ r', asgT S t u r = some r' ∧ ∀ σ', Env G μ r' σ' → Q σ' H
def gTs (G : GE) (t : Tg) : TGs := fun vs σ H Q => ∃ μ r S us, Env G μ r σ ∧ Rel G μ S H ∧ VRs G μ us vs ∧ ∃ r', asgTs S t us r = some r' ∧ ∀ σ', Env G μ r' σ' → Q σ' H
section
variable {G : GE} {X : Cx} {W : WC} {μ μ' : List Addr} {H H' : Hp} {S : Sto} {r : Rho} {σ : L2.St} {Q : VK} {a b c e a0 tg : Expr} {pos : Pos}
theorem PG.weak {t t' : TG} (h : PG X tg t) (f : ∀ v σ H Q, t' v σ H Q → t v σ H Q) : PG X tg t' := ⟨fun pins s σ H v u Q I r q => h.run pins s σ H v u Q I r (f v σ H Q q)⟩
theorem PGs.weak {tgs : List Expr} {t t' : TGs} (h : PGs X tgs t) (f : ∀ v σ H Q, t' v σ H Q → t v σ H Q) : PGs X tgs t' := ⟨fun pins s σ H v u Q I r q => h.run pins s σ H v u Q I r (f v σ H Q q)⟩
theorem sG_name {i : Nat} {x : Str} (hN : X.N.Nodup) (hi : X.N[i]? = some x) (hx : Loc X.env.scope x) (hf : X.fn x = true ∨ X.env.scope.names.lookup x = some .local) : PG X (.Name x pos) (gT G (.nm i)) := by
  refine PG.weak (pg_name hN hi hx hf) fun v σ H Q ⟨μ, r, S, u, en, re, vu, r', e, q⟩ => ?_
  cases (show some (r.set i (some u)) = some r' from e)
  exact q _ (en.set i vu)
theorem sGs_nil : PGs X [] (gTs G .nil) := by
  refine PGs.weak pgs_nil fun vs σ H Q ⟨μ, r, S, us, en, re, vu, r', e, q⟩ => ?_
  cases us with
  | nil =>
    cases vu
    cases (show some r = some r' from by simpa [asgTs] using e)
    exact ⟨rfl, q _ en⟩
  | cons x xs => simp [asgTs] at e
def notStarT : Expr → Bool := notStar
theorem asgEach_ok {e : Expr} (h : notStar e = true) (es : List Expr) (env : PySem.Env) : assignEach (e :: es) env = (false, assign e env) :: assignEach es env := by
  cases e <;> first | rfl | cases h
theorem sGs_cons {t ts : Tg} {es : List Expr} (h1 : PG X e (gT G t)) (h2 : PGs X es (gTs G ts)) (hs : notStar e = true) : PGs X (e :: es) (gTs G (.cons t ts)) := by
  refine PGs.weak (pgs_cons h1 h2 (by rw [asgEach_ok hs]; rfl)) fun vs σ H Q ⟨μ, r, S, us, en, re, vu, r', ee, q⟩ => ?_
  cases us with
  | nil => simp [asgTs] at ee
  | cons x xs =>
    cases vu with
    | @cons _ y _ ys v1 v2 =>
      simp only [asgTs] at ee
      cases q1 : asgT S t x r with
      | none => rw [q1] at ee; cases ee
      | some r1 =>
        rw [q1] at ee
        exact ⟨y, ys, rfl, μ, r, S, x, en, re, v1, r1, q1, fun σ1 en1 => ⟨μ, r1, S, xs, en1, re, v2, r', ee, q⟩⟩
theorem asgTs_len {S : Sto} : ∀ {t : Tg} {xs : List Va} {r r' : Rho}, asgTs S t xs r = some r' → ∀ {es : List Expr}, PGs X es (gTs G t) → True := fun _ _ _ => trivial
/-- how many targets -/
def tgN : Tg → Nat
  | .cons _ ts => tgN ts + 1
  | _ => 0
theorem asgTs_n {S : Sto} : ∀ {t : Tg} {xs : List Va} {r r' : Rho}, asgTs S t xs r = some r' → xs.length = tgN t
  | .nil, [], _, _, _ => rfl
  | .nil, _ :: _, _, _, e => by simp [asgTs] at e
  | .cons t ts, [], _, _, e => by simp [asgTs] at e
  | .cons t ts, x :: xs, r, r', e => by
    simp only [asgTs] at e
    cases q : asgT S t x r with
    | none => rw [q] at e; cases e
    | some r1 =>
      rw [q] at e
      simp [tgN, asgTs_n (t := ts) e]
  | .nm _, _, _, _, e => by simp [asgTs] at e
  | .tup _, _, _, _, e => by simp [asgTs] at e
theorem asgEach_n : ∀ {es : List Expr} (env : PySem.Env), es.all notStar = true → (assignEach es env).length = es.length ∧ (assignEach es env).findIdx? (·.1) = none
  | [], _, _ => ⟨rfl, rfl⟩
  | e :: es, env, h => by
    rw [List.all_cons, Bool.and_eq_true] at h
    obtain ⟨h1, h2⟩ := asgEach_n env h.2
    rw [asgEach_ok h.1]
    refine ⟨by simp [h1], ?_⟩
    rw [List.findIdx?_cons]
    simp [h2]
theorem sG_tup (C : Cxt G X) {k : Nat} {es : List Expr} {ts : Tg} (h : PGs X es (gTs G ts)) (hs : es.all notStar = true) (hn : tgN ts = es.length) : PG X (.Tuple es k pos) (gT G (.tup ts)) := by
  obtain ⟨n1, n2⟩ := asgEach_n X.env hs
  refine PG.weak (pg_tup C.calm h n1 n2) fun v σ H Q ⟨μ, r, S, u, en, re, vu, r', e, q⟩ => ?_
  simp only [asgT] at e
  cases q1 : getT S u with
  | none => rw [q1] at e; cases e
  | some xs =>
    rw [q1] at e
    obtain ⟨p, ys, rfl, k1, k2⟩ := re.getT q1 vu
    exact ⟨p, ys, rfl, .of k1, by rw [← pr_len k2, asgTs_n e, hn], μ, r, S, xs, en, re, k2, r', e, q⟩

/-! ### comprehensions -/
theorem SR.fn {a : Option Va} {b b' : Option V} (h : SR G μ a b) (h' : SR G μ a b') : b = b' := by
  cases a with
  | none => rw [show b = none from h, show b' = none from h']
  | some v =>
    cases v <;> first
    | (obtain ⟨x, rfl, h1⟩ := h
       obtain ⟨y, rfl, h2⟩ := h'
       rw [h1.fn h2])
    | (obtain ⟨x, u, rfl, h1, _⟩ := h
       obtain ⟨y, w, rfl, h2, _⟩ := h'
       rw [h1] at h2
       cases h2
       rfl)
theorem Env.fn : ∀ {r : Rho} {σ σ' : L2.St}, Env G μ r σ → Env G μ r σ' → σ = σ'
  | _, _, _, .nil, .nil => rfl
  | _, _, _, .cons a b, .cons a' b' => by rw [SR.fn a a', Env.fn b b']
/-- the list that stands beside the store is taken in -/
theorem Rel.adopt {D : Addr} {O : HO} {o : Ob} (R : Rel G μ S H) (hD : D ∉ μ) (hO : H D = some O) (h : OAt G (μ ++ [D]) H D o) : Rel G (μ ++ [D]) (S ++ [o]) H := by
  have cm : ∀ {l : Nat} {a : Addr}, (μ ++ [D])[l]? = some a → (μ[l]? = some a) ∨ (l = μ.length ∧ a = D) := fun {l a} e => by
    by_cases hl : l < μ.length
    · rw [List.getElem?_append_left hl] at e; exact .inl e
    · rw [List.getElem?_append_right (Nat.le_of_not_lt hl)] at e
      have hz : l - μ.length = 0 := by
        cases n : l - μ.length with
        | zero => rfl
        | succ k => rw [n] at e; simp at e
      rw [hz] at e
      simp at e
      exact .inr ⟨by omega, e.symm⟩
  have hs := h.soft hO
  refine ⟨by simp [R.len], fun l u e => ?_, fun l m a h1 h2 => ?_, R.scr, ⟨R.tab.1, fun p hp z => ?_⟩, fun p hp => ⟨(R.cod p hp).1, fun z => ?_⟩⟩
  rotate_left 2
  · rcases List.mem_append.mp z with z | z
    · exact R.tab.2 p hp z
    · obtain ⟨ps, e1, _⟩ := R.tab.1 p hp
      rw [List.mem_singleton.mp z, hO] at e1
      cases e1
      cases hs
  · have e1 := (R.cod p hp).1
    rcases List.mem_append.mp z with z | z
    · exact (R.cod p hp).2 z
    · rw [List.mem_singleton.mp z, hO] at e1
      cases e1
      cases hs
  · by_cases hl : l < S.length
    · rw [List.getElem?_append_left hl] at e
      obtain ⟨a, q1, q2⟩ := R.at_ l u e
      exact ⟨a, at_app q1, q2.app⟩
    · rw [List.getElem?_append_right (Nat.le_of_not_lt hl)] at e
      have hz : l - S.length = 0 := by
        cases n : l - S.length with
        | zero => rfl
        | succ k => rw [n] at e; simp at e
      rw [hz] at e
      cases (show some o = some u by simpa using e)
      have hl2 : l = μ.length := by rw [R.len]; omega
      exact ⟨D, by rw [hl2]; simp, h⟩
  · rcases cm h1 with q1 | ⟨q1, e1⟩
    · rcases cm h2 with q2 | ⟨q2, e2⟩
      · exact R.inj l m a q1 q2
      · exact absurd (by rw [← e2]; exact List.mem_of_getElem? q1) hD
    · rcases cm h2 with q2 | ⟨q2, e2⟩
      · exact absurd (by rw [← e1]; exact List.mem_of_getElem? q2) hD
      · rw [q1, q2]
theorem comp_of {fi : Rho → Sto → Res Iter} {fc fe : Rho → Sto → Res Va} {t : Tg} {vs : List Nat} (hsl : ∀ i ∈ tgS t, i ∈ vs)
    (h : tE G W (fun r S => (fi r S).bind fun J S1 => (compL J t fc fe (wipeR r vs) (lenI J S1 + 1) 0 [] S1).bind fun xs S2 => new (.lst xs) S2) σ H Q) :
    tLc (tI G X.K W fi) (gT G t) (tT G (fun _ _ => False) fc) (tE G (fun _ _ => False) fe) vs σ H Q := by
  obtain ⟨μ, r, S, en, re, h⟩ := h
  refine ⟨μ, r, S, en, re, (Wr.bind h).imp fun J μ1 H1 ⟨S1, re1, st1, h1⟩ Jt jr D hD => ?_⟩
  have hDμ : D ∉ μ1 := fun z => re1.held z hD
  let Pp : Va → List Addr → Hp → Prop := fun v μ' H' => ∀ x, VR G μ' v x → Q x H'
  let Wv : Nat → Nat → Hp → Prop := fun i m Hc => ∃ μ' S' acc accV, Stp μ1 H1 μ' Hc ∧ Rel G μ' S' Hc ∧ D ∉ μ' ∧ Hc D = some (.lst accV) ∧ VRs G μ' acc accV ∧
    Wr G μ1 H1 ((compL J t fc fe (wipeR r vs) m i acc S').bind fun xs S2 => new (.lst xs) S2) W Pp
  have nD : ∀ {μa μb : List Addr} {Ha Hb : Hp}, Stp μa Ha μb Hb → D ∉ μa → Ha D ≠ none → D ∉ μb := fun {μa μb Ha Hb} st h1 h2 hm => by
    obtain ⟨ν, rfl, hν⟩ := st.ext
    rcases List.mem_append.mp hm with hm | hm
    · exact h1 hm
    · exact h2 (hν D hm)
  refine ⟨Wv, ⟨lenI J S1 + 1, μ1, S1, [], [], ?_, re1.beside hDμ (fun ob u q => by rw [hD] at q; cases q) (fun u q => by rw [hD] at q; cases q), hDμ, upd_same, .nil, h1⟩, fun i m Hc hw => ?_⟩
  · refine ⟨⟨[], by simp, by simp⟩, fun a ha => ?_, fun a o _ ha _ => ?_⟩
    · unfold upd; split
      · simp
      · exact ha
    · rw [upd_ne (ne_of_none ha hD)]; exact ha
  · obtain ⟨μ', S', acc, accV, st, re', hDm, hDl, va, hk⟩ := hw
    cases m with
    | zero => exact (show False from hk).elim
    | succ m =>
      simp only [compL] at hk
      cases en1 : nextI J i S' with
      | none => rw [en1] at hk; exact (show False from hk).elim
      | some o =>
        rw [en1] at hk
        cases o with
        | none =>
          refine .inl ⟨next_stop re' (jr.stp st) en1, ?_⟩
          have hk' : Wr G μ1 H1 (new (.lst acc) S') W Pp := hk
          refine hk' (μ' ++ [D]) Hc ?_ (re'.adopt hDm hDl ⟨accV, hDl, VRs.app va⟩) _ (re'.last D)
          obtain ⟨ν, rfl, hν⟩ := st.ext
          refine ⟨⟨ν ++ [D], by rw [List.append_assoc], fun a ha => ?_⟩, st.mono, st.fr⟩
          rcases List.mem_append.mp ha with ha | ha
          · exact hν a ha
          · rw [List.mem_singleton.mp ha]; exact hD
        | some p =>
          obtain ⟨v, S2⟩ := p
          dsimp only at hk
          obtain ⟨g1, g2⟩ := next_go re' (jr.stp st) en1
          refine .inr ⟨g1, fun H' => Wv (i + 1) m H', fun H' h => ⟨m, Nat.lt_succ_self m, h⟩, fun x H' hy => ?_⟩
          obtain ⟨μ2, st2, re2, vx⟩ := g2 x H' hy
          have hD2 : D ∉ μ2 := nD st2 hDm (by rw [hDl]; simp)
          have hDl2 : H' D = some (.lst accV) := st2.fr D _ hDm hDl (fun ps z => by cases z)
          cases e1 : asgT S2 t v (wipeR r vs) with
          | none => rw [e1] at hk; exact (show False from hk).elim
          | some r1 =>
            rw [e1] at hk
            dsimp only at hk
            have en0 : Env G μ2 (wipeR r vs) (wipe σ vs) := ((((en.stp st1).stp st).stp st2)).wipe vs
            refine ⟨μ2, wipeR r vs, S2, v, en0, re2, vx, r1, e1, fun σ2 en2 => ⟨?_, ?_⟩⟩
            · have w1 : wipeR r1 vs = wipeR r vs := by
                obtain ⟨l1, l2⟩ := asgT_out e1
                have := wipeR_ext (vs := vs) l1 fun j hj => l2 j fun z => hj (hsl j z)
                rw [this, wipeR_idem]
              have w2 := en2.wipe vs
              rw [w1] at w2
              exact Env.fn w2 en0
            · refine ⟨μ2, r1, S2, en2, re2, ?_⟩
              cases e2 : fc r1 S2 with
              | bad => rw [e2] at hk; exact (show False from hk).elim
              | exc cc S3 => rw [e2] at hk; exact (show False from hk).elim
              | ok bv S3 =>
                rw [e2] at hk
                intro μ3 H3 st3 re3
                have hD3 : D ∉ μ3 := nD st3 hD2 (by rw [hDl2]; simp)
                have hDl3 : H3 D = some (.lst accV) := st3.fr D _ hD2 hDl2 (fun ps z => by cases z)
                cases bv with
                | bl b =>
                  refine ⟨b, rfl, ?_⟩
                  cases b with
                  | true =>
                    rw [if_pos rfl]
                    dsimp only at hk
                    refine ⟨μ3, r1, S3, en2.stp st3, re3, ?_⟩
                    cases e3 : fe r1 S3 with
                    | bad => rw [e3] at hk; exact (show False from hk).elim
                    | exc cc S4 => rw [e3] at hk; exact (show False from hk).elim
                    | ok y S4 =>
                      rw [e3] at hk
                      dsimp only at hk
                      intro μ4 H4 st4 re4 Y vy
                      have hD4 : D ∉ μ4 := nD st4 hD3 (by rw [hDl3]; simp)
                      have hDl4 : H4 D = some (.lst accV) := st4.fr D _ hD3 hDl3 (fun ps z => by cases z)
                      have va4 := VRs.stp (VRs.stp (VRs.stp va st2) st3) st4
                      split at hk
                      · rename_i hl
                        refine ⟨accV, hDl4, by rw [← pr_len va, ← line_eq]; exact hl, μ4, S4, acc ++ [y], accV ++ [Y], ?_, re4.beside hD4 (fun ob u q => by rw [hDl4] at q; cases q) (fun u q => by rw [hDl4] at q; cases q; rfl), hD4, upd_same, pr_app va4 (.cons vy .nil), hk⟩
                        have stt := ((st.trans st2).trans st3).trans st4
                        refine ⟨stt.ext, fun a ha => ?_, fun a o ha1 ha2 nt => ?_⟩
                        · unfold upd; split
                          · simp
                          · exact stt.mono a ha
                        · rw [upd_ne (fun q => by rw [q, hD] at ha2; cases ha2)]
                          exact stt.fr a o ha1 ha2 nt
                      · exact (show False from hk).elim
                  | false =>
                    rw [if_neg (by decide)]
                    dsimp only at hk
                    exact ⟨μ3, S3, acc, accV, (st.trans st2).trans st3, re3, hD3, hDl3, VRs.stp (VRs.stp va st2) st3, hk⟩
                | _ => exact (show False from hk).elim
end
end Ev
end

section
set_option Elab.async false
set_option linter.all false
set_option maxRecDepth 100000
/-! Ev9: statements, defs. -/
namespace Ev
open PySem PySem.Spec PyProof.Rows L2
def Wf (G : GE) (μ : List Addr) (H : Hp) (f : Fl) (W : WC) (D : Ends) : Prop := match f with
  | .nx r S => ∀ μ' H' σ, Stp μ H μ' H' → Rel G μ' S H' → Env G μ' r σ → D.nx σ H'
  | .rt v S => ∀ μ' H' x, Stp μ H μ' H' → Rel G μ' S H' → VR G μ' v x → D.rt x H'
  | .bk r S => ∀ μ' H' σ, Stp μ H μ' H' → Rel G μ' S H' → Env G μ' r σ → D.bk σ H'
  | .ct r S => ∀ μ' H' σ, Stp μ H μ' H' → Rel G μ' S H' → Env G μ' r σ → D.ct σ H'
  | .exc c S => ∀ μ' H', Stp μ H μ' H' → Rel G μ' S H' → W c H'
  | .bad => False
def tS (G : GE) (W : WC) (f : Rho → Sto → Fl) : TS := fun D σ H => ∃ μ r S, Env G μ r σ ∧ Rel G μ S H ∧ Wf G μ H (f r S) W D
section
variable {G : GE} {X : Cx} {W : WC} {μ μ' : List Addr} {H H' : Hp} {S : Sto} {r : Rho} {σ : L2.St} {D : Ends} {a b c e o i tg : Expr} {fa fb fc fo fi : Rho → Sto → Res Va} {fas : Rho → Sto → Res (List Va)} {es : List Expr} {pos pos' : Pos} {fs gs : Rho → Sto → Fl} {st : Stmt} {sts : List Stmt}
theorem Wf.stp {f : Fl} (h : Wf G μ H f W D) (s : Stp μ H μ' H') : Wf G μ' H' f W D := by
  cases f with
  | nx r S => exact fun m h' σ s' R en => h m h' σ (s.trans s') R en
  | rt v S => exact fun m h' x s' R vx => h m h' x (s.trans s') R vx
  | bk r S => exact fun m h' σ s' R en => h m h' σ (s.trans s') R en
  | ct r S => exact fun m h' σ s' R en => h m h' σ (s.trans s') R en
  | exc c S => exact fun m h' s' R => h m h' (s.trans s') R
  | bad => exact h
/-- an expression within a statement -/
theorem Wf.th {α : Type} {x : Res α} {k : α → Sto → Fl} (h : Wf G μ H (thenS x k) W D) : Wr G μ H x W (fun a μ' H' => ∃ S', Rel G μ' S' H' ∧ Stp μ H μ' H' ∧ Wf G μ' H' (k a S') W D) := by
  cases x with
  | ok a S => exact fun m h' s' R => ⟨S, R, s', Wf.stp (f := k a S) h s'⟩
  | exc c S => exact h
  | bad => exact h
theorem thS {k : Va → Sto → Fl} {R : V → Hp → Prop} (en : Env G μ r σ) (re : Rel G μ S H) (h : Wf G μ H (thenS (fb r S) k) W D)
    (f : ∀ μ2 H2 S2 u y, Stp μ H μ2 H2 → Rel G μ2 S2 H2 → VR G μ2 u y → Wf G μ2 H2 (k u S2) W D → R y H2) : tE G W fb σ H R :=
  ⟨μ, r, S, en, re, (Wf.th h).imp fun u μ2 H2 ⟨S2, re2, st, h2⟩ y vy => f μ2 H2 S2 u y st re2 vy h2⟩
theorem thSA {k : List Va → Sto → Fl} {R : List V → Hp → Prop} (en : Env G μ r σ) (re : Rel G μ S H) (h : Wf G μ H (thenS (fas r S) k) W D)
    (f : ∀ μ2 H2 S2 u y, Stp μ H μ2 H2 → Rel G μ2 S2 H2 → VRs G μ2 u y → Wf G μ2 H2 (k u S2) W D → R y H2) : tA G W fas σ H R :=
  ⟨μ, r, S, en, re, (Wf.th h).imp fun u μ2 H2 ⟨S2, re2, st, h2⟩ y vy => f μ2 H2 S2 u y st re2 vy h2⟩
theorem thST {k : Va → Sto → Fl} {R : Bool → Hp → Prop} (en : Env G μ r σ) (re : Rel G μ S H) (h : Wf G μ H (thenS (fb r S) k) W D) (hb : ∀ v S', (∀ b, v ≠ .bl b) → k v S' = .bad)
    (f : ∀ μ2 H2 S2 b, Stp μ H μ2 H2 → Rel G μ2 S2 H2 → Wf G μ2 H2 (k (.bl b) S2) W D → R b H2) : tT G W fb σ H R := by
  refine ⟨μ, r, S, en, re, (Wf.th h).imp fun u μ2 H2 ⟨S2, re2, st, h2⟩ => ?_⟩
  cases u with
  | bl b => exact ⟨b, rfl, f μ2 H2 S2 b st re2 h2⟩
  | _ => rw [hb _ _ (fun b z => by cases z)] at h2; exact (show False from h2).elim

/-! ### blocks -/
theorem sSs_nil : PSs X [] (tS G W fun r S => .nx r S) := PSs.weak pss_nil fun D σ H ⟨μ, r, S, en, re, h⟩ => h μ H σ Stp.refl re en
theorem sSs_cons (h1 : PS X st (tS G W fs)) (h2 : PSs X sts (tS G W gs)) : PSs X (st :: sts) (tS G W fun r S => match fs r S with | .nx r1 S1 => gs r1 S1 | f => f) := by
  refine PSs.weak (pss_cons h1 h2) fun D σ H ⟨μ, r, S, en, re, h⟩ => ⟨μ, r, S, en, re, ?_⟩
  dsimp only at h
  cases e : fs r S with
  | nx r1 S1 =>
    rw [e] at h
    exact fun μ' H' σ' s' R en' => ⟨μ', r1, S1, en', R, Wf.stp h s'⟩
  | rt v S1 => rw [e] at h; exact h
  | bk r1 S1 => rw [e] at h; exact h
  | ct r1 S1 => rw [e] at h; exact h
  | exc c S1 => rw [e] at h; exact h
  | bad => rw [e] at h; exact h
theorem sS_pass : PS X (.Pass pos) (tS G W fun r S => .nx r S) := PS.weak ps_pass fun D σ H ⟨μ, r, S, en, re, h⟩ => h μ H σ Stp.refl re en

/-! ### small statements -/
theorem sS_ex (he : PE X e (tE G W fa)) (hs : swapsWith e none pos.line X.env = pure false) : PS X (.Expr e pos) (tS G W fun r S => thenS (fa r S) fun _ S1 => .nx r S1) :=
  PS.weak (ps_expr he hs) fun D σ H ⟨μ, r, S, en, re, h⟩ => thS en re h fun μ1 H1 S1 v x st re1 vx h1 => h1 μ1 H1 σ Stp.refl re1 (en.stp st)
theorem sS_ret (he : PE X e (tE G W fa)) : PS X (.Return (some e) pos) (tS G W fun r S => thenS (fa r S) fun v S1 => .rt v S1) :=
  PS.weak (ps_ret he) fun D σ H ⟨μ, r, S, en, re, h⟩ => thS en re h fun μ1 H1 S1 v x st re1 vx h1 => h1 μ1 H1 x Stp.refl re1 vx
theorem sS_retN : PS X (.Return none pos) (tS G W fun r S => .rt .non S) := PS.weak ps_retN fun D σ H ⟨μ, r, S, en, re, h⟩ => h μ H .non Stp.refl re rfl
theorem sS_ite {as bs : List Stmt} (hc : PT X c (tT G W fc)) (ha : PSs X as (tS G W fs)) (hb : PSs X bs (tS G W gs)) : PS X (.If c as bs pos) (tS G W fun r S => thenS (fc r S) fun x S1 => match x with | .bl true => fs r S1 | .bl false => gs r S1 | _ => .bad) := by
  refine PS.weak (ps_if hc ha hb) fun D σ H ⟨μ, r, S, en, re, h⟩ => thST en re h (fun v S' hv => by cases v <;> first | rfl | exact absurd rfl (hv _)) fun μ1 H1 S1 i st re1 h1 => ?_
  cases i with
  | true => rw [if_pos rfl]; exact ⟨μ1, r, S1, en.stp st, re1, h1⟩
  | false => rw [if_neg (by decide)]; exact ⟨μ1, r, S1, en.stp st, re1, h1⟩
theorem asg_of {t : Tg} (h : tS G W (fun r S => thenS (fa r S) fun v S1 => match asgT S1 t v r with | some r1 => .nx r1 S1 | none => .bad) D σ H) : tAsg (tE G W fa) (gT G t) D σ H := by
  obtain ⟨μ, r, S, en, re, h⟩ := h
  refine thS en re h fun μ1 H1 S1 v x st re1 vx h1 => ?_
  cases e : asgT S1 t v r with
  | none => rw [e] at h1; exact (show False from h1).elim
  | some r1 =>
    rw [e] at h1
    exact ⟨μ1, r, S1, v, en.stp st, re1, vx, r1, e, fun σ' en' => h1 μ1 H1 σ' Stp.refl re1 en'⟩
theorem sS_asg {t : Tg} (he : PE X e (tE G W fa)) (hg : PG X tg (gT G t)) (hs : swapsWithSole [tg] e pos.line X.env = pure false) (hw : swappedStores [tg] e X.env = pure none) (h1 : (assignEach [tg] X.env).map (·.2) = [assign tg X.env]) :
    PS X (.Assign [tg] e pos) (tS G W fun r S => thenS (fa r S) fun v S1 => match asgT S1 t v r with | some r1 => .nx r1 S1 | none => .bad) :=
  PS.weak (ps_asg he hg hs hw h1) fun D σ H h => asg_of h
/-- y = [..] where the comprehension stores itself -/
theorem sS_setc (C : Cxt G X) {i : Nat} {y : Str} {py : Pos} {elt iter : Expr} {ifs : List Expr} {scope : Scope} {own : List (Str × Nat)} {fi : Rho → Sto → Res Iter} {fe : Rho → Sto → Res Va} {t : Tg} (hN : X.N.Nodup) (hy : X.N[i]? = some y) (hyl : X.env.scope.names.lookup y = some .local)
    (hsw : swapsWith (.ListComp elt [⟨tg, iter, ifs, 0⟩] scope pos) (some (.Name y py)) pos'.line X.env = pure true) (hi : PI X tg iter (tI G X.K W fi)) (ok : BlkOk X.N X.env.scope scope own)
    (hg : ∀ (s : Shared) (H : Hp) (C : Addr) (cl : List (Str × Addr)) (fp : List Addr), PG (X.blk s H scope (compEnvC scope cl C X.env) fp) tg (gT G t))
    (ht : ∀ (s : Shared) (H : Hp) (C : Addr) (cl : List (Str × Addr)) (fp : List Addr), PTs (X.blk s H scope (compEnvC scope cl C X.env) fp) ifs (tT G (fun _ _ => False) fc))
    (he : ∀ (s : Shared) (H : Hp) (C : Addr) (cl : List (Str × Addr)) (fp : List Addr), PE (X.blk s H scope (compEnvC scope cl C X.env) fp) elt (tE G (fun _ _ => False) fe))
    (hs : ∀ x, foldedSetIterable iter X.env x = pure x) (hsl : ∀ j ∈ tgS t, j ∈ own.map (·.2)) :
    PS X (.Assign [.Name y py] (.ListComp elt [⟨tg, iter, ifs, 0⟩] scope pos) pos') (tS G W fun r S => thenS ((fi r S).bind fun J S1 => (compL J t fc fe (wipeR r (own.map (·.2))) (lenI J S1 + 1) 0 [] S1).bind fun xs S2 => new (.lst xs) S2)
      fun v S1 => match asgT S1 (.nm i) v r with | some r1 => .nx r1 S1 | none => .bad) := by
  refine PS.weak (ps_setLc C.calm hN hy hyl hsw hi ok hg ht he hs) fun D σ H ⟨μ, r, S, en, re, h⟩ => ?_
  refine comp_of hsl (thS (fb := fun r S => (fi r S).bind fun J S1 => (compL J t fc fe (wipeR r (own.map (·.2))) (lenI J S1 + 1) 0 [] S1).bind fun xs S2 => new (.lst xs) S2) en re h fun μ1 H1 S1 v x st re1 vx h1 => ?_)
  exact h1 μ1 H1 _ Stp.refl re1 ((en.stp st).set i vx)
theorem sE_comp (C : Cxt G X) {elt iter : Expr} {ifs : List Expr} {scope : Scope} {own : List (Str × Nat)} {fi : Rho → Sto → Res Iter} {fe : Rho → Sto → Res Va} {t : Tg} (hN : X.N.Nodup) (hi : PI X tg iter (tI G X.K W fi)) (ok : BlkOk X.N X.env.scope scope own)
    (hg : ∀ (s : Shared) (H : Hp) (C : Addr) (cl : List (Str × Addr)) (fp : List Addr), PG (X.blk s H scope (compEnvC scope cl C X.env) fp) tg (gT G t))
    (ht : ∀ (s : Shared) (H : Hp) (C : Addr) (cl : List (Str × Addr)) (fp : List Addr), PTs (X.blk s H scope (compEnvC scope cl C X.env) fp) ifs (tT G (fun _ _ => False) fc))
    (he : ∀ (s : Shared) (H : Hp) (C : Addr) (cl : List (Str × Addr)) (fp : List Addr), PE (X.blk s H scope (compEnvC scope cl C X.env) fp) elt (tE G (fun _ _ => False) fe))
    (hs : ∀ x, foldedSetIterable iter X.env x = pure x) (hsl : ∀ j ∈ tgS t, j ∈ own.map (·.2)) :
    PE X (.ListComp elt [⟨tg, iter, ifs, 0⟩] scope pos) (tE G W fun r S => (fi r S).bind fun J S1 => (compL J t fc fe (wipeR r (own.map (·.2))) (lenI J S1 + 1) 0 [] S1).bind fun xs S2 => new (.lst xs) S2) :=
  PE.weak (pe_lc C.calm hN hi ok hg ht he hs) fun σ H Q h => comp_of hsl h
theorem sTs_nil : PTs X [] (tT G W fun _ S => .ok (.bl true) S) := ⟨fun pins s σ H Q I ⟨μ, r, S, en, re, h⟩ => pts_nil.run pins s σ H Q I (by
  obtain ⟨b, e, q⟩ := Wr.ok h re
  cases e
  exact q)⟩
theorem sTs_one (h : PT X c (tT G W fc)) : PTs X [c] (tT G W fc) := pts_one h
/-- a, b = x, y -/
theorem sS_par2 (C : Cxt G X) {i j : Nat} {x y : Str} {px py pt : Pos} {kt k2 pt2} (hN : X.N.Nodup) (hi : X.N[i]? = some x) (hj : X.N[j]? = some y) (hij : i ≠ j)
    (hx : X.env.scope.names.lookup x = some .local) (hy : X.env.scope.names.lookup y = some .local) (ha : PA X [a, b] (tA G W fas))
    (hw : swappedStores [.Tuple [.Name x px, .Name y py] kt pt] (.Tuple [a, b] k2 pt2) X.env = pure (some [x, y])) (hs : swapsWithSole [.Tuple [.Name x px, .Name y py] kt pt] (.Tuple [a, b] k2 pt2) pos.line X.env = pure false) :
    PS X (.Assign [.Tuple [.Name x px, .Name y py] kt pt] (.Tuple [a, b] k2 pt2) pos) (tS G W fun r S => thenS (fas r S) fun vs S1 => match setAll [i, j] vs r with | some r1 => .nx r1 S1 | none => .bad) := by
  refine PS.weak (ps_par C.calm hN hi hj hij hx hy ha hw hs) fun D σ H ⟨μ, r, S, en, re, h⟩ => thSA en re h fun μ1 H1 S1 vs xs st re1 vx h1 => ?_
  match vs, xs, vx, h1 with
  | [], _, _, h1 => exact (show False from h1).elim
  | [_], _, _, h1 => exact (show False from h1).elim
  | _ :: _ :: _ :: _, _, _, h1 => exact (show False from h1).elim
  | [u, v], _, .cons v1 (.cons v2 .nil), h1 => exact ⟨_, _, rfl, h1 μ1 H1 _ Stp.refl re1 (((en.stp st).set i v1).set j v2)⟩
theorem sS_par3 (C : Cxt G X) {i j l : Nat} {x y z : Str} {px py pz pt : Pos} {kt k2 pt2} (hN : X.N.Nodup) (hi : X.N[i]? = some x) (hj : X.N[j]? = some y) (hl : X.N[l]? = some z) (hij : i ≠ j) (hil : i ≠ l) (hjl : j ≠ l)
    (hx : X.env.scope.names.lookup x = some .local) (hy : X.env.scope.names.lookup y = some .local) (hz : X.env.scope.names.lookup z = some .local) (ha : PA X [a, b, c] (tA G W fas))
    (hw : swappedStores [.Tuple [.Name x px, .Name y py, .Name z pz] kt pt] (.Tuple [a, b, c] k2 pt2) X.env = pure (some [x, y, z])) (hs : swapsWithSole [.Tuple [.Name x px, .Name y py, .Name z pz] kt pt] (.Tuple [a, b, c] k2 pt2) pos.line X.env = pure false) :
    PS X (.Assign [.Tuple [.Name x px, .Name y py, .Name z pz] kt pt] (.Tuple [a, b, c] k2 pt2) pos) (tS G W fun r S => thenS (fas r S) fun vs S1 => match setAll [i, j, l] vs r with | some r1 => .nx r1 S1 | none => .bad) := by
  refine PS.weak (ps_par3 C.calm hN hi hj hl hij hil hjl hx hy hz ha hw hs) fun D σ H ⟨μ, r, S, en, re, h⟩ => thSA en re h fun μ1 H1 S1 vs xs st re1 vx h1 => ?_
  match vs, xs, vx, h1 with
  | [], _, _, h1 => exact (show False from h1).elim
  | [_], _, _, h1 => exact (show False from h1).elim
  | [_, _], _, _, h1 => exact (show False from h1).elim
  | _ :: _ :: _ :: _ :: _, _, _, h1 => exact (show False from h1).elim
  | [u, v, w], _, .cons v1 (.cons v2 (.cons v3 .nil)), h1 => exact ⟨_, _, _, rfl, h1 μ1 H1 _ Stp.refl re1 ((((en.stp st).set i v1).set j v2).set l v3)⟩
/-! ### fields and items stored -/
theorem setF_ok (F : GF G) (re : Rel G μ S H) {v u : Va} {x y : V} {f : Nat} {S' : Sto} (vx : VR G μ v x) (vy : VR G μ u y) (e : setF G.T v f u S = some S') :
    ∃ p c d ws, x = .ref p ∧ H p = some (.ins (G.cA c) d ws) ∧ G.T.fl c f = true ∧ ws.length < 1000 ∧ Stp μ H μ (upd H p (.ins (G.cA c) d (L2.putF (G.nm f) y ws))) ∧ Rel G μ S' (upd H p (.ins (G.cA c) d (L2.putF (G.nm f) y ws))) := by
  unfold setF at e
  cases v <;> try cases e
  rename_i l
  dsimp only at e
  cases q : S[l]? with
  | none => rw [q] at e; cases e
  | some ob =>
    rw [q] at e
    cases ob <;> try cases e
    rename_i c dx fs
    dsimp only at e
    split at e
    · rename_i hf
      cases e
      obtain ⟨p, hp, d, ws, k1, k2, k3⟩ := re.at_ l _ q
      obtain ⟨p', hp', rfl⟩ := vx
      rw [hp] at hp'
      cases hp'
      have hl : ws.length < 1000 := by rw [← pr_len k3]; omega
      refine ⟨p, c, d, ws, rfl, k1, hf.1, hl, Stp.set hp, re.set q hp (fun ob x z => by rw [k1] at z; cases z) ⟨d, _, upd_same, k2, putF_ok vy k3⟩⟩
    · cases e
theorem sS_setf (C : Cxt G X) (F : GF G) {f : Nat} {m : Str} (hm : G.nm f = m) (he : PE X e (tE G W fa)) (ho : PE X o (tE G W fo)) (hs : swapsWith e (some (.Attribute o m pos')) pos.line X.env = pure false) :
    PS X (.Assign [.Attribute o m pos'] e pos) (tS G W fun r S => thenS (fa r S) fun v S1 => thenS (fo r S1) fun x S2 => match setF G.T x f v S2 with | some S3 => .nx r S3 | none => .bad) := by
  refine PS.weak (ps_fld ho he hs) fun D σ H ⟨μ, r, S, en, re, h⟩ => thS en re h fun μ1 H1 S1 v x st re1 vx h1 => thS (en.stp st) re1 h1 fun μ2 H2 S2 u y st2 re2 vy h2 => ?_
  cases q : setF G.T u f v S2 with
  | none => rw [q] at h2; exact (show False from h2).elim
  | some S3 =>
    rw [q] at h2
    obtain ⟨p, c, d, ws, rfl, k1, k2, k3, k4, k5⟩ := setF_ok F re2 vy (vx.stp st2) q
    obtain ⟨g1, g2⟩ := F.fl c f k2
    refine ⟨p, G.cA c, d, ws, rfl, k1, by rw [C.K]; exact g1, by rw [C.K, ← hm]; exact g2, k3, ?_⟩
    rw [← hm]
    exact h2 μ2 _ σ k4 k5 ((en.stp st).stp st2)
theorem fld_ok (re : Rel G μ S H) {v : Va} {x : V} {f : Nat} {u : Va} {S' : Sto} (vx : VR G μ v x) (e : fld G.T v f S = .ok u S') : ∃ p c d ws y, x = .ref p ∧ H p = some (.ins (G.cA c) d ws) ∧ G.T.fl c f = true ∧ ws.lookup (G.nm f) = some y ∧ VR G μ u y := by
  unfold fld at e
  cases v <;> try cases e
  rename_i l
  dsimp only at e
  cases q : S[l]? with
  | none => rw [q] at e; cases e
  | some ob =>
    rw [q] at e
    cases ob <;> try cases e
    rename_i c dx fs
    dsimp only at e
    split at e
    · rename_i hf
      cases e1 : lookF f fs with
      | none => rw [e1] at e; cases e
      | some z =>
        rw [e1] at e
        cases e
        obtain ⟨p, hp, d, ws, k1, k2, k3⟩ := re.at_ l _ q
        obtain ⟨y, k4, k5⟩ := lookF_ok e1 k3
        obtain ⟨p', hp', rfl⟩ := vx
        rw [hp] at hp'
        cases hp'
        exact ⟨p, c, d, ws, y, rfl, k1, hf, k4, k5⟩
    · cases e
theorem sS_augf (C : Cxt G X) (F : GF G) {f : Nat} {m : Str} {k : Int} {kk : Nat} {cp : Pos} (hm : G.nm f = m) (ho : PE X o (tE G W fo)) :
    PS X (.AugAssign (.Attribute o m pos') .Add (.Constant (.int k) kk cp) pos) (tS G W fun r S => thenS (fo r S) fun x S1 => match fld G.T x f S1 with
      | .ok (.int i) _ => (match setF G.T x f (.int (i + k)) S1 with | some S3 => .nx r S3 | none => .bad)
      | _ => .bad) := by
  refine PS.weak (ps_fldaug ho pe_int in_add) fun D σ H ⟨μ, r, S, en, re, h⟩ => thS en re h fun μ1 H1 S1 v x st re1 vx h1 => ?_
  cases e1 : fld G.T v f S1 with
  | bad => rw [e1] at h1; exact (show False from h1).elim
  | exc c S' => rw [e1] at h1; exact (show False from h1).elim
  | ok z S' =>
    rw [e1] at h1
    cases z <;> try exact (show False from h1).elim
    rename_i i
    dsimp only at h1
    obtain ⟨p, c, d, ws, y, rfl, k1, k2, k3, k4⟩ := fld_ok re1 vx e1
    obtain ⟨g1, g2⟩ := F.fl c f k2
    cases q2 : setF G.T v f (.int (i + k)) S1 with
    | none => rw [q2] at h1; exact (show False from h1).elim
    | some S3 =>
      rw [q2] at h1
      obtain ⟨p2, c2, d2, ws2, e2, m1, m2, m3, m4, m5⟩ := setF_ok F re1 vx (show VR G μ1 (.int (i + k)) (.int (i + k)) from rfl) q2
      cases e2
      have k1' := k1
      rw [m1] at k1'
      have e3 := Option.some.inj k1'
      injection e3 with e4 e5 e6
      subst e5 e6
      rw [e4] at m4 m5
      refine ⟨p, _, d2, ws2, y, rfl, k1, by rw [C.K]; exact g1, by rw [C.K, ← hm]; exact g2, by rw [← hm]; exact k3, i, k, k4, rfl, d2, ws2, k1, m3, ?_⟩
      rw [← hm]
      exact h1 μ1 _ σ m4 m5 (en.stp st)
theorem any_ok {k : Int} : ∀ {kvs : List (Int × Va)} {ws : List (Key × V)}, Paired (DR G μ) kvs ws → (ws.any fun kv => decide (kv.1 = Sum.inl k)) = kvs.any fun kv => decide (kv.1 = k)
  | _, _, .nil => rfl
  | (j, u) :: r, (q1, q2) :: ws, .cons h t => by
    have h1 : q1 = Sum.inl j := h.1
    subst h1
    rw [List.any_cons, List.any_cons, any_ok t]
    congr 1
    by_cases e : j = k
    · simp [e]
    · simp [e]
theorem map_ok {k : Int} {v : Va} {x : V} (hv : VR G μ v x) : ∀ {kvs : List (Int × Va)} {ws : List (Key × V)}, Paired (DR G μ) kvs ws → Paired (DR G μ) (kvs.map fun kv => if kv.1 = k then (kv.1, v) else kv) (ws.map fun kv => if kv.1 = Sum.inl k then (kv.1, x) else kv)
  | _, _, .nil => .nil
  | (j, u) :: r, (q1, q2) :: ws, .cons h t => by
    have h1 : q1 = Sum.inl j := h.1
    subst h1
    rw [List.map_cons, List.map_cons]
    by_cases e : j = k
    · subst e
      rw [if_pos rfl, if_pos rfl]
      exact .cons ⟨rfl, hv⟩ (map_ok hv t)
    · rw [if_neg e, if_neg (by intro z; exact e (Sum.inl.inj z))]
      exact .cons h (map_ok hv t)
theorem put_ok {k : Int} {v : Va} {x : V} (hv : VR G μ v x) {kvs : List (Int × Va)} {ws : List (Key × V)} (p : Paired (DR G μ) kvs ws) : Paired (DR G μ) (put k v kvs) (putK ws (Sum.inl k) x) := by
  unfold put putK
  rw [any_ok p]
  split
  · exact map_ok hv p
  · exact pr_app p (.cons ⟨rfl, hv⟩ .nil)
/-- three expressions one behind another, each known -/
theorem three_of {k : Va → Va → Va → Sto → Fl} {R : V → V → V → Hp → Prop} (en : Env G μ r σ) (re : Rel G μ S H) (h : Wf G μ H (thenS (fa r S) fun v S1 => thenS (fo r S1) fun x S2 => thenS (fi r S2) fun y S3 => k v x y S3) W D)
    (f : ∀ v S1 x S2 y S3, fa r S = .ok v S1 → fo r S1 = .ok x S2 → fi r S2 = .ok y S3 → ∀ μ3 H3 v' x' y', Env G μ3 r σ → Rel G μ3 S3 H3 → VR G μ3 v v' → VR G μ3 x x' → VR G μ3 y y' → Wf G μ3 H3 (k v x y S3) W D → R v' x' y' H3) :
    tE G W fa σ H fun v' H1 => tE G W fo σ H1 fun x' H2 => tE G W fi σ H2 fun y' H3 => R v' x' y' H3 := by
  refine ⟨μ, r, S, en, re, ?_⟩
  cases e1 : fa r S with
  | bad => rw [e1] at h; exact h
  | exc c S' => rw [e1] at h; exact h
  | ok v S1 =>
    rw [e1] at h
    intro μ1 H1 st1 re1 v' vv
    refine ⟨μ1, r, S1, en.stp st1, re1, ?_⟩
    have h1 : Wf G μ1 H1 (thenS (fo r S1) fun x S2 => thenS (fi r S2) fun y S3 => k v x y S3) W D := Wf.stp h st1
    cases e2 : fo r S1 with
    | bad => rw [e2] at h1; exact h1
    | exc c S' => rw [e2] at h1; exact h1
    | ok x S2 =>
      rw [e2] at h1
      intro μ2 H2 st2 re2 x' vx
      refine ⟨μ2, r, S2, (en.stp st1).stp st2, re2, ?_⟩
      have h2 : Wf G μ2 H2 (thenS (fi r S2) fun y S3 => k v x y S3) W D := Wf.stp h1 st2
      cases e3 : fi r S2 with
      | bad => rw [e3] at h2; exact h2
      | exc c S' => rw [e3] at h2; exact h2
      | ok y S3 =>
        rw [e3] at h2
        intro μ3 H3 st3 re3 y' vy
        exact f v S1 x S2 y S3 e1 e2 e3 μ3 H3 v' x' y' (((en.stp st1).stp st2).stp st3) re3 ((vv.stp st2).stp st3) (vx.stp st3) vy (Wf.stp h2 st3)
/-- o[i] = e of a list, a dict -/
theorem sS_seti (C : Cxt G X) (he : PE X e (tE G W fa)) (ho : PE X o (tE G W fo)) (hi : PE X i (tE G W fi)) (hsub : ∀ v, assign (.Subscript o i pos') X.env v = (do
      let ov ← holding [v] (eval o X.env)
      let iv ← holding [v, ov] (eval i X.env)
      standAt pos'
      holding [v, ov, iv] (setItem ov iv v)
      release [v, ov, iv] [])) (hs : swapsWith e (some (.Subscript o i pos')) pos.line X.env = pure false) :
    PS X (.Assign [.Subscript o i pos'] e pos) (tS G W fun r S => thenS (fa r S) fun v S1 => thenS (fo r S1) fun x S2 => thenS (fi r S2) fun y S3 => match setI x y v S3 with | some S4 => .nx r S4 | none => .bad) := by
  have hu : X.A.units + 1 < cLine := by have := C.un; omega
  have k1 : PS X (.Assign [.Subscript o i pos'] e pos) _ := ps_asg he (pg_sub ho hi set_list hsub) hs rfl rfl
  have k2 : PS X (.Assign [.Subscript o i pos'] e pos) _ := ps_dput hu ho hi he hs
  refine ⟨fun pins s σ H D I ⟨μ, r, S, en, re, h⟩ => ?_⟩
  by_cases hd : ∃ v S1 x S2 y S3 l kvs, fa r S = .ok v S1 ∧ fo r S1 = .ok x S2 ∧ fi r S2 = .ok y S3 ∧ x = .loc l ∧ S3[l]? = some (.dct kvs)
  · refine k2.run pins s σ H D I (three_of en re h fun v S1 x S2 y S3 q1 q2 q3 μ3 H3 v' x' y' en3 re3 vv vx vy h3 => ?_)
    obtain ⟨v0, S10, x0, S20, y0, S30, l, kvs, e1, e2, e3, e4, e5⟩ := hd
    rw [q1] at e1
    cases e1
    rw [q2] at e2
    cases e2
    rw [q3] at e3
    cases e3
    subst e4
    unfold setI at h3
    cases y <;> try exact (show False from h3).elim
    rename_i k
    dsimp only at h3
    rw [e5] at h3
    dsimp only at h3
    split at h3
    · rename_i S4 e6
      split at e6
      · rename_i hl
        cases e6
        obtain ⟨p, hp, ws, g1, g2⟩ := re3.at_ l _ e5
        obtain ⟨p', hp', rfl⟩ := vx
        rw [hp] at hp'
        cases hp'
        have ey : y' = V.int k := vy
        subst ey
        refine ⟨p, _, rfl, DPut.k (k := Sum.inl k) g1 (by rw [← pr_len g2, ← line_eq]; exact hl), ?_⟩
        exact h3 μ3 _ σ (Stp.set hp) (re3.set e5 hp (fun ob x z => by rw [g1] at z; cases z) ⟨_, upd_same, put_ok vv g2⟩) en3
      · cases e6
    · exact (show False from h3).elim
  · refine k1.run pins s σ H D I (three_of en re h fun v S1 x S2 y S3 q1 q2 q3 μ3 H3 v' x' y' en3 re3 vv vx vy h3 => ?_)
    unfold setI at h3
    cases x <;> cases y <;> try exact (show False from h3).elim
    rename_i l k
    dsimp only at h3
    cases e5 : S3[l]? with
    | none => rw [e5] at h3; exact (show False from h3).elim
    | some ob =>
      rw [e5] at h3
      cases ob <;> try exact (show False from h3).elim
      · rename_i xs
        dsimp only at h3
        obtain ⟨p, hp, ys, g1, g2⟩ := re3.at_ l _ e5
        obtain ⟨p', hp', rfl⟩ := vx
        rw [hp] at hp'
        cases hp'
        have ey : y' = V.int k := vy
        subst ey
        cases e6 : Ev.ixN xs.length k with
        | none => rw [e6] at h3; exact (show False from h3).elim
        | some j =>
          rw [e6] at h3
          dsimp only at h3
          have e7 : L2.ixN ys.length k = some j := by rw [← pr_len g2]; exact e6
          exact ⟨p, ys, k, j, rfl, rfl, g1, e7, h3 μ3 _ σ (Stp.set hp) (re3.setL e5 hp g1 (pr_set vv j g2)) en3⟩
      · rename_i kvs
        exact absurd ⟨v, S1, _, S2, _, S3, l, kvs, q1, q2, q3, rfl, e5⟩ hd
/-! ### loops -/
theorem sS_for (C : Cxt G X) {t : Tg} {iter : Expr} {body : List Stmt} {fi : Rho → Sto → Res Iter} (hp : PassesOwn (model X.prog X.w) X.A X.env X.xe) (hi : PI X tg iter (tI G X.K W fi)) (hg : PG X tg (gT G t)) (hb : PSs X body (tS G W fs)) (hs : ∀ x, foldedSetIterable iter X.env x = pure x) :
    PS X (.For tg iter body [] pos) (tS G W fun r S => thenS (fi r S) fun J S1 => forL J t fs (lenI J S1 + 1) 0 r S1) := by
  refine PS.weak (ps_for hp C.calm hi hg hb hs) fun D σ H ⟨μ, r, S, en, re, h⟩ => ?_
  refine ⟨μ, r, S, en, re, (Wf.th h).imp fun J μ1 H1 ⟨S1, re1, st1, h1⟩ Jt jr => ?_⟩
  refine ⟨fun i m σc Hc => ∃ μ' r' S', Stp μ1 H1 μ' Hc ∧ Rel G μ' S' Hc ∧ Env G μ' r' σc ∧ Wf G μ' Hc (forL J t fs m i r' S') W D, ⟨lenI J S1 + 1, μ1, r, S1, Stp.refl, re1, en.stp st1, h1⟩, fun i m σc Hc ⟨μ', r', S', st, re', en', hk⟩ => ?_⟩
  cases m with
  | zero => exact (show False from hk).elim
  | succ m =>
    simp only [forL] at hk
    cases en1 : nextI J i S' with
    | none => rw [en1] at hk; exact (show False from hk).elim
    | some o =>
      rw [en1] at hk
      cases o with
      | none => exact .inl ⟨next_stop re' (jr.stp st) en1, hk μ' Hc σc Stp.refl re' en'⟩
      | some p =>
        obtain ⟨v, S2⟩ := p
        dsimp only at hk
        obtain ⟨g1, g2⟩ := next_go re' (jr.stp st) en1
        refine .inr ⟨g1, fun σ2 H2 => ∃ μ2 r2 S2, Stp μ1 H1 μ2 H2 ∧ Rel G μ2 S2 H2 ∧ Env G μ2 r2 σ2 ∧ Wf G μ2 H2 (forL J t fs m (i + 1) r2 S2) W D, fun σ2 H2 hh => ⟨m, Nat.lt_succ_self m, hh⟩, fun x H' hy => ?_⟩
        obtain ⟨μ2, st2, re2, vx⟩ := g2 x H' hy
        cases e1 : asgT S2 t v r' with
        | none => rw [e1] at hk; exact (show False from hk).elim
        | some r1 =>
          rw [e1] at hk
          dsimp only at hk
          refine ⟨μ2, r', S2, v, en'.stp st2, re2, vx, r1, e1, fun σ2 en2 => ⟨μ2, r1, S2, en2, re2, ?_⟩⟩
          have hk2 := Wf.stp hk st2
          cases e2 : fs r1 S2 with
          | nx r3 S3 =>
            rw [e2] at hk2
            exact fun μ3 H3 σ3 st3 re3 en3 => ⟨μ3, r3, S3, (st.trans st2).trans st3, re3, en3, Wf.stp hk2 st3⟩
          | ct r3 S3 =>
            rw [e2] at hk2
            exact fun μ3 H3 σ3 st3 re3 en3 => ⟨μ3, r3, S3, (st.trans st2).trans st3, re3, en3, Wf.stp hk2 st3⟩
          | bk r3 S3 => rw [e2] at hk2; exact hk2
          | rt v S3 => rw [e2] at hk2; exact hk2
          | exc c S3 => rw [e2] at hk2; exact hk2
          | bad => rw [e2] at hk2; exact hk2
theorem sS_while (C : Cxt G X) {body : List Stmt} (hp : PassesOwn (model X.prog X.w) X.A X.env X.xe) (hc : PT X c (tT G W fc)) (hb : PSs X body (tS G W fs)) (n : Nat) : PS X (.While c body [] pos) (tS G W fun r S => whileL fc fs n r S) := by
  refine PS.weak (ps_while hp hc hb) fun D σ H ⟨μ, r, S, en, re, h⟩ => ?_
  refine ⟨fun m σc Hc => ∃ μ' r' S', Rel G μ' S' Hc ∧ Env G μ' r' σc ∧ Wf G μ' Hc (whileL fc fs m r' S') W D, ⟨n, μ, r, S, re, en, h⟩, fun m σc Hc ⟨μ', r', S', re', en', hk⟩ => ?_⟩
  cases m with
  | zero => exact (show False from hk).elim
  | succ m =>
    simp only [whileL] at hk
    refine ⟨μ', r', S', en', re', ?_⟩
    cases e1 : fc r' S' with
    | bad => rw [e1] at hk; exact hk
    | exc cc S1 => rw [e1] at hk; exact hk
    | ok v S1 =>
      rw [e1] at hk
      intro μ1 H1 st1 re1
      cases v <;> try exact (show False from hk).elim
      rename_i b
      refine ⟨b, rfl, ?_⟩
      cases b with
      | false =>
        rw [if_neg (by decide)]
        exact hk μ1 H1 σc st1 re1 (en'.stp st1)
      | true =>
        rw [if_pos rfl]
        dsimp only at hk
        refine ⟨fun σ2 H2 => ∃ μ2 r2 S2, Rel G μ2 S2 H2 ∧ Env G μ2 r2 σ2 ∧ Wf G μ2 H2 (whileL fc fs m r2 S2) W D, fun σ2 H2 hh => ⟨m, Nat.lt_succ_self m, hh⟩, μ1, r', S1, en'.stp st1, re1, ?_⟩
        have hk2 := Wf.stp hk st1
        cases e2 : fs r' S1 with
        | nx r3 S3 =>
          rw [e2] at hk2
          exact fun μ3 H3 σ3 st3 re3 en3 => ⟨μ3, r3, S3, re3, en3, Wf.stp hk2 st3⟩
        | ct r3 S3 =>
          rw [e2] at hk2
          exact fun μ3 H3 σ3 st3 re3 en3 => ⟨μ3, r3, S3, re3, en3, Wf.stp hk2 st3⟩
        | bk r3 S3 => rw [e2] at hk2; exact hk2
        | rt v S3 => rw [e2] at hk2; exact hk2
        | exc c S3 => rw [e2] at hk2; exact hk2
        | bad => rw [e2] at hk2; exact hk2
/-- raise C('..') -/
theorem sS_raise {cid : Nat} {ex : Expr} (C : Cxt G X) (tk : L2N.Takes X (fun cls d _ H => EW G W cls d H)) (he : L2N.PMk X ex fun _ H Q => Q (.ref (G.cA cid)) none H) : PS X (.Raise (some ex) none pos) (tS G W fun _ S => .exc cid S) := by
  refine PS.weak (L2N.ps_raise C.calm tk he) fun D σ H ⟨μ, r, S, en, re, h⟩ => ?_
  exact ⟨cid, rfl, rfl, h μ H Stp.refl re⟩
end
end Ev
end

section
set_option Elab.async false
set_option linter.all false
set_option maxRecDepth 100000
set_option maxHeartbeats 1000000
/-! EvC: a lambda handed to a def. -/
namespace Ev
open PySem PySem.Spec PyProof.Rows L2 LamX NdefX
/-! ### the running def with the lambda that it was handed -/
@[reducible] def GE.wl (G : GE) (f : Nat) (a : Addr) (ws : List V) (cq : Addr × Str) : GE := { G with hd := fun k => if k = f then some (a, ws) else none, cods := [cq] }
section
variable {G : GE} {f : Nat} {a : Addr} {ws : List V} {cq : Addr × Str} {μ μ' : List Addr} {S S' : Sto} {H H' : Hp} {W : WC}
theorem VR_wl : VR (G.wl f a ws cq) μ = VR G μ := by
  funext v x
  cases v <;> rfl
theorem VRs_wl : VRs (G.wl f a ws cq) μ = VRs G μ := by
  show Paired (VR (G.wl f a ws cq) μ) = Paired (VR G μ)
  rw [VR_wl]
theorem OAt_wl {c : Addr} {o : Ob} : OAt (G.wl f a ws cq) μ H c o = OAt G μ H c o := by
  cases o with
  | lst xs => show (∃ ys, _ ∧ VRs (G.wl f a ws cq) μ xs ys) = _; rw [VRs_wl]; rfl
  | tup xs => show (∃ ys, _ ∧ VRs (G.wl f a ws cq) μ xs ys) = _; rw [VRs_wl]; rfl
  | dct kvs =>
    have e : DR (G.wl f a ws cq) μ = DR G μ := by funext p q; unfold DR; rw [VR_wl]
    show (∃ ws', _ ∧ Paired (DR (G.wl f a ws cq) μ) kvs ws') = _
    rw [e]; rfl
  | ins c dx fs =>
    have e : FR (G.wl f a ws cq) μ = FR G μ := by funext p q; unfold FR; rw [VR_wl]
    show (∃ d ws', _ ∧ _ ∧ Paired (FR (G.wl f a ws cq) μ) fs ws') = _
    rw [e]; rfl
  | own x => rfl
theorem Rel.up (R : Rel G μ S H) (h1 : H cq.1 = some (CodeO cq.1 cq.2)) (h2 : cq.1 ∉ μ) : Rel (G.wl f a ws cq) μ S H :=
  ⟨R.len, fun l o e => by obtain ⟨b, k1, k2⟩ := R.at_ l o e; exact ⟨b, k1, by rw [OAt_wl]; exact k2⟩, R.inj, R.scr, R.tab, fun p hp => by
    rw [List.mem_singleton.mp hp]
    exact ⟨h1, h2⟩⟩
theorem Rel.down (h0 : G.cods = []) (R : Rel (G.wl f a ws cq) μ S H) : Rel G μ S H :=
  ⟨R.len, fun l o e => by obtain ⟨b, k1, k2⟩ := R.at_ l o e; exact ⟨b, k1, by rw [OAt_wl] at k2; exact k2⟩, R.inj, R.scr, R.tab, fun p hp => by
    rw [h0] at hp
    cases hp⟩
theorem code_stp {c : Addr} {q : Str} (h1 : H c = some (CodeO c q)) (h2 : c ∉ μ) (st : Stp μ H μ' H') : H' c = some (CodeO c q) ∧ c ∉ μ' := by
  refine ⟨st.fr c _ h2 h1 (codeO_ne (c := c) (q := q)), fun z => ?_⟩
  obtain ⟨ν, rfl, hν⟩ := st.ext
  rcases List.mem_append.mp z with z | z
  · exact h2 z
  · rw [hν c z] at h1
    cases h1
theorem Rel.cod1 (R : Rel (G.wl f a ws cq) μ S H) : H cq.1 = some (CodeO cq.1 cq.2) ∧ cq.1 ∉ μ := R.cod cq (List.mem_singleton.mpr rfl)
theorem Wr_down {α : Type} {r : Res α} {k : α → List Addr → Hp → Prop} (R : Rel (G.wl f a ws cq) μ S H) (h : Wr (G.wl f a ws cq) μ H r W k) : Wr G μ H r W k := by
  obtain ⟨c1, c2⟩ := R.cod1
  cases r with
  | ok v S1 =>
    intro m h' st R'
    obtain ⟨d1, d2⟩ := code_stp c1 c2 st
    exact h m h' st (R'.up d1 d2)
  | exc c S1 =>
    intro m h' st R'
    obtain ⟨d1, d2⟩ := code_stp c1 c2 st
    exact h m h' st (R'.up d1 d2)
  | bad => exact h
theorem Wr_up {α : Type} {r : Res α} {k : α → List Addr → Hp → Prop} (h0 : G.cods = []) (h : Wr G μ H r W k) : Wr (G.wl f a ws cq) μ H r W k := by
  cases r with
  | ok v S1 => exact fun m h' st R' => h m h' st (R'.down h0)
  | exc c S1 => exact fun m h' st R' => h m h' st (R'.down h0)
  | bad => exact h
theorem FnAt_wl (h0 : G.cods = []) {d g : Nat} (F : FnAt G d g) : FnAt (G.wl f a ws cq) d g := by
  obtain ⟨fd, ps, F, h1, h2⟩ := F
  refine ⟨fd, ps, FnOk.imp F fun vs H Q E ⟨μ, as, S, W, va, re, h, hE⟩ => ⟨μ, as, S, W, ?_, re.down h0, ?_, hE⟩, h1, h2⟩
  · rw [VRs_wl] at va; exact va
  · have := Wr_down re h
    refine this.imp fun v μ' H' k x vx => k x (by rw [VR_wl]; exact vx)
theorem GF_wl (F : GF G) : GF (G.wl f a ws cq) := ⟨F.fl, F.mth, F.ini, F.ini0, F.sub, F.subT, F.insT⟩
end
/-! ### what a lambda promises -/
/-- captured first, then handed -/
def spL (G : GE) (d f : Nat) (wsV : List V) : Sp := fun vs H Q E => ∃ μ as ws S W, VRs G μ as vs ∧ VRs G μ ws wsV ∧ Rel G μ S H ∧ Wr G μ H (run G.T d f (ws ++ as) S) W (fun v μ' H' => ∀ x, VR G μ' v x → Q x H') ∧ ∀ c H', W c H' → E (.ref (G.cA c)) none H'
/-- the function at a, made in the state s, may be called while the frames outer stand -/
def CloC (G : GE) (d f : Nat) (a : Addr) (wsV : List V) (outer : List PySem.Env) (s : Shared) (H : Hp) (cq : Addr × Str) : Prop :=
  PySem.W.FnAt a s.heap ∧ H a = none ∧ a ∉ frs outer ∧ ∀ (A : Around) (outer1 : List PySem.Env) (s1 : Shared) (H1 : Hp) (us : List Value) (vs : List V) (Q : VK) (E : XK), Room (lvl d) A → Env0 G.P G.w G.K G.mg G.base A outer1 s1 H1 → Un (frs outer) [] H H1 s.heap s1.heap →
    H1 cq.1 = some (CodeO cq.1 cq.2) → Vals vs us → spL G d f wsV vs H1 Q E → codeAny (model G.P G.w) A (.call (.ref a) ⟨us, []⟩) (CR (L2N.CX G.P G.w) outer1 G.P G.w H1 s1 Q E) s1
end Ev
end

section
set_option Elab.async false
set_option linter.all false
set_option maxRecDepth 100000
set_option maxHeartbeats 1000000
/-! EvD: a lambda is made, handed, called. -/
namespace Ev
open PySem PySem.Spec PyProof.Rows L2 LamX NdefX
section
variable {X : Cx} {pins : List (Addr × Obj)} {σ : L2.St} {H H' : Hp} {s s1 : Shared}
/-- lam_make2, told besides: nothing that was tracked is gone -/
theorem lam_new {TT : List (Addr × Str)} {cA tA : Addr} {par : Arguments} {bd : Expr} {sco : Scope} {lp : Pos} {EE : Value → Shared → Prop} {Q : Value → Shared → Prop} (I0 : Inv X pins σ H s) (tb : TabB X.base X.mg cA tA) (hco : X.env.code = .ref cA)
    (hin : (tA, X.env.qual ++ "<lambda>") ∈ TT) (hone : ∀ p ∈ TT, p.1 = tA → p.2 = X.env.qual ++ "<lambda>") (tabs0 : Tabs TT H) (nodef : defaultsOf par X.env = ([], [])) (frees : ∀ y ∈ sco.names, y.2 = .free → ∃ cc, X.env.cells.lookup y.1 = some cc)
    (go : ∀ (fa ca : Addr) (pmv ctv : Value) (HH : Hp) (s2 : Shared), Inv X pins σ HH s2 → ExtN H HH → (∀ b, HH b = none → H b = none) → Tabs TT HH →
      s2.heap.get? fa = some (PySem.W.kla_obj "<lambda>" (X.env.qual ++ "<lambda>") par bd sco (cloFrom X.env.cells sco.names []) pmv ca ctv) → HH fa = none → fa ∉ frs X.stack → fa ∉ X.fs → fa ≠ X.env.locals → HH ca = some (CodeO ca (X.env.qual ++ "<lambda>")) → Q (.ref fa) s2) :
    wpAny (model X.prog X.w) X.A (eval (.Lambda par bd sco lp) X.env) Q EE s := by
  obtain ⟨tr, atP, tok, hnm⟩ := tabs0 _ hin
  have bl0 : s.heap.BuiltinsAt X.mg tA := tb.bm.keeps I0.bk
  have objP : s.heap.get? tA = some { cls := .none, data := .fields tr } := I0.hok tA _ atP
  have fresh_fr : ∀ b, s.heap.objs.size ≤ b → b ∉ frs X.stack ∧ b ∉ X.fs ∧ b ≠ X.env.locals := fun b hb => by
    have hl : b ≠ X.env.locals := fun z => Nat.lt_irrefl _ (Nat.lt_of_lt_of_le I0.lt (by rw [← z]; exact hb))
    refine ⟨fun z => ?_, I0.nofs hb, hl⟩
    rcases List.mem_cons.mp (I0.stkSub b z) with e | e
    · exact hl e
    · exact I0.nofs hb e
  refine PySem.W.kla_eval nodef ?_
  cases look : codeAmong lp tr.toList with
  | some cv =>
    obtain ⟨ca, e, known⟩ := hnm lp cv look
    subst e
    refine PySem.W.kla_makeFunctionHit (mg := X.mg) (c := cA) (P := tA) (ps := tr) (closure_ok frees) I0.ok.glob (I0.mod.glob.keeps I0.bk) hco (tb.code.keeps I0.bk) objP tok look bl0 fun ctv hp tk keep grow => ?_
    obtain ⟨n1, n2, n3⟩ := fresh_fr hp.objs.size grow
    have I1 : Inv X pins σ H { s with heap := hp.push (PySem.W.kla_obj "<lambda>" (X.env.qual ++ "<lambda>") par bd sco (cloFrom X.env.cells sco.names []) ((X.mg "__name__").getD .none) ca ctv), toks := tk } :=
      I0.kept fun b o e => Heap.get?_push_of_some _ (keep b o e)
    exact go hp.objs.size ca _ ctv H _ I1 (ExtN.refl H) (fun _ z => z) tabs0 (Heap.get?_push_size _ rfl) (I0.hok.fresh grow) n1 n2 n3 known
  | none =>
    refine PySem.W.kla_makeFunction (mg := X.mg) (c := cA) (P := tA) (ps := tr) (closure_ok frees) I0.ok.glob (I0.mod.glob.keeps I0.bk) hco (tb.code.keeps I0.bk) objP tok look tb.gP bl0 fun ca ctv hp tk ext grow below rec newt => ?_
    obtain ⟨c2, oc, vs, t, e2, getc, datc, namc⟩ := rec
    cases e2
    have growF : s.heap.objs.size ≤ hp.objs.size := by omega
    obtain ⟨n1, n2, n3⟩ := fresh_fr hp.objs.size growF
    have freeC : H ca = none := I0.hok.fresh grow
    have apart : tA ≠ ca := ne_of_none atP freeC
    have I1 := inv_table (t' := tk) (more := #[rawInt lp.line, rawInt lp.col, .ref ca]) (h' := hp.push (PySem.W.kla_obj "<lambda>" (X.env.qual ++ "<lambda>") par bd sco (cloFrom X.env.cells sco.names []) ((X.mg "__name__").getD .none) ca ctv)) I0 atP
      (fun b o nb e => Heap.get?_push_of_some _ (ext b o nb e)) (Heap.get?_push_of_some _ newt) grow ⟨oc, vs, t, Heap.get?_push_of_some _ getc, datc, namc⟩
    have keepN : ExtN H (upd (upd H tA (.tbl (tr ++ #[rawInt lp.line, rawInt lp.col, .ref ca]))) ca (CodeO ca (X.env.qual ++ "<lambda>"))) := fun b o e nt => by
      have nb : b ≠ tA := fun z => nt tr (by rw [z, atP] at e; exact (Option.some.inj e).symm)
      rw [upd_ne (ne_of_none e freeC), upd_ne nb]
      exact e
    have trL : (tr ++ #[rawInt lp.line, rawInt lp.col, .ref ca]).toList = tr.toList ++ [rawInt lp.line, rawInt lp.col, .ref ca] := by simp
    refine go hp.objs.size ca _ ctv _ _ I1 keepN (fun b e => upd_none (upd_none e)) (fun p hp2 => ?_) (Heap.get?_push_size _ rfl) ?_ n1 n2 n3 upd_same
    · by_cases hb : p.1 = tA
      · rw [hone p hp2 hb, hb]
        refine ⟨_, by rw [upd_ne apart, upd_same], by rw [trL]; exact PySem.TriplesOk_snoc _ _ _ _ tok, fun q cv hcv => ?_⟩
        rw [trL] at hcv
        rcases among_app _ tok hcv with z | z
        · obtain ⟨c0, e1, e2⟩ := hnm q cv z
          exact ⟨c0, e1, keepN _ _ e2 codeO_ne⟩
        · exact ⟨ca, z, upd_same⟩
      · obtain ⟨tr2, a1, a2, a3⟩ := tabs0 p hp2
        refine ⟨tr2, by rw [upd_ne (ne_of_none a1 freeC), upd_ne hb]; exact a1, a2, fun q cv hcv => ?_⟩
        obtain ⟨c0, e1, e2⟩ := a3 q cv hcv
        exact ⟨c0, e1, keepN _ _ e2 codeO_ne⟩
    · have m1 : hp.objs.size ≠ ca := by omega
      have m2 : hp.objs.size ≠ tA := Nat.ne_of_gt (Nat.lt_of_lt_of_le (Heap.lt_size objP) growF)
      rw [upd_ne m1, upd_ne m2]
      exact I0.hok.fresh growF
/-- the names in another order -/
theorem inv_perm {N2 : List Str} {σ2 : L2.St} (I : Inv X pins σ H s) (hl : σ2.length = N2.length) (h : ∀ (i : Nat) (x : Str) (v : V), N2[i]? = some x → σ2[i]? = some (some v) → ∃ j : Nat, X.N[j]? = some x ∧ σ[j]? = some (some v)) : Inv { X with N := N2 } pins σ2 H s :=
  ⟨⟨I.ok.mod, I.ok.kind, I.ok.glob, I.ok.blt, I.ok.above, I.ok.inj, I.ok.has, I.ok.cab, I.ok.hd, I.ok.frames, I.ok.stk, I.ok.exf, I.ok.bs, I.ok.bsz, I.ok.noex, I.ok.exfs, I.ok.funs, I.ok.frf⟩, I.os, I.bare, I.base,
    let ⟨m, hn, hl'⟩ := I.loc; ⟨m, hn, fun i x v e1 e2 e3 => by
      obtain ⟨j, k1, k2⟩ := h i x v e1 e2
      exact hl' j x v k1 k2 e3⟩, I.cell, I.free, I.freeC, I.pin, I.hok, hl⟩
end
section
variable {G : GE} {X : Cx} {W : WC} {μ μ' : List Addr} {H H' HH : Hp} {S : Sto} {r : Rho} {σ : L2.St} {Q : VK} {d f g : Nat}
theorem Rel.nohard (R : Rel G μ S H) {c : Addr} {o : HO} (h : H c = some o) (ho : hardO o = true) : c ∉ μ := fun z => by
  obtain ⟨l, hl, e⟩ := List.getElem_of_mem z
  have hs : l < S.length := by rw [← R.len]; exact hl
  obtain ⟨b, q1, q2⟩ := R.at_ l S[l] (List.getElem?_eq_getElem hs)
  rw [List.getElem?_eq_getElem hl, e] at q1
  cases q1
  rw [q2.soft h] at ho
  cases ho
theorem Rel.tabs (R : Rel G μ S H) (eN : ExtN H HH) (T : Tabs G.tabs HH) : Rel G μ S HH := by
  refine ⟨R.len, fun l o e => ?_, R.inj, R.scr.keep fun o e hz => ?_, ⟨T, R.tab.2⟩, fun p hp => ⟨eN _ _ (R.cod p hp).1 codeO_ne, (R.cod p hp).2⟩⟩
  · obtain ⟨b, k1, k2⟩ := R.at_ l o e
    refine ⟨b, k1, k2.keep fun u hu => eN b u hu fun ps z => ?_⟩
    have := k2.soft hu
    rw [z] at this
    cases this
  · obtain ⟨ob, u, rfl⟩ := hz
    exact eN _ _ e fun ps z2 => by cases z2
/-- what is captured, by the slots -/
theorem caps_ok (en : Env G μ r σ) : ∀ {js : List Nat} {ws : Va}, capsOf r js = some ws → ∃ wsV : List V, js.map (slotAt σ) = wsV.map some ∧ VRs G μ (clist ws) wsV
  | [], ws, h => by
    cases (show some Va.vn = some ws from h)
    exact ⟨[], rfl, .nil⟩
  | j :: js, ws, h => by
    simp only [capsOf] at h
    split at h
    · rename_i v b e1 e2
      split at h
      · rename_i hp
        cases h
        obtain ⟨wsV, k1, k2⟩ := caps_ok en e2
        obtain ⟨y, k3, k4⟩ := pr_get en e1
        obtain ⟨x, rfl, k5⟩ := SR.to hp k4
        refine ⟨x :: wsV, ?_, .cons k5 k2⟩
        rw [List.map_cons, List.map_cons, k1, slotAt_of k3]
      · cases h
    · cases h
/-- a def that takes a lambda: what it promises of the state at its entry -/
def spC (G : GE) (d g f : Nat) (wsV : List V) (cq : Addr × Str) (vs : List V) (H : Hp) (Q : VK) (E : XK) : Prop := H cq.1 = some (CodeO cq.1 cq.2) ∧ ∃ μ as ws S W, cq.1 ∉ μ ∧ VRs G μ as vs ∧ VRs G μ (clist ws) wsV ∧ Rel G μ S H ∧
  Wr G μ H (run G.T d g (.clo f ws :: as) S) W (fun v μ' H' => ∀ x, VR G μ' v x → Q x H') ∧ ∀ c H', W c H' → E (.ref (G.cA c)) none H'
def FnC (G : GE) : Nat → Nat → Prop
  | 0, _ => True
  | d + 1, g => ∀ (A : Around) (outer : List PySem.Env) (s : Shared) (H : Hp) (us : List Value) (vs : List V) (f : Nat) (a : Addr) (wsV : List V) (cq : Addr × Str) (Q : VK) (E : XK), Room (lvl (d + 1)) A → Env0 G.P G.w G.K G.mg G.base A outer s H → Vals vs us →
    CloC G d f a wsV outer s H cq → spC G (d + 1) g f wsV cq vs H Q E → codeAny (model G.P G.w) A (.call (.ref (G.fA g)) ⟨.ref a :: us, []⟩) (CR (L2N.CX G.P G.w) outer G.P G.w H s Q E) s
theorem sE_callv {x : Str} {i : Nat} {a0 : Expr} {es : List Expr} {fas : Rho → Sto → Res (List Va)} {p pos : Pos} (C : Cxt G X) (Fn : ∀ f, f < G.T.nd → FnAt G d f) (hr : Room (lvl d) X.A) (hN : X.N[i]? = some x) (hv : Vis X.env.scope x) (hd : (x == ("__debug__" : Str)) = false) (hcd : (x == ("__classdict__" : Str)) = false)
    (hx : Passes (L2N.CX X.prog X.w) X (EW G W)) (ha : PA X (a0 :: es) (tA G W fas)) (hs : (a0 :: es).all notStar = true) :
    PE X (.Call (.Name x p) (a0 :: es) [] pos) (tE G W fun r S => match r[i]? with | some (some (.fn f)) => if f < G.T.nd then (fas r S).bind fun xs S1 => run G.T d f xs S1 else .bad | _ => .bad) := by
  refine ⟨fun pins s σ H Q I ⟨μ, r, S, en, re, h⟩ => ?_⟩
  have h1 : notStar a0 = true := by
    rw [List.all_cons, Bool.and_eq_true] at hs
    exact hs.1
  have h2 : es.all notStar = true := by
    rw [List.all_cons, Bool.and_eq_true] at hs
    exact hs.2
  dsimp only at h
  cases q : r[i]? with
  | none => rw [q] at h; exact (show False from h).elim
  | some o =>
    cases o with
    | none => rw [q] at h; exact (show False from h).elim
    | some v =>
      rw [q] at h
      cases v <;> try exact (show False from h).elim
      rename_i k
      dsimp only at h
      split at h
      · rename_i hk
        obtain ⟨y, k1, k2⟩ := pr_get en q
        obtain ⟨x1, rfl, k3⟩ := SR.to rfl k2
        have e1 : x1 = .ref (G.fA k) := k3
        subst e1
        obtain ⟨fd, ps, F, hb, hkp⟩ := FnAt.ok C (Fn k hk)
        refine (pe_callL (i := i) (f := G.fA k) F hr hN hv hkp hb .nil hx ha hd hcd (star_ok h1 _ _) (star_all _ _ h2)).run pins s σ H Q I ⟨k1, μ, r, S, en, re, (Wr.bind h).imp fun xs μ1 H1 ⟨S1, re1, st1, h3⟩ vs vx => ?_⟩
        show spF G d k (vs ++ []) H1 Q (EW G W)
        rw [List.append_nil]
        exact ⟨μ1, xs, S1, W, vx, re1, h3, fun c H' w => ⟨c, rfl, rfl, w⟩⟩
      · exact (show False from h).elim
theorem sE_callL {x : Str} {p lp pos : Pos} {par : Arguments} {body : Expr} {scope : Scope} {js : List Nat} {fr : List Str} {args : List Expr} {fas : Rho → Sto → Res (List Va)} {cA tA' : Addr} (C : Cxt G X) (Fg : FnC G d g) (hr : Room (lvl d) X.A) (hg : Gl X x) (hm : X.mg x = some (.ref (G.fA g)))
    (hk : PySem.W.keepIn X.K (.ref (G.fA g)) = true) (hdb : (x == ("__debug__" : Str)) = false) (hx : Passes (L2N.CX X.prog X.w) X (EW G W)) (TB : TabB X.base X.mg cA tA') (hcode : X.env.code = .ref cA) (hin : (tA', X.env.qual ++ "<lambda>") ∈ G.tabs) (hone : ∀ p ∈ G.tabs, p.1 = tA' → p.2 = X.env.qual ++ "<lambda>")
    (nodef : defaultsOf par X.env = ([], [])) (hkind : ∀ y ∈ scope.names, y.2 = .free → X.env.scope.names.lookup y.1 = some .cell ∨ X.env.scope.names.lookup y.1 = some .free) (hfr : ∀ y ∈ fr, (y, NameKind.free) ∈ scope.names) (hjs : js.map (fun j => X.N[j]?) = fr.map some)
    (hclo : ∀ e, e + 1 = d → ∀ (a ca : Addr) (pmv ctv : Value) (outer : List PySem.Env) (s : Shared) (H : Hp) (wsV : List V), s.heap.get? a = some (PySem.W.kla_obj "<lambda>" (X.env.qual ++ "<lambda>") par body scope (cloFrom X.env.cells scope.names []) pmv ca ctv) → H a = none → a ∉ frs outer →
      CellsAt (cloFrom X.env.cells scope.names []) fr (wsV.map some) s.heap H → CloC G e f a wsV outer s H (ca, X.env.qual ++ "<lambda>"))
    (ha : PA X args (tA G W fas)) (hs : args.all notStar = true) :
    PE X (.Call (.Name x p) (.Lambda par body scope lp :: args) [] pos) (tE G W fun r S => match capsOf r js with | some ws => (fas r S).bind fun xs S1 => run G.T d g (.clo f ws :: xs) S1 | none => .bad) := by
  refine ⟨fun pins s σ H Q I ⟨μ, r, S, en, re, h⟩ => ?_⟩
  dsimp only at h
  cases ec : capsOf r js with
  | none => rw [ec] at h; exact (show False from h).elim
  | some ws =>
    rw [ec] at h
    dsimp only at h
    obtain ⟨wsV, w1, w2⟩ := caps_ok en ec
    have frees : ∀ y ∈ scope.names, y.2 = .free → ∃ cc, X.env.cells.lookup y.1 = some cc := fun y hy e => (hkind y hy e).elim (fun z => I.ok.has _ (.inl z)) fun z => I.ok.has _ (.inr z)
    refine wpAny_Call_Name_kw (ld_glob I hg hm ?_ hdb)
    refine PySem.W.callWith_K (h₀ := X.base) I.ok.mod.kin hk ?_ (by rfl) (star_all _ _ hs)
    show wpAny _ _ (spliced ((false, eval (.Lambda par body scope lp) X.env) :: backTo pos (starEach args X.env))) _ _ s
    refine Calls.spliced_cons (lam_new I TB hcode hin hone re.tab.1 nodef frees fun fa ca pmv ctv HH s2 I1 eN mo T1 ho hn n1 n2 n3 hc => ?_)
    have re1 : Rel G μ S HH := re.tabs eN T1
    have st1 : Stp μ H μ HH := ⟨⟨[], by simp, by simp⟩, fun a q z => q (mo a z), fun a o _ q nt => eN a o q nt⟩
    have nca : ca ∉ μ := re1.nohard hc rfl
    have I1' : Inv X ((fa, PySem.W.kla_obj "<lambda>" (X.env.qual ++ "<lambda>") par body scope (cloFrom X.env.cells scope.names []) pmv ca ctv) :: pins) σ HH s2 := I1.pins_of fun p hp => by
      rcases List.mem_cons.mp hp with rfl | hp
      · exact ⟨ho, hn, n3, n2, fun v z => by cases z⟩
      · exact I1.pin p (List.mem_append_right _ hp)
    have h' := (Wr.bind h).stp st1
    refine thn (ha.run pos _ s2 σ HH (fun vs H3 => ∃ μ3 xs S3, VRs G μ3 xs vs ∧ Rel G μ3 S3 H3 ∧ Stp μ HH μ3 H3 ∧ Wr G μ3 H3 (run G.T d g (.clo f ws :: xs) S3) W fun v μ' H' => ∀ x, VR G μ' v x → Q x H') I1' ⟨μ, r, S, en, re1, ?_⟩) fun us s3 ⟨vs, H3, I3, rv, μ3, xs, S3, vx, re3, st3, h3⟩ => ⟨I3.kIn, ?_⟩
    · revert h'
      cases fas r S with
      | ok a S1 =>
        intro h' μ3 H3 st3 re3 vs vx
        obtain ⟨S2, k1, k2, k3⟩ := h' μ3 H3 st3 re3
        exact ⟨μ3, a, S2, vx, k1, st3, k3⟩
      | exc c S1 => exact fun h' => h'
      | bad => exact fun h' => h'
    · have I3' : Inv X pins σ H3 s3 := I3.pins_of fun p hp => I3.pin p (List.mem_append_right _ (List.mem_cons_of_mem _ hp))
      obtain ⟨p1, p2, _⟩ := I3.pin (fa, PySem.W.kla_obj "<lambda>" (X.env.qual ++ "<lambda>") par body scope (cloFrom X.env.cells scope.names []) pmv ca ctv) (List.mem_append_right _ (List.mem_cons_self ..))
      obtain ⟨c1, c2⟩ := code_stp hc nca st3
      have cells := cells_of I3' (Caps.made I3'.ok hkind hfr hjs)
      rw [w1] at cells
      cases d with
      | zero => exact (show False from h3).elim
      | succ e =>
        have clo := hclo e rfl fa ca pmv ctv X.stack s3 H3 wsV p1 p2 n1 cells
        have w3 : VRs G μ3 (clist ws) wsV := VRs.stp (VRs.stp w2 st1) st3
        have e0 := I3'.env0
        rw [C.prog, C.w, C.K, C.mg, C.base] at e0
        have rc := Fg X.A X.stack s3 H3 us vs f fa wsV (ca, X.env.qual ++ "<lambda>") Q (EW G W) hr e0 rv clo ⟨c1, μ3, xs, ws, S3, W, c2, vx, w3, re3, h3, fun c H' w => ⟨c, rfl, rfl, w⟩⟩
        rw [← C.prog, ← C.w] at rc
        refine wpAny_call (codeAny_mono rc fun r s' hq => ?_)
        cases r with
        | error e => exact hx pins σ H3 s3 e s' I3' hq
        | ok fl =>
          cases fl with
          | ret u => exact I3'.after hq
          | next => exact False.elim hq
          | brk => exact False.elim hq
          | cont => exact False.elim hq
end
end Ev
end

section
set_option Elab.async false
set_option linter.all false
set_option maxRecDepth 100000
set_option maxHeartbeats 4000000
/-! EvS: set(xs) of a list of ints; sorted(s) of a set of ints, any number. -/
namespace L2
open PySem PySem.Spec PyProof.Rows
section
variable {P : Program} {w : World} {A : Around} {E : Value → Shared → Prop} {s : Shared}
set_option maxHeartbeats 3200000 in
theorem call_set_listI {l : Addr} {items : Array Value} (ns : List Int) {Q : Value → Shared → Prop} (hh : A.handled = none) (hl : s.heap.IsList l items) (hit : IntsAre items.toList ns) (hb : ns.length + 1 < scanBound)
    (h : ∀ (h' : Heap) (tk c : Nat), SetR w h' s.heap.objs.size (fun j => decide (j ∈ ns)) c → c ≤ ns.length → (∀ b o, s.heap.get? b = some o → h'.get? b = some o) → Q (.ref s.heap.objs.size) { s with heap := h', toks := tk }) :
    wpAny (model P w) A (call (.type "set") [.ref l]) Q E s := by
  have hisz : items.size = ns.length := by
    have q := IntsAre.length hit
    rw [Array.length_toList] at q
    exact q
  obtain ⟨c, tl, hmro⟩ := F.called_set.mro
  have hmade := F.called_set.made
  have hsub := F.called_set.sub
  refine wpAny_call (codeAny_of_tree ?_)
  show wpAny _ _ (callAny (.type "set") _) _ _ _
  refine wpAny_pure ⟨Code.quiet_builtin _ (by decide +kernel), codeAny_builtin F.entry_type_call ?_⟩
  rw [Around.under_plain (weight_type_call_type "set" [.ref l] []) rfl]
  have h1 := F.called_set.notType
  have h2 := F.called_set.canCreate
  have hct := F.typeCall_set_1 (.ref l)
  repeat (any_goals (first | assumption | wp_step))

  refine codeAny_mono (code_set_led1 (.ref l) (E := E) (Q₁ := fun obj s₁ => obj = .ref s.heap.objs.size ∧ s₁ = { s with heap := s.heap.push { cls := .type "set", dict := none, data := .set #[] 0 (.fresh 0 0 (!w.params.followText "set-order")) } }) ⟨rfl, rfl⟩) fun r s₁ hr => ?_
  cases r with
  | error e => exact hr
  | ok fl =>
    cases fl with
    | ret obj =>
      obtain ⟨rfl, rfl⟩ := hr
      have hS : (s.heap.push { cls := .type "set", dict := none, data := .set #[] 0 (.fresh 0 0 (!w.params.followText "set-order")) }).get? s.heap.objs.size = some { cls := .type "set", dict := none, data := .set #[] 0 (.fresh 0 0 (!w.params.followText "set-order")) } := Heap.get?_push_size _ rfl
      have hT : Shared.TypeIs { s with heap := s.heap.push { cls := .type "set", dict := none, data := .set #[] 0 (.fresh 0 0 (!w.params.followText "set-order")) } } (.ref s.heap.objs.size) "set" := ⟨_, hS, rfl⟩
      have hli := F.called_set.init.lookup
      have hbi := F.called_set.init.bind (.ref s.heap.objs.size)
      repeat (any_goals (first | assumption | wp_step))

      refine codeAny_mono (codeAny_call_builtin (R := wants (fun r s₂ => r = .none ∧ ∃ h' tk c, s₂ = { s with heap := h', toks := tk } ∧ SetR w h' s.heap.objs.size (fun j => decide (j ∈ ns)) c ∧ c ≤ ns.length ∧
          (∀ b o, s.heap.get? b = some o → h'.get? b = some o)) E) F.called_set.init.plain F.entry_set_init (check_set_init_1 hT ?_)) fun r₂ s₂ hr₂ => ?_
      · obtain ⟨ol, hol, hcl, nl, hdl⟩ := hl
        obtain ⟨ocls, odict, odata, oslots⟩ := ol
        simp only at hcl hdl
        subst hcl; subst hdl
        have hol' : (s.heap.push { cls := .type "set", dict := none, data := .set #[] 0 (.fresh 0 0 (!w.params.followText "set-order")) }).get? l = some { cls := .type "list", dict := odict, data := .seq items nl, slots := oslots } := Heap.get?_push_of_some _ hol
        have hsls := F.sub_list_set
        have hslf := F.sub_list_frozenset
        have hne : (Value.type "list" == Value.type "dict") = false := by decide
        have hl1 : (s.heap.push { cls := .type "set", dict := none, data := .set #[] 0 (.fresh 0 0 (!w.params.followText "set-order")) }).IsList l items := ⟨_, hol', rfl, nl, rfl⟩
        unfold Builtin.«set.__init__» noKeywords Builtin.Frozenset.updateFrom
        generalize hPI : pyIter = PI
        wp_walk
        subst hPI

        refine wpAny_pyIter_list hl1 ?_
        refine wpAny_bind (wpAny_runValue ?_)
        have hlS : l < s.heap.objs.size := Heap.lt_size hol
        have hh3 : A.in1.in1.in1.handled = none := by simp [hh]
        have hz1 : (s.heap.push { cls := .type "set", dict := none, data := .set #[] 0 (.fresh 0 0 (!w.params.followText "set-order")) }).objs.size = s.heap.objs.size + 1 := Heap.size_push ..
        have hneI : l ≠ (s.heap.push { cls := .type "set", dict := none, data := .set #[] 0 (.fresh 0 0 (!w.params.followText "set-order")) }).objs.size := by
          rw [Heap.size_push]; exact Nat.ne_of_lt (Nat.lt_succ_of_lt hlS)
        have hSf : s.heap.objs.size ∉ [(s.heap.push { cls := .type "set", dict := none, data := .set #[] 0 (.fresh 0 0 (!w.params.followText "set-order")) }).objs.size, l] := by
          rw [Heap.size_push]; simp only [List.mem_cons, List.mem_singleton, List.not_mem_nil, or_false, not_or]
          exact ⟨Nat.ne_of_lt (Nat.lt_succ_self _), Nat.ne_of_gt hlS⟩
        have hval : ∀ (i : Nat) (v : Value), items[i]? = some v → ∃ k t, ns[i]? = some k ∧ v = .int k t := fun i v hv => by
          have hi : i < ns.length := by rw [← hisz]; exact (Array.getElem?_eq_some_iff.mp hv).1
          obtain ⟨t, e⟩ := PyProof.Rows.IntsAre.int_at hit i v (by rw [Array.getElem?_toList]; exact hv)
          refine ⟨ns[i], t, List.getElem?_eq_getElem hi, ?_⟩
          rw [e, List.getD_eq_getElem?_getD, List.getElem?_eq_getElem hi] <;> rfl
        refine set_update_ints ((Walks.list hh3 _ l hneI items).toS) s.heap.objs.size
          hSf ns hisz hb hval (items.size - 0) 0 _ (by omega) (Nat.zero_le _)
          ⟨⟨_, Heap.get?_push_size _ rfl, rfl, rfl⟩, (hl1.push _)⟩ ?hS0 ?hR
        case hS0 =>
          have hget : ((s.heap.push { cls := .type "set", dict := none, data := .set #[] 0 (.fresh 0 0 (!w.params.followText "set-order")) }).push { cls := .type "list_iterator", data := .fields #[.ref l, .int 0 0] }).get? s.heap.objs.size
              = some { cls := .type "set", dict := none, data := .set #[] 0 (.fresh 0 0 (!w.params.followText "set-order")) } := Heap.get?_push_of_some _ hS
          exact ⟨0, Nat.le_refl 0, setR_new_at hget⟩
        case hR =>
          intro s' c' hm hc' hS'
          obtain ⟨h', g2, d', tk', os'⟩ := s'
          have eg : g2 = s.gens := hm.gens
          have ed : d' = s.drawn := hm.drawn
          have eo : os' = s.os := hm.os
          subst eg; subst ed; subst eo
          show wpAny _ _ _ _ _ _
          refine wpAny_pure ?_
          show wpAny _ _ (ret Value.none) _ _ _
          rw [hisz] at hc'
          refine wpAny_pure ⟨rfl, h', tk', c', rfl, hS', hc', fun b o e => ?_⟩
          have hb0 : b < s.heap.objs.size := Heap.lt_size e
          have hb1 : b ≠ s.heap.objs.size := Nat.ne_of_lt hb0
          have hb2 : b ≠ (s.heap.push { cls := .type "set", dict := none, data := .set #[] 0 (.fresh 0 0 (!w.params.followText "set-order")) }).objs.size := by
            rw [Heap.size_push]; exact Nat.ne_of_lt (Nat.lt_succ_of_lt hb0)
          exact hm.heap b o (by simp only [List.mem_cons, List.mem_singleton, List.not_mem_nil, or_false, not_or]; exact ⟨hb1, hb2⟩) (Heap.get?_push_of_some _ (Heap.get?_push_of_some _ e))

      · cases r₂ with
        | error e => exact hr₂
        | ok fl₂ =>
          cases fl₂ with
          | ret r =>
            obtain ⟨rfl, h', tk, c', rfl, hS', hc', hk'⟩ := hr₂
            repeat (any_goals (first | assumption | wp_step))
            exact h _ _ _ hS' hc' hk'
          | _ => exact hr₂.elim
    | _ => exact hr.elim

theorem sorted_setAny {a : Addr} {S : Int → Bool} {n : Nat} {Q : Value → Shared → Prop} (R : SetR w s.heap a S n) (hh : A.handled = none) (hn4 : n ≤ 4000)
    (hQ : ∀ s' p (out : Array Value) (c : Nat) (ns : List Int), (∀ b o, s.heap.get? b = some o → s'.heap.get? b = some o) → s'.gens = s.gens → s'.os = s.os → s.heap.objs.size ≤ p →
      s'.heap.get? p = some (seqObj "list" out c) → IntsAre out.toList ns → ns.Pairwise (· < ·) → (∀ k, k ∈ ns ↔ S k = true) → ns.length = n → Q (.ref p) s') :
    wpAny (model P w) A (call (.builtin "sorted") [.ref a]) Q E s := by
  obtain ⟨o, es, ep, t, ho, hex, hd, g, nd, hm, hb, hf, hn, hr, hl⟩ := R
  refine Calls.call_function_entry kind_sorted plain_sorted entry_sorted (args_sorted1 _) ?_
  unfold Builtin.«sorted»
  refine wpAny_bind (m := checkCount "sorted" 1 1 _) (wpAny_pure ?_)
  refine wpAny_bind (collect_set (A := A.in1) hh ⟨o, ho, hex.1, hd⟩ hf hb hr hl fun s1 vs k1 hz g1 o1 pm => ?_)
  have hvl : vs.length = n := by rw [pm.length_eq, List.length_map, Array.length_toList]; exact hn
  have hI : IntsAre vs (vs.map SrtO.iv) := SrtO.ints_iv fun v hv => by
    obtain ⟨e, he, q⟩ := List.mem_map.mp (pm.mem_iff.mp hv)
    obtain ⟨k, tk, h1, _⟩ := g e he
    exact ⟨k, tk, by rw [← q]; exact h1⟩
  have pk : (vs.map SrtO.iv).Perm (es.toList.map keyOf) := by
    have q := pm.map SrtO.iv
    rw [List.map_map] at q
    exact q
  have hvz : vs.length ≤ sizeLine := by rw [hvl, sizeLine_eq]; omega
  refine wpAny_bind (wpAny_newList ?_ hvz)
  have hoL : (s1.heap.push (seqObj "list" vs.toArray 0)).get? s1.heap.objs.size = some (seqObj "list" vs.toArray 0) := Heap.get?_push_size _ rfl
  refine wpAny_bind (wpAny_holding (wpAny_call_entry slot_list_sort ⟨_, hoL, rfl⟩ entry_list_sort (SrtO.list_sort_ord SrtO.swo_int hoL hvz (fun h2 => SrtO.ints_sortable hI h2) fun out a1 a2 => ⟨_, rfl, ?_⟩) (args_list_sort _)))
  obtain ⟨b1, b2, b3⟩ := SrtO.ints_out hI a1 a2
  obtain ⟨c, hc⟩ := sortedHeap_at (vs := vs) (out := out.toArray) hoL
  have pn : (out.map SrtO.iv).Perm (es.toList.map keyOf) := b2.trans pk
  refine wpAny_pure ⟨_, rfl, hQ _ s1.heap.objs.size out.toArray c (out.map SrtO.iv) (fun b u e => ?_) g1 o1 hz hc (by simpa using b1) (lt_of_le_nodup _ b3 (pn.nodup_iff.mpr nd)) (fun k => by rw [pn.mem_iff, ← hm k]) ?_⟩
  · have q := k1 b u e
    have hlt := Heap.lt_size q
    show (sortedHeap (s1.heap.push (seqObj "list" vs.toArray 0)) s1.heap.objs.size vs out.toArray).get? b = some u
    rw [sortedHeap_old (Nat.ne_of_lt hlt) (by rw [size_push']; exact Nat.lt_succ_of_lt hlt)]
    exact Heap.get?_push_of_some _ q
  · rw [pn.length_eq, List.length_map, Array.length_toList]; exact hn
end
end L2
end

section
set_option Elab.async false
set_option linter.all false
set_option maxRecDepth 100000
/-! EvX: sorted(set(..)), C() without an own __init__. -/
namespace Ev
open PySem PySem.Spec PyProof.Rows L2
section
variable {X : Cx} {C : Addr} {pins : List (Addr × Obj)} {σ : L2.St} {H : Hp} {s : Shared} {Q : VK}
theorem run_mk0 (M : Mk0 X.K C) (I : Inv X pins σ H s) (h : ∀ x dx, H x = none → H dx = none → dx ≠ x → Q (.ref x) (upd (upd H dx (.own x)) x (.ins C dx []))) :
    wpAny (model X.prog X.w) X.A (call (.ref C) []) (EP X pins σ Q) X.xe s := by
  have hq := h (s.heap.objs.size + 1) s.heap.objs.size (I.hok.fresh (Nat.le_succ _)) (I.hok.fresh (Nat.le_refl _)) (Nat.ne_of_lt (Nat.lt_succ_self _))
  have I2 := Inv.made (C := C) I
  refine wpAny_call (make_map0 I.kIn M.makes M.init (fun self => PySem.W.Looks.of_pure (PySem.W.oi_bind _)) ?_)
  have e2 : ((s.heap.push PySem.W.emptyDict).push (PySem.W.instObj C s.heap.objs.size)).get? (s.heap.objs.size + 1) = some (PySem.W.instObj C s.heap.objs.size) := by
    have := Heap.get?_push_size (s.heap.push PySem.W.emptyDict) (o := PySem.W.instObj C s.heap.objs.size) rfl
    rwa [Heap.size_push] at this
  have t1 : PySem.W.Looks (model X.prog X.w) ((s.heap.push PySem.W.emptyDict).push (PySem.W.instObj C s.heap.objs.size)) (typeOf (.ref (s.heap.objs.size + 1))) (.ref C) := NwA.type_at e2 rfl
  have t2 : PySem.W.Looks (model X.prog X.w) ((s.heap.push PySem.W.emptyDict).push (PySem.W.instObj C s.heap.objs.size)) (isInstance (.ref (s.heap.objs.size + 1)) (.type "object")) true := t1.andThen (PySem.W.looks_mroIn I2.kIn M.top)
  refine codeAny_call_builtin PySem.W.oi_plain PySem.W.entry_oi (@PySem.W.check_slot (model X.prog X.w) _ _ _ "object.__init__" "object" "__init__" (.ref (s.heap.objs.size + 1)) [] [] _ PySem.W.oi_kind PySem.W.oi_split t2 (NwA.oi_args_any _ [] []) ?_)
  rw [PySem.W.oi_run]
  exact wpAny_pure (And.intro rfl ⟨V.ref (s.heap.objs.size + 1), _, I2, rfl, hq⟩)
end
section
variable {X : Cx}
def rSetL (K : PySem.W.Frag) (w : World) : List V → Hp → VK → Prop := fun vs H Q => ∃ (a : Addr) (ns : List Int), vs = [V.ref a] ∧ SqL K H a (ns.map V.int) ∧ ns.length ≤ 4000 ∧
  ∀ p c, H p = none → c ≤ ns.length → Q (.ref p) (upd H p (SetO w p (fun j => decide (j ∈ ns)) c))
theorem cr_setL (hc : X.calm = true) : CallR X (.type "set") (rSetL X.K X.w) := by
  intro pins s σ H xs us Q I r h
  obtain ⟨a, ns, rfl, hs, hb, q⟩ := h
  obtain ⟨its, rv, hl, hz⟩ := I.list hs
  rw [Vals.ref1 r]
  have hi := rv.ints
  refine call_set_listI ns (I.ok.hd hc) hl.isList (by simpa using hi) (by unfold scanBound; omega) fun h' tk c R hcl k => ?_
  exact ⟨.ref _, upd H s.heap.objs.size (SetO X.w s.heap.objs.size (fun j => decide (j ∈ ns)) c), I.laid (t' := tk) k (Nat.le_refl _) (setO_new R), rfl, q _ _ (I.hok.fresh (Nat.le_refl _)) hcl⟩
def rSrtSet (w : World) : List V → Hp → VK → Prop := fun vs H Q => ∃ (a : Addr) (S : Int → Bool) (n : Nat), vs = [V.ref a] ∧ H a = some (SetO w a S n) ∧ n ≤ 4000 ∧
  ∀ (ns : List Int) (p : Addr), ns.Pairwise (· < ·) → (∀ k : Int, k ∈ ns ↔ S k = true) → ns.length = n → H p = none → Q (.ref p) (upd H p (.lst (ns.map V.int)))
theorem cr_srtSet (hc : X.calm = true) : CallR X (.builtin "sorted") (rSrtSet X.w) := by
  intro pins s σ H vs us Q I r h
  obtain ⟨a, S, n, rfl, ha, h64, q⟩ := h
  have R := setO_get I ha
  rw [Vals.ref1 r]
  refine sorted_setAny R (I.ok.hd hc) h64 fun s' p out c ns k g o hp hg hi hs hm hl => ?_
  have hlen : (ns.map V.int).length ≤ sizeLine := by rw [List.length_map, hl, sizeLine_eq]; omega
  have hn : H p = none := I.hok.fresh hp
  have J : Inv X pins σ (upd H p (.lst (ns.map V.int))) { s with heap := s'.heap, gens := s'.gens, drawn := s'.drawn, toks := s'.toks } :=
    I.call (ch := []) (Un.laid k hp hn) (I.hok.laid k hp ⟨hlen, out.toList, c, vals_of_ints hi, hg⟩) (by rw [g]; exact I.bare) (fun _ z => nomatch z)
  have e : s' = { s with heap := s'.heap, gens := s'.gens, drawn := s'.drawn, toks := s'.toks } := by
    cases s'
    cases s
    cases o
    rfl
  rw [e]
  exact ⟨.ref p, _, J, rfl, q ns p hs hm hl hn⟩
end
theorem uniq_mem {k : Int} : ∀ {l : List Int}, k ∈ uniq l ↔ k ∈ l
  | [] => by simp [uniq]
  | x :: r => by
    unfold uniq
    split
    · rename_i h
      rw [uniq_mem, List.mem_cons]
      constructor
      · exact .inr
      · rintro (rfl | h')
        · simpa using h
        · exact h'
    · rw [List.mem_cons, List.mem_cons, uniq_mem]
theorem uniq_nodup : ∀ l : List Int, (uniq l).Nodup
  | [] => by simp [uniq]
  | x :: r => by
    unfold uniq
    split
    · exact uniq_nodup r
    · rename_i h
      exact List.nodup_cons.mpr ⟨fun q => h (by simpa using uniq_mem.mp q), uniq_nodup r⟩
theorem srtu_of {ns ns' : List Int} (h1 : ns'.Pairwise (· < ·)) (h2 : ∀ k, k ∈ ns' ↔ k ∈ ns) : ns' = srt (uniq ns) := by
  refine srt_of ?_ (h1.imp fun h => Int.le_of_lt h)
  refine (List.perm_ext_iff_of_nodup (h1.imp fun h => Int.ne_of_lt h) (uniq_nodup ns)).mpr fun k => ?_
  rw [h2 k, uniq_mem]
section
variable {G : GE} {X : Cx} {W : WC} {a : Expr} {fa : Rho → Sto → Res Va} {pos p p2 q : Pos}
theorem sE_srtset (C : Cxt G X) (hg : Gl X "sorted") (hm : X.mg "sorted" = none) (hg2 : Gl X "set") (hm2 : X.mg "set" = none) (ha : PE X a (tE G W fa)) (hs : notStar a = true) :
    PE X (.Call (.Name "sorted" p) [.Call (.Name "set" p2) [a] [] q] [] pos) (tE G W fun r S => (fa r S).bind fun x S1 => bi .sortedSet [x] S1) := by
  have k1 : PE X (.Call (.Name "set" p2) [a] [] q) _ := pe_callTy (cr_setL C.calm) hg2 hm2 (by decide +kernel) (pa_cons ha pa_nil (star_ok hs _ _)) (by decide) (by decide) (star_ok hs _ _) (star_all _ _ rfl)
  refine PE.weak (pe_callB (cr_srtSet C.calm) hg hm (by decide +kernel) (pa_cons k1 pa_nil (star_ok rfl _ _)) (by decide) (by decide) (star_ok rfl _ _) (star_all _ _ rfl)) fun σ H Q ⟨μ, r, S, en, re, h⟩ => thenE en re h fun μ1 H1 S1 v x st re1 vx h1 => ?_
  have h1' : Wr G μ1 H1 (biI (fun ns S => if ns.length ≤ 4000 then new (.lst ((srt (uniq ns)).map .int)) S else .bad) [v] S1) W _ := h1
  obtain ⟨b, ns, e1, e2, h2⟩ := biI_of re1 (.cons vx .nil) h1'
  cases e1
  split at h2
  · rename_i hl
    refine ⟨b, ns, rfl, by rw [C.K]; exact e2, hl, fun p c hp hc => ?_⟩
    have np : p ∉ μ1 := fun z => re1.held z hp
    have re2 : Rel G μ1 S1 (upd H1 p (SetO X.w p (fun j => decide (j ∈ ns)) c)) := re1.beside np (fun ob u z => by rw [hp] at z; cases z) fun u z => by rw [hp] at z; cases z
    have st2 : Stp μ1 H1 μ1 (upd H1 p (SetO X.w p (fun j => decide (j ∈ ns)) c)) := ⟨⟨[], by simp, by simp⟩, fun a h => by
      unfold upd
      split
      · simp
      · exact h, fun a o _ h _ => by rw [upd_ne (ne_of_none h hp)]; exact h⟩
    refine ⟨p, _, c, rfl, upd_same, by omega, fun ns' p' q1 q2 q3 q4 => ?_⟩
    have e3 : ns' = srt (uniq ns) := srtu_of q1 (fun k => by rw [q2 k]; exact decide_eq_true_iff)
    subst e3
    exact fin_newL re2 (Wr.stp h2 st2) (vrs_ints _) q4
  · exact (show False from h2).elim
theorem ranged_ok {μ : List Addr} (a b : Int) : VRs G μ (ranged a (b - a).toNat) (rgV a b) := by
  unfold ranged rgV
  generalize List.range (b - a).toNat = l
  induction l with
  | nil => exact .nil
  | cons i r ih => exact .cons rfl ih
theorem sE_lrng1 (C : Cxt G X) (hg : Gl X "list") (hm : X.mg "list" = none) (hg2 : Gl X "range") (hm2 : X.mg "range" = none) (ha : PE X a (tE G W fa)) (hs : notStar a = true) :
    PE X (.Call (.Name "list" p) [.Call (.Name "range" p2) [a] [] q] [] pos) (tE G W fun r S => (fa r S).bind fun x S1 => bi .rng1 [x] S1) := by
  refine PE.weak (pe_listRg C.calm hg hm (prg_1 hg2 hm2 ha (star_ok hs _ _))) fun σ H Q ⟨μ, r, S, en, re, h⟩ => thenE en re h fun μ1 H1 S1 v x st re1 vx h1 => ?_
  cases v <;> try exact (show False from h1).elim
  rename_i j
  have h1' : Wr G μ1 H1 (if -(2 ^ 62) ≤ j ∧ j < line then new (.lst (ranged 0 j.toNat)) S1 else .bad) W _ := h1
  split at h1'
  · rename_i hl
    have hl2 : j < 16777216 := hl.2
    refine ⟨j, vx, ⟨by decide, by decide, by omega, by omega, by omega⟩, fun q hq => fin_newL re1 h1' ?_ hq⟩
    have := ranged_ok (G := G) (μ := μ1) 0 j
    rw [Int.sub_zero] at this
    exact this
  · exact (show False from h1').elim
theorem sE_lrng2 (C : Cxt G X) {b : Expr} {fb : Rho → Sto → Res Va} (hg : Gl X "list") (hm : X.mg "list" = none) (hg2 : Gl X "range") (hm2 : X.mg "range" = none) (ha : PE X a (tE G W fa)) (hb : PE X b (tE G W fb)) (hs : notStar a = true) (hs2 : notStar b = true) :
    PE X (.Call (.Name "list" p) [.Call (.Name "range" p2) [a, b] [] q] [] pos) (tE G W fun r S => (fa r S).bind fun x S1 => (fb r S1).bind fun y S2 => bi .rng2 [x, y] S2) := by
  refine PE.weak (pe_listRg C.calm hg hm (prg_2 hg2 hm2 ha hb (star_ok hs _ _) (star_ok hs2 _ _) (star_all _ _ (show ([b].all notStar) = true by rw [List.all_cons, hs2]; rfl)))) fun σ H Q ⟨μ, r, S, en, re, h⟩ => thenE en re h fun μ1 H1 S1 v x st re1 vx h1 => thenE (en.stp st) re1 h1 fun μ2 H2 S2 u y st2 re2 vy h2 => ?_
  cases v <;> cases u <;> try exact (show False from h2).elim
  rename_i i j
  have h2' : Wr G μ2 H2 (if -(2 ^ 62) ≤ i ∧ i < 2 ^ 62 ∧ -(2 ^ 62) ≤ j ∧ j < 2 ^ 62 ∧ j - i < line then new (.lst (ranged i (j - i).toNat)) S2 else .bad) W _ := h2
  split at h2'
  · rename_i hl
    have hl2 : j - i < 16777216 := hl.2.2.2.2
    exact ⟨i, j, vx, vy, ⟨hl.1, hl.2.1, hl.2.2.1, hl.2.2.2.1, by omega⟩, fun q hq => fin_newL re2 h2' (ranged_ok i j) hq⟩
  · exact (show False from h2').elim
theorem sE_mk0 (C : Cxt G X) (F : GF G) {d c : Nat} {x : Str} (hi : G.T.ini c = some none) (hg : Gl X x) (hm : X.mg x = some (.ref (G.cA c))) (hd : (x == ("__debug__" : Str)) = false) :
    PE X (.Call (.Name x p) [] [] pos) (tE G W fun r S => mkF G.T (run G.T d) c [] S) := by
  refine ⟨fun pins s σ H Q I ⟨μ, r, S, en, re, h⟩ => ?_⟩
  refine wpAny_Call_Name_kw (ld_glob I hg hm ?_ hd)
  have M : Mk0 X.K (G.cA c) := by rw [C.K]; exact F.ini0 c hi
  refine PySem.W.callWith_K0 I.kIn M.kp (run_mk0 M I fun x dx hx hd ne => ?_)
  unfold mkF at h
  rw [hi] at h
  obtain ⟨k1, k2, k3⟩ := made_ok (c := c) re hx hd ne
  exact h _ _ k1 k2 _ k3
end
end Ev
end

section
set_option Elab.async false
set_option linter.all false
set_option maxRecDepth 100000
/-! Cmp0: from the model's syntax to the IR. -/
namespace Ev
open PySem PySem.Spec PyProof.Rows L2
inductive Gb where
  | fn (f : Nat) | cls (c : Nat) (o : Bool) | exc (c : Nat) | int (i : Int) | strs (xs : List Str)
structure CC where
  N : List Str
  gl : Str → Option Gb
  fr : List Str
  nmo : Str → Option Nat
  /-- lambdas by their places; their bodies; the defs that take one; does this def make some; the defs that tell an exception's class -/
  lam : Nat → Nat → Option Nat := fun _ _ => none
  lir : Nat → Option (Nat × E) := fun _ => none
  tk : Nat → Bool := fun _ => false
  mks : Bool := false
  wh : Nat → Bool := fun _ => false
def slot (N : List Str) (x : Str) : Option Nat := N.findIdx? (· == x)
def kindV (sc : Scope) (x : Str) : Bool := match sc.names.lookup x with
  | some .local => true
  | some .cell => true
  | some .free => true
  | _ => false
def kindG (sc : Scope) (x : Str) : Bool := match sc.names.lookup x with
  | some .globalImplicit => true
  | _ => false
def bopO : Operator → Option Bop
  | .Add => some .add
  | .Sub => some .sub
  | .Mult => some .mul
  | .FloorDiv => some .fdiv
  | .Mod => some .mod
  | .Pow => some .pow
  | _ => none
def copO : CmpOp → Option Cop
  | .Lt => some .lt
  | .LtE => some .le
  | .Gt => some .gt
  | .GtE => some .ge
  | .Eq => some .eq
  | .NotEq => some .ne
  | .In => some .isin
  | .NotIn => some .notin
  | _ => none
/-- an expression whose test is known here -/
def tstOk : Expr → Bool
  | .IfExp _ _ _ _ => false
  | _ => true
def dbg (x : Str) : Bool := x == ("__debug__" : Str)
def cEs (f : Expr → Option E) : List Expr → Option E
  | [] => some .nil
  | e :: es => match f e, cEs f es with
    | some a, some b => if notStar e then some (.cons a b) else none
    | _, _ => none
def cBool (op : BoolOp) (f : Expr → Option E) : List Expr → Option E
  | [] => none
  | [e] => if tstOk e then f e else none
  | e :: es => match f e, cBool op f es with
    | some a, some b => if tstOk e then some (match op with | .And => .and a b | .Or => .or a b) else none
    | _, _ => none
/-- an own name's call, a class's making -/
def cName (cc : CC) (sc : Scope) (x : Str) (as : E) : Option E := if kindG sc x && !dbg x then (match cc.gl x with
    | some (.fn f) => some (.call f as)
    | some (.cls c o) => if o || isNil as then some (.make c as) else none
    | _ => none) else none
/-- the built-ins by name -/
def biO (x : Str) : Option (Bi × String × Bool) :=
  if x == ("len" : Str) then some (.len, "len", false) else
  if x == ("sum" : Str) then some (.sum, "sum", false) else
  if x == ("abs" : Str) then some (.abs, "abs", false) else
  if x == ("min" : Str) then some (.min, "min", false) else
  if x == ("max" : Str) then some (.max, "max", false) else
  if x == ("sorted" : Str) then some (.sorted, "sorted", false) else
  if x == ("any" : Str) then some (.any, "any", false) else
  if x == ("all" : Str) then some (.all, "all", false) else
  if x == ("list" : Str) then some (.list, "list", true) else
  if x == ("tuple" : Str) then some (.tuple, "tuple", true) else
  if x == ("int" : Str) then some (.int, "int", true) else none
def tyO (x : Str) : Option Ty :=
  if x == ("int" : Str) then some .int else
  if x == ("bool" : Str) then some .bool else
  if x == ("list" : Str) then some .list else
  if x == ("tuple" : Str) then some .tuple else
  if x == ("str" : Str) then some .str else
  if x == ("dict" : Str) then some .dict else none
def lmO (m : Str) : Option Lm :=
  if m == ("append" : Str) then some .append else
  if m == ("extend" : Str) then some .extend else
  if m == ("remove" : Str) then some .remove else
  if m == ("reverse" : Str) then some .reverse else
  if m == ("pop" : Str) then some .pop else
  if m == ("clear" : Str) then some .clear else
  if m == ("index" : Str) then some .index else none
/-- a free built-in name -/
def freeB (cc : CC) (sc : Scope) (x : Str) : Bool := kindG sc x && cc.fr.contains x
def isSet (cc : CC) (sc : Scope) : Expr → Option Expr
  | .Call (.Name x _) [a] [] _ => if x == ("set" : Str) && freeB cc sc x && notStar a then some a else none
  | _ => none
/-- range(..) within list(..) -/
def isRng (cc : CC) (sc : Scope) (f : Expr → Option E) : Expr → Option E
  | .Call (.Name x _) args [] _ => if x == ("range" : Str) && freeB cc sc x then (match args with
    | [a] => (match f a with | some a' => if notStar a then some (.bi .rng1 (.cons a' .nil)) else none | none => none)
    | [a, b] => (match f a, f b with | some a', some b' => if notStar a && notStar b then some (.bi .rng2 (.cons a' (.cons b' .nil))) else none | _, _ => none)
    | _ => none) else none
  | _ => none
def slots (N : List Str) : List Str → Option (List Nat)
  | [] => some []
  | x :: r => match slot N x, slots N r with
    | some i, some is => some (i :: is)
    | _, _ => none
/-- a lambda: its parameters plain, its free names the def's -/
def frOf (scope : Scope) : List Str := scope.names.filterMap fun y => match y.2 with
  | .free => some y.1
  | _ => none
def lpsOf (p : Arguments) : List Str := p.args.map (·.arg)
def lamB (sc : Scope) (p : Arguments) (scope : Scope) : Bool :=
  p.posonlyargs.isEmpty && (p.vararg.isNone && (p.kwonlyargs.isEmpty && (p.kwarg.isNone && (p.defaults.isEmpty && (p.kw_defaults.isEmpty && (NdefX.nscB (lpsOf p ++ frOf scope) (lpsOf p) (frOf scope) scope && NdefX.ndefB sc scope (frOf scope)))))))
def CC.lamC (cc : CC) (p : Arguments) (scope : Scope) : CC := { cc with N := frOf scope ++ lpsOf p, mks := false }
def cLam (cc : CC) (sc : Scope) (g : CC → Scope → Expr → Option E) (p : Arguments) (body : Expr) (scope : Scope) (lp : Pos) : Option (Nat × List Nat) := match cc.lam lp.line lp.col with
  | none => none
  | some f => match slots cc.N (frOf scope), cc.lir f, g (cc.lamC p scope) scope body with
    | some js, some (n, ir), some ir' => if cc.mks && (lamB sc p scope && (decide (ir = ir') && decide (n = (frOf scope ++ lpsOf p).length))) then some (f, js) else none
    | _, _, _ => none
/-- a def that takes a lambda is called with one -/
def cCallL (cc : CC) (sc : Scope) (f : Expr → Option E) (g : CC → Scope → Expr → Option E) (x : Str) (args : List Expr) : Option (Option E) := match args with
  | .Lambda p body scope lp :: rest => some (if kindG sc x && !dbg x then (match cc.gl x with
    | some (.fn k) => if cc.tk k then (match cLam cc sc g p body scope lp, cEs f rest with
      | some (m, js), some as => some (.callL k m js as)
      | _, _ => none) else none
    | _ => none) else none)
  | _ => none
def cCall (cc : CC) (sc : Scope) (f : Expr → Option E) (g : CC → Scope → Expr → Option E) (x : Str) (args : List Expr) : Option E :=
  if kindV sc x then (if dbg x || x == ("__classdict__" : Str) then none else (match args with
    | [] => none
    | _ => match slot cc.N x, cEs f args with
      | some i, some as => some (.callv i as)
      | _, _ => none))
  else match cCallL cc sc f g x args with
  | some r => r
  | none =>
  if x == ("isinstance" : Str) then (match args with
    | [a, .Name t _] => if freeB cc sc x && notStar a then (match f a with
      | some a' => (match tyO t with
        | some ty => if freeB cc sc t then some (.isTy ty a') else none
        | none => if kindG sc t && !dbg t then (match cc.gl t with
          | some (.cls c _) => some (.isCls c a')
          | _ => none) else none)
      | none => none) else none
    | _ => none)
  else match (if x == ("sorted" : Str) then (match args with | [a] => isSet cc sc a | _ => none) else none) with
    | some a => if freeB cc sc x then (f a).map fun a' => .bi .sortedSet (.cons a' .nil) else none
    | none => match (if x == ("list" : Str) then (match args with | [a] => isRng cc sc f a | _ => none) else none) with
     | some e => if freeB cc sc x then some e else none
     | none => match cEs f args with
      | none => none
      | some as => match biO x with
        | some (b, _, _) => if freeB cc sc x && !args.isEmpty then some (.bi b as) else none
        | none => cName cc sc x as
def cMeth (cc : CC) (f : Expr → Option E) (o : Expr) (m : Str) (args : List Expr) (apos pos : Pos) : Option E :=
  if baseOk o && (apos.endLine == pos.line) && decide (args.length < 29) then (match f o, cEs f args with
    | some o', some as => (match lmO m with
      | some l => some (.lm l o' as)
      | none => (match cc.nmo m with
        | some i => some (.meth o' i as)
        | none => none))
    | _, _ => none) else none
def cPart (f : Expr → Option E) : Option Expr → Option E
  | none => some .nil
  | some e => match f e with
    | some .nil => none
    | r => r
def cSub (f : Expr → Option E) (a s : Expr) : Option E := match f a with
  | none => none
  | some a' => match s with
    | .Slice lo hi none _ => (match cPart f lo, cPart f hi with
      | some l, some h => some (.sl a' l h)
      | _, _ => none)
    | .Slice none none (some (.UnaryOp .USub (.Constant (.int 1) _ _) _)) _ => some (.rev a')
    | .Slice (some lo) none (some st) _ => (match f lo, f st with
      | some l, some h => some (.sls a' l h)
      | _, _ => none)
    | .Slice _ _ _ _ => none
    | s => (f s).map (.idx a')
def cCmp (cc : CC) (sc : Scope) (f : Expr → Option E) (a : Expr) (op : CmpOp) (b : Expr) : Option E := match f a with
  | none => none
  | some a' => match op with
    | .Is => (match b with
      | .Constant .none _ _ => some (.isC .non false a')
      | .Constant (.bool v) _ _ => some (.isC (.bl v) false a')
      | _ => none)
    | .IsNot => (match b with
      | .Constant .none _ _ => some (.isC .non true a')
      | .Constant (.bool v) _ _ => some (.isC (.bl v) true a')
      | _ => none)
    | op => match (if op == .In then (match b with | .Name x _ => if kindG sc x && !dbg x then (match cc.gl x with | some (.strs xs) => some xs | _ => none) else none | _ => none) else none) with
      | some xs => some (.inStrs a' xs)
      | none => match copO op, f b with
        | some o, some b' => if behindInMarks op b then none else some (.cmp o a' b')
        | _, _ => none
def cTgs (f : Expr → Option Tg) : List Expr → Option Tg
  | [] => some .nil
  | e :: es => match f e, cTgs f es with
    | some a, some b => if notStar e then some (.cons a b) else none
    | _, _ => none
/-- targets; fb: the names whose cells may be stored -/
def cTg (cc : CC) (sc : Scope) (fb : Str → Bool) : Nat → Expr → Option Tg
  | 0, _ => none
  | n + 1, e => match e with
    | .Name x _ => (match sc.names.lookup x with
      | some .local => (slot cc.N x).map .nm
      | some .cell => if fb x then (slot cc.N x).map .nm else none
      | _ => none)
    | .Tuple es _ _ => (cTgs (cTg cc sc fb n) es).map .tup
    | _ => none
def isTup : Expr → Bool
  | .Tuple _ _ _ => true
  | _ => false
def notSet : Expr → Bool
  | .Set _ _ _ => false
  | _ => true
/-- what is walked -/
def cIter (cc : CC) (sc : Scope) (f : Expr → Option E) (tg it : Expr) : Option E := match (match it with
    | .Call (.Name x _) args [] _ =>
      if x == ("range" : Str) then (if freeB cc sc x then (match args with
        | [a] => (match f a with | some a' => if notStar a then some (some (.rng1 a')) else some none | none => some none)
        | [a, b] => (match f a, f b with | some a', some b' => if notStar a && notStar b then some (some (.rng2 a' b')) else some none | _, _ => some none)
        | [a, b, c] => (match f a, f b, f c with | some a', some b', some c' => if notStar a && (notStar b && notStar c) then some (some (.rng3 a' b' c')) else some none | _, _, _ => some none)
        | _ => some none) else some none)
      else if x == ("enumerate" : Str) then (if freeB cc sc x && isTup tg then (match args with
        | [a] => (match f a with | some a' => if notStar a then some (some (.enum a')) else some none | none => some none)
        | _ => some none) else some none)
      else if x == ("zip" : Str) then (if freeB cc sc x && isTup tg then (match args with
        | [a, b] => (match f a, f b with | some a', some b' => if notStar a && notStar b then some (some (.zip a' b')) else some none | _, _ => some none)
        | _ => some none) else some none)
      else none
    | _ => none : Option (Option E)) with
  | some r => r
  | none => if notSet it then (f it).map .seq else none
/-- the slots of a comprehension's own names -/
def ownO (N : List Str) : List (Str × NameKind) → List (Str × Nat)
  | [] => []
  | (x, k) :: r => match k with
    | .local => (match slot N x with | some i => (x, i) :: ownO N r | none => ownO N r)
    | .cell => (match slot N x with | some i => (x, i) :: ownO N r | none => ownO N r)
    | _ => ownO N r
def cComp (cc : CC) (sc : Scope) (f : Scope → Expr → Option E) (n : Nat) (elt : Expr) (gs : List Comprehension) (scope : Scope) : Option E := match gs with
  | [⟨tg, it, ifs, 0⟩] =>
    if blkC cc.N sc scope (ownO cc.N scope.names) then (match cIter cc sc (f sc) tg it, cTg cc (relS scope sc) (fun x => scope.names.lookup x == some .cell) n tg, f (relS scope sc) elt with
      | some i, some t, some e => if (tgS t).all (fun j => ((ownO cc.N scope.names).map (·.2)).contains j) then (match ifs with
        | [] => some (.comp ((ownO cc.N scope.names).map (·.2)) t i (.con (.bl true)) e)
        | [c] => (match f (relS scope sc) c with
          | some c' => if tstOk c then some (.comp ((ownO cc.N scope.names).map (·.2)) t i c' e) else none
          | none => none)
        | _ => none) else none
      | _, _, _ => none) else none
  | _ => none
def cE : CC → Nat → Scope → Expr → Option E
  | _, 0, _, _ => none
  | cc, n + 1, sc, e => match e with
    | .Name x _ => if kindV sc x then (if dbg x || x == ("__classdict__" : Str) then none else (slot cc.N x).map .var)
      else if kindG sc x && !dbg x then (match cc.gl x with
        | some (.int i) => some (.con (.int i))
        | some (.fn f) => some (.con (.fn f))
        | _ => none) else none
    | .Constant c _ _ => (match c with
      | .int i => some (.con (.int i))
      | .bool b => some (.con (.bl b))
      | .none => some (.con .non)
      | .str x => some (.con (.str x))
      | _ => none)
    | .BinOp a op b _ => (match cE cc n sc a, cE cc n sc b, bopO op with
      | some a', some b', some o => some (.bin o a' b')
      | _, _, _ => none)
    | .UnaryOp op a _ => (match op, cE cc n sc a with
      | .USub, some a' => some (.neg a')
      | .Not, some a' => if tstOk a then some (.not a') else none
      | _, _ => none)
    | .BoolOp op vs _ => cBool op (cE cc n sc) vs
    | .IfExp c a b _ => (match cE cc n sc c, cE cc n sc a, cE cc n sc b with
      | some c', some a', some b' => if tstOk c then some (.ite c' a' b') else none
      | _, _, _ => none)
    | .Compare a ops cs _ => (match ops, cs with
      | [op], [b] => cCmp cc sc (cE cc n sc) a op b
      | [op, op'], [b, c] => (match copO op, copO op', cE cc n sc a, cE cc n sc b, cE cc n sc c with
        | some o, some p, some a', some b', some c' => if lastMarks [op, op'] [b, c] then none else some (.chain o p a' b' c')
        | _, _, _, _, _ => none)
      | _, _ => none)
    | .Call f args kws pos => (match kws with
      | [] => (match f with
        | .Name x _ => cCall cc sc (cE cc n sc) (fun cc2 sc2 e2 => cE cc2 n sc2 e2) x args
        | .Attribute o m apos => cMeth cc (cE cc n sc) o m args apos pos
        | _ => none)
      | _ => none)
    | .Attribute a m _ => if baseOk a then (match cE cc n sc a, cc.nmo m with
      | some a', some i => some (.fld a' i)
      | _, _ => none) else none
    | .Subscript a s _ => cSub (cE cc n sc) a s
    | .List es _ => (cEs (cE cc n sc) es).map .lst
    | .Tuple es _ _ => (cEs (cE cc n sc) es).map .tup
    | .Dict ks vs _ => (match ks, vs with
      | [], [] => some .dnew
      | _, _ => none)
    | .ListComp elt gs scope _ => cComp cc sc (cE cc n) n elt gs scope
    | _ => none

/-! ### statements -/
def isLc : Expr → Bool
  | .ListComp _ _ _ _ => true
  | .SetComp _ _ _ _ => true
  | .DictComp _ _ _ _ _ => true
  | _ => false
/-- does the comprehension store the name itself -/
def selfStore (sc : Scope) (y : Str) (py : Pos) : Expr → Bool
  | .ListComp _ _ scope pos => decide (sc.names.lookup y = some .local) && (py.line == pos.line) && !(scope.names.any fun (n, k) => n == y && (k == .local || k == .cell))
  | _ => false
/-- the names of a swapped store: none: not swapped -/
def swp (sc : Scope) (ts vs : List Expr) : Option (Option (List Str)) :=
  if !(ts.length == 2 || ts.length == 3) || vs.length != ts.length then some none else
  if vs.any (fun e => !notStar e) then some none else
  let line := (ts.head?.map (·.pos.line)).getD 0
  let names := ts.filterMap fun
    | .Name id pos => if sc.names.lookup id == some .local && pos.line == line then some id else none
    | _ => none
  if names.length != ts.length || names.eraseDups.length != names.length then some none else
  if vs.all (foldedForSure 8) then some none else
  if vs.all (constantsAlone 8) then none else some (some names)
def nameOfE : Expr → Option Str
  | .Name x _ => some x
  | _ => none
def namesOf : List Expr → Option (List Str)
  | [] => some []
  | e :: r => match nameOfE e, namesOf r with
    | some x, some xs => some (x :: xs)
    | _, _ => none
def ixPlain : Expr → Bool
  | .Slice _ _ _ _ => false
  | _ => true
def cAsg (cc : CC) (sc : Scope) (n : Nat) (tg e : Expr) : Option Sm := match tg with
  | .Name y py => (match cTg cc sc (fun _ => true) n tg, cE cc n sc e with
    | some t, some e' => if isLc e then (match e with
        | .ListComp _ _ _ _ => some (.asg t e')
        | _ => none) else some (.asg t e')
    | _, _ => none)
  | .Tuple ts _ _ => if isLc e then none else (match e with
    | .Tuple vs _ _ => (match swp sc ts vs with
      | some none => (match cTg cc sc (fun _ => true) n tg, cE cc n sc e with
        | some t, some e' => some (.asg t e')
        | _, _ => none)
      | some (some names) => (match slots cc.N names, cEs (cE cc n sc) vs with
        | some is, some as => if decide (namesOf ts = some names) && decide is.Nodup then some (.par is as) else none
        | _, _ => none)
      | none => none)
    | _ => (match cTg cc sc (fun _ => true) n tg, cE cc n sc e with
      | some t, some e' => some (.asg t e')
      | _, _ => none))
  | .Attribute o m _ => if isLc e then none else (match cE cc n sc o, cc.nmo m, cE cc n sc e with
    | some o', some i, some e' => some (.setf o' i e')
    | _, _, _ => none)
  | .Subscript o i _ => if isLc e || !ixPlain i then none else (match cE cc n sc o, cE cc n sc i, cE cc n sc e with
    | some o', some i', some e' => some (.seti o' i' e')
    | _, _, _ => none)
  | _ => none
def cSs (f : Stmt → Option Sm) : List Stmt → Option Sm
  | [] => some .skip
  | s :: r => match f s, cSs f r with
    | some a, some b => some (.seq a b)
    | _, _ => none
/-- try: a(t) / except c as e: k = w(e) -/
def cTry (cc : CC) (sc : Scope) (a t c e k w e2 : Str) : Option Sm := match slot cc.N a, slot cc.N t, slot cc.N e, slot cc.N k, cc.gl c, cc.gl w with
  | some i, some j, some x, some kk, some (.exc cid), some (.fn wf) =>
    if kindV sc a && kindV sc t && kindG sc c && kindG sc w && decide (sc.names.lookup e = some .local) && decide (sc.names.lookup k = some .local) && decide (e2 = e) && cc.wh wf && decide (kk ≠ x) && ([a, t, c, w, e].all fun y => !dbg y && !(y == ("__classdict__" : Str)))
    then some (.tryA i (.cons (.var j) .nil) cid x kk wf) else none
  | _, _, _, _, _, _ => none
def cS (cc : CC) : Nat → Scope → Stmt → Option Sm
  | 0, _, _ => none
  | n + 1, sc, s => match s with
    | .Pass _ => some .skip
    | .Expr e _ => if isLc e then none else (cE cc n sc e).map .ex
    | .Return v _ => (match v with
      | some e => (cE cc n sc e).map .ret
      | none => some (.ret (.con .non)))
    | .If c a b _ => (match cE cc n sc c, cSs (cS cc n sc) a, cSs (cS cc n sc) b with
      | some c', some a', some b' => if tstOk c then some (.ite c' a' b') else none
      | _, _, _ => none)
    | .For tg it body els _ => (match els with
      | [] => (match cIter cc sc (cE cc n sc) tg it, cTg cc sc (fun _ => true) n tg, cSs (cS cc n sc) body with
        | some i, some t, some b => some (.for_ t i b)
        | _, _, _ => none)
      | _ => none)
    | .While c body els _ => (match els with
      | [] => (match cE cc n sc c, cSs (cS cc n sc) body with
        | some c', some b => if tstOk c then some (.while_ c' b) else none
        | _, _ => none)
      | _ => none)
    | .Assign ts e _ => (match ts with
      | [tg] => cAsg cc sc n tg e
      | _ => none)
    | .AugAssign t op e _ => (match t, op, e with
      | .Attribute o m _, .Add, .Constant (.int k) _ _ => (match cE cc n sc o, cc.nmo m with
        | some o', some i => some (.augf o' i k)
        | _, _ => none)
      | _, _, _ => none)
    | .Raise e c _ => (match e, c with
      | some (.Call (.Name x _) [.Constant (.str _) _ _] [] _), none => if kindG sc x && !dbg x then (match cc.gl x with
        | some (.exc c) => some (.raise c)
        | _ => none) else none
      | _, _ => none)
    | .Try body hs els fin _ => (match body, hs, els, fin with
      | [.Expr (.Call (.Name a _) [.Name t _] [] _) _], [.ExceptHandler (some (.Name c _)) (some e) [.Assign [.Name k _] (.Call (.Name w _) [.Name e2 _] [] _) _] _], [], [] => cTry cc sc a t c e k w e2
      | _, _, _, _ => none)
    | _ => none
/-- a def's body -/
def cBody (cc : CC) (sc : Scope) (b : List Stmt) : Option Sm := cSs (cS cc 40 sc) b
end Ev
end

section
set_option Elab.async false
set_option linter.all false
set_option maxRecDepth 100000
set_option maxHeartbeats 1000000
/-! Cmp1: the IR of an expression does what the expression does. -/
namespace Ev
open PySem PySem.Spec PyProof.Rows L2
/-- the lambda f keeps what its body says -/
def LamAt (G : GE) (cc : CC) (e f n : Nat) (ir : E) : Prop := ∀ (sc : Scope) (par : Arguments) (body : Expr) (scope : Scope) (k : Nat), lamB sc par scope = true → n = (frOf scope ++ lpsOf par).length → cE (cc.lamC par scope) k scope body = some ir →
  ∀ (q : Str) (cl : List (Str × Addr)) (a ca : Addr) (pmv ctv : Value) (outer : List PySem.Env) (s : Shared) (H : Hp) (wsV : List V), s.heap.get? a = some (PySem.W.kla_obj "<lambda>" q par body scope cl pmv ca ctv) → H a = none → a ∉ frs outer →
    NdefX.CellsAt cl (frOf scope) (wsV.map some) s.heap H → CloC G e f a wsV outer s H (ca, q)
/-- a def that makes lambdas: its code object, its table -/
def MkC (G : GE) (X : Cx) : Prop := ∃ cA tA, LamX.TabB X.base X.mg cA tA ∧ X.env.code = .ref cA ∧ (tA, X.env.qual ++ "<lambda>") ∈ G.tabs ∧ ∀ p ∈ G.tabs, p.1 = tA → p.2 = X.env.qual ++ "<lambda>"
/-- what the names stand for -/
structure CF (G : GE) (cc : CC) (d : Nat) : Prop where
  all : ∀ f, f < G.T.nd → FnAt G d f
  tkc : cc.mks = true → ∀ g, cc.tk g = true → FnC G d g
  lam : cc.mks = true → ∀ e, e + 1 = d → ∀ f n ir, cc.lir f = some (n, ir) → LamAt G cc e f n ir
  fn : ∀ x f, cc.gl x = some (.fn f) → G.mg x = some (.ref (G.fA f)) ∧ FnAt G d f
  cls : ∀ x c o, cc.gl x = some (.cls c o) → G.mg x = some (.ref (G.cA c)) ∧ (if o then ∃ f, G.T.ini c = some (some f) ∧ FnAt G d f else G.T.ini c = some none) ∧ ∃ d b, G.T.sub d c = some b
  exc : ∀ x c, cc.gl x = some (.exc c) → G.mg x = some (.ref (G.cA c)) ∧ PySem.W.excIn G.K (G.cA c) HandSPX.veTail "ValueError.__new__" = true ∧ PySem.W.keepIn G.K (.ref (G.cA c)) = true ∧ PySem.W.subIn G.K (.ref (G.cA c)) (.type "BaseException") = some true ∧ PySem.W.typeIn G.K (.ref (G.cA c)) = some (.type "type")
  int : ∀ x i, cc.gl x = some (.int i) → ∃ t, G.mg x = some (.int i t)
  sts : ∀ x xs, cc.gl x = some (.strs xs) → ∃ a, G.mg x = some (.ref a) ∧ ∀ H, SqT G.K H a (xs.map V.str)
  fr : ∀ x, cc.fr.contains x = true → G.mg x = none
  nmo : ∀ m i, cc.nmo m = some i → G.nm i = m
  mth : ∀ c m f, G.T.mth c m = some f → FnAt G d f
structure Cnx (G : GE) (cc : CC) (d : Nat) (W : WC) (sc : Scope) (fb : Str → Bool) (X : Cx) : Prop extends Cxt G X where
  N : X.N = cc.N
  nd : cc.N.Nodup
  scE : X.env.scope = sc
  kind : sc.kind = .function
  room : Room (lvl d + 1) X.A
  pas : Passes (L2N.CX X.prog X.w) X (EW G W)
  own : PassesOwn (model X.prog X.w) X.A X.env X.xe
  fnb : X.fn = fb
  mkc : cc.mks = true → MkC G X
theorem slot_ok {N : List Str} {x : Str} {i : Nat} (h : slot N x = some i) : N[i]? = some x := by
  unfold slot at h
  obtain ⟨h1, h2, _⟩ := List.findIdx?_eq_some_iff_getElem.mp h
  rw [List.getElem?_eq_getElem h1]
  exact congrArg some (eq_of_beq h2)
section
variable {G : GE} {cc : CC} {d : Nat} {W : WC} {sc : Scope} {fb : Str → Bool} {X : Cx}
theorem Cnx.vis (C : Cnx G cc d W sc fb X) {x : Str} (h : kindV sc x = true) : Vis X.env.scope x := by
  unfold kindV at h
  rw [C.scE]
  unfold Vis
  split at h
  · rename_i e; exact .inl e
  · rename_i e; exact .inr (.inl e)
  · rename_i e; exact .inr (.inr e)
  · cases h
theorem Cnx.gl (C : Cnx G cc d W sc fb X) {x : Str} (h : kindG sc x = true) : Gl X x := by
  unfold kindG at h
  unfold Gl PySem.Env.kindOf
  rw [C.scE]
  split at h
  · rename_i e; exact e
  · cases h
theorem Cnx.free (C : Cnx G cc d W sc fb X) (F : CF G cc d) {x : Str} (h : freeB cc sc x = true) : Gl X x ∧ X.mg x = none := by
  obtain ⟨h1, h2⟩ := Bool.and_eq_true_iff.mp h
  exact ⟨C.gl h1, by rw [C.mg]; exact F.fr x h2⟩
theorem Cnx.blk (C : Cnx G cc d W sc fb X) {scope : Scope} (hk : scope.kind = .function) (s : Shared) (H : Hp) (C' : Addr) (cl : List (Str × Addr)) (fp : List Addr) :
    Cnx G cc d (fun _ _ => False) (relS scope sc) (fun x => scope.names.lookup x == some .cell) (X.blk s H scope (compEnvC scope cl C' X.env) fp) where
  prog := C.prog
  w := C.w
  K := C.K
  mg := C.mg
  base := C.base
  calm := C.calm
  un := C.un
  N := C.N
  nd := C.nd
  scE := by rw [← C.scE]; rfl
  kind := hk
  room := C.room
  pas := fun pins σ H s e s' I h => by
    obtain ⟨a, B, H', cls, dd, _, _, _, _, _, _, _, c, _, _, w⟩ := h
    exact w
  own := PassesOwn.never
  fnb := rfl
  mkc := fun h => C.mkc h
theorem dbg_ok {x : Str} (h : dbg x = false) : (x == ("__debug__" : Str)) = false := h
theorem bopO_ok {op : Operator} {o : Bop} (h : bopO op = some o) : op = opOf o := by
  cases op <;> simp [bopO] at h <;> subst h <;> rfl
theorem copO_ok {op : CmpOp} {o : Cop} (h : copO op = some o) : op = cmpOf o := by
  cases op <;> simp [copO] at h <;> subst h <;> rfl
/-- a test by its value, where the syntax has no test of its own -/
def plainT : Expr → Bool
  | .UnaryOp .Not _ _ => false
  | .BoolOp _ _ _ => false
  | .IfExp _ _ _ _ => false
  | .Compare _ _ _ _ => false
  | _ => true
theorem plain_ok {e : Expr} (h : plainT e = true) (env : PySem.Env) (whole : Sem Value) : isTrue e env whole = (do let v ← whole; standAt e.pos; holding [v] (truthy v)) := by
  cases e <;> first | rfl | (cases h; done) | skip
  rename_i op a p
  cases op <;> first | rfl | cases h
/-- an expression's two readings -/
def Both (G : GE) (W : WC) (X : Cx) (e : Expr) (f : Rho → Sto → Res Va) : Prop := PE X e (tE G W f) ∧ (tstOk e = true → PT X e (tT G W f))
theorem both_of {e : Expr} {f : Rho → Sto → Res Va} (hp : plainT e = true) (h : PE X e (tE G W f)) : Both G W X e f := ⟨h, fun _ => sT_of h (plain_ok hp _)⟩
/-- the promise of the recursion -/
def IH (G : GE) (cc : CC) (d : Nat) (g : Scope → Expr → Option E) : Prop := ∀ sc e ir W fb X, g sc e = some ir → Cnx G cc d W sc fb X → Both G W X e (evE G.T (run G.T d) ir)
variable {g : Scope → Expr → Option E}
theorem cEs_ok (ih : IH G cc d g) (C : Cnx G cc d W sc fb X) : ∀ {es : List Expr} {as : E}, cEs (g sc) es = some as → PA X es (tA G W (evA G.T (run G.T d) as)) ∧ es.all notStar = true
  | [], as, h => by
    cases (show some E.nil = some as from h)
    exact ⟨sA_nil, rfl⟩
  | e :: es, as, h => by
    simp only [cEs] at h
    split at h
    · rename_i a b h1 h2
      split at h
      · rename_i hn
        cases h
        obtain ⟨k1, k2⟩ := cEs_ok ih C h2
        exact ⟨sA_cons (ih _ _ _ _ _ _ h1 C).1 k1 (star_ok hn _ _), by rw [List.all_cons, hn, k2]; rfl⟩
      · cases h
    · cases h
theorem cBool_ok (ih : IH G cc d g) (C : Cnx G cc d W sc fb X) (op : BoolOp) (pos : Pos) : ∀ {es : List Expr} {ir : E}, cBool op (g sc) es = some ir → PE X (.BoolOp op es pos) (tE G W (evE G.T (run G.T d) ir)) ∧ PW X (.BoolOp op es pos) (tT G W (evE G.T (run G.T d) ir))
  | [], _, h => by cases h
  | [e], ir, h => by
    simp only [cBool] at h
    split at h
    · rename_i ht
      obtain ⟨k1, k2⟩ := ih _ _ _ _ _ _ h C
      refine ⟨pe_one k1, ?_⟩
      cases op with
      | And => exact pw_and1 (k2 ht)
      | Or => exact pw_or1 (k2 ht)
    · cases h
  | e :: e2 :: es, ir, h => by
    simp only [cBool] at h
    split at h
    · rename_i a b h1 h2
      split at h
      · rename_i ht
        cases h
        obtain ⟨k1, k2⟩ := ih _ _ _ _ _ _ h1 C
        obtain ⟨k3, k4⟩ := cBool_ok ih C op pos (es := e2 :: es) h2
        cases op with
        | And => exact ⟨sE_and k1 k3, sW_and (k2 ht) k4⟩
        | Or => exact ⟨sE_or k1 k3, sW_or (k2 ht) k4⟩
      · cases h
    · cases h
theorem cName_ok (F : GF G) (CFa : CF G cc d) (ih : IH G cc d g) (C : Cnx G cc d W sc fb X) {x : Str} {p pos : Pos} {args : List Expr} {as ir : E} (ha : cEs (g sc) args = some as) (h : cName cc sc x as = some ir) :
    PE X (.Call (.Name x p) args [] pos) (tE G W (evE G.T (run G.T d) ir)) := by
  obtain ⟨k1, k2⟩ := cEs_ok ih C ha
  unfold cName at h
  split at h
  · rename_i hk
    obtain ⟨g1, g2⟩ := Bool.and_eq_true_iff.mp hk
    have hdb : (x == ("__debug__" : Str)) = false := by simpa [dbg] using g2
    split at h
    · rename_i f e
      cases h
      obtain ⟨m1, m2⟩ := CFa.fn x f e
      have hm : X.mg x = some (.ref (G.fA f)) := by rw [C.mg]; exact m1
      cases args with
      | nil =>
        cases (show some E.nil = some as from ha)
        exact sE_call0 C.toCxt m2 (C.room.mono (Nat.le_succ _)) (C.gl g1) hm hdb C.pas
      | cons a0 es => exact sE_call C.toCxt m2 (C.room.mono (Nat.le_succ _)) (C.gl g1) hm hdb C.pas k1 k2
    · rename_i c o e
      split at h
      · rename_i ho
        cases h
        obtain ⟨m1, m2, _⟩ := CFa.cls x c o e
        have hm : X.mg x = some (.ref (G.cA c)) := by rw [C.mg]; exact m1
        show PE X _ (tE G W fun r S => (evA G.T (run G.T d) as r S).bind fun xs S1 => mkF G.T (run G.T d) c xs S1)
        cases o with
        | false =>
          cases args with
          | nil =>
            cases (show some E.nil = some as from ha)
            exact sE_mk0 C.toCxt F m2 (C.gl g1) hm hdb
          | cons a0 es =>
            exfalso
            simp only [cEs] at ha
            split at ha
            · split at ha
              · cases ha; cases ho
              · cases ha
            · cases ha
        | true =>
          obtain ⟨f, hi, hf⟩ := m2
          cases args with
          | nil =>
            cases (show some E.nil = some as from ha)
            exact sE_make0 C.toCxt F hi hf C.room (C.gl g1) hm hdb C.pas
          | cons a0 es => exact sE_make C.toCxt F hi hf C.room (C.gl g1) hm hdb C.pas k1 k2
      · cases h
    · cases h
  · cases h
theorem slots_ok {N : List Str} : ∀ {xs : List Str} {is : List Nat}, slots N xs = some is → is.map (fun j => N[j]?) = xs.map some
  | [], is, h => by
    cases (show some [] = some is from h)
    rfl
  | x :: r, is, h => by
    simp only [slots] at h
    split at h
    · rename_i i js e1 e2
      cases h
      rw [List.map_cons, List.map_cons, slot_ok e1, slots_ok e2]
    · cases h
theorem lamB_dfl {sc scope : Scope} {p : Arguments} (h : lamB sc p scope = true) (env : PySem.Env) : defaultsOf p env = ([], []) := by
  unfold lamB at h
  simp only [Bool.and_eq_true, List.isEmpty_iff] at h
  obtain ⟨_, _, _, _, h1, h2, _⟩ := h
  obtain ⟨po, ar, va, ko, kd, kw, df⟩ := p
  dsimp only at h1 h2
  subst h1 h2
  rfl
theorem lamB_def {sc scope : Scope} {p : Arguments} (h : lamB sc p scope = true) : NdefX.ndefB sc scope (frOf scope) = true := by
  unfold lamB at h
  simp only [Bool.and_eq_true] at h
  exact h.2.2.2.2.2.2.2
theorem lamB_ns {sc scope : Scope} {p : Arguments} (h : lamB sc p scope = true) : NdefX.NScope (lpsOf p ++ frOf scope) (lpsOf p) (frOf scope) scope := by
  unfold lamB at h
  simp only [Bool.and_eq_true] at h
  exact NdefX.nscope_by h.2.2.2.2.2.2.1
theorem cCallL_ok (CFa : CF G cc d) (ih : IH G cc d g) (C : Cnx G cc d W sc fb X) {n : Nat} {x : Str} {p pos : Pos} {args : List Expr} {ir : E} (h : cCallL cc sc (g sc) (fun cc2 sc2 e2 => cE cc2 n sc2 e2) x args = some (some ir)) :
    PE X (.Call (.Name x p) args [] pos) (tE G W (evE G.T (run G.T d) ir)) := by
  unfold cCallL at h
  split at h
  · rename_i par body scope lp rest
    have h := Option.some.inj h
    split at h
    · rename_i hk
      obtain ⟨g1, g2⟩ := Bool.and_eq_true_iff.mp hk
      have hdb : (x == ("__debug__" : Str)) = false := by simpa [dbg] using g2
      split at h
      · rename_i k ek
        split at h
        · rename_i ht
          split at h
          · rename_i m js as el ea
            cases h
            unfold cLam at el
            split at el
            · cases el
            · rename_i f ef
              split at el
              · rename_i js' n' ir' ir2 e1 e2 e3
                split at el
                · rename_i hl
                  cases el
                  simp only [Bool.and_eq_true, decide_eq_true_eq] at hl
                  obtain ⟨hm, hb, rfl, hn⟩ := hl
                  obtain ⟨m1, m2⟩ := CFa.fn x k ek
                  obtain ⟨k1, k2⟩ := cEs_ok ih C ea
                  obtain ⟨cA, tA', t1, t2, t3, t4⟩ := C.mkc hm
                  obtain ⟨_, _, _, _, kp⟩ := FnAt.ok C.toCxt m2
                  have hd := lamB_def hb
                  exact sE_callL C.toCxt (CFa.tkc hm k ht) (C.room.mono (Nat.le_succ _)) (C.gl g1) (by rw [C.mg]; exact m1) kp hdb C.pas t1 t2 t3 t4 (lamB_dfl hb _) (fun y hy e => by rw [C.scE]; exact NdefX.ndef_free hd y hy e) (NdefX.ndef_fr hd) (by rw [C.N]; exact slots_ok e1)
                    (fun e he a ca pmv ctv outer s H wsV h1 h2 h3 h4 => CFa.lam hm e he _ _ _ e2 sc par body scope n hb hn e3 _ _ a ca pmv ctv outer s H wsV h1 h2 h3 h4) k1 k2
                · cases el
              · cases el
          · cases h
        · cases h
      · cases h
    · cases h
  · cases h
end
end Ev
end

section
set_option Elab.async false
set_option linter.all false
set_option maxRecDepth 100000
set_option maxHeartbeats 1000000
/-! Cmp2: calls, methods, subscripts, comparisons, targets, walks, comprehensions; every expression. -/
namespace Ev
open PySem PySem.Spec PyProof.Rows L2
section
variable {G : GE} {cc : CC} {d : Nat} {W : WC} {sc : Scope} {fb : Str → Bool} {X : Cx} {g : Scope → Expr → Option E}
theorem tyO_ok {x : Str} {t : Ty} (h : tyO x = some t) : bootBuiltins x = some (.type (tyN t)) ∧ x ≠ "__name__" ∧ (x == ("__debug__" : Str)) = false := by
  unfold tyO at h
  split at h
  · rename_i e; cases h; cases eq_of_beq e; exact ⟨by decide +kernel, by decide, by decide⟩
  split at h
  · rename_i e; cases h; cases eq_of_beq e; exact ⟨by decide +kernel, by decide, by decide⟩
  split at h
  · rename_i e; cases h; cases eq_of_beq e; exact ⟨by decide +kernel, by decide, by decide⟩
  split at h
  · rename_i e; cases h; cases eq_of_beq e; exact ⟨by decide +kernel, by decide, by decide⟩
  split at h
  · rename_i e; cases h; cases eq_of_beq e; exact ⟨by decide +kernel, by decide, by decide⟩
  split at h
  · rename_i e; cases h; cases eq_of_beq e; exact ⟨by decide +kernel, by decide, by decide⟩
  · cases h
/-- a built-in's call -/
theorem biO_ok (C : Cxt G X) {x : Str} {b : Bi} {id : String} {ty : Bool} {p pos : Pos} {a0 : Expr} {es : List Expr} {fas : Rho → Sto → Res (List Va)} (h : biO x = some (b, id, ty)) (hg : Gl X x) (hm : X.mg x = none)
    (ha : PA X (a0 :: es) (tA G W fas)) (hs : (a0 :: es).all notStar = true) : PE X (.Call (.Name x p) (a0 :: es) [] pos) (tE G W fun r S => (fas r S).bind fun xs S1 => bi b xs S1) := by
  unfold biO at h
  split at h
  · rename_i e; cases h; cases eq_of_beq e; exact sE_bi C (cb_len C) hg hm (by decide +kernel) (by decide) (by decide) ha hs
  split at h
  · rename_i e; cases h; cases eq_of_beq e; exact sE_bi C (cb_sum C) hg hm (by decide +kernel) (by decide) (by decide) ha hs
  split at h
  · rename_i e; cases h; cases eq_of_beq e; exact sE_bi C (cb_abs C) hg hm (by decide +kernel) (by decide) (by decide) ha hs
  split at h
  · rename_i e; cases h; cases eq_of_beq e; exact sE_bi C (cb_min C) hg hm (by decide +kernel) (by decide) (by decide) ha hs
  split at h
  · rename_i e; cases h; cases eq_of_beq e; exact sE_bi C (cb_max2 C) hg hm (by decide +kernel) (by decide) (by decide) ha hs
  split at h
  · rename_i e; cases h; cases eq_of_beq e; exact sE_bi C (cb_sorted C) hg hm (by decide +kernel) (by decide) (by decide) ha hs
  split at h
  · rename_i e; cases h; cases eq_of_beq e; exact sE_bi C (cb_any C) hg hm (by decide +kernel) (by decide) (by decide) ha hs
  split at h
  · rename_i e; cases h; cases eq_of_beq e; exact sE_bi C (cb_all C) hg hm (by decide +kernel) (by decide) (by decide) ha hs
  split at h
  · rename_i e; cases h; cases eq_of_beq e; exact sE_biT C (cb_list C) hg hm (by decide +kernel) (by decide) (by decide) ha hs
  split at h
  · rename_i e; cases h; cases eq_of_beq e; exact sE_biT C (cb_tuple C) hg hm (by decide +kernel) (by decide) (by decide) ha hs
  split at h
  · rename_i e; cases h; cases eq_of_beq e; exact sE_biT C (cb_int C) hg hm (by decide +kernel) (by decide) (by decide) ha hs
  · cases h
theorem isRng_ok (F : GF G) (CFa : CF G cc d) (ih : IH G cc d g) (C : Cnx G cc d W sc fb X) {a : Expr} {ir : E} {p pos : Pos} (h : isRng cc sc (g sc) a = some ir) (hg : Gl X "list") (hm : X.mg "list" = none) :
    PE X (.Call (.Name "list" p) [a] [] pos) (tE G W (evE G.T (run G.T d) ir)) := by
  unfold isRng at h
  split at h
  · rename_i y args py pc
    split at h
    · rename_i hy
      obtain ⟨hy, hf⟩ := Bool.and_eq_true_iff.mp hy
      cases eq_of_beq hy
      obtain ⟨g3, g4⟩ := C.free CFa hf
      split at h
      · rename_i a1
        split at h
        · rename_i a' ea
          split at h
          · rename_i hs
            cases h
            refine PE.weak (sE_lrng1 C.toCxt hg hm g3 g4 (ih _ _ _ _ _ _ ea C).1 hs) fun σ H Q ⟨μ, r, S, en, re, q⟩ => ⟨μ, r, S, en, re, ?_⟩
            revert q
            simp only [evE, evA]
            cases evE G.T (run G.T d) a' r S <;> exact fun q => q
          · cases h
        · cases h
      · rename_i a1 b1
        split at h
        · rename_i a' b' ea eb
          split at h
          · rename_i hs
            cases h
            obtain ⟨s1, s2⟩ := Bool.and_eq_true_iff.mp hs
            refine PE.weak (sE_lrng2 C.toCxt hg hm g3 g4 (ih _ _ _ _ _ _ ea C).1 (ih _ _ _ _ _ _ eb C).1 s1 s2) fun σ H Q ⟨μ, r, S, en, re, q⟩ => ⟨μ, r, S, en, re, ?_⟩
            revert q
            simp only [evE, evA]
            cases evE G.T (run G.T d) a' r S with
            | ok v S1 =>
              simp only [Res.bind_ok]
              cases evE G.T (run G.T d) b' r S1 <;> exact fun q => q
            | _ => exact fun q => q
          · cases h
        · cases h
      · cases h
    · cases h
  · cases h
theorem cCall_ok (F : GF G) (CFa : CF G cc d) (ih : IH G cc d g) (C : Cnx G cc d W sc fb X) {n : Nat} {x : Str} {p pos : Pos} {args : List Expr} {ir : E} (h : cCall cc sc (g sc) (fun cc2 sc2 e2 => cE cc2 n sc2 e2) x args = some ir) :
    PE X (.Call (.Name x p) args [] pos) (tE G W (evE G.T (run G.T d) ir)) := by
  unfold cCall at h
  split at h
  · rename_i hv
    split at h
    · cases h
    · rename_i hd
      have hd2 : dbg x = false ∧ (x == ("__classdict__" : Str)) = false := by simpa using hd
      split at h
      · cases h
      · rename_i hne
        split at h
        · rename_i i as e1 e2
          cases h
          obtain ⟨k1, k2⟩ := cEs_ok ih C e2
          cases args with
          | nil => exact absurd rfl hne
          | cons a0 es => exact sE_callv C.toCxt CFa.all (C.room.mono (Nat.le_succ _)) (by rw [C.N]; exact slot_ok e1) (C.vis hv) hd2.1 hd2.2 C.pas k1 k2
        · cases h
  split at h
  · rename_i r hr
    subst h
    exact cCallL_ok CFa ih C hr
  rename_i hr0
  clear hr0
  split at h
  · rename_i ex
    cases eq_of_beq ex
    split at h
    · rename_i a t pt
      split at h
      · rename_i hfa
        obtain ⟨h1, h2⟩ := Bool.and_eq_true_iff.mp hfa
        obtain ⟨g1, g2⟩ := C.free CFa h1
        split at h
        · rename_i a' ea
          obtain ⟨k1, _⟩ := ih _ _ _ _ _ _ ea C
          split at h
          · rename_i ty et
            split at h
            · rename_i hft
              cases h
              obtain ⟨g3, g4⟩ := C.free CFa hft
              obtain ⟨t1, t2, t3⟩ := tyO_ok et
              exact sE_isTy C.toCxt F g1 g2 g3 g4 t1 t2 t3 k1 h2
            · cases h
          · split at h
            · rename_i hk
              obtain ⟨q1, q2⟩ := Bool.and_eq_true_iff.mp hk
              split at h
              · rename_i c o e
                cases h
                obtain ⟨m1, _, m3⟩ := CFa.cls t c o e
                exact sE_isCls C.toCxt F g1 g2 (C.gl q1) (by rw [C.mg]; exact m1) (by simpa [dbg] using q2) m3 k1 h2
              · cases h
            · cases h
        · cases h
      · cases h
    · cases h
  · split at h
    · rename_i a ea
      split at ea
      · rename_i ex
        cases eq_of_beq ex
        split at ea
        · rename_i b
          unfold isSet at ea
          split at ea
          · rename_i y py a2 pc
            split at ea
            · rename_i hy
              cases ea
              obtain ⟨hy, hn⟩ := Bool.and_eq_true_iff.mp hy
              obtain ⟨hy, hf2⟩ := Bool.and_eq_true_iff.mp hy
              cases eq_of_beq hy
              split at h
              · rename_i hf1
                cases ek : g sc a with
                | none => rw [ek] at h; cases h
                | some a' =>
                  rw [ek] at h
                  cases (show some (E.bi Bi.sortedSet (.cons a' .nil)) = some ir from h)
                  obtain ⟨g1, g2⟩ := C.free CFa hf1
                  obtain ⟨g3, g4⟩ := C.free CFa hf2
                  refine PE.weak (sE_srtset C.toCxt g1 g2 g3 g4 (ih _ _ _ _ _ _ ek C).1 hn) fun σ H Q ⟨μ, r, S, en, re, q⟩ => ⟨μ, r, S, en, re, ?_⟩
                  revert q
                  simp only [evE, evA]
                  cases evE G.T (run G.T d) a' r S <;> exact fun q => q
              · cases h
            · cases ea
          · cases ea
        · cases ea
      · cases ea
    · split at h
      · rename_i e1 ea
        split at ea
        · rename_i ex
          cases eq_of_beq ex
          split at ea
          · rename_i b
            split at h
            · rename_i hf1
              cases h
              obtain ⟨g1, g2⟩ := C.free CFa hf1
              exact isRng_ok F CFa ih C ea g1 g2
            · cases h
          · cases ea
        · cases ea
      · split at h
        · cases h
        · rename_i as ea
          split at h
          · rename_i b id ty eb
            split at h
            · rename_i hf
              cases h
              obtain ⟨hf, hne⟩ := Bool.and_eq_true_iff.mp hf
              obtain ⟨g1, g2⟩ := C.free CFa hf
              obtain ⟨k1, k2⟩ := cEs_ok ih C ea
              cases args with
              | nil => cases hne
              | cons a0 es => exact biO_ok C.toCxt eb g1 g2 k1 k2
            · cases h
          · exact cName_ok F CFa ih C ea h
theorem lm_both (C : Cxt G X) {m : Lm} {name : Str} {id : String} {o : Expr} {apos pos : Pos} {args : List Expr} {as o' : E} {cl : Nat → List Va → Sto → Res Va} (slot : Slot "list" name id) (hty : typeOf (.builtin id) = pure (.type "method_descriptor")) (hm : MtR X id (rM G (lm m)))
    (ho : PE X o (tE G W (evE G.T cl o'))) (ha : PA X args (tA G W (evA G.T cl as))) (he : args = [] → as = .nil) (hs : args.all notStar = true) (hlen : args.length < 29) (hb : baseOk o = true) (hline : (apos.endLine == pos.line) = true) :
    PE X (.Call (.Attribute o name apos) args [] pos) (tE G W (evE G.T cl (.lm m o' as))) := by
  cases args with
  | nil =>
    cases he rfl
    exact sE_lm0 C slot hty hm ho hb hline
  | cons a0 es => exact sE_lm C slot hty hm ho ha hs hlen hb hline
theorem cEs_nil {f : Expr → Option E} {as : E} {args : List Expr} (h : cEs f args = some as) : args = [] → as = .nil := by
  intro e
  subst e
  cases (show some E.nil = some as from h)
  rfl
theorem cMeth_ok (F : GF G) (CFa : CF G cc d) (ih : IH G cc d g) (C : Cnx G cc d W sc fb X) {o : Expr} {m : Str} {apos pos : Pos} {args : List Expr} {ir : E} (h : cMeth cc (g sc) o m args apos pos = some ir) :
    PE X (.Call (.Attribute o m apos) args [] pos) (tE G W (evE G.T (run G.T d) ir)) := by
  unfold cMeth at h
  split at h
  · rename_i hb0
    obtain ⟨hb1, hlen0⟩ := Bool.and_eq_true_iff.mp hb0
    obtain ⟨hb, hline⟩ := Bool.and_eq_true_iff.mp hb1
    have hlen := of_decide_eq_true hlen0
    clear hb0 hlen0
    split at h
    · rename_i o' as eo ea
      obtain ⟨k1, _⟩ := ih _ _ _ _ _ _ eo C
      obtain ⟨k2, k3⟩ := cEs_ok ih C ea
      have he := cEs_nil ea
      split at h
      · rename_i l el
        cases h
        unfold lmO at el
        split at el
        · rename_i e; cases el; cases eq_of_beq e; exact lm_both C.toCxt PySem.slot_list_append rfl (ml_append C.toCxt) k1 k2 he k3 hlen hb hline
        split at el
        · rename_i e; cases el; cases eq_of_beq e; exact lm_both C.toCxt PySem.F.slot_list_extend rfl (ml_extend C.toCxt) k1 k2 he k3 hlen hb hline
        split at el
        · rename_i e; cases el; cases eq_of_beq e; exact lm_both C.toCxt PySem.F.slot_list_remove rfl (ml_remove C.toCxt) k1 k2 he k3 hlen hb hline
        split at el
        · rename_i e; cases el; cases eq_of_beq e; exact lm_both C.toCxt PySem.F.slot_list_reverse rfl (ml_reverse C.toCxt) k1 k2 he k3 hlen hb hline
        split at el
        · rename_i e; cases el; cases eq_of_beq e; exact lm_both C.toCxt PySem.F.slot_list_pop rfl (ml_pop C.toCxt) k1 k2 he k3 hlen hb hline
        split at el
        · rename_i e; cases el; cases eq_of_beq e; exact lm_both C.toCxt PySem.F.slot_list_clear rfl (ml_clear C.toCxt) k1 k2 he k3 hlen hb hline
        split at el
        · rename_i e; cases el; cases eq_of_beq e; exact lm_both C.toCxt PySem.F.slot_list_index rfl (ml_index C.toCxt) k1 k2 he k3 hlen hb hline
        · cases el
      · split at h
        · rename_i i ei
          cases h
          have hn := CFa.nmo m i ei
          have hr := C.room.mono (Nat.le_succ _)
          cases args with
          | nil =>
            cases he rfl
            exact sE_meth0 C.toCxt F hn (fun f ⟨c, e⟩ => CFa.mth c i f e) hr C.pas k1 hb hline
          | cons a0 es => exact sE_meth C.toCxt F hn (fun f ⟨c, e⟩ => CFa.mth c i f e) hr C.pas k1 k2 k3 hlen hb hline
        · cases h
    · cases h
  · cases h
theorem cPart_ok (ih : IH G cc d g) (C : Cnx G cc d W sc fb X) {lo : Option Expr} {l : E} (h : cPart (g sc) lo = some l) : PO X lo (tP G W (prt (isNil l) (evE G.T (run G.T d) l))) := by
  cases lo with
  | none =>
    cases (show some E.nil = some l from h)
    exact sP_none
  | some e =>
    unfold cPart at h
    dsimp only at h
    cases eg : g sc e with
    | none => rw [eg] at h; cases h
    | some l' =>
      rw [eg] at h
      have k := (ih _ _ _ _ _ _ eg C).1
      cases l' <;> first | (cases h; done) | (cases h; exact sP_some k)
theorem plainIx_of {s : Expr} (h : ∀ a b c p, s ≠ .Slice a b c p) : PlainIx s := fun o i => by
  cases s <;> first | rfl | exact absurd rfl (h _ _ _ _)
theorem cSub_ok (ih : IH G cc d g) (C : Cnx G cc d W sc fb X) {a s : Expr} {pos : Pos} {ir : E} (h : cSub (g sc) a s = some ir) : PE X (.Subscript a s pos) (tE G W (evE G.T (run G.T d) ir)) := by
  unfold cSub at h
  split at h
  · cases h
  · rename_i a' ea
    obtain ⟨k1, _⟩ := ih _ _ _ _ _ _ ea C
    split at h
    · rename_i lo hi p
      split at h
      · rename_i l hh el eh
        cases h
        exact sE_sl C.toCxt k1 (cPart_ok ih C el) (cPart_ok ih C eh)
      · cases h
    · cases h
      exact sE_rev C.toCxt k1
    · rename_i lo st p hx
      split at h
      · rename_i l hh el eh
        cases h
        exact sE_sls C.toCxt k1 (ih _ _ _ _ _ _ el C).1 (ih _ _ _ _ _ _ eh C).1
      · cases h
    · cases h
    · rename_i s0 n1 n2 n3 n4
      cases es : g sc s with
      | none => rw [es] at h; cases h
      | some s' =>
        rw [es] at h
        cases (show some (E.idx a' s') = some ir from h)
        exact sE_idx C.toCxt k1 (ih _ _ _ _ _ _ es C).1 (plainIx_of fun a b c p e => by subst e; exact n4 _ _ _ _ rfl)
end
end Ev
end

section
set_option Elab.async false
set_option linter.all false
set_option maxRecDepth 100000
set_option maxHeartbeats 1000000
/-! Cmp3: comparisons, targets, walks, comprehensions; every expression. -/
namespace Ev
open PySem PySem.Spec PyProof.Rows L2
section
variable {G : GE} {cc : CC} {d : Nat} {W : WC} {sc : Scope} {fb : Str → Bool} {X : Cx} {g : Scope → Expr → Option E}
theorem strs_flat : ∀ xs : List Str, (xs.map V.str).all flatV = true
  | [] => rfl
  | _ :: r => by rw [List.map_cons, List.all_cons, strs_flat r]; rfl
theorem strs_in {μ : List Addr} {u : Va} {y : V} (t : VR G μ u y) (f : flat u = true) : ∀ xs : List Str, inV y (xs.map V.str) = xs.any fun z => eqF (.str z) u
  | [] => rfl
  | x :: r => by
    have := inV_ok (G := G) (μ := μ) t f (vs := (x :: r).map Va.str) (xs := (x :: r).map V.str) (by
      generalize x :: r = l
      induction l with
      | nil => rfl
      | cons a l ih => rw [List.map_cons, List.all_cons, ih]; rfl) (by
      generalize x :: r = l
      induction l with
      | nil => exact .nil
      | cons a l ih => exact .cons rfl ih)
    rw [this, List.any_map]
    rfl
theorem op_inStrs (C : Cxt G X) {a : Addr} {xs : List Str} (h : ∀ H, SqT G.K H a (xs.map V.str)) : OpR X (compareOp .In) (fun x y H Q => y = .ref a ∧ r1 G (inStrs xs) x H Q) := by
  intro pins s σ H x y v u Q I rx ry ⟨e, μ, S, b, W, R, va, q⟩
  subst e
  unfold inStrs at q
  split at q
  · rename_i hf
    refine op_in_seq pins s σ H _ _ v u Q I rx ry ⟨a, _, rfl, .inr (by rw [C.K]; exact h H), flat_ok hf va, strs_flat xs, ?_⟩
    rw [if_neg (by decide), strs_in va hf]
    exact fin_ok R q rfl
  · exact (show False from q).elim
theorem cCmp_ok (CFa : CF G cc d) (ih : IH G cc d g) (C : Cnx G cc d W sc fb X) {a b : Expr} {op : CmpOp} {pos : Pos} {ir : E} (h : cCmp cc sc (g sc) a op b = some ir) : PE X (.Compare a [op] [b] pos) (tE G W (evE G.T (run G.T d) ir)) ∧ PT X (.Compare a [op] [b] pos) (tT G W (evE G.T (run G.T d) ir)) := by
  unfold cCmp at h
  split at h
  · cases h
  · rename_i a' ea
    obtain ⟨k1, _⟩ := ih _ _ _ _ _ _ ea C
    split at h
    · split at h
      · cases h; exact ⟨sE_isC C.toCxt k1 (.inl ⟨rfl, rfl⟩) (.inl ⟨rfl, rfl⟩), sT_isC C.toCxt k1 (.inl ⟨rfl, rfl⟩) (.inl ⟨rfl, rfl⟩)⟩
      · cases h; exact ⟨sE_isC C.toCxt k1 (.inl ⟨rfl, rfl⟩) (.inr ⟨_, rfl, rfl⟩), sT_isC C.toCxt k1 (.inl ⟨rfl, rfl⟩) (.inr ⟨_, rfl, rfl⟩)⟩
      · cases h
    · split at h
      · cases h; exact ⟨sE_isC C.toCxt k1 (.inr ⟨rfl, rfl⟩) (.inl ⟨rfl, rfl⟩), sT_isC C.toCxt k1 (.inr ⟨rfl, rfl⟩) (.inl ⟨rfl, rfl⟩)⟩
      · cases h; exact ⟨sE_isC C.toCxt k1 (.inr ⟨rfl, rfl⟩) (.inr ⟨_, rfl, rfl⟩), sT_isC C.toCxt k1 (.inr ⟨rfl, rfl⟩) (.inr ⟨_, rfl, rfl⟩)⟩
      · cases h
    · split at h
      · rename_i xs ex
        cases h
        split at ex
        · rename_i hop
          cases eq_of_beq hop
          split at ex
          · rename_i x px
            split at ex
            · rename_i hk
              obtain ⟨q1, q2⟩ := Bool.and_eq_true_iff.mp hk
              split at ex
              · rename_i ys ey
                cases ex
                obtain ⟨p, m1, m2⟩ := CFa.sts x xs ey
                have kb : PE X (.Name x px) (tC (.ref p)) := pe_glob (C.gl q1) (by rw [C.mg]; exact m1) rfl (by simpa [dbg] using q2)
                refine ⟨PE.weak (pe_cmpR (op_inStrs C.toCxt m2) k1 kb rfl) fun σ H Q ⟨μ, r, S, en, re, h⟩ => thenE en re h fun μ1 H1 S1 v x st re1 vx h1 => ⟨rfl, μ1, S1, v, W, re1, vx, h1⟩,
                  PT.weak (pt_cmpR (op_inStrs C.toCxt m2) k1 kb rfl) fun σ H Q ⟨μ, r, S, en, re, h⟩ => thenE en re h fun μ1 H1 S1 v x st re1 vx h1 => ⟨rfl, μ1, S1, v, W, re1, vx, Wr.imp h1 fun v μ' H' ⟨b, e, q⟩ Z vz => by subst e; exact ⟨b, vz, q⟩⟩⟩
              · cases ex
            · cases ex
          · cases ex
        · cases ex
      · split at h
        · rename_i o b' eo eb
          split at h
          · cases h
          · rename_i hm
            cases h
            have hm := Bool.not_eq_true _ ▸ hm
            obtain rfl := copO_ok eo
            exact ⟨sE_cmp C.toCxt o k1 (ih _ _ _ _ _ _ eb C).1 (by simpa using hm), sT_cmp C.toCxt o k1 (ih _ _ _ _ _ _ eb C).1 (by simpa using hm)⟩
        · cases h
theorem cTgs_ok {f : Expr → Option Tg} (hf : ∀ e t, f e = some t → PG X e (gT G t)) : ∀ {es : List Expr} {ts : Tg}, cTgs f es = some ts → PGs X es (gTs G ts) ∧ es.all notStar = true ∧ tgN ts = es.length
  | [], ts, h => by
    cases (show some Tg.nil = some ts from h)
    exact ⟨sGs_nil, rfl, rfl⟩
  | e :: es, ts, h => by
    simp only [cTgs] at h
    split at h
    · rename_i a b h1 h2
      split at h
      · rename_i hn
        cases h
        obtain ⟨k1, k2, k3⟩ := cTgs_ok hf h2
        exact ⟨sGs_cons (hf _ _ h1) k1 hn, by rw [List.all_cons, hn, k2]; rfl, by simp [tgN, k3]⟩
      · cases h
    · cases h
theorem cTg_ok (C : Cnx G cc d W sc fb X) : ∀ (n : Nat) {e : Expr} {t : Tg}, cTg cc sc fb n e = some t → PG X e (gT G t)
  | 0, _, _, h => by cases h
  | n + 1, e, t, h => by
    simp only [cTg] at h
    split at h
    · rename_i x p
      split at h
      · rename_i el
        cases es : slot cc.N x with
        | none => rw [es] at h; cases h
        | some i =>
          rw [es] at h
          cases (show some (Tg.nm i) = some t from h)
          exact sG_name (by rw [C.N]; exact C.nd) (by rw [C.N]; exact slot_ok es) (.inl (by rw [C.scE]; exact el)) (.inr (by rw [C.scE]; exact el))
      · rename_i el
        split at h
        · rename_i hfb
          cases es : slot cc.N x with
          | none => rw [es] at h; cases h
          | some i =>
            rw [es] at h
            cases (show some (Tg.nm i) = some t from h)
            exact sG_name (by rw [C.N]; exact C.nd) (by rw [C.N]; exact slot_ok es) (.inr (by rw [C.scE]; exact el)) (.inl (by rw [C.fnb]; exact hfb))
        · cases h
      · cases h
    · rename_i es k p
      cases ets : cTgs (cTg cc sc fb n) es with
      | none => rw [ets] at h; cases h
      | some ts =>
        rw [ets] at h
        cases (show some (Tg.tup ts) = some t from h)
        obtain ⟨k1, k2, k3⟩ := cTgs_ok (fun e t => cTg_ok C n) ets
        exact sG_tup C.toCxt k1 k2 k3
    · cases h
theorem fold_ok {it : Expr} (h : notSet it = true) (env : PySem.Env) (x : Value) : foldedSetIterable it env x = pure x := by
  cases it <;> first | rfl | cases h
theorem isTup_ok {e : Expr} (h : isTup e = true) : ∃ es k p, e = .Tuple es k p := by
  cases e <;> first | exact ⟨_, _, _, rfl⟩ | cases h
theorem cIter_ok (CFa : CF G cc d) (ih : IH G cc d g) (C : Cnx G cc d W sc fb X) {tg it : Expr} {ir : E} (h : cIter cc sc (g sc) tg it = some ir) : PI X tg it (tI G X.K W (evI G.T (run G.T d) ir)) ∧ notSet it = true := by
  unfold cIter at h
  split at h
  · rename_i r er
    subst h
    split at er
    · rename_i x px args pc
      split at er
      · rename_i ex
        cases eq_of_beq ex
        split at er
        · rename_i hf
          obtain ⟨g1, g2⟩ := C.free CFa hf
          split at er
          · rename_i a
            split at er
            · rename_i a' ea
              split at er
              · rename_i hs
                cases er
                exact ⟨sI_rng1 C.toCxt g1 g2 (ih _ _ _ _ _ _ ea C).1 hs, rfl⟩
              · cases er
            · cases er
          · rename_i a b
            split at er
            · rename_i a' b' ea eb
              split at er
              · rename_i hs
                cases er
                obtain ⟨s1, s2⟩ := Bool.and_eq_true_iff.mp hs
                exact ⟨sI_rng2 C.toCxt g1 g2 (ih _ _ _ _ _ _ ea C).1 (ih _ _ _ _ _ _ eb C).1 s1 s2, rfl⟩
              · cases er
            · cases er
          · rename_i a b c
            split at er
            · rename_i a' b' c' ea eb ec
              split at er
              · rename_i hs
                cases er
                obtain ⟨s1, s2⟩ := Bool.and_eq_true_iff.mp hs
                obtain ⟨s2, s3⟩ := Bool.and_eq_true_iff.mp s2
                exact ⟨sI_rng3 C.toCxt g1 g2 (ih _ _ _ _ _ _ ea C).1 (ih _ _ _ _ _ _ eb C).1 (ih _ _ _ _ _ _ ec C).1 s1 s2 s3, rfl⟩
              · cases er
            · cases er
          · cases er
        · cases er
      split at er
      · rename_i ex
        cases eq_of_beq ex
        split at er
        · rename_i hf0
          obtain ⟨hf, ht⟩ := Bool.and_eq_true_iff.mp hf0
          obtain ⟨es, k, p, rfl⟩ := isTup_ok ht
          obtain ⟨g1, g2⟩ := C.free CFa hf
          split at er
          · rename_i a
            split at er
            · rename_i a' ea
              split at er
              · rename_i hs
                cases er
                exact ⟨sI_enum C.toCxt g1 g2 (ih _ _ _ _ _ _ ea C).1 hs, rfl⟩
              · cases er
            · cases er
          · cases er
        · cases er
      split at er
      · rename_i ex
        cases eq_of_beq ex
        split at er
        · rename_i hf0
          obtain ⟨hf, ht⟩ := Bool.and_eq_true_iff.mp hf0
          obtain ⟨es, k, p, rfl⟩ := isTup_ok ht
          obtain ⟨g1, g2⟩ := C.free CFa hf
          split at er
          · rename_i a b
            split at er
            · rename_i a' b' ea eb
              split at er
              · rename_i hs
                cases er
                obtain ⟨s1, s2⟩ := Bool.and_eq_true_iff.mp hs
                exact ⟨sI_zip C.toCxt g1 g2 (ih _ _ _ _ _ _ ea C).1 (ih _ _ _ _ _ _ eb C).1 s1 s2, rfl⟩
              · cases er
            · cases er
          · cases er
        · cases er
      · cases er
    · cases er
  · split at h
    · rename_i hn
      cases ea : g sc it with
      | none => rw [ea] at h; cases h
      | some a' =>
        rw [ea] at h
        cases (show some (E.seq a') = some ir from h)
        exact ⟨sI_seq C.toCxt (ih _ _ _ _ _ _ ea C).1, hn⟩
    · cases h
/-- what a comprehension's compiling promises -/
theorem cComp_ok (CFa : CF G cc d) (ih : IH G cc d g) (C : Cnx G cc d W sc fb X) {n : Nat} {elt : Expr} {gs : List Comprehension} {scope : Scope} {pos : Pos} {ir : E} (h : cComp cc sc g n elt gs scope = some ir) :
    PE X (.ListComp elt gs scope pos) (tE G W (evE G.T (run G.T d) ir)) ∧
    ∀ {i : Nat} {y : Str} {py pos' : Pos}, X.N[i]? = some y → X.env.scope.names.lookup y = some .local → swapsWith (.ListComp elt gs scope pos) (some (.Name y py)) pos'.line X.env = pure true →
      PS X (.Assign [.Name y py] (.ListComp elt gs scope pos) pos') (tS G W (evS G.T (run G.T d) (.asg (.nm i) ir))) := by
  unfold cComp at h
  split at h
  · rename_i tg it ifs
    split at h
    · rename_i hblk
      have ok : BlkOk X.N X.env.scope scope (ownO cc.N scope.names) := by rw [C.N, C.scE]; exact blkOk_by hblk
      split at h
      · rename_i i t e ei et ee
        split at h
        · rename_i hall
          have hsl : ∀ j ∈ tgS t, j ∈ (ownO cc.N scope.names).map (·.2) := fun j hj => by
            have := List.all_eq_true.mp hall j hj
            simpa using this
          obtain ⟨kI, kS⟩ := cIter_ok CFa ih C ei
          have CB := fun s H C' cl fp => C.blk (scope := scope) ok.kind s H C' cl fp
          have kG := fun s H C' cl fp => cTg_ok (CB s H C' cl fp) n et
          have kE := fun s H C' cl fp => (ih _ _ _ _ _ _ ee (CB s H C' cl fp)).1
          have hN : X.N.Nodup := by rw [C.N]; exact C.nd
          split at h
          · cases h
            exact ⟨sE_comp C.toCxt hN kI ok kG (fun s H C' cl fp => sTs_nil) kE (fold_ok kS _) hsl, fun hy hl hw => sS_setc C.toCxt hN hy hl hw kI ok kG (fun s H C' cl fp => sTs_nil) kE (fold_ok kS _) hsl⟩
          · rename_i c
            split at h
            · rename_i c' ec
              split at h
              · rename_i ht
                cases h
                have kT := fun s H C' cl fp => sTs_one ((ih _ _ _ _ _ _ ec (CB s H C' cl fp)).2 ht)
                exact ⟨sE_comp C.toCxt hN kI ok kG kT kE (fold_ok kS _) hsl, fun hy hl hw => sS_setc C.toCxt hN hy hl hw kI ok kG kT kE (fold_ok kS _) hsl⟩
              · cases h
            · cases h
          · cases h
        · cases h
      · cases h
    · cases h
  · cases h
end
end Ev
end

section
set_option Elab.async false
set_option linter.all false
set_option maxRecDepth 100000
set_option maxHeartbeats 1000000
/-! Cmp4: every expression; statements. -/
namespace Ev
open PySem PySem.Spec PyProof.Rows L2
section
variable {G : GE} {cc : CC} {d : Nat}
theorem cE_ok (F : GF G) (CFa : CF G cc d) : ∀ n : Nat, IH G cc d (cE cc n)
  | 0 => fun sc e ir W fb X h C => by cases h
  | n + 1 => fun sc e ir W fb X h C => by
    have ih := cE_ok F CFa n
    cases e
    case Name x p =>
      refine both_of rfl ?_
      simp only [cE] at h
      split at h
      · rename_i hv
        split at h
        · cases h
        · rename_i hd
          cases es : slot cc.N x with
          | none => rw [es] at h; cases h
          | some i =>
            rw [es] at h
            cases (show some (E.var i) = some ir from h)
            have hd2 : dbg x = false ∧ (x == ("__classdict__" : Str)) = false := by simpa using hd
            exact sE_var (by rw [C.N]; exact slot_ok es) (C.vis hv) hd2.1 hd2.2
      · split at h
        · rename_i hk
          obtain ⟨q1, q2⟩ := Bool.and_eq_true_iff.mp hk
          have hdb : (x == ("__debug__" : Str)) = false := by simpa [dbg] using q2
          split at h
          · rename_i i e
            cases h
            obtain ⟨t, m⟩ := CFa.int x i e
            exact sE_con (pe_glob (v := .int i) (C.gl q1) (by rw [C.mg]; exact m) ⟨t, rfl⟩ hdb) fun _ => rfl
          · rename_i f e
            cases h
            obtain ⟨m, _⟩ := CFa.fn x f e
            exact sE_con (pe_glob (v := .ref (G.fA f)) (C.gl q1) (by rw [C.mg]; exact m) rfl hdb) fun _ => rfl
          · cases h
        · cases h
    case Constant c k p =>
      refine both_of rfl ?_
      simp only [cE] at h
      split at h
      · cases h; exact sE_con pe_int fun _ => rfl
      · cases h; exact sE_con pe_bl fun _ => rfl
      · cases h; exact sE_con pe_non fun _ => rfl
      · cases h; exact sE_con pe_str fun _ => rfl
      · cases h
    case BinOp a op b p =>
      refine both_of rfl ?_
      simp only [cE] at h
      split at h
      · rename_i a' b' o ea eb eo
        cases h
        obtain rfl := bopO_ok eo
        exact sE_bin C.toCxt o (ih _ _ _ _ _ _ ea C).1 (ih _ _ _ _ _ _ eb C).1
      · cases h
    case UnaryOp op a p =>
      simp only [cE] at h
      split at h
      · rename_i a' ea
        cases h
        exact both_of rfl (sE_neg (ih _ _ _ _ _ _ ea C).1)
      · rename_i a' ea
        split at h
        · rename_i ht
          cases h
          obtain ⟨k1, k2⟩ := ih _ _ _ _ _ _ ea C
          exact ⟨sE_not k1, fun _ => sT_not (k2 ht)⟩
        · cases h
      · cases h
    case BoolOp op vs p =>
      simp only [cE] at h
      obtain ⟨k1, k2⟩ := cBool_ok ih C op p h
      exact ⟨k1, fun _ => k2.pt⟩
    case IfExp c a b p =>
      simp only [cE] at h
      split at h
      · rename_i c' a' b' ec ea eb
        split at h
        · rename_i ht
          cases h
          exact ⟨sE_ite ((ih _ _ _ _ _ _ ec C).2 ht) (ih _ _ _ _ _ _ ea C).1 (ih _ _ _ _ _ _ eb C).1, fun q => by cases q⟩
        · cases h
      · cases h
    case Compare a ops cs p =>
      simp only [cE] at h
      split at h
      · rename_i op b
        obtain ⟨k1, k2⟩ := cCmp_ok CFa ih C h
        exact ⟨k1, fun _ => k2⟩
      · rename_i op op' b c
        split at h
        · rename_i o p' a' b' c' eo ep ea eb ec
          split at h
          · cases h
          · rename_i hm
            cases h
            obtain rfl := copO_ok eo
            obtain rfl := copO_ok ep
            have hm : lastMarks [cmpOf o, cmpOf p'] [b, c] = false := by simpa using hm
            exact ⟨sE_chain C.toCxt o p' (ih _ _ _ _ _ _ ea C).1 (ih _ _ _ _ _ _ eb C).1 (ih _ _ _ _ _ _ ec C).1 hm, fun _ => sT_chain C.toCxt o p' (ih _ _ _ _ _ _ ea C).1 (ih _ _ _ _ _ _ eb C).1 (ih _ _ _ _ _ _ ec C).1 hm⟩
        · cases h
      · cases h
    case Call f args kws p =>
      refine both_of rfl ?_
      simp only [cE] at h
      split at h
      · split at h
        · exact cCall_ok F CFa ih C h
        · exact cMeth_ok F CFa ih C h
        · cases h
      · cases h
    case Attribute a m p =>
      refine both_of rfl ?_
      simp only [cE] at h
      split at h
      · rename_i hb
        split at h
        · rename_i a' i ea ei
          cases h
          exact sE_fld C.toCxt F (CFa.nmo m i ei) (ih _ _ _ _ _ _ ea C).1 hb
        · cases h
      · cases h
    case Subscript a s p =>
      refine both_of rfl ?_
      simp only [cE] at h
      exact cSub_ok ih C h
    case List es p =>
      refine both_of rfl ?_
      simp only [cE] at h
      cases ee : cEs (cE cc n sc) es with
      | none => rw [ee] at h; cases h
      | some as =>
        rw [ee] at h
        cases (show some (E.lst as) = some ir from h)
        exact sE_lst (cEs_ok ih C ee).1
    case Tuple es k p =>
      refine both_of rfl ?_
      simp only [cE] at h
      cases ee : cEs (cE cc n sc) es with
      | none => rw [ee] at h; cases h
      | some as =>
        rw [ee] at h
        cases (show some (E.tup as) = some ir from h)
        exact sE_tup (cEs_ok ih C ee).1
    case Dict ks vs p =>
      refine both_of rfl ?_
      simp only [cE] at h
      split at h
      · cases h; exact sE_dnew
      · cases h
    case ListComp elt gs scope p =>
      refine both_of rfl ?_
      simp only [cE] at h
      exact (cComp_ok CFa ih C h).1
    all_goals (simp only [cE] at h; cases h)
end
end Ev
end

section
set_option Elab.async false
set_option linter.all false
set_option maxRecDepth 100000
set_option maxHeartbeats 1000000
/-! EvH: a def that tells which class a caught exception is of, called where it is handled. -/
namespace Ev
open PySem PySem.Spec PyProof.Rows L2 L2H
theorem sw0 {t e : Expr} {l : Nat} {env : PySem.Env} (h : isLc e = false) : swapsWithSole [t] e l env = pure false := by
  cases e <;> first | rfl | cases h
/-! ### what the text must be -/
def isxO (cc : CC) (sc : Scope) (ev : Str) : Expr → Option Nat
  | .Call (.Name i _) [.Name e _, .Name c _] [] _ => if i == ("isinstance" : Str) && freeB cc sc i && e == ev && kindG sc c && !dbg c then (match cc.gl c with
    | some (.exc k) => some k
    | _ => none) else none
  | _ => none
def isxs (f : Expr → Option Nat) : List Expr → Option (List Nat)
  | [] => some []
  | e :: r => match f e, isxs f r with
    | some a, some b => some (a :: b)
    | _, _ => none
def isxL (cc : CC) (sc : Scope) (ev : Str) : Expr → Option (List Nat)
  | .List es _ => if decide (es.length ≤ 100) then isxs (isxO cc sc ev) es else none
  | _ => none
def whOf (cc : CC) (sc : Scope) (ev : Str) (body : List Stmt) : Option (List Nat) := match body with
  | [.Assign [.Name f1 _] l1 _, .Assign [.Name f2 _] (.BinOp (.Name f3 _) .Add l2 _) _, .Assign [.Name f4 _] (.BinOp (.Name f5 _) .Add l3 _) _,
     .Return (some (.IfExp (.BoolOp .And [.Compare (.Call (.Attribute (.Name f6 _) m1 ap1) [.Constant (.bool true) _ _] [] cp1) [.Eq] [.Constant (.int 1) _ _] _, .Call (.Name i _) [.Name e _, .Name ve _] [] _] _) (.Call (.Attribute (.Name f7 _) m2 ap2) [.Constant (.bool true) _ _] [] cp2) (.Constant (.int 99) _ _) _)) _] =>
    (match isxL cc sc ev l1, isxL cc sc ev l2, isxL cc sc ev l3 with
    | some a, some b, some c => if ([f2, f3, f4, f5, f6, f7].all fun y => decide (y = f1)) && decide (m1 = ("count" : Str)) && decide (m2 = ("index" : Str)) && decide (i = ("isinstance" : Str)) && freeB cc sc i && decide (e = ev) && decide (ve = ("ValueError" : Str)) && freeB cc sc ve && decide (sc.names.lookup f1 = some .local) && !(f1 == ev) && !dbg f1 && !(f1 == ("__classdict__" : Str)) && (ap1.endLine == cp1.line) && (ap2.endLine == cp2.line) then some (a ++ b ++ c) else none
    | _, _, _ => none)
  | _ => none
section
variable {X : Cx} {p : Addr × Obj} {D : Addr}
/-- isinstance(e, c), e the exception that is handled -/
theorem call_isP (C : ExcC X.K D) (hz : Zc (.ref D) none p.2) (hf : ∃ vs, p.2.data = .fields vs) (hp : p ∈ X.pn) : CallR X (.builtin "isinstance") (rIsE X.K D p.1) := by
  intro pns s σ H xs us Q I r ⟨cc, cv, b, e0, hcv, ek, q⟩
  subst e0
  cases r with
  | cons rx rr => cases rr with
    | cons rt rr =>
      cases rr
      cases rx
      have ec := hcv _ rt
      subst ec
      have pinned := (I.pin p (List.mem_append_left _ hp)).1
      obtain ⟨a, o⟩ := p
      obtain ⟨vs, hv⟩ := hf
      have at_ : PySem.W.InstAt s.heap a o D none := by
        obtain ⟨oc, od, oda, osl⟩ := o
        obtain ⟨z1, z2⟩ := hz
        dsimp only at z1 z2 hv
        subst z1 z2 hv
        exact ⟨pinned, rfl, rfl, trivial⟩
      exact PySem.W.kia_one (PySem.W.handS_kitx_exc C.hg C.hk C.hs C.hd C.ha C.hn C.ht C.hm) I.kIn at_ ek (fun z => nomatch z) fun tk => ⟨.bl b, H, I.kept (t' := tk) fun _ _ z => z, rfl, q⟩
/-- xs.count(y), all flat -/
theorem mt_count : MtR X "list.count" (fun x xs H Q => ∃ (a : Addr) (bs : List Bool) (b : Bool), x = V.ref a ∧ xs = [V.bl b] ∧ H a = some (.lst (bs.map V.bl)) ∧ Q (.int (bs.count b : Nat)) H) := by
  intro pins s σ H x xs v us Q I rx rxs ⟨a, bs, b, ex, exs, hl, q⟩
  subst ex exs
  cases rx
  obtain ⟨u, rfl, ru⟩ := rxs.one
  have hall : (bs.map V.bl).all flatV = true := by
    rw [List.all_eq_true]
    intro z hz
    obtain ⟨c, _, rfl⟩ := List.mem_map.mp hz
    rfl
  obtain ⟨its, rv, ⟨⟨cls, dd, data, sls⟩, n, ho, hc, hdn, hd⟩, hlen⟩ := I.list (SqL.of hl)
  simp only at hc hd
  subst hc hd
  refine call_meets PySem.F.slot_list_count ⟨_, ho, rfl⟩ PySem.F.entry_list_count (PySem.F.args_list_count_2 _ _) (SeqAt.list_countAt a its.toArray n dd sls u (eqU (V.bl b))) ⟨ho, fun y hy => mem_eqAt ru rfl rv hall y (by simpa using hy), ?_⟩
  have hc : ∀ {bs : List Bool} {its : List Value}, Vals (bs.map V.bl) its → its.countP (eqU (V.bl b)) = bs.count b := by
    intro bs
    induction bs with
    | nil => intro its r; cases r; rfl
    | cons c r ih =>
      intro its rv
      cases rv with
      | cons r1 r2 =>
        rw [List.countP_cons, ih r2, eqU_of r1 rfl, List.count_cons]
        congr 1
  refine ⟨.int (bs.count b : Nat), H, I.tok _, ⟨s.toks, ?_⟩, q⟩
  show Value.int ((its.toArray.toList.countP (eqU (V.bl b)) : Nat) : Int) s.toks = _
  rw [List.toList_toArray, hc rv]
end
/-- what stands fixed of the exceptions' classes -/
structure XF (G : GE) : Prop where
  exc : ∀ d, G.T.xs d d = true → ExcC G.K (G.cA d) ∧ PySem.W.kitOne G.K (.ref (G.cA d)) (.type "ValueError") = some true
  sub : ∀ d c, G.T.xs d d = true → G.T.xs c c = true → PySem.W.kitOne G.K (.ref (G.cA d)) (.ref (G.cA c)) = some (G.T.xs d c) ∧ PySem.W.exmOne G.K (.ref (G.cA d)) (.ref (G.cA c)) = some (G.T.xs d c)
section
variable {G : GE} {cc : CC} {X : Cx} {p : Addr × Obj} {dn : Nat} {sc : Scope} {ev : Str} {ie : Nat}
/-- the running def, in which the exception p of the class dn is handled; ie: the slot that holds it -/
structure HotX (G : GE) (cc : CC) (X : Cx) (sc : Scope) (p : Addr × Obj) (dn : Nat) (ev : Str) (ie : Nat) : Prop where
  xf : XF G
  K : X.K = G.K
  mg : X.mg = G.mg
  scE : X.env.scope = sc
  hp : p ∈ X.pn
  hz : L2N.Zn (.ref (G.cA dn)) none p.2
  hf : ∃ vs, p.2.data = .fields vs
  ex : G.T.xs dn dn = true
  gx : ∀ x c, cc.gl x = some (.exc c) → G.mg x = some (.ref (G.cA c)) ∧ G.T.xs c c = true
  fr : ∀ x, cc.fr.contains x = true → G.mg x = none
  N : X.N[ie]? = some ev
  vis : Vis X.env.scope ev
  dbg : (ev == ("__debug__" : Str)) = false
  cdc : (ev == ("__classdict__" : Str)) = false
theorem HotX.gl (h : HotX G cc X sc p dn ev ie) {x : Str} (k : kindG sc x = true) : Gl X x := by
  unfold kindG at k
  unfold Gl PySem.Env.kindOf
  rw [h.scE]
  split at k
  · rename_i e; exact e
  · cases k
theorem HotX.free (h : HotX G cc X sc p dn ev ie) {x : Str} (k : freeB cc sc x = true) : Gl X x ∧ X.mg x = none := by
  obtain ⟨h1, h2⟩ := Bool.and_eq_true_iff.mp k
  exact ⟨h.gl h1, by rw [h.mg]; exact h.fr x h2⟩
def holdsE (ie : Nat) (p : Addr × Obj) (σ : L2.St) : Prop := σ[ie]? = some (some (.ref p.1))
theorem pe_isB (h : HotX G cc X sc p dn ev ie) {c : Expr} {cv : V} {cV : Value} {b : Bool} {i : Str} {pi pe pos : Pos} (hi : freeB cc sc i = true) (ei : i = ("isinstance" : Str)) (hc : PE X c (tC cv)) (hcv : ∀ u, RelV cv u → u = cV) (hk : PySem.W.kitOne G.K (.ref (G.cA dn)) cV = some b) (hs : notStar c = true) :
    PE X (.Call (.Name i pi) [.Name ev pe, c] [] pos) (fun σ H Q => holdsE ie p σ ∧ Q (.bl b) H) := by
  subst ei
  obtain ⟨g1, g2⟩ := h.free hi
  refine PE.weak (pe_callB (call_isP (p := p) (D := G.cA dn) (by rw [h.K]; exact (h.xf.exc dn h.ex).1) h.hz.zc h.hf h.hp) g1 g2 (by decide +kernel) (pa_cons (pe_var h.N h.vis h.dbg h.cdc) (pa_cons hc pa_nil (star_ok hs _ _)) (star_ok rfl _ _)) (by decide) (by decide) (star_ok rfl _ _) (star_all _ _ (by rw [List.all_cons, hs]; rfl))) fun σ H Q ⟨e, q⟩ => ?_
  exact ⟨_, e, cv, cV, b, rfl, hcv, by rw [h.K]; exact hk, q⟩
theorem pe_isO (h : HotX G cc X sc p dn ev ie) {e : Expr} {k : Nat} (he : isxO cc sc ev e = some k) : PE X e (fun σ H Q => holdsE ie p σ ∧ Q (.bl (G.T.xs dn k)) H) := by
  unfold isxO at he
  split at he
  · rename_i i pi e1 pe c pc pos
    split at he
    · rename_i hb
      simp only [Bool.and_eq_true] at hb
      obtain ⟨⟨⟨⟨b1, b2⟩, b3⟩, b4⟩, b5⟩ := hb
      cases eq_of_beq b3
      split at he
      · rename_i k' ek
        cases he
        obtain ⟨m1, m2⟩ := h.gx c k ek
        exact pe_isB h b2 (eq_of_beq b1) (pe_glob (v := .ref (G.cA k)) (h.gl b4) (by rw [h.mg]; exact m1) rfl (by simpa [Ev.dbg] using b5)) (fun u r => r) (h.xf.sub dn k h.ex m2).1 rfl
      · cases he
    · cases he
  · cases he
theorem isxO_star {e : Expr} {k : Nat} (he : isxO cc sc ev e = some k) : notStar e = true := by
  unfold isxO at he
  split at he
  · rfl
  · cases he
theorem pa_isx (h : HotX G cc X sc p dn ev ie) : ∀ {es : List Expr} {ks : List Nat}, isxs (isxO cc sc ev) es = some ks → PA X es (fun σ H Q => holdsE ie p σ ∧ Q ((ks.map (G.T.xs dn)).map V.bl) H)
  | [], ks, e => by
    cases (show some [] = some ks from e)
    exact PA.weak pa_nil fun σ H Q ⟨_, q⟩ => q
  | a :: r, ks, e => by
    simp only [isxs] at e
    split at e
    · rename_i k ks' e1 e2
      cases e
      exact PA.weak (pa_cons (pe_isO h e1) (pa_isx h e2) (star_ok (isxO_star e1) _ _)) fun σ H Q ⟨q1, q2⟩ => ⟨q1, q1, q2⟩
    · cases e
theorem isxs_len {f : Expr → Option Nat} : ∀ {es : List Expr} {ks : List Nat}, isxs f es = some ks → ks.length = es.length
  | [], ks, e => by cases (show some [] = some ks from e); rfl
  | a :: r, ks, e => by
    simp only [isxs] at e
    split at e
    · rename_i k ks' e1 e2
      cases e
      rw [List.length_cons, List.length_cons, isxs_len e2]
    · cases e
theorem pe_isL (h : HotX G cc X sc p dn ev ie) {e : Expr} {ks : List Nat} (he : isxL cc sc ev e = some ks) : PE X e (fun σ H Q => holdsE ie p σ ∧ ∀ q, H q = none → Q (.ref q) (upd H q (.lst ((ks.map (G.T.xs dn)).map V.bl)))) ∧ ks.length ≤ 100 ∧ isLc e = false := by
  unfold isxL at he
  split at he
  · rename_i es pos
    split at he
    · rename_i hl
      have hl := of_decide_eq_true hl
      have hk := isxs_len he
      refine ⟨PE.weak (pe_lst (pa_isx h he)) fun σ H Q ⟨q1, q2⟩ => ⟨q1, ?_, q2⟩, by omega, rfl⟩
      rw [List.length_map, List.length_map, sizeLine_eq]
      omega
    · cases he
  · cases he
end
section
variable {G : GE} {cc : CC} {X : Cx} {p : Addr × Obj} {dn : Nat} {sc : Scope} {ev : Str} {ie : Nat}
/-- H' has all that H has -/
def ExtH (H H' : Hp) : Prop := ∀ b o, H b = some o → H' b = some o
theorem ExtH.new {H : Hp} {q : Addr} {o : HO} (h : H q = none) : ExtH H (upd H q o) := fun b u e => by rw [upd_ne (ne_of_none e h)]; exact e
theorem ExtH.trans {H H1 H2 : Hp} (a : ExtH H H1) (b : ExtH H1 H2) : ExtH H H2 := fun c o h => b c o (a c o h)
theorem idxB_bl {bs : List Bool} {n : Nat} (h : idxB bs true = some n) (H : Hp) (q : Addr) (e : H q = some (.lst (bs.map V.bl))) (K : PySem.W.Frag) {Q : VK} (k : Q (.int (n : Nat)) H) : rIndex K (.ref q) [.bl true] H Q := by
  obtain ⟨k1, k2⟩ := idxB_ok h
  refine ⟨q, bs.map V.bl, .bl true, n, .bl true, rfl, rfl, .of e, rfl, ?_, by rw [List.getElem?_map, k1]; rfl, by simp [eqV], fun m z hm hz => ?_, k⟩
  · rw [List.all_eq_true]
    intro z hz
    obtain ⟨c, _, rfl⟩ := List.mem_map.mp hz
    rfl
  · obtain ⟨c, hc, rfl⟩ := bls_at hz
    have := k2 m hm c hc
    simpa [eqV] using this
theorem wh_body (h : HotX G cc X sc p dn ev ie) (hk : sc.kind = .function) (hN : X.N.Nodup) (slot_in : ∀ x, sc.names.lookup x = some .local → ∃ i : Nat, X.N[i]? = some x) {body : List Stmt} {ks : List Nat} {n : Int} (hb : whOf cc sc ev body = some ks) (hn : whN (ks.map (G.T.xs dn)) = some n) :
    PSs X body (fun D σ H => holdsE ie p σ ∧ σ.length = X.N.length ∧ ∀ H', ExtH H H' → D.rt (.int n) H') := by
  unfold whOf at hb
  split at hb
  · rename_i f1 q1 l1 q2 f2 q3 f3 q4 l2 q5 q6 f4 q7 f5 q8 l3 q9 q10 f6 q11 m1 ap1 k1 q12 cp1 k2 q13 q14 i q15 e q16 ve q17 q18 q19 f7 q20 m2 ap2 k3 q21 cp2 k4 q22 q23 q24
    split at hb
    · rename_i a b c ea eb ec
      split at hb
      · rename_i hc
        cases hb
        simp only [Bool.and_eq_true, List.all_cons, List.all_nil, decide_eq_true_eq, Bool.not_eq_true'] at hc
        obtain ⟨⟨⟨⟨⟨⟨⟨⟨⟨⟨⟨⟨⟨hf, c1⟩, c2⟩, c3⟩, c4⟩, c5⟩, c6⟩, c7⟩, c8⟩, c9⟩, c10⟩, c11⟩, c12⟩, c13⟩ := hc
        obtain ⟨rfl, rfl, rfl, rfl, rfl, rfl, _⟩ := hf
        subst c1 c2 c5 c6
        obtain ⟨i1, hi1⟩ := slot_in _ c8
        have hd1 : (f7 == ("__debug__" : Str)) = false := by simpa [Ev.dbg] using c10
        have hne : i1 ≠ ie := fun z => by
          rw [z, h.N] at hi1
          cases hi1
          simp at c9
        have hl1 : i1 < X.N.length := (List.getElem?_eq_some_iff.mp hi1).1
        have hloc : Loc X.env.scope f7 := .inl (by rw [h.scE]; exact c8)
        have hvis : Vis X.env.scope f7 := .inl (by rw [h.scE]; exact c8)
        have hs : X.fn f7 = true ∨ X.env.scope.names.lookup f7 = some .local := .inr (by rw [h.scE]; exact c8)
        obtain ⟨L1, n1, w1⟩ := pe_isL h ea
        obtain ⟨L2', n2, w2⟩ := pe_isL h eb
        obtain ⟨L3, n3, w3⟩ := pe_isL h ec
        have vf : ∀ q, PE X (.Name f7 q) (tVar i1) := fun q => pe_var hi1 hvis hd1 c11
        have gf : ∀ q, PG X (.Name f7 q) (gName i1) := fun q => pg_name hN hi1 hloc hs
        have s1 := ps_asg (pos := q2) L1 (gf q1) (sw0 w1) rfl rfl
        have s2 := ps_asg (pos := q6) (pe_op (pos := q5) op_cat (vf q4) L2') (gf q3) rfl rfl rfl
        have s3 := ps_asg (pos := q10) (pe_op (pos := q9) op_cat (vf q8) L3) (gf q7) rfl rfl rfl
        have cnt := pe_bm (cpos := cp1) (apos := ap1) PySem.F.plainAttrs_list PySem.F.slot_list_count rfl mt_count (vf q11) (pa_cons (pe_bl (b := true) (j := k1) (pos := q12)) pa_nil (star_ok rfl _ _)) (base_ok rfl) (few_ok rfl (by show 1 < 29; omega)) c12 (star_ok rfl _ _) (star_all _ _ rfl)
        have idx := pe_bm (cpos := cp2) (apos := ap2) PySem.F.plainAttrs_list PySem.F.slot_list_index rfl mt_index (vf q20) (pa_cons (pe_bl (b := true) (j := k3) (pos := q21)) pa_nil (star_ok rfl _ _)) (base_ok rfl) (few_ok rfl (by show 1 < 29; omega)) c13 (star_ok rfl _ _) (star_all _ _ rfl)
        obtain ⟨ve1, ve2⟩ := h.free c7
        have isv := pe_isB h (pos := q18) (pi := q15) (pe := q16) (b := true) c4 c3 (tyV_of (p := q17) ve1 ve2 (by decide +kernel) (by decide) (by decide)) (fun u r => r) (h.xf.exc dn h.ex).2 rfl
        have ret := ps_ret (pos := q24) (pe_ifExp (pos := q23) (PW.pt (pw_and (pos := q19) (pt_cmpR (pos := q14) op_eq cnt (pe_int (i := 1) (j := k2) (pos := q13)) rfl) (pw_and1 (pt_val isv)))) idx (pe_int (i := 99) (j := k4) (pos := q22)))
        refine PSs.weak (pss_cons s1 (pss_cons s2 (pss_cons s3 (pss_one ret)))) fun D σ H ⟨z1, z2, z3⟩ => ?_
        have hold : ∀ {σ : L2.St} (v : V), holdsE ie p σ → holdsE ie p (σ.set i1 (some v)) := fun v z => by
          unfold holdsE at z ⊢
          rw [List.getElem?_set_ne hne]
          exact z
        have at1 : ∀ {σ : L2.St} (v : V), σ.length = X.N.length → (σ.set i1 (some v))[i1]? = some (some v) := fun v z => List.getElem?_set_self (by rw [z]; exact hl1)
        refine ⟨z1, fun p1 e1 => ?_⟩
        refine ⟨_, at1 _ z2, hold _ z1, fun p2 e2 => ⟨p1, p2, (a.map (G.T.xs dn)).map V.bl, (b.map (G.T.xs dn)).map V.bl, rfl, rfl, ?_, upd_same, ?_, fun p3 e3 => ?_⟩⟩
        · rw [upd_ne (ne_of_none upd_same e2)]; exact upd_same
        · rw [List.length_map, List.length_map, List.length_map, List.length_map, sizeLine_eq]; omega
        refine ⟨_, at1 _ (by simpa using z2), hold _ (hold _ z1), fun p4 e4 => ⟨p3, p4, (a.map (G.T.xs dn)).map V.bl ++ (b.map (G.T.xs dn)).map V.bl, (c.map (G.T.xs dn)).map V.bl, rfl, rfl, ?_, upd_same, ?_, fun p5 e5 => ?_⟩⟩
        · rw [upd_ne (ne_of_none upd_same e4)]; exact upd_same
        · rw [List.length_append, List.length_map, List.length_map, List.length_map, List.length_map, List.length_map, List.length_map, sizeLine_eq]; omega
        have ecat : ((a.map (G.T.xs dn)).map V.bl ++ (b.map (G.T.xs dn)).map V.bl) ++ (c.map (G.T.xs dn)).map V.bl = ((a ++ b ++ c).map (G.T.xs dn)).map V.bl := by
          rw [List.map_append, List.map_append, List.map_append, List.map_append]
        rw [ecat]
        generalize (a ++ b ++ c).map (G.T.xs dn) = bs at hn
        have ext : ExtH H (upd (upd (upd (upd (upd H p1 (.lst ((a.map (G.T.xs dn)).map V.bl))) p2 (.lst ((b.map (G.T.xs dn)).map V.bl))) p3 (.lst ((a.map (G.T.xs dn)).map V.bl ++ (b.map (G.T.xs dn)).map V.bl))) p4 (.lst ((c.map (G.T.xs dn)).map V.bl))) p5 (.lst (bs.map V.bl))) :=
          ((((ExtH.new e1).trans (ExtH.new e2)).trans (ExtH.new e3)).trans (ExtH.new e4)).trans (ExtH.new e5)
        have fin := z3 _ ext
        refine ⟨_, at1 _ (by simpa using z2), .inl ⟨rfl, _, .of upd_same⟩, p5, bs, true, rfl, rfl, upd_same, ?_⟩
        unfold whN at hn
        refine ⟨rfl, _, rfl, ?_⟩
        by_cases hq : bs.count true = 1
        · rw [if_pos hq] at hn
          obtain ⟨m, em, hm⟩ : ∃ m : Nat, idxB bs true = some m ∧ (m : Int) = n := by
            cases e : idxB bs true with
            | none => simp [e] at hn
            | some m => exact ⟨m, rfl, by simpa [e] using hn⟩
          have t1 : decide (V.int ((bs.count true : Nat) : Int) = V.int 1) = true := by rw [hq]; rfl
          rw [if_pos t1]
          refine ⟨hold _ (hold _ (hold _ z1)), _, rfl, ?_⟩
          show (if (true = true) then _ else _ : Prop)
          rw [if_pos rfl]
          refine ⟨_, at1 _ (by simpa using z2), .inl ⟨rfl, _, .of upd_same⟩, idxB_bl em _ _ upd_same _ ?_⟩
          show D.rt (.int (m : Nat)) _
          rw [hm]
          exact fin
        · rw [if_neg hq] at hn
          cases hn
          have t1 : decide (V.int ((bs.count true : Nat) : Int) = V.int 1) = false := decide_eq_false fun z => hq (by
            have := V.int.inj z
            omega)
          rw [if_neg (by rw [t1]; decide)]
          show (if (false = true) then _ else _ : Prop)
          rw [if_neg (by decide)]
          exact fin
      · cases hb
    · cases hb
  · cases hb
end
end Ev
end

section
set_option Elab.async false
set_option linter.all false
set_option maxRecDepth 100000
set_option maxHeartbeats 1000000
/-! EvJ: try: a(t), a the lambda that was handed / except c as e: k = w(e). -/
namespace Ev
open PySem PySem.Spec PyProof.Rows L2 LamX NdefX
section
variable {G : GE} {μ μ' : List Addr} {S : Sto} {H H' : Hp} {W : WC}
theorem Rel.extH (R : Rel G μ S H) (e : ExtH H H') : Rel G μ S H' :=
  ⟨R.len, fun l o h => by
    obtain ⟨b, k1, k2⟩ := R.at_ l o h
    exact ⟨b, k1, k2.keep fun u hu => e b u hu⟩, R.inj, R.scr.keep fun o h _ => e _ o h, ⟨tabs_keep R.tab.1 fun b o h _ => e b o h, R.tab.2⟩, fun p hp => ⟨e _ _ (R.cod p hp).1, (R.cod p hp).2⟩⟩
theorem Stp.extH (e : ExtH H H') : Stp μ H μ H' := by
  refine ⟨⟨[], by simp, by simp⟩, fun a q z => ?_, fun a o _ q _ => e a o q⟩
  cases h : H a with
  | none => exact q h
  | some o => rw [e a o h] at z; cases z
/-- what the def that tells of an exception's class promises, called where the exception is handled -/
def WhAt (G : GE) (w : Nat) : Prop := ∀ (A : Around) (outer : List PySem.Env) (s : Shared) (H : Hp) (p : Addr × Obj) (dn : Nat) (n : Int) (Q : VK) (E : XK),
  L2H.RoomH 1 A → L2H.Hot1 A p → L2H.PinOk outer H s p → Env0 G.P G.w G.K G.mg G.base A outer s H → L2N.Zn (.ref (G.cA dn)) none p.2 → G.T.xs dn dn = true → G.T.wh w dn = some n →
  (∀ H', ExtH H H' → Q (.int n) H') → codeAny (model G.P G.w) A (.call (.ref (G.fA w)) ⟨[.ref p.1], []⟩) (CR (L2N.CX G.P G.w) outer G.P G.w H s Q E) s
end
section
variable {G : GE} {X : Cx} {W : WC} {d i j x k w cid : Nat} {a t en kn c wn : Str} {p1 p2 p3 p4 p5 p6 p7 p8 p9 p10 p11 p12 : Pos}
/-- the call of the lambda -/
def tClo (G : GE) (d i j : Nat) (outer : List PySem.Env) (s : Shared) (H0 : Hp) (W' : WX) : TE := fun σ H Q => ∃ (fa : Addr) (f : Nat) (wsV : List V) (cq : Addr × Str) (v : V), σ[i]? = some (some (.ref fa)) ∧ CloC G d f fa wsV outer s H0 cq ∧ H cq.1 = some (CodeO cq.1 cq.2) ∧ σ[j]? = some (some v) ∧
  spL G d f wsV [v] H Q (L2.WE W' σ)
theorem pe_clo {W' : WX} (e1 : X.prog = G.P) (e2 : X.w = G.w) (e3 : X.K = G.K) (e4 : X.mg = G.mg) (e5 : X.base = G.base) (hex : X.ex = []) (hr : Room (lvl d) X.A) (hi : X.N[i]? = some a) (hj : X.N[j]? = some t) (va : Vis X.env.scope a) (vt : Vis X.env.scope t) (da : (a == ("__debug__" : Str)) = false) (ca : (a == ("__classdict__" : Str)) = false)
    (dt : (t == ("__debug__" : Str)) = false) (ct : (t == ("__classdict__" : Str)) = false) (tk : L2N.Takes X W') : PE X (.Call (.Name a p1) [.Name t p2] [] p3) (tClo G d i j X.outer X.s_0 X.H_0 W') := by
  refine ⟨fun pins s σ H Q I ⟨fa, f, wsV, cq, v, h1, clo, h3, h4, sp⟩ => ?_⟩
  refine wpAny_Call_Name_kw (thn ((pe_var (pos := p1) hi va da ca).run pins s σ H (fun v H1 => v = .ref fa ∧ H1 = H) I ⟨.ref fa, h1, rfl, rfl⟩) fun u s1 ⟨v1, H1, I1, r1, q1, q2⟩ => ?_)
  subst q1 q2
  obtain rfl : u = Value.ref fa := r1
  obtain ⟨c1, c2, c3, c4⟩ := clo
  have at_ : ∀ {pins' : List (Addr × Obj)} {σ' : L2.St} {H' : Hp} {s' : Shared}, Inv X pins' σ' H' s' → PySem.W.FnAt fa s'.heap := fun I' => by
    obtain ⟨oc, od, fd, sl, e⟩ := c1
    exact ⟨oc, od, fd, sl, I'.base.keep fa _ e c2 c3 (by rw [hex]; exact List.not_mem_nil)⟩
  refine PySem.W.callWith_F (first := []) (at_ I1) (thn ((pa_cons (pe_var (pos := p2) hj vt dt ct) pa_nil (star_ok rfl _ _)).run p3 pins s1 σ H1 (fun vs H2 => vs = [v] ∧ H2 = H1) I1 ⟨v, h4, rfl, rfl⟩) fun us s2 ⟨vs, H2, I2, r2, q1, q2⟩ => ⟨at_ I2, ?_⟩) (star_ok rfl _ _) (star_all _ _ rfl)
  subst q1 q2
  show wpAny _ _ (call (.ref fa) us) _ _ _
  have un := I2.base
  rw [hex] at un
  have e0 := I2.env0
  rw [e1, e2, e3, e4, e5] at e0
  have rc := c4 X.A X.stack s2 H2 us [v] Q (L2.WE W' σ) hr e0 un h3 r2 sp
  rw [← e1, ← e2] at rc
  refine wpAny_call (codeAny_mono rc fun r s' hq => ?_)
  cases r with
  | error e => exact L2N.passAt tk σ pins H2 s2 e s' I2 hq
  | ok fl =>
    cases fl with
    | ret u => exact I2.after hq
    | next => exact False.elim hq
    | brk => exact False.elim hq
    | cont => exact False.elim hq
/-- w(e), where e is handled -/
def tWh (G : GE) (w ie : Nat) (q : Addr) (cls : Value) (dd : Option Addr) : TE := fun σ H Q => ∃ dn n, cls = .ref (G.cA dn) ∧ dd = none ∧ G.T.xs dn dn = true ∧ G.T.wh w dn = some n ∧ (∃ σ0 : L2.St, σ = σ0.set ie (some (.ref q))) ∧ ∀ H', ExtH H H' → Q (.int n) H'
theorem pe_wh {q : Addr} {oe : Obj} {cls : Value} {dd : Option Addr} {pn : List (Addr × Obj)} {ie : Nat} (e1 : X.prog = G.P) (e2 : X.w = G.w) (e3 : X.K = G.K) (e4 : X.mg = G.mg) (e5 : X.base = G.base) (hr : Room (lvl d + 1) X.A) (wh : WhAt G w) (hz : L2N.Zn cls dd oe) (hf : ∃ vs, oe.data = .fields vs)
    (hN : X.N[ie]? = some en) (ve : Vis X.env.scope en) (de : (en == ("__debug__" : Str)) = false) (ce : (en == ("__classdict__" : Str)) = false) (hg : Gl X wn) (hm : X.mg wn = some (.ref (G.fA w))) (hk : PySem.W.keepIn X.K (.ref (G.fA w)) = true) (dw : (wn == ("__debug__" : Str)) = false) :
    PE (X.suite q ((q, oe) :: pn)) (.Call (.Name wn p7) [.Name en p8] [] p9) (tWh G w ie q cls dd) := by
  refine ⟨fun pins s σ H Q I ⟨dn, n, k1, k2, k3, k4, ⟨σ0, k5⟩, k6⟩ => ?_⟩
  subst k1 k2
  have k5 : σ[ie]? = some (some (.ref q)) := by
    have hl : ie < σ.length := by rw [I.len]; exact (List.getElem?_eq_some_iff.mp hN).1
    rw [k5, List.length_set] at hl
    rw [k5]
    exact List.getElem?_set_self hl
  refine wpAny_Call_Name_kw (ld_glob I hg hm ?_ dw)
  refine PySem.W.callWith_K (h₀ := X.base) I.ok.mod.kin hk (thn ((pa_cons (pe_var (X := X.suite q ((q, oe) :: pn)) (pos := p8) hN ve de ce) pa_nil (star_ok rfl _ _)).run p9 pins s σ H (fun vs H2 => vs = [.ref q] ∧ H2 = H) I ⟨.ref q, k5, rfl, rfl⟩) fun us s2 ⟨vs, H2, I2, r2, q1, q2⟩ => ⟨I2.kIn, ?_⟩) (star_ok rfl _ _) (star_all _ _ rfl)
  subst q1 q2
  obtain ⟨u, rfl, ru⟩ := r2.one
  obtain rfl : u = Value.ref q := ru
  show wpAny _ _ (call (.ref (G.fA w)) [.ref q]) _ _ _
  have P1 := I2.pin (q, oe) (List.mem_append_left _ (List.mem_cons_self ..))
  have hpin : L2H.PinOk X.stack H2 s2 (q, oe) := ⟨P1.1, P1.2.1, fun hm => (List.mem_cons.mp (I2.stkSub q hm)).elim P1.2.2.1 P1.2.2.2.1, P1.2.2.2.2⟩
  have hot : L2H.Hot1 (X.A.mark (some (.ref q))) (q, oe) := by
    obtain ⟨vs, hv⟩ := hf
    exact ⟨rfl, vs, hv, hz.2.2 vs hv⟩
  have e0 : Env0 X.prog X.w X.K X.mg X.base (X.A.mark (some (.ref q))) X.stack s2 H2 := I2.env0
  rw [e1, e2, e3, e4, e5] at e0
  have room : L2H.RoomH 1 (X.A.mark (some (.ref q))) := ⟨by have := hr.dp; show X.A.depth + 3 * 1 + 5 < _; unfold lvl at this; omega, by have := hr.un; show X.A.units + 16 * 1 + 200 < _; unfold lvl at this; omega⟩
  have rc := wh (X.A.mark (some (.ref q))) X.stack s2 H2 (q, oe) dn n Q (fun _ _ _ => False) room hot hpin e0 hz k3 k4 k6
  rw [← e1, ← e2] at rc
  refine wpAny_call (codeAny_mono rc fun r s' hq => ?_)
  cases r with
  | error e =>
    obtain ⟨_, _, _, _, _, _, _, _, _, _, _, _, z⟩ := hq
    exact z.elim
  | ok fl =>
    cases fl with
    | ret u => exact I2.after hq
    | next => exact False.elim hq
    | brk => exact False.elim hq
    | cont => exact False.elim hq
theorem sS_tryA (C : Cxt G X) (hr : Room (lvl d + 1) X.A) (hs : X.stack = X.env :: X.outer) (hf : X.env.frame = some X.env.locals) (hex : X.ex = []) (hN : X.N.Nodup) (hi : X.N[i]? = some a) (hj : X.N[j]? = some t) (hx : X.N[x]? = some en) (hk : X.N[k]? = some kn) (hkx : k ≠ x)
    (va : Vis X.env.scope a) (vt : Vis X.env.scope t) (le : X.env.scope.names.lookup en = some .local) (lk : X.env.scope.names.lookup kn = some .local) (da : (a == ("__debug__" : Str)) = false) (ca : (a == ("__classdict__" : Str)) = false) (dt : (t == ("__debug__" : Str)) = false) (ct : (t == ("__classdict__" : Str)) = false)
    (de : (en == ("__debug__" : Str)) = false) (ce : (en == ("__classdict__" : Str)) = false) (dw : (wn == ("__debug__" : Str)) = false) (hc : Names X c (.ref (G.cA cid))) (tk : L2N.Takes X (fun cls d _ H => EW G W cls d H)) (hd : ∀ f fa ws, G.hd f = some (fa, ws) → ∃ cq ∈ G.cods, CloC G d f fa ws X.outer X.s_0 X.H_0 cq)
    (xf : XF G) (xc : G.T.xs cid cid = true) (wh : WhAt G w) (hg : Gl X wn) (hm : X.mg wn = some (.ref (G.fA w))) (hkp : PySem.W.keepIn X.K (.ref (G.fA w)) = true) :
    PS X (.Try [.Expr (.Call (.Name a p1) [.Name t p2] [] p3) p4] [.ExceptHandler (some (.Name c p5)) (some en) [.Assign [.Name kn p6] (.Call (.Name wn p7) [.Name en p8] [] p9) p10] p11] [] [] p12)
      (tS G W fun r S => evS G.T (run G.T d) (.tryA i (.cons (.var j) .nil) cid x k w) r S) := by
  refine PS.weak (L2N.ps_try_as (i := x) (Wout := fun cls d _ H => EW G W cls d H) (tb := fun W' D σ H => tClo G d i j X.outer X.s_0 X.H_0 W' σ H fun _ H' => D.nx σ H') (ts := fun q cls dd D σ H => tWh G w x q cls dd σ H fun v H' => D.nx (σ.set k (some v)) H') hs hf hN hx le hc tk (fun W' pn xe tk' own => ?_) (fun q oe cls dd pn hz hfl => ?_)) fun D σ H ⟨μ, r, S, en, re, h⟩ => ?_
  · exact pss_one (ps_expr (pe_clo (X := X.tr pn xe) C.prog C.w C.K C.mg C.base hex (hr.mono (by omega)) hi hj va vt da ca dt ct tk') rfl)
  · exact pss_one (ps_asg (pe_wh C.prog C.w C.K C.mg C.base hr wh hz hfl hx (.inl le) de ce hg hm hkp dw) (pg_name hN hk (.inl lk) (.inr lk)) rfl rfl rfl)
  · simp only [evS] at h
    cases hri : r[i]? with
    | none => rw [hri] at h; exact h.elim
    | some o =>
      rw [hri] at h
      cases o with
      | none => exact h.elim
      | some v0 =>
        cases v0 <;> try exact h.elim
        rename_i f ws
        dsimp only at h
        obtain ⟨y, y1, y2⟩ := pr_get en hri
        obtain ⟨fa, wsV, rfl, hfa, hws⟩ := y2
        obtain ⟨cq, hcq, clo⟩ := hd f fa wsV hfa
        cases hrj : r[j]? with
        | none => simp [evA, evE, hrj] at h; exact h.elim
        | some o2 =>
          cases o2 with
          | none => simp [evA, evE, hrj] at h; exact h.elim
          | some v =>
            by_cases hp : plain v = true
            · obtain ⟨z, z1, z2⟩ := pr_get en hrj
              obtain ⟨vx, rfl, z3⟩ := SR.to hp z2
              simp only [evA, evE, hrj, hp, if_true, Res.bind_ok] at h
              refine ⟨fa, f, wsV, cq, vx, y1, clo, (re.cod cq hcq).1, z1, μ, [v], clist ws, S, fun c' H' => ∃ μ' S1, run G.T d f (clist ws ++ [v]) S = .exc c' S1 ∧ Stp μ H μ' H' ∧ Rel G μ' S1 H', .cons z3 .nil, hws, re, ?_, fun c' H' ⟨μ1, S1, e1, st1, re1⟩ => ?_⟩
              · cases er : run G.T d f (clist ws ++ [v]) S with
                | ok v1 S1 =>
                  rw [er] at h
                  exact fun μ1 H1 st1 re1 x1 vx1 => h μ1 H1 σ st1 re1 (en.stp st1)
                | exc c1 S1 => exact fun μ1 H1 st1 re1 => ⟨μ1, S1, rfl, st1, re1⟩
                | bad => rw [er] at h; exact h.elim
              · rw [e1] at h
                dsimp only at h
                split at h
                · rename_i hxx
                  refine ⟨G.T.xs c' cid, by rw [C.K]; exact (xf.sub c' cid hxx xc).2, fun hb q hq => ?_, fun hb => ?_⟩
                  · rw [if_pos hb] at h
                    cases hw : G.T.wh w c' with
                    | none => rw [hw] at h; exact h.elim
                    | some n =>
                      rw [hw] at h
                      refine ⟨c', n, rfl, rfl, hxx, hw, ⟨σ, rfl⟩, fun H2 ext => ?_⟩
                      have st2 : Stp μ H μ1 H2 := st1.trans (Stp.extH ext)
                      have en2 := ((en.stp st2).set k (v := .int n) (x := .int n) rfl)
                      have := h μ1 H2 _ st2 (re1.extH ext) (pr_set (F := SR G μ1) (x := none) (y := none) rfl x en2)
                      have es : (((σ.set x (some (V.ref q))).set k (some (.int n))).set x none) = (σ.set k (some (.int n))).set x none := by
                        rw [List.set_comm _ _ (Ne.symm hkx), List.set_set]
                      show D.nx (((σ.set x (some (V.ref q))).set k (some (.int n))).set x none) H2
                      rw [es]
                      exact this
                  · rw [if_neg (by rw [hb]; decide)] at h
                    exact ⟨c', rfl, rfl, h μ1 H' st1 re1⟩
                · exact h.elim
            · simp [evA, evE, hrj, hp] at h
              exact h.elim
end
end Ev
end

section
set_option Elab.async false
set_option linter.all false
set_option maxRecDepth 100000
set_option maxHeartbeats 1000000
/-! Cmp5: statements. -/
namespace Ev
open PySem PySem.Spec PyProof.Rows L2
section
variable {G : GE} {cc : CC} {d : Nat} {W : WC} {sc : Scope} {fb : Str → Bool} {X : Cx}
structure CnS (G : GE) (cc : CC) (d : Nat) (W : WC) (sc : Scope) (X : Cx) : Prop extends Cnx G cc d W sc (fun _ => true) X where
  tk : L2N.Takes X (fun cls d _ H => EW G W cls d H)
  stk : X.stack = X.env :: X.outer
  frm : X.env.frame = some X.env.locals
  exn : X.ex = []
  hdc : ∀ f fa ws, G.hd f = some (fa, ws) → ∃ cq ∈ G.cods, CloC G d f fa ws X.outer X.s_0 X.H_0 cq
  xf : XF G
  gxs : ∀ x c w, cc.gl x = some (.exc c) → cc.wh w = true → G.T.xs c c = true
  whs : ∀ w, cc.wh w = true → WhAt G w
theorem any_of {f : Expr → Bool} (h : ∀ e, f e = !notStar e) : ∀ vs : List Expr, vs.any f = vs.any (fun e => !notStar e)
  | [] => rfl
  | v :: r => by rw [List.any_cons, List.any_cons, any_of h r, h]
theorem swp_ok {env : PySem.Env} {ts vs : List Expr} {r : Option (List Str)} {k k2 : Nat} {p p2 : Pos} (hs : env.scope = sc) (hk : sc.kind = .function) (h : swp sc ts vs = some r) : swappedStores [.Tuple ts k p] (.Tuple vs k2 p2) env = pure r := by
  subst hs
  have hb : env.blockKind = .function := by unfold PySem.Env.blockKind; rw [hk]; rfl
  unfold swp at h
  unfold swappedStores
  dsimp only
  rw [hb, any_of fun e => by cases e <;> rfl]
  by_cases h1 : (!(ts.length == 2 || ts.length == 3) || vs.length != ts.length) = true
  · rw [if_pos h1] at h
    cases h
    rw [if_pos (by rw [h1]; rfl)]
  · rw [if_neg h1] at h
    rw [if_neg (by simpa using h1)]
    by_cases h2 : vs.any (fun e => !notStar e) = true
    · rw [if_pos h2] at h
      cases h
      rw [if_pos h2]
    · rw [if_neg h2] at h
      rw [if_neg h2]
      dsimp only at h
      split at h
      · rename_i h3
        cases h
        exact if_pos h3
      · rename_i h3
        refine (if_neg h3).trans ?_
        split at h
        · rename_i h4
          cases h
          rw [if_pos h4]
        · rename_i h4
          rw [if_neg h4]
          split at h
          · cases h
          · rename_i h5
            cases h
            rw [if_neg h5]
            rfl
theorem sw_not {e : Expr} {t : Option Expr} {l : Nat} {env : PySem.Env} (h : isLc e = false) : swapsWith e t l env = pure false := by
  cases e <;> first | rfl | cases h
theorem sw_notS {t e : Expr} {l : Nat} {env : PySem.Env} (h : isLc e = false) : swapsWithSole [t] e l env = pure false := sw_not (t := some t) h
theorem swv_none {ts : List Expr} {k : Nat} {p : Pos} {e : Expr} {env : PySem.Env} (h : isTup e = false) : swappedStores [.Tuple ts k p] e env = pure none := by
  cases e <;> first | rfl | cases h
theorem slots2 {N : List Str} {x y : Str} {is : List Nat} (h : slots N [x, y] = some is) : ∃ i j, is = [i, j] ∧ N[i]? = some x ∧ N[j]? = some y := by
  simp only [slots] at h
  cases e1 : slot N x with
  | none => rw [e1] at h; cases h
  | some i =>
    cases e2 : slot N y with
    | none => rw [e1, e2] at h; cases h
    | some j =>
      rw [e1, e2] at h
      cases h
      exact ⟨i, j, rfl, slot_ok e1, slot_ok e2⟩
theorem slots3 {N : List Str} {x y z : Str} {is : List Nat} (h : slots N [x, y, z] = some is) : ∃ i j l, is = [i, j, l] ∧ N[i]? = some x ∧ N[j]? = some y ∧ N[l]? = some z := by
  simp only [slots] at h
  cases e1 : slot N x with
  | none => rw [e1] at h; cases h
  | some i =>
    cases e2 : slot N y with
    | none => rw [e1, e2] at h; cases h
    | some j =>
      cases e3 : slot N z with
      | none => rw [e1, e2, e3] at h; cases h
      | some l =>
        rw [e1, e2, e3] at h
        cases h
        exact ⟨i, j, l, rfl, slot_ok e1, slot_ok e2, slot_ok e3⟩
/-- the names of a swapped store are local, two or three -/
theorem swp_some {ts vs : List Expr} {names : List Str} (h : swp sc ts vs = some (some names)) : (∀ x ∈ names, sc.names.lookup x = some .local) ∧ (ts.length = 2 ∨ ts.length = 3) ∧ vs.length = ts.length := by
  unfold swp at h
  split at h
  · cases h
  · rename_i h1
    split at h
    · cases h
    · dsimp only at h
      split at h
      · cases h
      · split at h
        · cases h
        · split at h
          · cases h
          · cases h
            refine ⟨fun x hx => ?_, ?_, ?_⟩
            · obtain ⟨e, _, he⟩ := List.mem_filterMap.mp hx
              cases e <;> try cases he
              dsimp only at he
              split at he
              · rename_i q
                cases he
                exact eq_of_beq (Bool.and_eq_true_iff.mp q).1
              · cases he
            · simp only [Bool.or_eq_true, not_or, Bool.not_eq_true', Bool.not_eq_false] at h1
              rcases h1.1 with q | q
              · exact .inl (eq_of_beq q)
              · exact .inr (eq_of_beq q)
            · simp only [Bool.or_eq_true, not_or] at h1
              simpa using h1.2
theorem nameOfE_ok {e : Expr} {x : Str} (h : nameOfE e = some x) : ∃ p, e = .Name x p := by
  cases e <;> first | (cases h; exact ⟨_, rfl⟩) | cases h
theorem cAsg_ok (F : GF G) (CFa : CF G cc d) (C : CnS G cc d W sc X) {n : Nat} {tg e : Expr} {pos : Pos} {sm : Sm} (h : cAsg cc sc n tg e = some sm) : PS X (.Assign [tg] e pos) (tS G W (evS G.T (run G.T d) sm)) := by
  have ih := cE_ok F CFa n
  unfold cAsg at h
  split at h
  · rename_i y py
    split at h
    · rename_i t e' et ee
      have kg := cTg_ok C.toCnx n et
      have ke := (ih _ _ _ _ _ _ ee C.toCnx).1
      split at h
      · split at h
        · rename_i elt gs scope pc _
          cases h
          by_cases hw : (X.env.blockKind == .function && X.env.kindOf y == some .local && py.line == pc.line && !(scope.names.any fun (n, k) => n == y && (k == .local || k == .cell))) = true
          · have hsw : swapsWith (.ListComp elt gs scope pc) (some (.Name y py)) pos.line X.env = pure true := by
              show (pure (X.env.blockKind == .function && X.env.kindOf y == some .local && py.line == pc.line && !(scope.names.any fun (n, k) => n == y && (k == .local || k == .cell))) : Sem Bool) = _
              rw [hw]
            have hl : X.env.scope.names.lookup y = some .local := by
              simp only [Bool.and_eq_true] at hw
              exact eq_of_beq hw.1.1.2
            cases n with
            | zero => cases et
            | succ m =>
              simp only [cTg] at et
              rw [← C.scE, hl] at et
              dsimp only at et
              cases es : slot cc.N y with
              | none => rw [es] at et; cases et
              | some i =>
                rw [es] at et
                cases (show some (Tg.nm i) = some t from et)
                simp only [cE] at ee
                exact (cComp_ok CFa (cE_ok F CFa m) C.toCnx ee).2 (by rw [C.N]; exact slot_ok es) hl hsw
          · have hsw : swapsWith (.ListComp elt gs scope pc) (some (.Name y py)) pos.line X.env = pure false := by
              show (pure (X.env.blockKind == .function && X.env.kindOf y == some .local && py.line == pc.line && !(scope.names.any fun (n, k) => n == y && (k == .local || k == .cell))) : Sem Bool) = _
              rw [Bool.eq_false_iff.mpr hw]
            exact sS_asg ke kg hsw rfl rfl
        · cases h
      · rename_i hl
        cases h
        exact sS_asg ke kg (sw_notS (by simpa using hl)) rfl rfl
    · cases h
  · rename_i ts kt pt
    split at h
    · cases h
    · rename_i hl0
      have hl : isLc e = false := by simpa using hl0
      split at h
      · rename_i vs k2 p2
        split at h
        · rename_i esw
          split at h
          · rename_i t e' et ee
            cases h
            exact sS_asg (ih _ _ _ _ _ _ ee C.toCnx).1 (cTg_ok C.toCnx n et) (sw_notS hl) (swp_ok C.scE C.kind esw) rfl
          · cases h
        · rename_i names esw
          split at h
          · rename_i is as eis eas
            split at h
            · rename_i hn0
              cases h
              obtain ⟨hn1, hn2⟩ := Bool.and_eq_true_iff.mp hn0
              have hn := of_decide_eq_true hn1
              have hnd := of_decide_eq_true hn2
              have hw := swp_ok (k := kt) (k2 := k2) (p := pt) (p2 := p2) C.scE C.kind esw
              obtain ⟨q1, q2, q3⟩ := swp_some esw
              obtain ⟨ka, _⟩ := cEs_ok ih C.toCnx eas
              have hN : X.N.Nodup := by rw [C.N]; exact C.nd
              match ts, vs, hn, q2, q3, hw, ka with
              | [t1, t2], [a, b], hn, _, _, hw, ka =>
                simp only [namesOf] at hn
                cases e1 : nameOfE t1 with
                | none => rw [e1] at hn; cases hn
                | some x =>
                  cases e2 : nameOfE t2 with
                  | none => rw [e1, e2] at hn; cases hn
                  | some y =>
                    rw [e1, e2] at hn
                    cases hn
                    obtain ⟨p1, rfl⟩ := nameOfE_ok e1
                    obtain ⟨p2', rfl⟩ := nameOfE_ok e2
                    obtain ⟨i, j, rfl, hi, hj⟩ := slots2 eis
                    exact sS_par2 C.toCxt hN (by rw [C.N]; exact hi) (by rw [C.N]; exact hj) (by simpa using hnd) (by rw [C.scE]; exact q1 x (by simp)) (by rw [C.scE]; exact q1 y (by simp)) ka hw rfl
              | [t1, t2, t3], [a, b, c], hn, _, _, hw, ka =>
                simp only [namesOf] at hn
                cases e1 : nameOfE t1 with
                | none => rw [e1] at hn; cases hn
                | some x =>
                  cases e2 : nameOfE t2 with
                  | none => rw [e1, e2] at hn; cases hn
                  | some y =>
                    cases e3 : nameOfE t3 with
                    | none => rw [e1, e2, e3] at hn; cases hn
                    | some z =>
                      rw [e1, e2, e3] at hn
                      cases hn
                      obtain ⟨p1, rfl⟩ := nameOfE_ok e1
                      obtain ⟨p2', rfl⟩ := nameOfE_ok e2
                      obtain ⟨p3', rfl⟩ := nameOfE_ok e3
                      obtain ⟨i, j, l, rfl, hi, hj, hl⟩ := slots3 eis
                      have hnd' : (i ≠ j ∧ i ≠ l) ∧ j ≠ l := by simpa using hnd
                      exact sS_par3 C.toCxt hN (by rw [C.N]; exact hi) (by rw [C.N]; exact hj) (by rw [C.N]; exact hl) hnd'.1.1 hnd'.1.2 hnd'.2 (by rw [C.scE]; exact q1 x (by simp)) (by rw [C.scE]; exact q1 y (by simp)) (by rw [C.scE]; exact q1 z (by simp)) ka hw rfl
            · cases h
          · cases h
        · cases h
      · rename_i hne
        split at h
        · rename_i t e' et ee
          cases h
          exact sS_asg (ih _ _ _ _ _ _ ee C.toCnx).1 (cTg_ok C.toCnx n et) (sw_notS hl) (swv_none (by cases e <;> first | rfl | exact absurd rfl (hne _ _ _))) rfl
        · cases h
  · rename_i o m po
    split at h
    · cases h
    · rename_i hl0
      have hl : isLc e = false := by simpa using hl0
      split at h
      · rename_i o' i e' eo em ee
        cases h
        exact sS_setf C.toCxt F (CFa.nmo m i em) (ih _ _ _ _ _ _ ee C.toCnx).1 (ih _ _ _ _ _ _ eo C.toCnx).1 (sw_not hl)
      · cases h
  · rename_i o i po
    split at h
    · cases h
    · rename_i hl0
      have hl : isLc e = false ∧ ixPlain i = true := by simpa using hl0
      split at h
      · rename_i o' i' e' eo ei ee
        cases h
        exact sS_seti C.toCxt (ih _ _ _ _ _ _ ee C.toCnx).1 (ih _ _ _ _ _ _ eo C.toCnx).1 (ih _ _ _ _ _ _ ei C.toCnx).1 (fun v => by
          have := hl.2
          cases i <;> first | rfl | cases this) (sw_not hl.1)
      · cases h
  · cases h
theorem cSs_ok {f : Stmt → Option Sm} {cl : Nat → List Va → Sto → Res Va} (hf : ∀ s sm, f s = some sm → PS X s (tS G W (evS G.T cl sm))) : ∀ {ss : List Stmt} {sm : Sm}, cSs f ss = some sm → PSs X ss (tS G W (evS G.T cl sm))
  | [], sm, h => by
    cases (show some Sm.skip = some sm from h)
    exact sSs_nil
  | s :: r, sm, h => by
    simp only [cSs] at h
    split at h
    · rename_i a b h1 h2
      cases h
      exact sSs_cons (hf _ _ h1) (cSs_ok hf h2)
    · cases h
theorem cS_ok (F : GF G) (CFa : CF G cc d) (C : CnS G cc d W sc X) : ∀ (n : Nat) (s : Stmt) (sm : Sm), cS cc n sc s = some sm → PS X s (tS G W (evS G.T (run G.T d) sm))
  | 0, _, _, h => by cases h
  | n + 1, s, sm, h => by
    have ih := cE_ok F CFa n
    have ihs := cS_ok F CFa C n
    cases s
    case Pass p =>
      simp only [cS] at h
      cases h
      exact sS_pass
    case Expr e p =>
      simp only [cS] at h
      split at h
      · cases h
      · rename_i hl
        cases ee : cE cc n sc e with
        | none => rw [ee] at h; cases h
        | some e' =>
          rw [ee] at h
          cases (show some (Sm.ex e') = some sm from h)
          exact sS_ex (ih _ _ _ _ _ _ ee C.toCnx).1 (sw_not (by simpa using hl))
    case Return v p =>
      simp only [cS] at h
      split at h
      · rename_i e
        cases ee : cE cc n sc e with
        | none => rw [ee] at h; cases h
        | some e' =>
          rw [ee] at h
          cases (show some (Sm.ret e') = some sm from h)
          exact sS_ret (ih _ _ _ _ _ _ ee C.toCnx).1
      · cases h
        exact sS_retN
    case If c a b p =>
      simp only [cS] at h
      split at h
      · rename_i c' a' b' ec ea eb
        split at h
        · rename_i ht
          cases h
          exact sS_ite ((ih _ _ _ _ _ _ ec C.toCnx).2 ht) (cSs_ok ihs ea) (cSs_ok ihs eb)
        · cases h
      · cases h
    case For tg it body els p =>
      simp only [cS] at h
      split at h
      · split at h
        · rename_i i t b ei et eb
          cases h
          obtain ⟨k1, k2⟩ := cIter_ok CFa ih C.toCnx ei
          exact sS_for C.toCxt C.own k1 (cTg_ok C.toCnx n et) (cSs_ok ihs eb) (fold_ok k2 _)
        · cases h
      · cases h
    case While c body els p =>
      simp only [cS] at h
      split at h
      · split at h
        · rename_i c' b ec eb
          split at h
          · rename_i ht
            cases h
            exact sS_while C.toCxt C.own ((ih _ _ _ _ _ _ ec C.toCnx).2 ht) (cSs_ok ihs eb) wfuel
          · cases h
        · cases h
      · cases h
    case Assign ts e p =>
      simp only [cS] at h
      split at h
      · exact cAsg_ok F CFa C h
      · cases h
    case AugAssign t op e p =>
      simp only [cS] at h
      split at h
      · rename_i o m po k kk cp
        split at h
        · rename_i o' i eo em
          cases h
          exact sS_augf C.toCxt F (CFa.nmo m i em) (ih _ _ _ _ _ _ eo C.toCnx).1
        · cases h
      · cases h
    case Raise e c p =>
      simp only [cS] at h
      split at h
      · rename_i x px m j p2 pc
        split at h
        · rename_i hk
          obtain ⟨q1, q2⟩ := Bool.and_eq_true_iff.mp hk
          split at h
          · rename_i cid ec
            cases h
            obtain ⟨m1, m2, m3, m4, m5⟩ := CFa.exc x cid ec
            exact sS_raise C.toCxt C.tk (L2N.pmk_own PySem.F.excBase_ValueError (by rw [C.K]; exact m2) (by rw [C.mg]; exact m1) (by rw [C.K]; exact m3) (raises_own (by rw [C.K]; exact m4) (by rw [C.K]; exact m5)) (C.gl q1) (by simpa [dbg] using q2))
          · cases h
        · cases h
      · cases h
    case Try body hs els fin p =>
      simp only [cS] at h
      split at h
      · rename_i a p1 t p2 p3 p4 c p5 en kn p6 wn p7 e2 p8 p9 p10 p11
        unfold cTry at h
        split at h
        · rename_i i j x kk cid wf ei ej ex ek ec ew
          split at h
          · rename_i hb
            cases h
            simp only [Bool.and_eq_true, decide_eq_true_eq, List.all_cons, List.all_nil, Bool.not_eq_true'] at hb
            obtain ⟨⟨⟨⟨⟨⟨⟨⟨⟨b1, b2⟩, b3⟩, b4⟩, b5⟩, b6⟩, b7⟩, b8⟩, b9⟩, ⟨d1, d2⟩, ⟨d3, d4⟩, ⟨d5, d6⟩, ⟨d7, d8⟩, ⟨d9, d10⟩, _⟩ := hb
            subst b7
            obtain ⟨m1, m2, m3, m4, m5⟩ := CFa.exc c cid ec
            obtain ⟨m6, fd, ps, m7, m8, m9⟩ := CFa.fn wn wf ew
            exact sS_tryA C.toCxt C.room C.stk C.frm C.exn (by rw [C.N]; exact C.nd) (by rw [C.N]; exact slot_ok ei) (by rw [C.N]; exact slot_ok ej) (by rw [C.N]; exact slot_ok ex) (by rw [C.N]; exact slot_ok ek) b9 (C.vis b1) (C.vis b2)
              (by rw [C.scE]; exact b5) (by rw [C.scE]; exact b6) d1 d2 d3 d4 d9 d10 d7 ⟨C.gl b3, d5, .inl (by rw [C.mg]; exact m1)⟩ C.tk C.hdc C.xf (C.gxs c cid wf ec b8) (C.whs wf b8) (C.gl b4) (by rw [C.mg]; exact m6) (by rw [C.K]; exact m9)
          · cases h
        · cases h
      · cases h
    all_goals (simp only [cS] at h; cases h)
end
end Ev
end

section
set_option Elab.async false
set_option linter.all false
set_option maxRecDepth 100000
set_option maxHeartbeats 1000000
/-! EvK: the def that tells of an exception's class keeps its word; a lambda keeps its word. -/
namespace Ev
open PySem PySem.Spec PyProof.Rows L2 LamX NdefX
section
variable {G : GE} {cc : CC} {name qual : Str} {params : Arguments} {body : List Stmt} {scope : Scope} {kws : List (Str × V)} {fd : FuncData} {w : Nat} {ev : Str}
/-- a def called where the exception p is handled, told of p itself -/
theorem hot_run {N : List Str} {f : Addr} {A : Around} {outer : List PySem.Env} {s : Shared} {H : Hp} {us : List Value} {vs : List V} {Q : VK} {E : XK} {p : Addr × Obj} {k : Nat} {ps : List Str} (FD : FunD G.K name qual params body scope [] kws f fd) (S : FnScope N ps scope) (hb : Binds G.K fd ps []) (hr : L2H.RoomH (k + 1) A) (hpin : L2H.PinOk outer H s p)
    (e0 : Env0 G.P G.w G.K G.mg G.base A outer s H) (r : Vals vs us) (hl : vs.length = ps.length)
    (go : ∀ cdv, L2H.RoomH k (A.deeper (envOfC qual scope s.heap.objs.size f cdv)) → ∃ t, PSs (L2H.cxH (L2N.CX G.P G.w) G.P G.w G.K G.mg G.base N qual scope f cdv A outer s H E p) body t ∧ t { nx := fun _ H' => Q .non H', rt := Q } (L2.start N vs) H) :
    codeAny (model G.P G.w) A (.call (.ref f) ⟨us, []⟩) (CR (L2N.CX G.P G.w) outer G.P G.w H s Q E) s := by
  obtain ⟨oc, od, dV, kV, doc, pm, an, cdv, ct, osl, rfl, lk, hcd, _, _⟩ := FD.ex
  have inK : G.K.In s.heap := e0.mod.kin.keeps fun b o e => (e0.bs b o e).1
  have hbt := hb s us inK (by rw [List.append_nil, ← r.length]; exact hl)
  rw [List.append_nil] at hbt
  have kinds : ∀ y ∈ ps.zip us, scope.names.lookup y.1 = some .local ∨ (scope.names.lookup y.1 = some .cell ∧ ((cellsFrom (s.heap.objs.size + 1) scope.names []).lookup y.1).isSome = true) := fun y hy => (S.par y.1 (List.of_mem_zip hy).1).imp id fun q => ⟨q, PySem.W.cellsFrom_some _ _ _ (.inl q)⟩
  refine codeAny_call_function hr.depth (inK _ _ lk) rfl S.co S.gen rfl (PySem.W.codeRec_of inK hcd) (hbt _ _ _ _ (wpAny_newFunctionEnv_cells S.kind kinds fun env he s1 x => ?_))
  subst he
  obtain ⟨t, ht, hq⟩ := go cdv (hr.deeper _)
  have I := L2H.inv_startH (CX := L2N.CX G.P G.w) (cd := cdv) (E := E) S hpin e0 hl r x
  refine ⟨(e0.mod.nolimit.keeps fun b o e => (e0.bs b o e).1).keeps x.toInCall.keep, codeAny_func (wpAny_mono (ht.run [] s1 _ H _ I hq) (fun fl s' hs => ?_) fun e s' hs => hs)⟩
  cases fl with
  | ret u =>
    obtain ⟨v, σ', H', J, rv, q⟩ := hs
    exact ⟨v, H', J.os, J.bare, J.base, J.hok, rv, q⟩
  | next =>
    obtain ⟨σ', H', J, q⟩ := hs
    exact ⟨.non, H', J.os, J.bare, J.base, J.hok, rfl, q⟩
  | brk => exact hs.choose_spec.choose_spec.2.elim
  | cont => exact hs.choose_spec.choose_spec.2.elim
/-- what the text of such a def must hold -/
def locB (N : List Str) (sc : Scope) : Bool := sc.names.all fun y => match y.2 with
  | .local => (slot N y.1).isSome
  | _ => true
theorem locB_ok {N : List Str} {sc : Scope} (h : locB N sc = true) (x : Str) (e : sc.names.lookup x = some .local) : ∃ i : Nat, N[i]? = some x := by
  have := List.all_eq_true.mp h (x, .local) (PySem.mem_of_lookup e)
  obtain ⟨i, hi⟩ := Option.isSome_iff_exists.mp this
  exact ⟨i, slot_ok hi⟩
theorem wh_at {ks : List Nat} (xf : XF G) (FD : FunD G.K name qual params body scope [] kws (G.fA w) fd) (S : FnScope cc.N [ev] scope) (hb : Binds G.K fd [ev] []) (hN : ∃ r, cc.N = ev :: r) (lk : scope.names.lookup ev = some .local) (de : (ev == ("__debug__" : Str)) = false) (ce : (ev == ("__classdict__" : Str)) = false)
    (gx : ∀ x c, cc.gl x = some (.exc c) → G.mg x = some (.ref (G.cA c)) ∧ G.T.xs c c = true) (fr : ∀ x, cc.fr.contains x = true → G.mg x = none) (hl : locB cc.N scope = true) (ho : whOf cc scope ev body = some ks) (hw : ∀ dn, G.T.xs dn dn = true → G.T.wh w dn = whN (ks.map (G.T.xs dn))) : WhAt G w := by
  intro A outer s H p dn n Q E hr hot hpin e0 hz hx hn hQ
  refine hot_run (vs := [.ref p.1]) FD S hb hr hpin e0 (.cons rfl .nil) rfl fun cdv _ => ⟨_, wh_body (G := G) (cc := cc) (p := p) (dn := dn) (sc := scope) (ev := ev) (ie := 0) ?_ S.kind S.nd (fun x e => locB_ok hl x e) ho ((hw dn hx).symm.trans hn), ?_⟩
  · exact {
      xf := xf, K := rfl, mg := rfl, scE := rfl, hp := List.mem_cons_self .., hz := hz, hf := by obtain ⟨_, vs, e, _⟩ := hot; exact ⟨vs, e⟩, ex := hx, gx := gx, fr := fr
      N := by obtain ⟨r, e⟩ := hN; show cc.N[0]? = _; rw [e]; rfl
      vis := .inl lk, dbg := de, cdc := ce }
  · refine ⟨rfl, ?_, hQ⟩
    obtain ⟨r, e⟩ := hN
    show (L2.start cc.N [.ref p.1]).length = cc.N.length
    rw [e]
    simp [L2.start]
end
end Ev
end

section
set_option Elab.async false
set_option linter.all false
set_option maxRecDepth 100000
set_option maxHeartbeats 1000000
/-! EvU: binding; a lambda keeps its word; a def handed a lambda keeps its word. -/
namespace Ev
open PySem PySem.Spec PyProof.Rows L2 LamX NdefX
theorem zip_look {ps : List Str} {us : List Value} (hl : us.length = ps.length) : ∀ n ∈ ps, ((ps.zip us).lookup n).isNone = false := by
  induction ps generalizing us with
  | nil => intro n h; cases h
  | cons p ps ih =>
    cases us with
    | nil => cases hl
    | cons u us =>
      intro n hn
      rw [List.zip_cons_cons, List.lookup_cons]
      cases e : n == p with
      | true => rfl
      | false =>
        rcases List.mem_cons.mp hn with rfl | hn
        · simp at e
        · exact ih (by simpa using hl) n hn
theorem look_skip {n p : Str} {u : Value} {l : List (Str × Value)} (h : n ≠ p) : ((p, u) :: l).lookup n = l.lookup n := by
  rw [List.lookup_cons]
  have : (n == p) = false := by simpa using h
  rw [this]
theorem fm_congr {α β : Type} {f g : α → Option β} : ∀ {l : List α}, (∀ a ∈ l, f a = g a) → l.filterMap f = l.filterMap g
  | [], _ => rfl
  | a :: l, h => by rw [List.filterMap_cons, List.filterMap_cons, h a (List.mem_cons_self ..), fm_congr fun b hb => h b (List.mem_cons_of_mem _ hb)]
theorem zip_map {ps : List Str} (nd : ps.Nodup) : ∀ {us : List Value}, us.length = ps.length → ps.filterMap (fun n => ((ps.zip us).lookup n).map (n, ·)) = ps.zip us := by
  induction ps with
  | nil => intro us _; rfl
  | cons p ps ih =>
    intro us hl
    cases us with
    | nil => cases hl
    | cons u us =>
      obtain ⟨n1, n2⟩ := List.nodup_cons.mp nd
      rw [List.zip_cons_cons, List.filterMap_cons, List.lookup_cons, beq_self_eq_true]
      show (p, u) :: List.filterMap _ ps = _
      refine congrArg _ ((fm_congr fun n hn => ?_).trans (ih n2 (us := us) (by simpa using hl)))
      have hne : n ≠ p := fun e => n1 (by rw [← e]; exact hn)
      rw [look_skip hne]
theorem bind_plainG {fd : FuncData} {params : Arguments} {ps : List Str} (h0 : fd.params = params) (h00 : fd.defaults = .none) (h1 : params.posonlyargs = []) (h2 : params.args.map (·.arg) = ps) (h3 : params.vararg = none) (h4 : params.kwonlyargs = []) (h5 : params.kwarg = none) (nd : ps.Nodup)
    (us : List Value) (hl : us.length = ps.length) : bindArgs fd ⟨us, []⟩ = pure (ps.zip us) := by
  obtain ⟨po, ar, va, ko, kd, kw, df⟩ := params
  dsimp only at h1 h2 h3 h4 h5
  subst h1 h2 h3 h4 h5
  unfold bindArgs
  have e0 : seqItems? .none = pure none := rfl
  dsimp only
  rw [h0, h00, e0]
  have e1 : ¬ (us.length > (ar.map (·.arg)).length) := by omega
  have e2 : (ar.map (·.arg)).filter (fun n => (((ar.map (·.arg)).zip us).lookup n).isNone) = [] := by
    refine List.filter_eq_nil_iff.mpr fun n hn => ?_
    rw [zip_look hl n hn]
    simp
  simp
  rw [if_neg (show ¬ ar.length < us.length by simpa using e1)]
  have e3 := zip_map nd hl
  rw [List.filterMap_map] at e3
  have e4 : List.filter (fun n => (((ar.map (·.arg)).zip us).lookup n).isNone) (List.take ((List.map (fun x : Arg => x.arg) [] ++ List.map (fun x => x.arg) ar).length - (List.drop ((#[] : Array Value).size - (List.map (fun x : Arg => x.arg) [] ++ List.map (fun x => x.arg) ar).length) ([] : List Value)).length) (List.map (fun x : Arg => x.arg) [] ++ List.map (fun x => x.arg) ar)) = [] := by
    rw [List.drop_nil]
    show List.filter _ (List.take ((ar.map (·.arg)).length - 0) (ar.map (·.arg))) = []
    rw [Nat.sub_zero, List.take_length]
    exact e2
  rw [if_neg (by rw [e4]; decide)]
  exact congrArg _ e3
theorem bind_plain {x qual : Str} {params : Arguments} {body : List Stmt} {scope : Scope} {kV doc pm : Value} {an : Option Addr} {cdv ct : Value} {ps : List Str} (h1 : params.posonlyargs = []) (h2 : params.args.map (·.arg) = ps) (h3 : params.vararg = none) (h4 : params.kwonlyargs = []) (h5 : params.kwarg = none) (nd : ps.Nodup)
    (us : List Value) (hl : us.length = ps.length) : bindArgs (PySem.W.fnOf x qual params body scope .none kV doc pm an cdv ct) ⟨us, []⟩ = pure (ps.zip us) := bind_plainG rfl rfl h1 h2 h3 h4 h5 nd us hl
/-! ### a lambda -/
theorem cells_un {cl : List (Str × Addr)} {fr : List Str} {ws : List (Option V)} {fs : List Addr} {H H1 : Hp} {h h1 : Heap} (C : CellsAt cl fr ws h H) (u : Un fs [] H H1 h h1) : CellsAt cl fr ws h1 H1 := by
  have kp : ∀ {c : Addr} {v : Option Value}, H c = none → h.IsCell c v → h1.IsCell c v := fun {c v} n ⟨o, ho, hd⟩ => by
    obtain ⟨sl, e⟩ := u.any ho n List.not_mem_nil
    exact ⟨_, e, hd⟩
  refine ⟨C.len, fun y c e => ?_, C.inj, fun i y e => ?_⟩
  · obtain ⟨n, v, z⟩ := C.all y c e
    obtain ⟨o, ho, _⟩ := id z
    exact ⟨u.free c o ho n List.not_mem_nil, v, kp n z⟩
  · obtain ⟨c, hc, hv⟩ := C.has i y e
    refine ⟨c, hc, fun v ev => ?_⟩
    obtain ⟨x, r, z⟩ := hv v ev
    exact ⟨x, r, kp (C.all y c hc).1 z⟩
section
variable {G : GE} {cc : CC} {d f n : Nat} {ir : E}
theorem lam_ok (F : GF G) (CL : ∀ par scope, CF G (cc.lamC par scope) d) (hT : G.T.fn f = some (n, n, .ret ir)) : LamAt G cc (d + 1) f n ir := by
  intro sc par body scope k hB hn hc q cl a ca pmv ctv outer s H wsV ho ha hna C
  refine ⟨⟨_, _, _, _, ho⟩, ha, hna, fun A outer1 s1 H1 us vs Q E hr e0 un hcq r sp => ?_⟩
  obtain ⟨μ, as, ws, S, W, va, vw, re, h, hE⟩ := sp
  unfold lamB at hB
  simp only [Bool.and_eq_true, List.isEmpty_iff, Option.isNone_iff_eq_none] at hB
  obtain ⟨b1, b2, b3, b4, b5, b6, b7, b8⟩ := hB
  have NS := nscope_by b7
  have of1 := un.keep a _ ho ha hna List.not_mem_nil
  have C1 := cells_un C un
  have clen := C.len
  rw [List.length_map] at clen
  have hrun : run G.T (d + 1) f (ws ++ as) S = if (ws ++ as).length = n then (match evS G.T (run G.T d) (.ret ir) (Ev.start n (ws ++ as)) S with
      | .nx _ S1 => .ok .non S1
      | .rt v S1 => .ok v S1
      | .exc c S1 => .exc c S1
      | _ => .bad) else .bad := by
    simp only [run, hT]
    try rfl
  rw [hrun] at h
  split at h
  · rename_i hlen
    have l1 : ws.length = (frOf scope).length := (pr_len vw).trans clen
    have l2 : vs.length = (lpsOf par).length := by
      have := pr_len va
      rw [List.length_append, hn, List.length_append] at hlen
      omega
    have lim : s1.heap.NoLimit := e0.mod.nolimit.keeps fun b o e => (e0.bs b o e).1
    refine PySem.W.kla_callFunE hr.depth of1 rfl NS.co NS.gen rfl (codeO_at e0.hok hcq) ?_
    have ndP : (lpsOf par).Nodup := (List.nodup_append.mp NS.nd).1
    rw [bind_plainG (fd := PySem.W.kla_fn "<lambda>" q par body scope cl pmv (.ref ca) ctv) rfl rfl b1 rfl b2 b3 b4 ndP us (by rw [← r.length]; exact l2)]
    refine wpAny_pure (wpAny_newFunctionEnv NS.nocell (fun y hy => NS.par y.1 (List.of_mem_zip hy).1) (fun h₁ hns hsb => ⟨lim.fresh _ hsb, ?_⟩) NS.kind)
    show codeAny _ _ (.expr body (envF ⟨"<lambda>", q, par, [], scope, cl, ca⟩ a s1.heap.objs.size)) _ _
    have kp : ∀ b o, s1.heap.get? b = some o → h₁.get? b = some o := fun b o e => hsb.extBut b o (Nat.ne_of_lt (Heap.lt_size e)) (Heap.get?_push_of_some _ e)
    have I : Inv (ncx (L2N.CX G.P G.w) G.P G.w G.K G.mg G.base (lpsOf par ++ frOf scope) ⟨"<lambda>", q, par, [], scope, cl, ca⟩ a A outer1 s1 H1 E) [] (startF (lpsOf par ++ frOf scope) vs (wsV.map some)) H1 { s1 with heap := h₁, toks := s1.toks + ((lpsOf par).zip us).length } := inv_startN NS hr.hd e0 l2 r C1 hns kp
    have I2 := inv_perm (N2 := frOf scope ++ lpsOf par) (σ2 := wsV.map some ++ vs.map some) I (by rw [List.length_append, List.length_append, List.length_map, List.length_map, clen, l2]) fun i x v e1 e2 => by
      show ∃ j : Nat, (lpsOf par ++ frOf scope)[j]? = some x ∧ (startF (lpsOf par ++ frOf scope) vs (wsV.map some))[j]? = some (some v)
      unfold startF
      by_cases hi : i < (frOf scope).length
      · rw [List.getElem?_append_left hi] at e1
        rw [List.getElem?_append_left (by rw [List.length_map, clen]; exact hi)] at e2
        refine ⟨(lpsOf par).length + i, ?_, ?_⟩
        · rw [List.getElem?_append_right (by omega), Nat.add_sub_cancel_left]
          exact e1
        · have ei : (lpsOf par).length + i - (vs.map some).length = i := by rw [List.length_map, l2]; omega
          rw [List.getElem?_append_right (by rw [List.length_map]; omega), ei, List.getElem?_append_left (by rw [List.length_map, clen]; exact hi)]
          exact e2
      · rw [List.getElem?_append_right (by omega)] at e1
        rw [List.getElem?_append_right (by rw [List.length_map, clen]; omega), List.length_map, clen] at e2
        have hj : i - (frOf scope).length < (lpsOf par).length := (List.getElem?_eq_some_iff.mp e1).1
        refine ⟨i - (frOf scope).length, ?_, ?_⟩
        · rw [List.getElem?_append_left hj]
          exact e1
        · rw [List.getElem?_append_left (by rw [List.length_map, l2]; exact hj)]
          exact e2
    have tk : L2N.Takes { ncx (L2N.CX G.P G.w) G.P G.w G.K G.mg G.base (lpsOf par ++ frOf scope) ⟨"<lambda>", q, par, [], scope, cl, ca⟩ a A outer1 s1 H1 E with N := frOf scope ++ lpsOf par } (fun cls d _ H => E cls d H) := L2N.takes_of rfl rfl rfl rfl
    have tkW : L2N.Takes { ncx (L2N.CX G.P G.w) G.P G.w G.K G.mg G.base (lpsOf par ++ frOf scope) ⟨"<lambda>", q, par, [], scope, cl, ca⟩ a A outer1 s1 H1 E with N := frOf scope ++ lpsOf par } (fun cls d _ H => EW G W cls d H) := tk.imp fun cls dd σ H' ⟨c, e1, e2, w⟩ => by
      subst e1 e2
      exact hE c H' w
    have CX' : Cnx G (cc.lamC par scope) d W scope (fun _ => false) { ncx (L2N.CX G.P G.w) G.P G.w G.K G.mg G.base (lpsOf par ++ frOf scope) ⟨"<lambda>", q, par, [], scope, cl, ca⟩ a A outer1 s1 H1 E with N := frOf scope ++ lpsOf par } := {
      prog := rfl, w := rfl, K := rfl, mg := rfl, base := rfl, calm := rfl
      un := by have := hr.un; show A.units + 3 + 66 < _; omega
      N := rfl
      nd := by
        have := NS.nd
        show (frOf scope ++ lpsOf par).Nodup
        exact (List.perm_append_comm.nodup_iff).mp this
      scE := rfl, kind := NS.kind
      room := hr.deeper (k := lvl d + 1) _
      pas := L2N.passes_call tkW fun cls dd σ H' h => h
      own := passes_of rfl
      fnb := rfl
      mkc := fun h => by cases h }
    have pe := ((cE_ok F (CL par scope) k) _ _ _ W _ _ hc CX').1
    have ee : Ev.start n (ws ++ as) = ws.map some ++ as.map some := by
      unfold Ev.start
      rw [hlen, Nat.sub_self, List.replicate_zero, List.append_nil, List.map_append]
    rw [ee] at h
    have so : ∀ {xs : List Va} {ys : List V}, VRs G μ xs ys → Env G μ (xs.map some) (ys.map some) := fun h => by
      induction h with
      | nil => exact .nil
      | cons r t ih => exact .cons (SR.of r) ih
    have en : Env G μ (ws.map some ++ as.map some) (wsV.map some ++ vs.map some) := pr_app (so vw) (so va)
    refine PySem.W.kla_codeExpr (wpAny_mono (pe.run [] _ _ H1 Q I2 ⟨μ, _, S, en, re, ?_⟩) (fun v s' hq => ?_) fun e s' hq => hq)
    · simp only [evS] at h
      cases er : evE G.T (run G.T d) ir (ws.map some ++ as.map some) S with
      | ok v S1 => rw [er] at h; exact h
      | exc c S1 => rw [er] at h; exact h
      | bad => rw [er] at h; exact h.elim
    · obtain ⟨x, H', J, rv, qq⟩ := hq
      exact ⟨x, H', J.os, J.bare, J.base, J.hok, rv, qq⟩
  · exact h.elim
end
end Ev
end

section
set_option Elab.async false
set_option linter.all false
set_option maxRecDepth 100000
set_option maxHeartbeats 1000000
/-! EvF: a def by its IR. -/
namespace Ev
open PySem PySem.Spec PyProof.Rows L2 LamX NdefX
/-- static facts of the names -/
structure CF0 (G : GE) (cc : CC) : Prop where
  fn : ∀ x f, cc.gl x = some (.fn f) → G.mg x = some (.ref (G.fA f)) ∧ f < G.T.nd
  cls : ∀ x c o, cc.gl x = some (.cls c o) → G.mg x = some (.ref (G.cA c)) ∧ (if o then ∃ f, G.T.ini c = some (some f) ∧ f < G.T.nd else G.T.ini c = some none) ∧ ∃ d b, G.T.sub d c = some b
  exc : ∀ x c, cc.gl x = some (.exc c) → G.mg x = some (.ref (G.cA c)) ∧ PySem.W.excIn G.K (G.cA c) HandSPX.veTail "ValueError.__new__" = true ∧ PySem.W.keepIn G.K (.ref (G.cA c)) = true ∧ PySem.W.subIn G.K (.ref (G.cA c)) (.type "BaseException") = some true ∧ PySem.W.typeIn G.K (.ref (G.cA c)) = some (.type "type")
  int : ∀ x i, cc.gl x = some (.int i) → ∃ t, G.mg x = some (.int i t)
  sts : ∀ x xs, cc.gl x = some (.strs xs) → ∃ a, G.mg x = some (.ref a) ∧ ∀ H, SqT G.K H a (xs.map V.str)
  fr : ∀ x, cc.fr.contains x = true → G.mg x = none
  nmo : ∀ m i, cc.nmo m = some i → G.nm i = m
  mth : ∀ c m f, G.T.mth c m = some f → f < G.T.nd
  gxs : ∀ x c w, cc.gl x = some (.exc c) → cc.wh w = true → G.T.xs c c = true
section
variable {G : GE} {cc : CC} {d f np n : Nat} {b : Sm} {name qual : Str} {params : Arguments} {body : List Stmt} {scope : Scope} {kws : List (Str × V)} {fd : FuncData} {ps : List Str}
theorem CF0.mk' (S : CF0 G cc) (h : ∀ f, f < G.T.nd → FnAt G d f) (h1 : cc.mks = true → ∀ g, cc.tk g = true → FnC G d g) (h2 : cc.mks = true → ∀ e, e + 1 = d → ∀ f n ir, cc.lir f = some (n, ir) → LamAt G cc e f n ir) : CF G cc d where
  all := h
  tkc := h1
  lam := h2
  fn := fun x f e => ⟨(S.fn x f e).1, h f (S.fn x f e).2⟩
  cls := fun x c o e => by
    obtain ⟨h1, h2, h3⟩ := S.cls x c o e
    refine ⟨h1, ?_, h3⟩
    cases o with
    | false => exact h2
    | true =>
      obtain ⟨f, e1, e2⟩ := h2
      exact ⟨f, e1, h f e2⟩
  exc := S.exc
  int := S.int
  sts := S.sts
  fr := S.fr
  nmo := S.nmo
  mth := fun c m f e => h f (S.mth c m f e)
theorem CF0.at0 (S : CF0 G cc) (hm : cc.mks = false) (h : ∀ f, f < G.T.nd → FnAt G d f) : CF G cc d := S.mk' h (fun z => by rw [hm] at z; cases z) fun z => by rw [hm] at z; cases z
theorem CF0.lamC (S : CF0 G cc) (par : Arguments) (sc : Scope) : CF0 G (cc.lamC par sc) := ⟨S.fn, S.cls, S.exc, S.int, S.sts, S.fr, S.nmo, S.mth, S.gxs⟩
theorem CF0.wl (S : CF0 G cc) {a : Addr} {ws : List V} {cq : Addr × Str} : CF0 (G.wl f a ws cq) cc := ⟨S.fn, S.cls, S.exc, S.int, S.sts, S.fr, S.nmo, S.mth, S.gxs⟩
theorem start_okG {μ : List Addr} {N : List Str} {n : Nat} {as : List Va} {vs : List V} (h : Env G μ (as.map some) (vs.map some)) (hn : N.length = n) : Env G μ (Ev.start n as) (L2.start N vs) := by
  have e := pr_len h
  rw [List.length_map, List.length_map] at e
  unfold Ev.start L2.start
  rw [hn, e]
  refine pr_app h ?_
  generalize n - vs.length = k
  induction k with
  | zero => exact .nil
  | succ k ih => exact .cons rfl ih
theorem vrs_env {μ : List Addr} {as : List Va} {vs : List V} (h : VRs G μ as vs) : Env G μ (as.map some) (vs.map some) := by
  induction h with
  | nil => exact .nil
  | cons r t ih => exact .cons (SR.of r) ih
theorem start_ok {μ : List Addr} {N : List Str} {n : Nat} {as : List Va} {vs : List V} (h : VRs G μ as vs) (hn : N.length = n) : Env G μ (Ev.start n as) (L2.start N vs) := start_okG (vrs_env h) hn
/-- a def that makes lambdas: its code object, the table in it -/
def MkD (G : GE) (qual : Str) (code : Value) : Prop := ∃ cA tA, TabB G.base G.mg cA tA ∧ code = .ref cA ∧ (tA, (qual ++ ".<locals>.") ++ "<lambda>") ∈ G.tabs ∧ ∀ p ∈ G.tabs, p.1 = tA → p.2 = (qual ++ ".<locals>.") ++ "<lambda>"
theorem run_eq (hT : G.T.fn f = some (np, n, b)) (as : List Va) (S0 : Sto) : run G.T (d + 1) f as S0 = if as.length = np then (match evS G.T (run G.T d) b (Ev.start n as) S0 with
      | .nx _ S1 => .ok .non S1
      | .rt v S1 => .ok v S1
      | .exc c S1 => .exc c S1
      | _ => .bad) else .bad := by
  simp only [run, hT]
  try rfl
/-- a body that is not compiled -/
def badS : Sm := .ret .nil
theorem bad_run {cl : Nat → List Va → Sto → Res Va} {r : Rho} {S : Sto} : evS G.T cl badS r S = .bad := by
  simp [badS, evS, evE, thenS]
theorem fn_stepOk (F : GF G) (CFa : CF G cc d) (xf : XF G) (h0 : ∀ f, G.hd f = none) (gxs : ∀ x c w, cc.gl x = some (.exc c) → cc.wh w = true → G.T.xs c c = true) (whs : ∀ w, cc.wh w = true → WhAt G w) (hmk : cc.mks = true → MkD G qual fd.code)
    (hT : G.T.fn f = some (np, n, b)) (FD : FunD G.K name qual params body scope [] kws (G.fA f) fd) (S : FnScope cc.N ps scope) (hps : ps.length = np) (hn : cc.N.length = n)
    (hc : cBody cc scope body = some b ∨ b = badS) : FnOk G.P G.w G.K G.mg G.base (L2N.CX G.P G.w) (lvl (d + 1)) (G.fA f) fd ps (spF G (d + 1) f) := by
  obtain ⟨oc, od, dV, kV, doc, pm, an, cdv, ct, osl, rfl, lk, hcd, _, _⟩ := FD.ex
  refine fn_of (k := lvl d + 1) lk hcd S (fun vs H Q E ⟨μ, as, S0, W, va, re, h, _⟩ => ?_) (fun A outer s H vs Q E hr ⟨μ, as, S0, W, va, re, h, hE⟩ => ?_)
  · rw [run_eq hT] at h
    split at h
    · rename_i e
      rw [← pr_len va, e, hps]
    · exact h.elim
  · rw [run_eq hT] at h
    split at h
    · rename_i e
      rcases hc with hc | hc
      · have tk : L2N.Takes (cxOf (L2N.CX G.P G.w) G.P G.w G.K G.mg G.base cc.N qual scope (G.fA f) cdv A outer s H E) (fun cls d _ H => E cls d H) := L2N.takes_of rfl rfl rfl rfl
        have tkW : L2N.Takes (cxOf (L2N.CX G.P G.w) G.P G.w G.K G.mg G.base cc.N qual scope (G.fA f) cdv A outer s H E) (fun cls d _ H => EW G W cls d H) := tk.imp fun cls dd σ H' ⟨c, e1, e2, w⟩ => by
          subst e1 e2
          exact hE c H' w
        have C : CnS G cc d W scope (cxOf (L2N.CX G.P G.w) G.P G.w G.K G.mg G.base cc.N qual scope (G.fA f) cdv A outer s H E) := {
          prog := rfl, w := rfl, K := rfl, mg := rfl, base := rfl, calm := rfl,
          un := by have := hr.un; show (A.deeper _).units + 66 < _; omega
          N := rfl, nd := S.nd, scE := rfl, kind := S.kind, room := hr,
          pas := L2N.passes_call tkW fun cls dd σ H' h => h
          own := passes_of rfl
          fnb := rfl
          mkc := fun z => hmk z
          tk := tkW
          stk := rfl, frm := rfl, exn := rfl
          hdc := fun f fa ws z => by rw [h0 f] at z; cases z
          xf := xf, gxs := gxs, whs := whs }
        refine ⟨_, cSs_ok (fun s sm => cS_ok F CFa C 40 s sm) hc, ⟨μ, Ev.start n as, S0, start_ok va hn, re, ?_⟩⟩
        generalize evS G.T (run G.T d) b (Ev.start n as) S0 = fl at h
        cases fl with
        | nx r S1 => exact fun μ' H' σ' st re' en => h μ' H' st re' _ rfl
        | rt v S1 => exact fun μ' H' x st re' vx => h μ' H' st re' x vx
        | exc c S1 => exact fun μ' H' st re' => h μ' H' st re'
        | bk r S1 => exact h.elim
        | ct r S1 => exact h.elim
        | bad => exact h.elim
      · rw [hc, bad_run] at h
        exact h.elim
    · exact h.elim
/-- what stands fixed of a def -/
structure DefD (G : GE) (cc : CC) (f np n : Nat) (b : Sm) (name qual : Str) (params : Arguments) (body : List Stmt) (scope : Scope) (kws : List (Str × V)) (fd : FuncData) (ps : List Str) : Prop where
  cf : CF0 G cc
  fn : G.T.fn f = some (np, n, b)
  fu : FunD G.K name qual params body scope [] kws (G.fA f) fd
  sc : FnScope cc.N ps scope
  lp : ps.length = np
  nn : cc.N.length = n
  bs : Binds G.K fd ps []
  wh : ∀ w, cc.wh w = true → WhAt G w
def DefL (G : GE) (f : Nat) : Prop := ∃ (cc : CC) (np n : Nat) (b : Sm) (name qual : Str) (params : Arguments) (body : List Stmt) (scope : Scope) (kws : List (Str × V)) (fd : FuncData) (ps : List Str), DefD G cc f np n b name qual params body scope kws fd ps ∧ cc.mks = false ∧ cBody cc scope body = some b
/-- what a def's number promises -/
structure DefOk (G : GE) (f : Nat) : Prop where
  ok : ∃ (cc : CC) (np n : Nat) (b : Sm) (name qual : Str) (params : Arguments) (body : List Stmt) (scope : Scope) (kws : List (Str × V)) (fd : FuncData) (ps : List Str), DefD G cc f np n b name qual params body scope kws fd ps ∧ (cBody cc scope body = some b ∨ b = badS) ∧
    (cc.mks = true → MkD G qual fd.code) ∧ (cc.mks = true → ∀ f n ir, cc.lir f = some (n, ir) → G.T.fn f = some (n, n, .ret ir)) ∧ (cc.mks = true → ∀ g, cc.tk g = true → DefL G g)
theorem CloC_wl {a : Addr} {ws : List V} {outer : List PySem.Env} {s : Shared} {H : Hp} {cq : Addr × Str} (hq : G.cods = []) (C : CloC G d f a ws outer s H cq) : CloC (G.wl f a ws cq) d f a ws outer s H cq := by
  obtain ⟨c1, c2, c3, c4⟩ := C
  refine ⟨c1, c2, c3, fun A outer1 s1 H1 us vs Q E hr e0 un hc r sp => c4 A outer1 s1 H1 us vs Q E hr e0 un hc r ?_⟩
  obtain ⟨μ, as, ws', S, W, va, vw, re, h, hE⟩ := sp
  rw [VRs_wl] at va vw
  refine ⟨μ, as, ws', S, W, va, vw, re.down hq, (Wr_down re h).imp fun v μ' H' k x vx => k x (by rw [VR_wl]; exact vx), hE⟩
theorem fnC_step {g : Nat} (F : GF G) (xf : XF G) (hq : G.cods = []) (D : DefL G g) (Al : ∀ f, f < G.T.nd → FnAt G d f) : FnC G (d + 1) g := by
  obtain ⟨cc, np, n, b, name, qual, params, body, scope, kws, fd, ps, D, hm, hc⟩ := D
  intro A outer s H us vs f a wsV cq Q E hr e0 r clo sp
  obtain ⟨q1, μ, as, ws, S, W, q2, va, vw, re, h, hE⟩ := sp
  obtain ⟨oc, od, dV, kV, doc, pm, an, cdv, ct, osl, rfl, lk, hcd, _, _⟩ := D.fu.ex
  rw [run_eq D.fn] at h
  split at h
  · rename_i e
    have hl : (V.ref a :: vs).length = ps.length := by
      have e2 := pr_len va
      rw [List.length_cons] at e ⊢
      rw [D.lp]
      omega
    have inK : G.K.In s.heap := e0.mod.kin.keeps fun b o e => (e0.bs b o e).1
    have hbt := D.bs s (.ref a :: us) inK (by
      rw [List.append_nil, ← hl, List.length_cons, List.length_cons, r.length])
    rw [List.append_nil] at hbt
    refine run_ofS (k := lvl d + 1) lk hcd D.sc (us := .ref a :: us) (vs := .ref a :: vs) hr e0 hbt (.cons rfl r) hl fun hr2 => ?_
    have tk : L2N.Takes (cxOf (L2N.CX G.P G.w) G.P G.w G.K G.mg G.base cc.N qual scope (G.fA g) cdv A outer s H E) (fun cls d _ H => E cls d H) := L2N.takes_of rfl rfl rfl rfl
    have tkW : L2N.Takes (cxOf (L2N.CX G.P G.w) G.P G.w G.K G.mg G.base cc.N qual scope (G.fA g) cdv A outer s H E) (fun cls d _ H => EW (G.wl f a wsV cq) W cls d H) := tk.imp fun cls dd σ H' ⟨c, e1, e2, w⟩ => by
      subst e1 e2
      exact hE c H' w
    have C : CnS (G.wl f a wsV cq) cc d W scope (cxOf (L2N.CX G.P G.w) G.P G.w G.K G.mg G.base cc.N qual scope (G.fA g) cdv A outer s H E) := {
      prog := rfl, w := rfl, K := rfl, mg := rfl, base := rfl, calm := rfl,
      un := by have := hr2.un; show (A.deeper _).units + 66 < _; omega
      N := rfl, nd := D.sc.nd, scE := rfl, kind := D.sc.kind, room := hr2,
      pas := L2N.passes_call tkW fun cls dd σ H' h => h
      own := passes_of rfl
      fnb := rfl
      mkc := fun z => by rw [hm] at z; cases z
      tk := tkW
      stk := rfl, frm := rfl, exn := rfl
      hdc := fun f' fa ws' z => by
        have z : (if f' = f then some (a, wsV) else none) = some (fa, ws') := z
        split at z
        · rename_i ef
          cases z
          rw [ef]
          exact ⟨cq, List.mem_singleton.mpr rfl, CloC_wl hq clo⟩
        · cases z
      xf := ⟨xf.exc, xf.sub⟩, gxs := D.cf.gxs, whs := fun w hw => D.wh w hw }
    have re' : Rel (G.wl f a wsV cq) μ S H := re.up q1 q2
    have CFw : CF (G.wl f a wsV cq) cc d := CF0.at0 D.cf.wl hm fun f' hf => FnAt_wl hq (Al f' hf)
    have en : Env (G.wl f a wsV cq) μ (Ev.start n (.clo f ws :: as)) (L2.start cc.N (.ref a :: vs)) := start_okG (.cons ⟨a, wsV, rfl, if_pos rfl, by rw [VRs_wl]; exact vw⟩ (vrs_env (by rw [VRs_wl]; exact va))) D.nn
    refine ⟨_, cSs_ok (fun s sm => cS_ok (GF_wl F) CFw C 40 s sm) hc, ⟨μ, _, S, en, re', ?_⟩⟩
    have dn : ∀ {μ' : List Addr} {S' : Sto} {H' : Hp}, Rel (G.wl f a wsV cq) μ' S' H' → Rel G μ' S' H' := fun x => x.down hq
    show Wf (G.wl f a wsV cq) μ H (evS G.T (run G.T d) b (Ev.start n (.clo f ws :: as)) S) W _
    generalize evS G.T (run G.T d) b (Ev.start n (.clo f ws :: as)) S = fl at h
    cases fl with
    | nx r S1 => exact fun μ' H' σ' st re' en => h μ' H' st (dn re') _ rfl
    | rt v S1 => exact fun μ' H' x st re' vx => h μ' H' st (dn re') x (by rw [VR_wl] at vx; exact vx)
    | exc c S1 => exact fun μ' H' st re' => h μ' H' st (dn re')
    | bk r S1 => exact h.elim
    | ct r S1 => exact h.elim
    | bad => exact h.elim
  · exact h.elim
theorem lam_ok0 {ir : E} : LamAt G cc 0 f n ir := by
  intro sc par body scope k hB hn hc q cl a ca pmv ctv outer s H wsV ho ha hna C
  refine ⟨⟨_, _, _, _, ho⟩, ha, hna, fun A outer1 s1 H1 us vs Q E hr e0 un hcq r sp => ?_⟩
  obtain ⟨μ, as, ws, S, W, va, vw, re, h, hE⟩ := sp
  exact (show False from h).elim
/-- everything that stands fixed of the defs -/
structure Fix (G : GE) : Prop where
  gf : GF G
  xf : XF G
  h0 : ∀ f, G.hd f = none
  hq : G.cods = []
  ok : ∀ f, f < G.T.nd → DefOk G f
theorem cf_at (X : Fix G) {cc : CC} (S : CF0 G cc) (h1 : cc.mks = true → ∀ f n ir, cc.lir f = some (n, ir) → G.T.fn f = some (n, n, .ret ir)) (h2 : cc.mks = true → ∀ g, cc.tk g = true → DefL G g) : ∀ d, (∀ e, e ≤ d → ∀ f, f < G.T.nd → FnAt G e f) → CF G cc d := fun d A => by
  refine S.mk' (A d (Nat.le_refl _)) (fun hm g hg => ?_) fun hm e he f n ir hl => ?_
  · cases d with
    | zero => trivial
    | succ d => exact fnC_step X.gf X.xf X.hq (h2 hm g hg) (A d (by omega))
  · cases e with
    | zero => exact lam_ok0
    | succ e => exact lam_ok X.gf (fun par sc => (S.lamC par sc).at0 rfl (A e (by omega))) (h1 hm f n ir hl)
theorem fn_at (X : Fix G) : ∀ d, (∀ e, e ≤ d → ∀ f, f < G.T.nd → FnAt G e f) := by
  intro d
  induction d with
  | zero =>
    intro e he f hf
    obtain rfl : e = 0 := by omega
    obtain ⟨cc, np, n, b, name, qual, params, body, scope, kws, fd, ps, D, _⟩ := (X.ok f hf).ok
    exact ⟨fd, ps, ⟨fun vs H Q E ⟨μ, as, S0, W, va, re, h, _⟩ => h.elim, fun A outer s H args us vs Q E _ _ _ _ ⟨μ, as, S0, W, va, re, h, _⟩ => h.elim⟩, D.bs, D.fu.kp⟩
  | succ d ih =>
    intro e he f hf
    by_cases hd : e ≤ d
    · exact ih e hd f hf
    · obtain rfl : e = d + 1 := by omega
      obtain ⟨cc, np, n, b, name, qual, params, body, scope, kws, fd, ps, D, hb, hmk, h1, h2⟩ := (X.ok f hf).ok
      exact ⟨fd, ps, fn_stepOk X.gf (cf_at X D.cf h1 h2 d ih) X.xf X.h0 D.cf.gxs D.wh hmk D.fn D.fu D.sc D.lp D.nn hb, D.bs, D.fu.kp⟩
end
end Ev
end

section
set_option Elab.async false
set_option linter.all false
set_option maxRecDepth 100000
set_option maxHeartbeats 1000000
/-! EvL: a law's table; what the head says of it; the law's end. -/
namespace Ev
open PySem PySem.Spec PyProof.Rows L2 LamX NdefX
/-! ### the table -/
/-- a class: its name; an exception; its __init__; methods (name, def); fields; what it is a class of -/
structure Tab where
  fns : List He.DefD
  Ns : List (List Str)
  irs : List (Nat × Nat × Sm)
  cls : List Kls
  nms : List Str
  gis : List (Str × Int)
  gss : List (Str × List Str)
  fr : List Str
  /-- lambdas, behind the defs; their places; what tells an exception's class; the defs that take a lambda; those that make some -/
  lms : List (Nat × Nat × Sm) := []
  lps : List ((Nat × Nat) × Nat) := []
  whs : List (Nat × List Nat) := []
  tk : List Nat := []
  mks : List Nat := []
def atG (x : Str) (d : He.DefD) : Bool := match d.at_.2 with
  | none => d.at_.1 == x
  | some _ => false
def Tab.gl (t : Tab) (x : Str) : Option Gb := match t.fns.findIdx? (atG x) with
  | some i => some (.fn i)
  | none => match t.cls.findIdx? (fun k => k.name == x) with
    | some i => (match t.cls[i]? with
      | some k => if k.exc then some (.exc i) else some (.cls i k.ini.isSome)
      | none => none)
    | none => match t.gis.lookup x with
      | some i => some (.int i)
      | none => (t.gss.lookup x).map .strs
def Tab.tx (t : Tab) : Tx := txOf t.irs t.cls t.whs t.lms
def padS (i : Nat) : Str := ⟨Array.replicate (i + 1000) 0⟩
def Tab.nm (t : Tab) (i : Nat) : Str := match t.nms[i]? with
  | some x => x
  | none => padS i
def Tab.cc (t : Tab) (f : Nat) : CC where
  N := t.Ns.getD f []
  gl := t.gl
  fr := t.fr
  nmo := fun m => t.nms.findIdx? (· == m)
  lam := fun l c => t.lps.lookup (l, c)
  lir := fun f => if f < t.irs.length then none else match t.lms[f - t.irs.length]? with
    | some (np, n, .ret e) => if np = n then some (n, e) else none
    | _ => none
  tk := fun g => t.tk.contains g
  mks := t.mks.contains f
  wh := fun w => (t.whs.lookup w).isSome
/-- the defs whose tables are written -/
def Tab.tf (t : Tab) : List He.Defn := t.mks.filterMap fun f => (t.fns[f]?).map (·.at_)
/-- their tables, with the lambdas' qualified names -/
def Tab.tabs (t : Tab) (K : PySem.W.Frag) : List (Addr × Str) := t.mks.filterMap fun f => (t.fns[f]?).map fun d => ((He.cT K d.at_).2, (d.qual ++ ".<locals>.") ++ "<lambda>")
/-! ### what the written part must hold -/
section
variable (K : PySem.W.Frag)
def mk0B (C : Addr) : Bool := PySem.W.makesIn K C && (He.eqO (PySem.W.findIn K (.ref C) "__init__") (some (some (.builtin "object.__init__"))) && (PySem.W.keepIn K (.ref C) && decide (PySem.W.mroIn K C (.type "object") = some true)))
def insB (x : Str) : Bool := (He.Fa.cls x).ok K && (He.eqO (PySem.W.findIn K (.ref (He.ga K x)) "__class__") (some (some (.builtin "object.__class__"))) && (He.eqO (PySem.W.specialIn K (.builtin "object.__class__") "__get__") (some (some (.builtin "getset_descriptor.__get__"))) &&
  (decide (PySem.W.takesIn K (.builtin "object.__class__") = some true) && decide (PySem.W.mroIn K (He.ga K x) (.type "object") = some true))))
def tys : List String := ["NoneType", "bool", "int", "str", "list", "tuple", "dict"]
def atB (t : Tab) (f : Nat) (a : Addr) : Bool := match t.fns[f]? with
  | some d => decide (He.fAd K d.at_ = a)
  | none => false
def subB (t : Tab) (k : Kls) : Bool := (List.range t.cls.length).all fun j => match t.cls[j]? with
  | some k2 => decide (PySem.W.kitOne K (.ref (He.ga K k.name)) (.ref (He.ga K k2.name)) = some (k.anc.contains j))
  | none => true
def mthB (t : Tab) (k : Kls) (p : Nat × Nat) : Bool := match t.nms[p.1]? with
  | some m => (He.Fa.meth k.name m).ok K && atB K t p.2 (He.ma K (He.ga K k.name) m)
  | none => false
def flsB (t : Tab) (k : Kls) (f : Nat) : Bool := match t.nms[f]? with
  | some m => (He.Fa.noat k.name m).ok K
  | none => false
def iniB (t : Tab) (k : Kls) : Bool := match k.ini with
  | none => mk0B K (He.ga K k.name)
  | some f => (He.Fa.mkr k.name).ok K && atB K t f (He.ma K (He.ga K k.name) "__init__")
def insKB (t : Tab) (k : Kls) : Bool := insB K k.name && (iniB K t k && (k.mth.all (mthB K t k) && (k.fls.all (flsB K t k) && (subB K t k && tys.all fun ty => decide (PySem.W.kitOne K (.ref (He.ga K k.name)) (.type ty) = some false)))))
/-- an exception's class that is asked about -/
def excB (D : Addr) : Bool := He.eqO (PySem.W.findIn K (.ref D) "__getattribute__") (some (some (.builtin "BaseException.__getattribute__"))) && (He.eqO (PySem.W.findIn K (.ref D) "__getattr__") (some none) && (decide (PySem.W.subIn K (.ref D) (.type "BaseException") = some true) && (PySem.W.hasDictIn K D &&
  (He.eqO (PySem.W.findIn K (.ref D) "__class__") (some (some (.builtin "object.__class__"))) && (He.eqO (PySem.W.specialIn K (.builtin "object.__class__") "__get__") (some (some (.builtin "getset_descriptor.__get__"))) && (decide (PySem.W.takesIn K (.builtin "object.__class__") = some true) && decide (PySem.W.mroIn K D (.type "object") = some true)))))))
def excKB (t : Tab) (k : Kls) : Bool := excB K (He.ga K k.name) && (decide (PySem.W.kitOne K (.ref (He.ga K k.name)) (.type "ValueError") = some true) && (List.range t.cls.length).all fun j => match t.cls[j]? with
  | some k2 => !k2.exc || (decide (PySem.W.kitOne K (.ref (He.ga K k.name)) (.ref (He.ga K k2.name)) = some (k.anc.contains j)) && decide (PySem.W.exmOne K (.ref (He.ga K k.name)) (.ref (He.ga K k2.name)) = some (k.anc.contains j)))
  | none => true)
def klsB (t : Tab) (k : Kls) : Bool := (He.Fa.glo k.name).ok K && ((if k.exc then (He.Fa.exc k.name).ok K && (t.whs.isEmpty || excKB K t k) else insKB K t k) && tys.all fun ty => decide (PySem.W.kitOne K (.type ty) (.ref (He.ga K k.name)) = some false))
def gloB (d : He.DefD) : Bool := match d.at_.2 with
  | none => (He.Fa.glo d.at_.1).ok K
  | some _ => true
def strB (p : Str × List Str) : Bool := (He.Fa.glo p.1).ok K && He.tupB K p.1 (p.2.map He.Dv.str)
def Tab.chk (t : Tab) : Bool := t.fns.all (gloB K) && (t.cls.all (klsB K t) && (t.gis.all (fun p => (He.Fa.int p.1 p.2).ok K) && (t.gss.all (strB K) && (t.fr.all (fun x => (He.Fa.free x).ok K) && decide (((t.tabs K).map (·.1)).Nodup)))))
end
def obsT (t : Tab) (K : PySem.W.Frag) : He.AlD := (t.chk K && t.fns.all fun d => d.ok K, t.fns.map fun d => He.fnW K d.at_)
def SaysT (t : Tab) (K : PySem.W.Frag) : Prop := obsT t K = He.valD t.fns
/-- .. and of the tables: they are empty, not in K -/
structure SaysX (t : Tab) (h : Heap) (K : PySem.W.Frag) : Prop where
  sy : SaysT t K
  hd : ∀ p ∈ t.tf, PySem.W.codeHdIn K (He.cT K p).1 (He.cT K p).2 = true
  out : ∀ p ∈ t.tf, K.lookup (He.cT K p).2 = none
  empty : ∀ p ∈ t.tf, h.get? (He.cT K p).2 = some { cls := .none, data := .fields #[] }
def obsTG (n : Nat) (t : Tab) (g : Addr → Option Obj) : He.AlD × Bool := (obsT t (He.frT g (He.asD g n)), He.tabsB g t.tf (He.frT g (He.asD g n)))
theorem saysX_of {n : Nat} {t : Tab} {h : Heap} (e : obsTG n t h.get? = (He.valD t.fns, true)) : SaysX t h (He.frT h.get? (He.asD h.get? n)) := by
  have e1 : obsT t (He.frT h.get? (He.asD h.get? n)) = He.valD t.fns := congrArg (fun z : He.AlD × Bool => z.1) e
  have e2 : He.tabsB h.get? t.tf (He.frT h.get? (He.asD h.get? n)) = true := congrArg (fun z : He.AlD × Bool => z.2) e
  generalize hK : He.frT h.get? (He.asD h.get? n) = K at e1 e2
  have one : ∀ p ∈ t.tf, PySem.W.codeHdIn K (He.cT K p).1 (He.cT K p).2 = true ∧ ∃ o, h.get? (He.cT K p).2 = some o ∧ He.emptyTab o = true := fun p hp => by
    obtain ⟨h3, h4⟩ := He.ba (List.all_eq_true.mp e2 p hp)
    refine ⟨h3, ?_⟩
    split at h4
    · rename_i o q
      exact ⟨o, q, h4⟩
    · cases h4
  refine ⟨e1, fun p hp => (one p hp).1, fun p hp => ?_, fun p hp => ?_⟩
  · obtain ⟨_, o, q, z⟩ := one p hp
    rw [← hK] at q ⊢
    exact He.frT_none q z
  · obtain ⟨_, o, q, z⟩ := one p hp
    rw [q, He.emptyTab_eq z]
def hookT (n : Nat) (t : Tab) : PySem.W.Hook where
  α := He.AlD × Bool
  obs := fun s => obsTG n t s.heap.get?
  val := fun _ => (He.valD t.fns, true)
  says := fun _ h => ∃ K : PySem.W.Frag, K.In h ∧ SaysX t h K
  of := fun _ _ e => ⟨_, He.frT_in, saysX_of e⟩
  keeps := fun _ _ _ ⟨K, hK, c⟩ k => ⟨K, PySem.W.Frag.In.keeps hK k, ⟨c.sy, c.hd, c.out, fun p hp => k _ _ (c.empty p hp)⟩⟩
theorem obsTG_eq {n : Nat} {t : Tab} {g : Addr → Option Obj} {s : Shared} (h : ∀ a, g a = s.heap.get? a) : obsTG n t g = (hookT n t).obs s := by
  have e : g = s.heap.get? := funext h
  rw [e] <;> rfl
/-! ### what the table must hold by itself -/
def scB (N ps : List Str) (sc : Scope) : Bool := (match sc.kind with | .function => true | _ => false) && (!sc.isCoroutine && (!sc.isGenerator && (decide N.Nodup && (decide (N.take ps.length = ps) && (ps.all (fun x => match sc.names.lookup x with | some .local => true | some .cell => true | _ => false) && sc.names.all fun y => match y.2 with | .free => false | _ => true)))))
theorem scB_ok {N ps : List Str} {sc : Scope} (h : scB N ps sc = true) : FnScope N ps sc := by
  unfold scB at h
  simp only [Bool.and_eq_true, decide_eq_true_eq, List.all_eq_true, Bool.not_eq_true'] at h
  obtain ⟨h1, h2, h3, h4, h5, h6, h7⟩ := h
  refine ⟨?_, h2, h3, h4, h5, fun x hx => ?_, fun y hy e => ?_⟩
  · split at h1
    · assumption
    · cases h1
  · have := h6 x hx
    split at this
    · exact .inl (by assumption)
    · exact .inr (by assumption)
    · cases this
  · have := h7 y hy
    rw [e] at this
    cases this
def parB (p : Arguments) (ps : List Str) : Bool := p.posonlyargs.isEmpty && (decide (p.args.map (·.arg) = ps) && (p.vararg.isNone && (p.kwonlyargs.isEmpty && (p.kwarg.isNone && decide ps.Nodup))))
def psOf (d : He.DefD) : List Str := d.params.args.map (·.arg)
def defB (t : Tab) (f : Nat) : Bool := match t.fns[f]?, t.irs[f]? with
  | some d, some (np, n, _) => d.dfl.isEmpty && (d.kwd.isEmpty && (parB d.params (psOf d) && (scB (t.cc f).N (psOf d) d.scope && (decide ((psOf d).length = np) && decide ((t.cc f).N.length = n)))))
  | _, _ => false
def refB (t : Tab) (k : Kls) : Bool := (match k.ini with | some f => decide (f < t.irs.length) | none => true) && k.mth.all fun p => decide (p.2 < t.irs.length)
/-- a def that tells of an exception's class -/
def whB (t : Tab) (p : Nat × List Nat) : Bool := match t.fns[p.1]? with
  | some d => (match psOf d with
    | [ev] => decide (p.1 < t.irs.length) && (decide (d.scope.names.lookup ev = some .local) && (!dbg ev && (!(ev == ("__classdict__" : Str)) && (locB (t.cc p.1).N d.scope && decide (whOf (t.cc p.1) d.scope ev d.body = some p.2)))))
    | _ => false)
  | none => false
def tkB (t : Tab) (g : Nat) : Bool := decide (g < t.irs.length) && (!t.mks.contains g && !(t.whs.lookup g).isSome)
def ancB (t : Tab) (i : Nat) : Bool := match t.cls[i]? with
  | some k => !k.exc || (t.whs.isEmpty || k.anc.contains i)
  | none => true
def Tab.stat0 (t : Tab) : Bool := decide (t.fns.length = t.irs.length) && (decide t.nms.Nodup && (t.nms.all (fun x => decide (x.cps.size < 1000)) && ((List.range t.irs.length).all (defB t) && t.cls.all (refB t))))
def Tab.stat (t : Tab) : Bool := t.stat0 && (t.whs.all (whB t) && (t.tk.all (tkB t) && (List.range t.cls.length).all (ancB t)))
end Ev
end

section
set_option Elab.async false
set_option linter.all false
set_option maxRecDepth 100000
set_option maxHeartbeats 1000000
/-! EvM: from the table and the head to every def's promise. -/
namespace Ev
open PySem PySem.Spec PyProof.Rows L2 LamX NdefX
theorem mem_look {α β : Type} [BEq α] [LawfulBEq α] {a : α} {b : β} : ∀ {l : List (α × β)}, l.lookup a = some b → (a, b) ∈ l
  | [], h => by cases h
  | (x, y) :: l, h => by
    rw [List.lookup_cons] at h
    split at h
    · rename_i e
      cases h
      rw [eq_of_beq e]
      exact List.mem_cons_self ..
    · exact List.mem_cons_of_mem _ (mem_look h)
section
variable {t : Tab}
theorem pad_inj {i j : Nat} (h : padS i = padS j) : i = j := by
  have := congrArg (fun x : Str => x.cps.size) h
  simp [padS] at this
  exact this
theorem stat_0 (h : t.stat = true) : t.stat0 = true := (He.ba h).1
theorem stat_wh (h : t.stat = true) {w : Nat} {ks : List Nat} (e : t.whs.lookup w = some ks) : whB t (w, ks) = true := List.all_eq_true.mp (He.ba (He.ba h).2).1 (w, ks) (mem_look e)
theorem stat_tk (h : t.stat = true) {g : Nat} (e : t.tk.contains g = true) : tkB t g = true := List.all_eq_true.mp (He.ba (He.ba (He.ba h).2).2).1 g (by simpa using e)
theorem stat_anc (h : t.stat = true) {i : Nat} {k : Kls} (e : t.cls[i]? = some k) (hx : k.exc = true) (hw : t.whs.isEmpty = false) : k.anc.contains i = true := by
  have := List.all_eq_true.mp (He.ba (He.ba (He.ba h).2).2).2 i (List.mem_range.mpr (List.getElem?_eq_some_iff.mp e).1)
  unfold ancB at this
  rw [e] at this
  simpa [hx, hw] using this
theorem stat_nms (h : t.stat = true) : t.nms.Nodup ∧ ∀ x ∈ t.nms, x.cps.size < 1000 := by
  have h := stat_0 h
  unfold Tab.stat0 at h
  simp only [Bool.and_eq_true, decide_eq_true_eq, List.all_eq_true] at h
  exact ⟨h.2.1, fun x hx => h.2.2.1 x hx⟩
theorem nm_inj (h : t.stat = true) (i j : Nat) (e : t.nm i = t.nm j) : i = j := by
  obtain ⟨h1, h2⟩ := stat_nms h
  have np : ∀ x ∈ t.nms, ∀ k, x ≠ padS k := fun x hx k q => by
    have := h2 x hx
    rw [q] at this
    simp [padS] at this
    omega
  unfold Tab.nm at e
  cases ei : t.nms[i]? with
  | none =>
    cases ej : t.nms[j]? with
    | none =>
      rw [ei, ej] at e
      exact pad_inj e
    | some y =>
      rw [ei, ej] at e
      exact absurd e.symm (np y (List.mem_of_getElem? ej) i)
  | some x =>
    cases ej : t.nms[j]? with
    | none =>
      rw [ei, ej] at e
      exact absurd e (np x (List.mem_of_getElem? ei) j)
    | some y =>
      rw [ei, ej] at e
      dsimp only at e
      subst e
      obtain ⟨l1, q1⟩ := List.getElem?_eq_some_iff.mp ei
      obtain ⟨l2, q2⟩ := List.getElem?_eq_some_iff.mp ej
      exact (List.getElem_inj h1).mp (q1.trans q2.symm)
/-- everything that stands fixed -/
def mkG (t : Tab) (hs : t.stat = true) (P : Program) (w : World) (K : PySem.W.Frag) (mg : Str → Option Value) (base : Heap) (sA : Addr) (sN : List Int) : GE where
  P := P
  w := w
  K := K
  mg := mg
  base := base
  fA := fun f => match t.fns[f]? with | some d => He.fAd K d.at_ | none => 0
  cA := fun c => match t.cls[c]? with | some k => He.ga K k.name | none => 0
  nm := t.nm
  nmI := nm_inj hs
  T := t.tx
  sA := sA
  sN := sN
  hd := fun _ => none
  tabs := t.tabs K
  cods := []
variable {hs : t.stat = true} {P : Program} {w : World} {K : PySem.W.Frag} {mg : Str → Option Value} {base h : Heap} {sA : Addr} {sN : List Int}
theorem says_chk (c : SaysT t K) : t.chk K = true := (He.ba (show (t.chk K && t.fns.all fun d => d.ok K) = true from congrArg (fun z : He.AlD => z.1) c)).1
theorem says_def (c : SaysT t K) (i : Nat) {d : He.DefD} (e0 : t.fns[i]? = some d) : ∃ fd, FunD K d.name d.qual d.params d.body d.scope (d.dvs K) (d.kws K) (He.fAd K d.at_) fd := by
  have c2 := (He.ba (show (t.chk K && t.fns.all fun d => d.ok K) = true from congrArg (fun z : He.AlD => z.1) c)).2
  have e : t.fns.map (fun d => He.fnW K d.at_) = t.fns.map He.DefD.val := congrArg (fun z : He.AlD => z.2) c
  have e2 : (t.fns.map fun d => He.fnW K d.at_)[i]? = (t.fns.map He.DefD.val)[i]? := by rw [e]
  rw [List.getElem?_map, List.getElem?_map, e0] at e2
  exact He.DefD.funD (Option.some.inj e2) (List.all_eq_true.mp c2 d (List.mem_of_getElem? e0))
theorem chk_kls (c : t.chk K = true) {i : Nat} {k : Kls} (e : t.cls[i]? = some k) : klsB K t k = true := List.all_eq_true.mp (He.ba (He.ba c).2).1 k (List.mem_of_getElem? e)
theorem kls_ins {k : Kls} (c : klsB K t k = true) (e : k.exc = false) : insKB K t k = true := by
  have := (He.ba (He.ba c).2).1
  rw [e] at this
  exact this
theorem insB_ok {x : Str} (c : insB K x = true) : InsF K (He.ga K x) := by
  obtain ⟨c1, c⟩ := He.ba c
  obtain ⟨c2, c⟩ := He.ba c
  obtain ⟨c3, c⟩ := He.ba c
  obtain ⟨c4, c5⟩ := He.ba c
  exact ⟨He.cls_ok c1, He.eqO_ok c2, He.eqO_ok c3, of_decide_eq_true c4, of_decide_eq_true c5⟩
theorem atB_ok {f : Nat} {a : Addr} (c : atB K t f a = true) : (mkG t hs P w K mg base sA sN).fA f = a := by
  unfold atB at c
  show (match t.fns[f]? with | some d => He.fAd K d.at_ | none => 0) = a
  cases e : t.fns[f]? with
  | none => rw [e] at c; cases c
  | some d => rw [e] at c; exact of_decide_eq_true c
theorem cA_eq {c : Nat} {k : Kls} (e : t.cls[c]? = some k) : (mkG t hs P w K mg base sA sN).cA c = He.ga K k.name := by
  show (match t.cls[c]? with | some k => He.ga K k.name | none => 0) = _
  rw [e]
theorem nm_eq {m : Nat} {x : Str} (e : t.nms[m]? = some x) : (mkG t hs P w K mg base sA sN).nm m = x := by
  show (match t.nms[m]? with | some x => x | none => padS m) = _
  rw [e]
theorem gf_of (c : t.chk K = true) : GF (mkG t hs P w K mg base sA sN) where
  fl := fun cc f e => by
    have e : (match t.cls[cc]? with | some k => !k.exc && k.fls.contains f | none => false) = true := e
    cases q : t.cls[cc]? with
    | none => rw [q] at e; cases e
    | some k =>
      rw [q] at e
      obtain ⟨e1, e2⟩ := He.ba e
      have ci := kls_ins (chk_kls c q) (by simpa using e1)
      rw [cA_eq q]
      refine ⟨(insB_ok (He.ba ci).1).cl, ?_⟩
      have cf := List.all_eq_true.mp (He.ba (He.ba (He.ba (He.ba ci).2).2).2).1 f (by simpa using e2)
      unfold flsB at cf
      cases qm : t.nms[f]? with
      | none => rw [qm] at cf; cases cf
      | some m =>
        rw [qm] at cf
        rw [nm_eq qm]
        exact He.noat_ok cf
  mth := fun cc m f e => by
    have e : (match t.cls[cc]? with | some k => if k.exc then none else k.mth.lookup m | none => none) = some f := e
    cases q : t.cls[cc]? with
    | none => rw [q] at e; cases e
    | some k =>
      rw [q] at e
      dsimp only at e
      split at e
      · cases e
      · rename_i hx
        have ci := kls_ins (chk_kls c q) (by simpa using hx)
        rw [cA_eq q]
        refine ⟨(insB_ok (He.ba ci).1).cl, ?_⟩
        have cf := List.all_eq_true.mp (He.ba (He.ba (He.ba ci).2).2).1 (m, f) (mem_look e)
        unfold mthB at cf
        dsimp only at cf
        cases qm : t.nms[m]? with
        | none => rw [qm] at cf; cases cf
        | some x =>
          rw [qm] at cf
          obtain ⟨cf1, cf2⟩ := He.ba cf
          rw [nm_eq qm, atB_ok cf2]
          exact He.meth_ok cf1
  ini := fun cc f e => by
    have e : (match t.cls[cc]? with | some k => if k.exc then none else some k.ini | none => none) = some (some f) := e
    cases q : t.cls[cc]? with
    | none => rw [q] at e; cases e
    | some k =>
      rw [q] at e
      dsimp only at e
      split at e
      · cases e
      · rename_i hx
        have ci := kls_ins (chk_kls c q) (by simpa using hx)
        rw [cA_eq q]
        have cf := (He.ba (He.ba ci).2).1
        unfold iniB at cf
        rw [Option.some.inj e] at cf
        obtain ⟨cf1, cf2⟩ := He.ba cf
        rw [atB_ok cf2]
        exact He.mkr_ok cf1
  ini0 := fun cc e => by
    have e : (match t.cls[cc]? with | some k => if k.exc then none else some k.ini | none => none) = some none := e
    cases q : t.cls[cc]? with
    | none => rw [q] at e; cases e
    | some k =>
      rw [q] at e
      dsimp only at e
      split at e
      · cases e
      · rename_i hx
        have ci := kls_ins (chk_kls c q) (by simpa using hx)
        rw [cA_eq q]
        have cf := (He.ba (He.ba ci).2).1
        unfold iniB at cf
        rw [Option.some.inj e] at cf
        obtain ⟨c1, cf⟩ := He.ba cf
        obtain ⟨c2, cf⟩ := He.ba cf
        obtain ⟨c3, c4⟩ := He.ba cf
        exact ⟨c1, He.eqO_ok c2, c3, of_decide_eq_true c4⟩
  sub := fun cc c' b e => by
    have e : (match t.cls[cc]?, t.cls[c']? with | some k, some _ => if k.exc then none else some (k.anc.contains c') | _, _ => none) = some b := e
    cases q : t.cls[cc]? with
    | none => rw [q] at e; cases e
    | some k =>
      cases q2 : t.cls[c']? with
      | none => rw [q, q2] at e; cases e
      | some k2 =>
        rw [q, q2] at e
        dsimp only at e
        split at e
        · cases e
        · rename_i hx
          cases e
          have ci := kls_ins (chk_kls c q) (by simpa using hx)
          rw [cA_eq q, cA_eq q2]
          refine ⟨insB_ok (He.ba ci).1, ?_⟩
          have cs := (He.ba (He.ba (He.ba (He.ba (He.ba ci).2).2).2).2).1
          have hl : c' < t.cls.length := (List.getElem?_eq_some_iff.mp q2).1
          have := List.all_eq_true.mp cs c' (List.mem_range.mpr hl)
          rw [q2] at this
          exact of_decide_eq_true this
  subT := fun cc c' b e ty hty => by
    have e : (match t.cls[cc]?, t.cls[c']? with | some k, some _ => if k.exc then none else some (k.anc.contains c') | _, _ => none) = some b := e
    cases q2 : t.cls[c']? with
    | none => rw [q2] at e; cases hh : t.cls[cc]? <;> rw [hh] at e <;> cases e
    | some k2 =>
      rw [cA_eq q2]
      have := (He.ba (He.ba (chk_kls c q2)).2).2
      exact of_decide_eq_true (List.all_eq_true.mp this ty hty)
  insT := fun cc ty e => by
    have e : (match t.cls[cc]?, t.cls[cc]? with | some k, some _ => if k.exc then none else some (k.anc.contains cc) | _, _ => none).isSome = true := e
    cases q : t.cls[cc]? with
    | none => rw [q] at e; cases e
    | some k =>
      rw [q] at e
      dsimp only at e
      split at e
      · cases e
      · rename_i hx
        have ci := kls_ins (chk_kls c q) (by simpa using hx)
        rw [cA_eq q]
        have cs := (He.ba (He.ba (He.ba (He.ba (He.ba ci).2).2).2).2).2
        exact of_decide_eq_true (List.all_eq_true.mp cs (tyN ty) (by cases ty <;> simp [tys, tyN]))
theorem idx_ok {α : Type} {p : α → Bool} {l : List α} {i : Nat} (h : l.findIdx? p = some i) : ∃ a, l[i]? = some a ∧ p a = true := by
  obtain ⟨h1, h2, _⟩ := List.findIdx?_eq_some_iff_getElem.mp h
  exact ⟨l[i], List.getElem?_eq_getElem h1, h2⟩
theorem stat_len (hs : t.stat = true) : t.fns.length = t.irs.length := by
  have hs := stat_0 hs
  unfold Tab.stat0 at hs
  simp only [Bool.and_eq_true, decide_eq_true_eq] at hs
  exact hs.1
theorem stat_ref (hs : t.stat = true) {k : Kls} {i : Nat} (e : t.cls[i]? = some k) : refB t k = true := by
  have hs := stat_0 hs
  unfold Tab.stat0 at hs
  simp only [Bool.and_eq_true, List.all_eq_true] at hs
  exact hs.2.2.2.2 k (List.mem_of_getElem? e)
theorem stat_def (hs : t.stat = true) {f : Nat} (e : f < t.irs.length) : defB t f = true := by
  have hs := stat_0 hs
  unfold Tab.stat0 at hs
  simp only [Bool.and_eq_true, List.all_eq_true] at hs
  exact hs.2.2.2.1 f (List.mem_range.mpr e)
theorem fn_eq {f : Nat} (h : f < t.irs.length) : t.tx.fn f = t.irs[f]? := if_pos h
theorem cf_of (hs : t.stat = true) (c : t.chk K = true) (X : K.In h) (N : h.Ns mainGlobals mg) (f0 : Nat) : CF0 (mkG t hs P w K mg base sA sN) (t.cc f0) := by
  have gl : ∀ x r, t.gl x = some r → (∃ (i : Nat) (d : He.DefD), r = .fn i ∧ t.fns[i]? = some d ∧ d.at_ = (x, none)) ∨ (∃ (i : Nat) (k : Kls), t.cls[i]? = some k ∧ k.name = x ∧ r = (if k.exc then .exc i else .cls i k.ini.isSome)) ∨ (∃ i, r = .int i ∧ t.gis.lookup x = some i) ∨ ∃ xs, r = .strs xs ∧ t.gss.lookup x = some xs := fun x r e => by
    unfold Tab.gl at e
    split at e
    · rename_i i ei
      cases e
      obtain ⟨d, e1, e2⟩ := idx_ok ei
      refine .inl ⟨i, d, rfl, e1, ?_⟩
      unfold atG at e2
      cases q : d.at_.2 with
      | some m => rw [q] at e2; cases e2
      | none =>
        rw [q] at e2
        exact Prod.ext (eq_of_beq e2) q
    · split at e
      · rename_i i ei
        obtain ⟨k, e1, e2⟩ := idx_ok ei
        rw [e1] at e
        dsimp only at e
        refine .inr (.inl ⟨i, k, e1, eq_of_beq e2, ?_⟩)
        split at e <;> (rename_i hx; cases e; simp [hx])
      · split at e
        · rename_i i ei
          cases e
          exact .inr (.inr (.inl ⟨i, rfl, ei⟩))
        · cases es : t.gss.lookup x with
          | none => rw [es] at e; cases e
          | some xs =>
            rw [es] at e
            cases e
            exact .inr (.inr (.inr ⟨xs, rfl, rfl⟩))
  have kex : ∀ {i : Nat} {k : Kls}, t.cls[i]? = some k → mg k.name = some (.ref ((mkG t hs P w K mg base sA sN).cA i)) := fun {i k} e => by
    rw [cA_eq e]
    exact He.glo_ok X N (He.ba (chk_kls c e)).1
  refine ⟨fun x f e => ?_, fun x cid o e => ?_, fun x cid e => ?_, fun x i e => ?_, fun x xs e => ?_, fun x e => ?_, fun m i e => ?_, fun cid m f e => ?_, fun x cid w e hw => ?_⟩
  rotate_right
  · rcases gl x _ e with ⟨i, d, e1, e2, e3⟩ | ⟨i, k, e1, e2, e3⟩ | ⟨i, e1, _⟩ | ⟨xs, e1, _⟩
    · cases e1
    · split at e3
      · rename_i hx
        cases e3
        have hne : t.whs.isEmpty = false := by
          have hw : (t.whs.lookup w).isSome = true := hw
          cases q : t.whs with
          | nil => rw [q] at hw; cases hw
          | cons _ _ => rfl
        show (match t.cls[cid]? with | some k => !t.whs.isEmpty && (k.exc && k.anc.contains cid) | none => false) = true
        rw [e1]
        dsimp only
        rw [hne, hx, stat_anc hs e1 hx hne]
        rfl
      · cases e3
    · cases e1
    · cases e1
  · rcases gl x _ e with ⟨i, d, e1, e2, e3⟩ | ⟨i, k, e1, e2, e3⟩ | ⟨i, e1, _⟩ | ⟨xs, e1, _⟩
    · cases e1
      refine ⟨?_, (by show _ < t.irs.length; rw [← stat_len hs]; exact (List.getElem?_eq_some_iff.mp e2).1)⟩
      have g := List.all_eq_true.mp (He.ba c).1 d (List.mem_of_getElem? e2)
      unfold gloB at g
      rw [e3] at g
      show mg x = some (.ref (match t.fns[f]? with | some d => He.fAd K d.at_ | none => 0))
      rw [e2]
      dsimp only
      rw [e3]
      exact He.glo_ok X N g
    · split at e3 <;> cases e3
    · cases e1
    · cases e1
  · rcases gl x _ e with ⟨i, d, e1, e2, e3⟩ | ⟨i, k, e1, e2, e3⟩ | ⟨i, e1, _⟩ | ⟨xs, e1, _⟩
    · cases e1
    · split at e3
      · cases e3
      · rename_i hx
        cases e3
        have hx : k.exc = false := by simpa using hx
        subst e2
        refine ⟨kex e1, ?_, cid, k.anc.contains cid, ?_⟩
        · have ei : (mkG t hs P w K mg base sA sN).T.ini cid = some k.ini := by
            show (match t.cls[cid]? with | some k => if k.exc then none else some k.ini | none => none) = _
            rw [e1]
            dsimp only
            rw [hx]
            rfl
          have rb := (He.ba (stat_ref hs e1)).1
          cases q : k.ini with
          | none => rw [q] at ei; exact ei
          | some f =>
            rw [q] at ei rb
            exact ⟨f, ei, of_decide_eq_true rb⟩
        · show (match t.cls[cid]?, t.cls[cid]? with | some k, some _ => if k.exc then none else some (k.anc.contains cid) | _, _ => none) = _
          rw [e1]
          dsimp only
          rw [hx]
          rfl
    · cases e1
    · cases e1
  · rcases gl x _ e with ⟨i, d, e1, e2, e3⟩ | ⟨i, k, e1, e2, e3⟩ | ⟨i, e1, _⟩ | ⟨xs, e1, _⟩
    · cases e1
    · split at e3
      · rename_i hx
        cases e3
        subst e2
        have q := (He.ba (He.ba (chk_kls c e1)).2).1
        rw [hx] at q
        obtain ⟨q1, q2, q3, q4⟩ := He.exc_ok (He.ba q).1
        have ec := cA_eq (hs := hs) (P := P) (w := w) (K := K) (mg := mg) (base := base) (sA := sA) (sN := sN) e1
        exact ⟨kex e1, by rw [ec]; exact q1, by rw [ec]; exact q2, by rw [ec]; exact q3, by rw [ec]; exact q4⟩
      · cases e3
    · cases e1
    · cases e1
  · rcases gl x _ e with ⟨i, d, e1, e2, e3⟩ | ⟨i, k, e1, e2, e3⟩ | ⟨i, e1, e2⟩ | ⟨xs, e1, _⟩
    · cases e1
    · split at e3 <;> cases e3
    · cases e1
      exact He.int_ok X N (List.all_eq_true.mp (He.ba (He.ba (He.ba c).2).2).1 (x, _) (mem_look e2))
    · cases e1
  · rcases gl x _ e with ⟨i, d, e1, e2, e3⟩ | ⟨i, k, e1, e2, e3⟩ | ⟨i, e1, e2⟩ | ⟨ys, e1, e2⟩
    · cases e1
    · split at e3 <;> cases e3
    · cases e1
    · cases e1
      obtain ⟨g1, g2⟩ := He.ba (List.all_eq_true.mp (He.ba (He.ba (He.ba (He.ba c).2).2).2).1 (x, xs) (mem_look e2))
      refine ⟨He.ga K x, He.glo_ok X N g1, fun H => ?_⟩
      have := He.tupB_ok g2 H
      rw [List.map_map] at this
      exact this
  · exact He.free_ok X N (List.all_eq_true.mp (He.ba (He.ba (He.ba (He.ba (He.ba c).2).2).2).2).1 x (by simpa [Tab.cc] using e))
  · obtain ⟨a, e1, e2⟩ := idx_ok (show t.nms.findIdx? (· == m) = some i from e)
    rw [nm_eq e1]
    exact eq_of_beq e2
  · have e : (match t.cls[cid]? with | some k => if k.exc then none else k.mth.lookup m | none => none) = some f := e
    cases q : t.cls[cid]? with
    | none => rw [q] at e; cases e
    | some k =>
      rw [q] at e
      dsimp only at e
      split at e
      · cases e
      · exact of_decide_eq_true (List.all_eq_true.mp (He.ba (stat_ref hs q)).2 (m, f) (mem_look e))
theorem xf_of (c : t.chk K = true) : XF (mkG t hs P w K mg base sA sN) := by
  have key : ∀ d e, (mkG t hs P w K mg base sA sN).T.xs d e = true → ∃ k, t.cls[d]? = some k ∧ k.exc = true ∧ t.whs.isEmpty = false := fun d e h => by
    have h : (match t.cls[d]? with | some k => !t.whs.isEmpty && (k.exc && k.anc.contains e) | none => false) = true := h
    cases q : t.cls[d]? with
    | none => rw [q] at h; cases h
    | some k =>
      rw [q] at h
      obtain ⟨h1, h2⟩ := He.ba h
      exact ⟨k, rfl, (He.ba h2).1, by simpa using h1⟩
  have ex : ∀ {d : Nat} {k : Kls}, t.cls[d]? = some k → k.exc = true → t.whs.isEmpty = false → excKB K t k = true := fun {d k} e hx hw => by
    have q := (He.ba (He.ba (chk_kls c e)).2).1
    rw [hx] at q
    have q2 := (He.ba q).2
    rw [hw] at q2
    exact q2
  refine ⟨fun d h => ?_, fun d e h1 h2 => ?_⟩
  · obtain ⟨k, e1, e2, e3⟩ := key d d h
    have q := ex e1 e2 e3
    obtain ⟨q1, q⟩ := He.ba q
    rw [cA_eq e1]
    refine ⟨?_, of_decide_eq_true (He.ba q).1⟩
    obtain ⟨a1, q1⟩ := He.ba q1
    obtain ⟨a2, q1⟩ := He.ba q1
    obtain ⟨a3, q1⟩ := He.ba q1
    obtain ⟨a4, q1⟩ := He.ba q1
    obtain ⟨a5, q1⟩ := He.ba q1
    obtain ⟨a6, q1⟩ := He.ba q1
    obtain ⟨a7, a8⟩ := He.ba q1
    exact ⟨He.eqO_ok a1, He.eqO_ok a2, of_decide_eq_true a3, a4, He.eqO_ok a5, He.eqO_ok a6, of_decide_eq_true a7, of_decide_eq_true a8⟩
  · obtain ⟨k, e1, e2, e3⟩ := key d d h1
    obtain ⟨k2, f1, f2, f3⟩ := key e e h2
    have q := (He.ba (He.ba (ex e1 e2 e3)).2).2
    have q := List.all_eq_true.mp q e (List.mem_range.mpr (List.getElem?_eq_some_iff.mp f1).1)
    rw [f1] at q
    dsimp only at q
    rw [f2] at q
    obtain ⟨r1, r2⟩ := He.ba (show (decide _ && decide _) = true from q)
    rw [cA_eq e1, cA_eq f1]
    have hx : (mkG t hs P w K mg base sA sN).T.xs d e = k.anc.contains e := by
      show (match t.cls[d]? with | some k => !t.whs.isEmpty && (k.exc && k.anc.contains e) | none => false) = _
      rw [e1]
      dsimp only
      rw [e3, e2]
      rfl
    rw [hx]
    exact ⟨of_decide_eq_true r1, of_decide_eq_true r2⟩
/-- the IR of every def -/
def Tab.IR (t : Tab) : Prop := ∀ f d ir, t.fns[f]? = some d → t.irs[f]? = some ir → if (t.whs.lookup f).isSome = true then ir.2.2 = badS else cBody (t.cc f) d.scope d.body = some ir.2.2
theorem parB_ok {p : Arguments} {ps : List Str} (h : parB p ps = true) : p.posonlyargs = [] ∧ p.args.map (·.arg) = ps ∧ p.vararg = none ∧ p.kwonlyargs = [] ∧ p.kwarg = none ∧ ps.Nodup := by
  unfold parB at h
  simp only [Bool.and_eq_true, decide_eq_true_eq, List.isEmpty_iff, Option.isNone_iff_eq_none] at h
  exact h
theorem def_parts (hs : t.stat = true) (c : SaysT t K) {f : Nat} (e : f < t.irs.length) : ∃ d np n b fd, t.fns[f]? = some d ∧ t.irs[f]? = some (np, n, b) ∧ FunD K d.name d.qual d.params d.body d.scope [] [] (He.fAd K d.at_) fd ∧ FnScope (t.cc f).N (psOf d) d.scope ∧ (psOf d).length = np ∧ (t.cc f).N.length = n ∧
    (∀ (kV doc pm : Value) (an : Option Addr) (cdv ct : Value) (us : List Value), us.length = (psOf d).length → bindArgs (PySem.W.fnOf d.name d.qual d.params d.body d.scope .none kV doc pm an cdv ct) ⟨us, []⟩ = pure ((psOf d).zip us)) := by
  have dB := stat_def hs e
  unfold defB at dB
  have e' : f < t.fns.length := by rw [stat_len hs]; exact e
  rw [List.getElem?_eq_getElem e', List.getElem?_eq_getElem e] at dB
  dsimp only at dB
  simp only [Bool.and_eq_true, decide_eq_true_eq, List.isEmpty_iff] at dB
  obtain ⟨d1, d2, d3, d4, d5, d6⟩ := dB
  obtain ⟨fd, FD⟩ := says_def c f (List.getElem?_eq_getElem e')
  have q1 : (t.fns[f]).dvs K = [] := by unfold He.DefD.dvs; rw [d1]; rfl
  have q2 : (t.fns[f]).kws K = [] := by unfold He.DefD.kws; rw [d2]; rfl
  rw [q1, q2] at FD
  obtain ⟨p1, p2, p3, p4, p5, p6⟩ := parB_ok d3
  exact ⟨t.fns[f], t.irs[f].1, t.irs[f].2.1, t.irs[f].2.2, fd, List.getElem?_eq_getElem e', List.getElem?_eq_getElem e, FD, scB_ok d4, d5, d6, fun kV doc pm an cdv ct us hl => bind_plain p1 p2 p3 p4 p5 p6 us hl⟩
theorem fA_eq {f : Nat} {d : He.DefD} (e : t.fns[f]? = some d) : (mkG t hs P w K mg base sA sN).fA f = He.fAd K d.at_ := by
  show (match t.fns[f]? with | some d => He.fAd K d.at_ | none => 0) = _
  rw [e]
theorem wh_of (hs : t.stat = true) (c : SaysT t K) (X : K.In h) (N : h.Ns mainGlobals mg) {v : Nat} (hv : (t.whs.lookup v).isSome = true) : WhAt (mkG t hs P w K mg base sA sN) v := by
  obtain ⟨ks, hk⟩ := Option.isSome_iff_exists.mp hv
  have wB := stat_wh hs hk
  unfold whB at wB
  dsimp only at wB
  cases ed : t.fns[v]? with
  | none => rw [ed] at wB; cases wB
  | some d0 =>
    rw [ed] at wB
    dsimp only at wB
    split at wB
    · rename_i ev eps
      simp only [Bool.and_eq_true, decide_eq_true_eq, Bool.not_eq_true'] at wB
      obtain ⟨w1, w2, w3, w4, w5, w6⟩ := wB
      obtain ⟨d, np, n, b, fd, h1, h2, FD, h3, h4, h5, h6⟩ := def_parts hs c w1
      rw [ed] at h1
      cases h1
      rw [eps] at h3 h6
      have S := cf_of (P := P) (w := w) (base := base) (sA := sA) (sN := sN) hs (says_chk c) X N v
      have hN : ∃ r, (t.cc v).N = ev :: r := by
        have := h3.pre
        cases q : (t.cc v).N with
        | nil => rw [q] at this; cases this
        | cons a r =>
          rw [q] at this
          cases this
          exact ⟨r, rfl⟩
      refine wh_at (ks := ks) (xf_of (says_chk c)) (by rw [fA_eq ed]; exact FD) h3 (FD.bindsN h6) hN w2 w3 w4 (fun x cid e => ⟨(S.exc x cid e).1, S.gxs x cid v e hv⟩) S.fr w5 w6 fun dn hx => ?_
      have hx : (match t.cls[dn]? with | some k => !t.whs.isEmpty && (k.exc && k.anc.contains dn) | none => false) = true := hx
      show ((t.whs.lookup v).bind fun cs => whN (cs.map fun c => match t.cls[dn]? with | some k => k.anc.contains c | none => false)) = whN (ks.map fun c => match t.cls[dn]? with | some k => !t.whs.isEmpty && (k.exc && k.anc.contains c) | none => false)
      rw [hk]
      cases q : t.cls[dn]? with
      | none => rw [q] at hx; cases hx
      | some k =>
        rw [q] at hx
        dsimp only at hx ⊢
        obtain ⟨x1, x2⟩ := He.ba hx
        rw [x1, (He.ba x2).1]
        rfl
    · cases wB
theorem defD_of (hs : t.stat = true) (c : SaysT t K) (X : K.In h) (N : h.Ns mainGlobals mg) {f : Nat} (e : f < t.irs.length) : ∃ d np n b fd, t.fns[f]? = some d ∧ t.irs[f]? = some (np, n, b) ∧ DefD (mkG t hs P w K mg base sA sN) (t.cc f) f np n b d.name d.qual d.params d.body d.scope [] fd (psOf d) := by
  obtain ⟨d, np, n, b, fd, h1, h2, FD, h3, h4, h5, h6⟩ := def_parts hs c e
  exact ⟨d, np, n, b, fd, h1, h2, cf_of hs (says_chk c) X N f, (fn_eq e).trans h2, by rw [fA_eq h1]; exact FD, h3, h4, h5, FD.bindsN h6, fun v hv => wh_of hs c X N hv⟩
theorem tf_mem {f : Nat} {d : He.DefD} (hm : t.mks.contains f = true) (e : t.fns[f]? = some d) : d.at_ ∈ t.tf := List.mem_filterMap.mpr ⟨f, by simpa using hm, by rw [e]; rfl⟩
theorem tabs_mem {f : Nat} {d : He.DefD} (hm : t.mks.contains f = true) (e : t.fns[f]? = some d) : ((He.cT K d.at_).2, (d.qual ++ ".<locals>.") ++ "<lambda>") ∈ t.tabs K := List.mem_filterMap.mpr ⟨f, by simpa using hm, by rw [e]; rfl⟩
theorem nodup_fst {α β : Type} : ∀ {l : List (α × β)}, (l.map (·.1)).Nodup → ∀ {a : α} {b c : β}, (a, b) ∈ l → (a, c) ∈ l → b = c
  | [], _, _, _, _, h, _ => by cases h
  | (x, y) :: l, nd, a, b, c, h1, h2 => by
    rw [List.map_cons, List.nodup_cons] at nd
    rcases List.mem_cons.mp h1 with e1 | m1 <;> rcases List.mem_cons.mp h2 with e2 | m2
    · cases e1; cases e2; rfl
    · cases e1
      exact absurd (List.mem_map.mpr ⟨_, m2, rfl⟩) nd.1
    · cases e2
      exact absurd (List.mem_map.mpr ⟨_, m1, rfl⟩) nd.1
    · exact nodup_fst nd.2 m1 m2
theorem mk_parts (hs : t.stat = true) (hi : t.IR) (c : SaysT t K) (X : K.In h) (N : h.Ns mainGlobals mg) (hT : ∀ p ∈ t.tf, TabB base mg (He.cT K p).1 (He.cT K p).2) {f : Nat} {d : He.DefD} {fd : FuncData} {kws : List (Str × V)} (h1 : t.fns[f]? = some d) (FD : FunD K d.name d.qual d.params d.body d.scope [] kws (He.fAd K d.at_) fd) :
    ((t.cc f).mks = true → MkD (mkG t hs P w K mg base sA sN) d.qual fd.code) ∧ ((t.cc f).mks = true → ∀ v n ir, (t.cc f).lir v = some (n, ir) → (mkG t hs P w K mg base sA sN).T.fn v = some (n, n, .ret ir)) ∧ ((t.cc f).mks = true → ∀ g, (t.cc f).tk g = true → DefL (mkG t hs P w K mg base sA sN) g) := by
  refine ⟨fun hm => ?_, fun _ v n ir hl => ?_, fun _ g hg => ?_⟩
  · obtain ⟨oc, od, dV, kV, doc, pm, an, cdv, ct, osl, rfl, lk, hcd, _, _⟩ := FD.ex
    obtain ⟨cA, ec⟩ := He.codeIn_ref hcd
    have hco : He.codeOf K d.at_ = cA := He.codeOf_eq lk ec
    have T1 := hT _ (tf_mem hm h1)
    refine ⟨(He.cT K d.at_).1, (He.cT K d.at_).2, T1, ?_, tabs_mem hm h1, fun p hp e1 => ?_⟩
    · show cdv = .ref (He.codeOf K d.at_)
      rw [hco]
      exact ec
    · have nd := of_decide_eq_true (He.ba (He.ba (He.ba (He.ba (He.ba (says_chk c)).2).2).2).2).2
      obtain ⟨a, q⟩ := p
      dsimp only at e1
      subst e1
      exact nodup_fst nd hp (tabs_mem hm h1)
  · have hl : (if v < t.irs.length then none else match t.lms[v - t.irs.length]? with | some (np, n, .ret e) => if np = n then some (n, e) else none | _ => none) = some (n, ir) := hl
    split at hl
    · cases hl
    · rename_i hv
      split at hl
      · rename_i np' n' e' eq
        split at hl
        · rename_i hnp
          cases hl
          show (if v < t.irs.length then t.irs[v]? else t.lms[v - t.irs.length]?) = _
          rw [if_neg hv, eq, hnp]
        · cases hl
      · cases hl
  · have kB := stat_tk hs hg
    unfold tkB at kB
    simp only [Bool.and_eq_true, decide_eq_true_eq, Bool.not_eq_true'] at kB
    obtain ⟨k1, k2, k3⟩ := kB
    obtain ⟨d', np', n', b', fd', h1', h2', D'⟩ := defD_of (P := P) (w := w) (base := base) (sA := sA) (sN := sN) hs c X N k1
    refine ⟨t.cc g, np', n', b', d'.name, d'.qual, d'.params, d'.body, d'.scope, [], fd', psOf d', D', k2, ?_⟩
    have := hi g d' _ h1' h2'
    rw [if_neg (by rw [k3]; decide)] at this
    exact this
theorem defs_of (hs : t.stat = true) (hi : t.IR) (c : SaysT t K) (X : K.In h) (N : h.Ns mainGlobals mg) (hT : ∀ p ∈ t.tf, TabB base mg (He.cT K p).1 (He.cT K p).2) (f : Nat) (e : f < t.irs.length) : DefOk (mkG t hs P w K mg base sA sN) f := by
  obtain ⟨d, np, n, b, fd, h1, h2, D⟩ := defD_of (P := P) (w := w) (base := base) (sA := sA) (sN := sN) hs c X N e
  refine ⟨t.cc f, np, n, b, d.name, d.qual, d.params, d.body, d.scope, [], fd, psOf d, D, ?_, mk_parts hs hi c X N hT h1 (by have := D.fu; rw [fA_eq h1] at this; exact this)⟩
  · have := hi f d _ h1 h2
    split at this
    · exact .inr this
    · exact .inl this
theorem fix_of (hs : t.stat = true) (hi : t.IR) (c : SaysT t K) (X : K.In h) (N : h.Ns mainGlobals mg) (hT : ∀ p ∈ t.tf, TabB base mg (He.cT K p).1 (He.cT K p).2) : Fix (mkG t hs P w K mg base sA sN) :=
  ⟨gf_of (says_chk c), xf_of (says_chk c), fun _ => rfl, rfl, fun f hf => defs_of hs hi c X N hT f hf⟩
end
end Ev
end

section
set_option Elab.async false
set_option linter.all false
set_option maxRecDepth 100000
set_option maxHeartbeats 1000000
/-! EvN: the law's end. -/
namespace Ev
open PySem PySem.Spec PyProof.Rows L2 LamX NdefX
theorem fnok_ex {ι : Type} {P : Program} {w : World} {K : PySem.W.Frag} {mg : Str → Option Value} {base : Heap} {CX : CXT} {k : Nat} {f : Addr} {fd : FuncData} {ps : List Str} {sp : ι → Sp} (h : ∀ i, FnOk P w K mg base CX k f fd ps (sp i)) : FnOk P w K mg base CX k f fd ps (fun vs H Q E => ∃ i, sp i vs H Q E) :=
  ⟨fun vs H Q E ⟨i, q⟩ => (h i).len vs H Q E q, fun A outer s H args us vs Q E hr he hb hv ⟨i, q⟩ => (h i).run A outer s H args us vs Q E hr he hb hv q⟩
/-- a list that is tracked may as well be a list that stays -/
theorem fnok_lst {P : Program} {w : World} {K : PySem.W.Frag} {mg : Str → Option Value} {base : Heap} {k : Nat} {f : Addr} {fd : FuncData} {ps : List Str} {sp : Sp} (h : FnOk P w K mg base (L2N.CX P w) k f fd ps sp) :
    FnOk P w K mg base (L2N.CX P w) k f fd ps (fun vs H Q E => sp vs H Q E ∨ ∃ a xs, H a = some (.lst xs) ∧ (∀ o, sp vs (upd H a (.frz o (.lst xs))) Q E) ∧ ∀ c d H', ¬ E c d H') := by
  refine ⟨fun vs H Q E q => ?_, fun A outer s H args us vs Q E hr e0 hb hv q => ?_⟩
  · rcases q with q | ⟨a, xs, _, q, _⟩
    · exact h.len vs H Q E q
    · exact h.len vs _ Q E (q default)
  · rcases q with q | ⟨a, xs, ha, q, hE⟩
    · exact h.run A outer s H args us vs Q E hr e0 hb hv q
    · have ok := e0.hok a _ ha
      obtain ⟨its, n, rv, ho⟩ := ok.2
      generalize hoo : ({ cls := .type "list", data := .seq its.toArray n } : Obj) = o at ho
      have off : ∀ {b : Addr}, H b = none → upd H a (.frz o (.lst xs)) b = none := fun {b} e => by
        rw [upd_ne (fun z => by rw [z, ha] at e; cases e)]
        exact e
      have oth : ∀ {b : Addr} {u : HO}, H b = some u → (∀ ys, u ≠ .lst ys) → upd H a (.frz o (.lst xs)) b = some u := fun {b u} e hn => by
        rw [upd_ne (fun z => hn xs (by rw [z, ha] at e; exact (Option.some.inj e).symm))]
        exact e
      have hk2 : HOk P w (upd H a (.frz o (.lst xs))) s.heap := fun b u e => by
        by_cases hba : b = a
        · subst hba
          rw [upd_same] at e
          cases e
          exact ⟨ho, ok.1, its, n, rv, by rw [hoo]; exact ho⟩
        · rw [upd_ne hba] at e
          exact (e0.hok b u e).stay (fun c v _ z => z) (fun c z => oth z fun ys q => by cases q) fun c ys z => oth z fun ys q => by cases q
      have e1 : Env0 P w K mg base A outer s (upd H a (.frz o (.lst xs))) := ⟨e0.frames, e0.mod, fun b u e => ⟨(e0.bs b u e).1, off (e0.bs b u e).2⟩, e0.bsz, e0.funs, fun b hb => off (e0.frf b hb), hk2, e0.bare⟩
      refine codeAny_mono (h.run A outer s _ args us vs Q E hr e1 hb hv (q o)) fun r s' hq => ?_
      cases r with
      | error e =>
        obtain ⟨_, _, _, _, _, _, _, _, _, _, _, _, z⟩ := hq
        exact (hE _ _ _ z).elim
      | ok fl =>
        cases fl with
        | ret u =>
          obtain ⟨v, H', os, bare, un, hok, rv', qq⟩ := hq
          refine ⟨v, H', os, bare, ⟨fun b o' e n => un.keep b o' e (off n), fun b o' e n => un.slot b o' e (off n), fun b o' e n => un.free b o' e (off n), un.there, fun b ys e => un.tups b ys (oth e fun ys q => by cases q), fun b o' u' e => un.frzs b o' u' (oth e fun ys q => by cases q), fun b ps e => un.tbls b ps (oth e fun ys q => by cases q)⟩, hok, rv', qq⟩
        | next => exact hq.elim
        | brk => exact hq.elim
        | cont => exact hq.elim
section
variable {t : Tab} {P : Program} {w : World} {K : PySem.W.Frag} {mg : Str → Option Value} {h : Heap}
def spLaw (t : Tab) (hs : t.stat = true) (P : Program) (w : World) (K : PySem.W.Frag) (mg : Str → Option Value) (D fl : Nat) : Sp := fun vs H Q E => ∀ base : Heap, ∃ p : Addr × List Int, spF (mkG t hs P w K mg base p.1 p.2) D fl vs H Q E
theorem law_fn (hs : t.stat = true) (hi : t.IR) (c : SaysT t K) (X : K.In h) (N : h.Ns mainGlobals mg) {fl D : Nat} (e : fl < t.irs.length) {d : He.DefD} (ed : t.fns[fl]? = some d) : ∃ fd : FuncData, (∀ (s : Shared) (us : List Value), us.length = (psOf d).length → BindsTo s fd ⟨us, []⟩ ((psOf d).zip us)) ∧
    ∀ base : Heap, (∀ p ∈ t.tf, TabB base mg (He.cT K p).1 (He.cT K p).2) → FnOk P w K mg base (L2N.CX P w) (lvl (D + 1)) (He.fAd K d.at_) fd (psOf d) (spLaw t hs P w K mg (D + 1) fl) := by
  obtain ⟨d', np, n, b, fd, h1, h2, FD, h3, h4, h5, h6⟩ := def_parts hs c e
  rw [ed] at h1
  cases h1
  refine ⟨fd, fun s us hl => FD.bindsA h6 s us hl, fun base hT => ?_⟩
  refine FnOk.imp (fnok_ex (sp := fun p : Addr × List Int => spF (mkG t hs P w K mg base p.1 p.2) (D + 1) fl) fun p => ?_) fun vs H Q E q => q base
  have X' := fix_of (sA := p.1) (sN := p.2) (P := P) (w := w) hs hi c X N hT
  obtain ⟨cc, np', n', b', name, qual, params, body, scope, kws, fd2, ps2, D', hb, hmk, q1, q2⟩ := (defs_of (sA := p.1) (sN := p.2) (P := P) (w := w) hs hi c X N hT fl e).ok
  have k := fn_at X' (D + 1) (D + 1) (Nat.le_refl _) fl e
  obtain ⟨d3, np3, n3, b3, fd3, g1, g2, D3⟩ := defD_of (P := P) (w := w) (base := base) (sA := p.1) (sN := p.2) hs c X N e
  rw [ed] at g1
  cases g1
  obtain ⟨r1, r2, r3⟩ : ((t.cc fl).mks = true → MkD (mkG t hs P w K mg base p.1 p.2) d.qual fd.code) ∧ ((t.cc fl).mks = true → ∀ f n ir, (t.cc fl).lir f = some (n, ir) → (mkG t hs P w K mg base p.1 p.2).T.fn f = some (n, n, .ret ir)) ∧ ((t.cc fl).mks = true → ∀ g, (t.cc fl).tk g = true → DefL (mkG t hs P w K mg base p.1 p.2) g) := mk_parts hs hi c X N hT ed FD
  have hbb : cBody (t.cc fl) d.scope d.body = some b ∨ b = badS := by
    have := hi fl d _ ed h2
    split at this
    · exact .inr this
    · exact .inl this
  have cf := cf_of (P := P) (w := w) (base := base) (sA := p.1) (sN := p.2) hs (says_chk c) X N fl
  have k := fn_stepOk X'.gf (cf_at X' cf r2 r3 D fun e he => fn_at X' D e he) X'.xf X'.h0 cf.gxs (fun v hv => wh_of hs c X N hv) r1 ((fn_eq e).trans h2) (by rw [fA_eq ed]; exact FD) h3 h4 h5 hbb
  rw [fA_eq ed] at k
  exact k
theorem law_sp (hs : t.stat = true) {fl D : Nat} (hrun : ∀ ns : List Int, ns.length ≤ 63 → (∀ z ∈ ns, Builtin.Int.intBits z ≤ 1048576) → ∃ S, run t.tx D fl [.scr ns] [] = .ok (.bl true) S)
    (H : Hp) (a : Addr) (ns : List Int) (hl : ns.length ≤ 63) (hb : ∀ z ∈ ns, Builtin.Int.intBits z ≤ 1048576) (hT : ∀ p ∈ t.tf, H (He.cT K p).2 = some (.tbl #[])) (hS : SqL K H a (ns.map V.int)) :
    spLaw t hs P w K mg D fl [.ref a] H (fun v _ => v = .bl true) (fun _ _ _ => False) ∨ ∃ b xs, H b = some (.lst xs) ∧ (∀ o, spLaw t hs P w K mg D fl [.ref a] (upd H b (.frz o (.lst xs))) (fun v _ => v = .bl true) fun _ _ _ => False) ∧ ∀ (c : Value) (d : Option Addr) (H' : Hp), ¬ False := by
  have go : ∀ H : Hp, (∀ p ∈ t.tf, H (He.cT K p).2 = some (.tbl #[])) → ((∃ o, H a = some (.frz o (.lst (ns.map V.int)))) ∨ ∀ H', SqL K H' a (ns.map V.int)) → spLaw t hs P w K mg D fl [.ref a] H (fun v _ => v = .bl true) fun _ _ _ => False := fun H hT hS base => by
    obtain ⟨S, e⟩ := hrun ns hl hb
    refine ⟨(a, ns), [], [.scr ns], [], fun _ _ => False, .cons ⟨rfl, rfl⟩ .nil, ⟨rfl, fun l o q => by simp at q, fun l m b q => by simp at q, hS, ⟨fun p hp => ?_, fun p hp z => by cases z⟩, fun p hp => (by cases hp)⟩, ?_, fun c H' q => q⟩
    · obtain ⟨f, _, e2⟩ := List.mem_filterMap.mp (show p ∈ t.tabs K from hp)
      cases q : t.fns[f]? with
      | none => rw [q] at e2; cases e2
      | some d =>
        rw [q] at e2
        cases e2
        exact ⟨#[], hT d.at_ (List.mem_filterMap.mpr ⟨f, by assumption, by rw [q]; rfl⟩), trivial, fun pos cv hc => by simp [codeAmong] at hc⟩
    · show Wr _ _ _ (run t.tx D fl [.scr ns] []) _ _
      rw [e]
      exact fun μ' H' _ _ x vx => vx
  rcases hS with (hS | ⟨o, hS⟩) | hS
  · refine .inr ⟨a, _, hS, fun o => go _ (fun p hp => ?_) (.inl ⟨o, upd_same⟩), fun _ _ _ z => z⟩
    have := hT p hp
    rw [upd_ne (fun z => by rw [z, hS] at this; cases this)]
    exact this
  · exact .inl (go H hT (.inl ⟨o, hS⟩))
  · exact .inl (go H hT (.inr fun H' => .inr hS))
def irOf (t : Tab) (f : Nat) : Option Sm := match t.fns[f]? with
  | some d => if (t.whs.lookup f).isSome = true then some badS else cBody (t.cc f) d.scope d.body
  | none => none
theorem IR_of {t : Tab} (h : (List.range t.irs.length).map (irOf t) = t.irs.map fun x => some x.2.2) : t.IR := fun f d ir e1 e2 => by
  have hl : f < t.irs.length := (List.getElem?_eq_some_iff.mp e2).1
  have := congrArg (fun l : List (Option Sm) => l[f]?) h
  simp only [List.getElem?_map, List.getElem?_range hl, e2, Option.map_some] at this
  have := Option.some.inj this
  unfold irOf at this
  rw [e1] at this
  dsimp only at this
  split at this
  · rename_i hw
    rw [if_pos hw]
    exact (Option.some.inj this).symm
  · rename_i hw
    rw [if_neg hw]
    exact this
theorem cx_never {P : Program} {w : World} (H : Hp) (s : Shared) (e : Value) (s' : Shared) (h : L2N.CX P w [] H s (fun _ _ _ => False) e s') : False := by
  obtain ⟨a, B, H', cls, d, _, _, _, _, _, _, _, z⟩ := h
  exact z
/-- THE END of a law by its table -/
theorem end_of {t : Tab} (hs : t.stat = true) (hi : t.IR) {l : PySem.W.OpenLaw} {q : Program} {loose : List Str} {XP : (Str → Option Value) → Heap → Prop} {d : DefRec} {x : Str} {fl D m : Nat} {df : He.DefD} (e : fl < t.irs.length) (ed : t.fns[fl]? = some df) (ea : df.at_ = (d.name, none)) (ep : psOf df = [x])
    (hn : l.most = some 63) (hdf : d.params.defaults = []) (hr : Room (lvl (D + 1)) callerA)
    (hrun : ∀ ns : List Int, ns.length ≤ 63 → (∀ z ∈ ns, Builtin.Int.intBits z ≤ 1048576) → ∃ S, run t.tx (D + 1) fl [.scr ns] [] = .ok (.bl true) S) :
    PySem.W.WalkO q loose XP (hookT m t).says l.row.toRowW d [] (fun f vs => PySem.call f vs) := by
  refine LamX.walk_ofTsE (n := 63) (x := x) (k := lvl (D + 1)) (CX := fun w => L2N.CX l.prog w) hn (by decide) hdf hr (fun w mg fa h Y N hmg => ?_) fun w H s e s' z => cx_never H s e s' z
  obtain ⟨K, KX, c⟩ := Y
  obtain ⟨fd, hb, hF⟩ := law_fn (P := l.prog) (w := w) (D := D) hs hi c.sy KX N e ed
  have g := List.all_eq_true.mp (He.ba (says_chk c.sy)).1 df (List.mem_of_getElem? ed)
  unfold gloB at g
  rw [ea] at g
  have e2 := hmg.symm.trans (He.glo_ok KX N g)
  have e3 : fa = He.fAd K df.at_ := by
    rw [ea]
    exact Value.ref.inj (Option.some.inj e2)
  subst e3
  rw [ep] at hF hb
  have one : ∀ p ∈ t.tf.map (He.cT K), ∃ q ∈ t.tf, He.cT K q = p := fun p hp => List.mem_map.mp hp
  refine ⟨K, KX, fd, t.tf.map (He.cT K), _, fun p hp => ?_, fun p hp => ?_, fun p hp => ?_, fun s u => hb s [u] rfl, fun H a ns h1 h2 h3 h4 => law_sp hs hrun H a ns h1 h2 (fun p hp => h3 _ (List.mem_map.mpr ⟨p, hp, rfl⟩)) h4, fun base _ _ hT => fnok_lst (hF base fun p hp => hT _ (List.mem_map.mpr ⟨p, hp, rfl⟩))⟩
  · obtain ⟨q, hq, rfl⟩ := one p hp
    exact c.empty q hq
  · obtain ⟨q, hq, rfl⟩ := one p hp
    exact c.out q hq
  · obtain ⟨q, hq, rfl⟩ := one p hp
    exact PySem.W.codeHd_of_K KX (c.hd q hq)
end
end Ev
end

set_option maxRecDepth 100000
set_option maxHeartbeats 0
namespace HD
open PySem PySem.Spec PyProof.Rows L2
def top (i : Nat) : Stmt := PySem.Challenge.pw_handnotes_k11_refused_books.main.body.getD i (.Pass ⟨0, 0, 0, 0⟩)
def fns0 : List (He.DefD) := [⟨("is_whole", none), "is_whole", "is_whole", defArgs ((top 16)), defBody ((top 16)), defScope ((top 16)), [], []⟩, ⟨("is_between", none), "is_between", "is_between", defArgs ((top 17)), defBody ((top 17)), defScope ((top 17)), [], []⟩, ⟨("are_rising", none), "are_rising", "are_rising", defArgs ((top 18)), defBody ((top 18)), defScope ((top 18)), [], []⟩, ⟨("are_hands", none), "are_hands", "are_hands", defArgs ((top 19)), defBody ((top 19)), defScope ((top 19)), [], []⟩, ⟨("Things", some "__init__"), "__init__", "Things.__init__", defArgs ((inClass (top 21) 0)), defBody ((inClass (top 21) 0)), defScope ((inClass (top 21) 0)), [], []⟩, ⟨("Things", some "can"), "can", "Things.can", defArgs ((inClass (top 21) 1)), defBody ((inClass (top 21) 1)), defScope ((inClass (top 21) 1)), [], []⟩]
def fns1 : List (He.DefD) := [⟨("Things", some "do"), "do", "Things.do", defArgs ((inClass (top 21) 2)), defBody ((inClass (top 21) 2)), defScope ((inClass (top 21) 2)), [], []⟩, ⟨("last_change", none), "last_change", "last_change", defArgs ((top 22)), defBody ((top 22)), defScope ((top 22)), [], []⟩, ⟨("hands_from", none), "hands_from", "hands_from", defArgs ((top 23)), defBody ((top 23)), defScope ((top 23)), [], []⟩, ⟨("Book", some "__init__"), "__init__", "Book.__init__", defArgs ((inClass (top 25) 0)), defBody ((inClass (top 25) 0)), defScope ((inClass (top 25) 0)), [], []⟩, ⟨("Book", some "begin"), "begin", "Book.begin", defArgs ((inClass (top 25) 1)), defBody ((inClass (top 25) 1)), defScope ((inClass (top 25) 1)), [], []⟩, ⟨("Book", some "check_room"), "check_room", "Book.check_room", defArgs ((inClass (top 25) 2)), defBody ((inClass (top 25) 2)), defScope ((inClass (top 25) 2)), [], []⟩]
def fns2 : List (He.DefD) := [⟨("Book", some "write"), "write", "Book.write", defArgs ((inClass (top 25) 3)), defBody ((inClass (top 25) 3)), defScope ((inClass (top 25) 3)), [], []⟩, ⟨("Book", some "bring"), "bring", "Book.bring", defArgs ((inClass (top 25) 4)), defBody ((inClass (top 25) 4)), defScope ((inClass (top 25) 4)), [], []⟩, ⟨("Book", some "check_thing"), "check_thing", "Book.check_thing", defArgs ((inClass (top 25) 5)), defBody ((inClass (top 25) 5)), defScope ((inClass (top 25) 5)), [], []⟩, ⟨("Book", some "close"), "close", "Book.close", defArgs ((inClass (top 25) 6)), defBody ((inClass (top 25) 6)), defScope ((inClass (top 25) 6)), [], []⟩, ⟨("Book", some "reopen"), "reopen", "Book.reopen", defArgs ((inClass (top 25) 7)), defBody ((inClass (top 25) 7)), defScope ((inClass (top 25) 7)), [], []⟩, ⟨("Book", some "note"), "note", "Book.note", defArgs ((inClass (top 25) 8)), defBody ((inClass (top 25) 8)), defScope ((inClass (top 25) 8)), [], []⟩]
def fns3 : List (He.DefD) := [⟨("Book", some "seen"), "seen", "Book.seen", defArgs ((inClass (top 25) 9)), defBody ((inClass (top 25) 9)), defScope ((inClass (top 25) 9)), [], []⟩, ⟨("Book", some "record"), "record", "Book.record", defArgs ((inClass (top 25) 10)), defBody ((inClass (top 25) 10)), defScope ((inClass (top 25) 10)), [], []⟩, ⟨("_law_which", none), "_law_which", "_law_which", defArgs ((top 27)), defBody ((top 27)), defScope ((top 27)), [], []⟩, ⟨("_law_refused", none), "_law_refused", "_law_refused", defArgs ((top 28)), defBody ((top 28)), defScope ((top 28)), [], []⟩, ⟨("_law_no_numbers", none), "_law_no_numbers", "_law_no_numbers", defArgs ((top 29)), defBody ((top 29)), defScope ((top 29)), [], []⟩, ⟨("_law_empty_right", none), "_law_empty_right", "_law_empty_right", defArgs ((top 30)), defBody ((top 30)), defScope ((top 30)), [], []⟩]
def fns4 : List (He.DefD) := [⟨("_law_forty_right", none), "_law_forty_right", "_law_forty_right", defArgs ((top 31)), defBody ((top 31)), defScope ((top 31)), [], []⟩, ⟨("law", none), "law", "law", defArgs ((top 32)), defBody ((top 32)), defScope ((top 32)), [], []⟩]
def fns : List (He.DefD) := fns0 ++ fns1 ++ fns2 ++ fns3 ++ fns4
def Ns0 : List (List PySem.Str) := [["thing"], ["thing", "least", "most"], ["things", "one", "other"], ["thing", "hand"], ["self"], ["self", "deed", "kind", "thing"], ["self", "deed", "kind", "thing"], ["shifts", "thing", "found", "at", "hands", "deeds", "note", "deed"]]
def Ns1 : List (List PySem.Str) := [["shifts", "at", "found", "hands", "deeds", "note", "hand"], ["self"], ["self", "hands"], ["self"], ["self", "kind", "thing", "hands", "deeds", "note"], ["self"], ["self", "kind", "thing"], ["self", "thing"]]
def Ns2 : List (List PySem.Str) := [["self", "thing"], ["self"], ["self", "thing"], ["self", "hands", "deeds", "note"], ["_law_error", "_law_found"], ["_law_ask", "_law_things", "_law_due", "_law_thing", "_law_found", "_law_error"], ["_law_more"], ["_law_more", "_law_book"]]
def Ns3 : List (List PySem.Str) := [["_law_book", "_law_at"], ["_law_script", "_law_cell", "_law_before", "_law_hands", "_law_bad", "_law_things", "_law_more", "_law_book"]]
def Ns : List (List PySem.Str) := Ns0 ++ Ns1 ++ Ns2 ++ Ns3
def nms : List (PySem.Str) := ["begin", "bring", "can", "check_room", "check_thing", "close", "do", "given", "note", "record", "reopen", "seen", "shifts", "standing", "things", "write"]
def gis : List (PySem.Str × Int) := [("MOST_SHIFTS", 40), ("MOST_HAND", 5), ("MOST_HANDS", 4), ("MOST_DEEDS", 6)]
def gss : List (PySem.Str × List PySem.Str) := []
def frs : List (PySem.Str) := ["len", "abs", "sorted", "list", "range", "enumerate", "zip", "isinstance", "int", "bool", "all", "any", "ValueError"]
def lps0 : List ((Nat × Nat) × Nat) := [((144, 24), 26), ((146, 24), 27), ((148, 24), 28), ((150, 24), 29), ((157, 24), 30), ((159, 24), 31), ((173, 28), 32), ((176, 28), 33), ((178, 28), 34), ((184, 28), 35), ((186, 28), 36), ((188, 28), 37)]
def lps1 : List ((Nat × Nat) × Nat) := [((180, 28), 38), ((190, 28), 39)]
def lps : List ((Nat × Nat) × Nat) := lps0 ++ lps1
def whs : List (Nat × List Nat) := [(20, [1, 2, 3, 4, 5, 6, 7, 8, 9])]
def tks : List Nat := [21]
def mks : List Nat := [23, 24, 25]
def tab : Ev.Tab := { fns := fns, Ns := Ns, irs := K.irs, cls := K.kls, nms := nms, gis := gis, gss := gss, fr := frs, lms := K.lms, lps := lps, whs := K.whs, tk := tks, mks := mks }
theorem stat : tab.stat = true := by kernel_rfl
theorem irOk : tab.IR := Ev.IR_of (by kernel_rfl)
def names0 : List (PySem.Str) := ["is_whole", "is_between", "are_rising", "are_hands", "last_change", "hands_from", "_law_which", "_law_refused", "_law_no_numbers", "_law_empty_right", "_law_forty_right", "NoteError", "BadShifts", "BadRosters", "BadLost", "BadShift", "BadHands", "BadThing", "Unfit", "NoShift"]
def names1 : List (PySem.Str) := ["TooMany", "Things", "Book", "MOST_SHIFTS", "MOST_HAND", "MOST_HANDS", "MOST_DEEDS"]
def names : List (PySem.Str) := names0 ++ names1
abbrev R : PySem.W.OpenRow := PySem.W.OpenLaw.row PySem.Challenge.rw_handnotes_k11_refused_books
abbrev hk : PySem.W.Hook := Ev.hookT 5 tab
def ob (s : PySem.W.SharedT) : He.AlD × Bool := Ev.obsTG 5 tab (HandSHeadRun.getT s)
theorem ob_eq (s : PySem.W.SharedT) : ob s = hk.obs s.abs := Ev.obsTG_eq (HandSHeadRun.getT_eq s)
theorem run (w : World) : HandSHeadRun.RunEq R (PySem.W.view R.prog [32]) hk ob 6000 names w := by
  intro os
  kernel_rfl
def scope0 : Scope := defScope (top 0)
theorem bd_of {N : Nat} {z : Int} (h : Builtin.Int.intBits z ≤ N) : Hn.Bd N z := by
  unfold Builtin.Int.intBits at h
  unfold Hn.Bd
  split at h
  · rename_i hz
    have hz : z = 0 := by simpa using hz
    subst hz
    exact Nat.two_pow_pos N
  · rename_i hz
    have hz : z ≠ 0 := by simpa using hz
    exact (Nat.log2_lt (by omega)).mp (by omega)
theorem hrun : ∀ ns : List Int, ns.length ≤ 63 → (∀ z ∈ ns, Builtin.Int.intBits z ≤ 1048576) → ∃ S, Ev.run tab.tx 13 25 [.scr ns] [] = .ok (.bl true) S := fun ns hl hb => K.hvE (d := 2) fun c hc => bd_of (hb c hc)
end HD
open PySem PySem.W PySem.Calls PyProof.Rows
set_option maxRecDepth 100000 in
set_option maxHeartbeats 0 in
theorem PySem.Challenge.cw_handnotes_k11_refused_books_holds : PySem.Challenge.rw_handnotes_k11_refused_books.Holds := by
  w_on; o_law
  refine HandSHeadRun.head_any (r := OpenLaw.row PySem.Challenge.rw_handnotes_k11_refused_books) (q := view (OpenLaw.row PySem.Challenge.rw_handnotes_k11_refused_books).prog [32]) (H := HD.hk) (ob := HD.ob) (M := 6000) (loose := HD.names) (d := HandSHeadRun.topDef (OpenLaw.row PySem.Challenge.rw_handnotes_k11_refused_books).prog 32) (kwd := []) HD.ob_eq
    (by kernel_rfl) (fun s => by kernel_rfl) HD.run (by kernel_rfl) (by kernel_rfl) (by kernel_rfl) (by rfl) (by first | assumption | decide +kernel) (by decide +kernel) ⟨rfl, rfl, rfl, rfl, rfl, by decide +kernel⟩ ?hw ?hc
  case hw => w_witness2
  case hc =>
    exact Ev.end_of (x := "_law_script") (D := 12) HD.stat HD.irOk (by decide +kernel) (df := HD.fns.getD 25 ⟨("", none), "", "", ⟨[], [], none, [], [], none, []⟩, [], HD.scope0, [], []⟩) (fl := 25) (by kernel_rfl) (by kernel_rfl) (by kernel_rfl) rfl (by kernel_rfl) ⟨rfl, by decide, by decide⟩ HD.hrun

